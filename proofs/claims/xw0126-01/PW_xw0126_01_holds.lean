import PyProof.Rows.All
import OpenK.KLine
import KE.KRevSl
import KE.KTryMore
import PySem.Challenge.RW_xw0126_01
open PySem PySem.W PyProof.Rows PySem.Calls PySem.Spec
set_option Elab.async false
set_option linter.all false
set_option maxRecDepth 100000
set_option maxHeartbeats 0
set_option backward.match.sparseCases false
set_option compiler.extract_closed false
namespace Mine
def tac1 (k : Lean.Name) (s : String) : Lean.Syntax := .node .none `Lean.Parser.Tactic.tacticSeq #[.node .none `Lean.Parser.Tactic.tacticSeq1Indented #[.node .none `null #[.node .none k #[.atom .none s]]]]
def kr : Lean.Syntax := tac1 `tacticKernel_rfl "kernel_rfl"
def rr : Lean.Syntax := tac1 `Lean.Parser.Tactic.tacticRfl "rfl"
noncomputable def nthS : List Stmt → Nat → Stmt
  | [], _ => .Pass ⟨0, 0, 0, 0⟩
  | s :: _, 0 => s
  | _ :: r, n + 1 => nthS r n
noncomputable def st (i : Nat) : Stmt := nthS PySem.Challenge.pw_xw0126_01.main.body i
noncomputable def sm (i j : Nat) : Stmt := match st i with
  | .ClassDef _ _ _ b .. => nthS b j
  | s => s
noncomputable def fnO (s : Stmt) (q : Str) (dv : Value) (pm : Str) (pt : Nat) (code : Addr) : Obj := match s with
  | .FunctionDef n a b _ _ _ sc .. => { cls := .type "function", data := .func { name := n, qualname := q, params := a, body := .stmts b, scope := sc, globals := 3, closure := [], defaults := dv, kwdefaults := .none, pyModule := .str pm pt, code := .ref code } }
  | _ => { cls := .none }
noncomputable def eS (P : Params) (k : Str) (t : Nat) (v : Value) : DictEntry := ⟨PyData.keyHash P k, .str k t, v⟩
noncomputable def KF (P : Params) : Frag := [
  (2, ⟨.none, none, (.dict #[eS P "type.__subclasses__.Exception.0" 223 (.int 39 0), eS P "type.__subclasses__.Exception.n" 224 (.int 2 0), eS P "type.__subclasses__.Exception.1" 1159 (.int 636 0)] 3), #[]⟩),
  (3, ⟨(.type "dict"), none, (.dict #[eS P "__name__" 165 (.str "law_xw0126_01" 1511), eS P "__doc__" 166 .none, eS P "__package__" 167 .none, eS P "__loader__" 168 (.builtin "__main__.__loader__#opaque"), eS P "__spec__" 169 .none, eS P "__annotations__" 170 (.ref 6), eS P "__builtins__" 171 (.ref 4), eS P "__file__" 173 (.str "/claim/cut.py" 172), eS P "__cached__" 174 .none, eS P "_wall" 193 (.ref 21), eS P "KeepError" 226 (.ref 39), eS P "LeftOut" 253 (.ref 60), eS P "RunBound" 280 (.ref 80), eS P "NumberOut" 307 (.ref 100), eS P "HostFault" 334 (.ref 120), eS P "V_UNDEF" 338 (.int 0 337), eS P "V_NULL" 340 (.int 1 339), eS P "V_BOOL" 342 (.int 2 341), eS P "V_NUM" 344 (.int 3 343), eS P "V_NAN" 346 (.int 4 345), eS P "V_STR" 348 (.int 5 347), eS P "V_OBJ" 350 (.int 6 349), eS P "O_PLAIN" 352 (.int 0 351), eS P "O_ARRAY" 354 (.int 1 353), eS P "O_FUNC" 356 (.int 2 355), eS P "O_ERROR" 358 (.int 3 357), eS P "P_OBJECT" 360 (.int 0 359), eS P "P_ARRAY" 362 (.int 1 361), eS P "P_FUNC" 364 (.int 2 363), eS P "P_ERROR" 366 (.int 3 365), eS P "P_STRING" 368 (.int 4 367), eS P "P_NUMBER" 370 (.int 5 369), eS P "N_CHAR_AT" 372 (.int 201 371), eS P "N_TEXT_INDEX_OF" 374 (.int 202 373), eS P "N_TEXT_INCLUDES" 376 (.int 203 375), eS P "N_TEXT_SLICE" 378 (.int 204 377), eS P "N_UPPER" 380 (.int 205 379), eS P "N_LOWER" 382 (.int 206 381), eS P "N_TEXT_CONCAT" 384 (.int 207 383), eS P "N_NUMBER_TEXT" 386 (.int 301 385), eS P "MOST_NUMBER" 388 (.int 9007199254740991 387), eS P "MOST_ITEMS" 390 (.int 4096 389), eS P "MOST_TEXT" 392 (.int 1048576 391), eS P "MOST_NESTED" 394 (.int 15 393), eS P "MOST_PLACE" 396 (.int 4294967294 395), eS P "BLANKS" 398 (.str " \t\n\x0d\x0b\x0c                 　﻿" 397), eS P "DIGITS" 400 (.str "0123456789abcdef" 399), eS P "PREFIX_BASES" 410 (.ref 123), eS P "Thing" 451 (.ref 140), eS P "NativeGroup" 482 (.ref 161), eS P "Heap" 511 (.ref 182), eS P "Env" 541 (.ref 203), eS P "undef_value" 547 (.ref 214), eS P "bool_value" 554 (.ref 221), eS P "num_value" 561 (.ref 228), eS P "new_thing" 571 (.ref 235), eS P "run_of_digits" 579 (.ref 242), eS P "values_place_of" 586 (.ref 249), eS P "text_prop" 595 (.ref 256), eS P "item_prop" 604 (.ref 263), eS P "has_name" 612 (.ref 270), eS P "thing_prop" 622 (.ref 277), eS P "get_prop" 636 (.ref 284), eS P "set_length" 644 (.ref 291), eS P "set_item" 653 (.ref 298), eS P "set_own" 665 (.ref 305), eS P "hide_name" 675 (.ref 312), eS P "is_callable" 683 (.ref 319), eS P "error_text" 695 (.ref 326), eS P "open_text" 703 (.ref 333), eS P "items_text" 717 (.ref 340), eS P "object_text" 728 (.ref 347), eS P "to_text_in" 738 (.ref 354), eS P "to_text" 746 (.ref 361), eS P "trimmed" 755 (.ref 368), eS P "digits_value" 766 (.ref 375), eS P "base_of_prefix" 773 (.ref 382), eS P "is_other_number" 784 (.ref 389), eS P "text_number" 795 (.ref 396), eS P "to_number" 803 (.ref 403), eS P "text_bound" 810 (.ref 410), eS P "error_thing" 820 (.ref 417), eS P "DEED_CALL" 824 (.int 1 823), eS P "DIGIT_SIGNS" 826 (.str "0123456789abcdefghijklmnopqrstuvwxyz" 825), eS P "TEXT_LIB" 834 (.ref 425), eS P "NUMBER_LIB" 836 (.ref 427), eS P "call_native" 847 (.ref 434), eS P "arg_at" 855 (.ref 441), eS P "runlib_whole_of" 864 (.ref 448), eS P "runlib_place_in" 872 (.ref 455), eS P "front_place" 880 (.ref 462), eS P "text_of_this" 888 (.ref 469), eS P "runlib_joined" 898 (.ref 476), eS P "text_char_at" 908 (.ref 483), eS P "text_index_of" 919 (.ref 490), eS P "text_includes" 928 (.ref 497), eS P "text_slice" 939 (.ref 504), eS P "text_concat" 950 (.ref 511), eS P "TextLib" 978 (.ref 528), eS P "digits_in" 988 (.ref 537), eS P "number_text" 998 (.ref 544), eS P "NumberLib" 1025 (.ref 561), eS P "native_value" 1034 (.ref 570), eS P "put_natives" 1045 (.ref 577), eS P "put_proto" 1054 (.ref 584), eS P "install_protos" 1062 (.ref 591), eS P "install_texts" 1069 (.ref 598), eS P "install_numbers" 1076 (.ref 605), eS P "K_NAME" 1080 (.int 8 1079), eS P "K_CALL" 1082 (.int 18 1081), eS P "K_NONNULL" 1084 (.int 32 1083), eS P "K_PAREN" 1086 (.int 33 1085), eS P "K_OBJPAT" 1088 (.int 34 1087), eS P "K_ARRPAT" 1090 (.int 35 1089), eS P "K_BIND" 1092 (.int 36 1091), eS P "K_CLASS" 1094 (.int 61 1093), eS P "F_ARROW" 1096 (.int 4 1095), eS P "F_EXPRBODY" 1098 (.int 8 1097), eS P "F_REST" 1100 (.int 8192 1099), eS P "has" 1108 (.ref 612), eS P "names_in_pattern" 1119 (.ref 619), eS P "W_CALL" 1123 (.int 1 1122), eS P "W_NEW" 1125 (.int 6 1124), eS P "C_RETURN" 1127 (.int 1 1126), eS P "CELL_DEAD" 1129 (.int 0 1128), eS P "CELL_LIVE" 1131 (.int 1 1130), eS P "MOST_DEEP" 1133 (.int 44 1132), eS P "ScriptThrow" 1162 (.ref 636), eS P "Watcher" 1192 (.ref 656), eS P "RuncoreBinder" 1233 (.ref 684), eS P "Maker" 1274 (.ref 712), eS P "Hoister" 1303 (.ref 733), eS P "Machine" 1405 (.ref 796), eS P "count_step" 1412 (.ref 807), eS P "runcore_value_of" 1422 (.ref 814), eS P "run_node" 1432 (.ref 821), eS P "tell_fault" 1442 (.ref 828), eS P "call_value" 1454 (.ref 835), eS P "call_closure" 1465 (.ref 842), eS P "body_value" 1475 (.ref 849), eS P "runcore_is_this_param" 1483 (.ref 856), eS P "bind_params" 1489 (.ref 861), eS P "param_value" 1501 (.ref 868), eS P "runcore_bind_pattern" 1510 (.ref 875), eS P "_law_pull" 1520 (.ref 882), eS P "_law_digits" 1535 (.ref 889), eS P "_law_word" 1555 (.ref 896), eS P "_law_fixed" 1563 (.ref 903), eS P "_law_value" 1578 (.ref 910), eS P "_law_tells" 1589 (.ref 917), eS P "_law_sound" 1601 (.ref 924), eS P "_law_ask" 1607 (.ref 929), eS P "_law_laid" 1618 (.ref 936), eS P "_law_based" 1628 (.ref 943), eS P "_law_past" 1637 (.ref 950), eS P "_law_placed" 1643 (.ref 955), eS P "_law_found" 1649 (.ref 960), eS P "_law_round" 1663 (.ref 967), eS P "law" 1669 (.ref 972)] 159), #[]⟩),
  (20, ⟨(.type "code"), none, (.fields #[(.str "_wall" 187), (.str "_wall" 188), (.str "/claim/cut.py" 189), (.int 1 0), (.int 1 0), (.int 0 0), (.int 0 0), (.int 3 0), (.ref 15), (.bool true), (.int 181 0), (.ref 16), .none, (.ref 17), (.ref 18), (.ref 19), (.int 191 0), (.int 1 0), (.str "/claim/cut.py" 192)]), #[]⟩),
  (21, fnO (st 0) "_wall" .none "__main__" 164 20),
  (35, ⟨(.type "code"), none, (.fields #[(.str "__init__" 209), (.str "KeepError.__init__" 210), (.str "/claim/cut.py" 211), (.int 7 0), (.int 2 0), (.int 0 0), (.int 0 0), (.int 3 0), (.ref 30), (.bool true), (.int 181 0), (.ref 31), .none, (.ref 32), (.ref 33), (.ref 34), (.int 214 0), (.int 7 0), (.str "/claim/cut.py" 215)]), #[]⟩),
  (36, fnO (sm 2 0) "KeepError.__init__" (.ref 29) "kindkeep.diags" 194 35),
  (38, ⟨(.type "dict"), none, (.dict #[eS P "__module__" 203 (.str "kindkeep.diags" 194), eS P "__firstlineno__" 207 (.int 5 206), eS P "__init__" 216 (.ref 36), eS P "__static_attributes__" 219 (.ref 37), eS P "__weakref__" 221 (.ref 40), eS P "__doc__" 222 .none] 3), #[]⟩),
  (39, ⟨(.type "type"), none, (.cls ⟨"KeepError", [(.type "Exception")], [(.ref 39), (.type "Exception"), (.type "BaseException"), (.type "object")], 38, "KeepError", true, [], [(.ref 60), (.ref 80), (.ref 100), (.ref 120)], false, none, false⟩), #[(some (.ref 22)), none, (some (.str "KeepError" 196)), (some (.str "KeepError" 204)), (some (.builtin "Exception.__new__")), (some (.bool true))]⟩),
  (56, ⟨(.type "code"), none, (.fields #[(.str "__init__" 240), (.str "LeftOut.__init__" 241), (.str "/claim/cut.py" 242), (.int 12 0), (.int 2 0), (.int 0 0), (.int 0 0), (.int 3 0), (.ref 51), (.bool true), (.int 181 0), (.ref 52), .none, (.ref 53), (.ref 54), (.ref 55), (.int 245 0), (.int 12 0), (.str "/claim/cut.py" 246)]), #[]⟩),
  (57, fnO (sm 3 0) "LeftOut.__init__" (.ref 50) "kindkeep.diags" 194 56),
  (59, ⟨(.type "dict"), none, (.dict #[eS P "__module__" 234 (.str "kindkeep.diags" 194), eS P "__firstlineno__" 238 (.int 10 237), eS P "__init__" 247 (.ref 57), eS P "__static_attributes__" 250 (.ref 58), eS P "__doc__" 251 .none] 2), #[]⟩),
  (60, ⟨(.type "type"), none, (.cls ⟨"LeftOut", [(.ref 39)], [(.ref 60), (.ref 39), (.type "Exception"), (.type "BaseException"), (.type "object")], 59, "LeftOut", true, [], [], false, none, false⟩), #[(some (.ref 43)), none, (some (.str "LeftOut" 227)), (some (.str "LeftOut" 235)), (some (.builtin "Exception.__new__")), (some (.bool true))]⟩),
  (76, ⟨(.type "code"), none, (.fields #[(.str "__init__" 267), (.str "RunBound.__init__" 268), (.str "/claim/cut.py" 269), (.int 17 0), (.int 2 0), (.int 0 0), (.int 0 0), (.int 3 0), (.ref 71), (.bool true), (.int 181 0), (.ref 72), .none, (.ref 73), (.ref 74), (.ref 75), (.int 272 0), (.int 17 0), (.str "/claim/cut.py" 273)]), #[]⟩),
  (77, fnO (sm 4 0) "RunBound.__init__" (.ref 70) "kindkeep.diags" 194 76),
  (79, ⟨(.type "dict"), none, (.dict #[eS P "__module__" 261 (.str "kindkeep.diags" 194), eS P "__firstlineno__" 265 (.int 15 264), eS P "__init__" 274 (.ref 77), eS P "__static_attributes__" 277 (.ref 78), eS P "__doc__" 278 .none] 2), #[]⟩),
  (80, ⟨(.type "type"), none, (.cls ⟨"RunBound", [(.ref 39)], [(.ref 80), (.ref 39), (.type "Exception"), (.type "BaseException"), (.type "object")], 79, "RunBound", true, [], [], false, none, false⟩), #[(some (.ref 63)), none, (some (.str "RunBound" 254)), (some (.str "RunBound" 262)), (some (.builtin "Exception.__new__")), (some (.bool true))]⟩),
  (90, ⟨(.type "tuple"), none, (.seq #[(.str "" 293)] 0), #[]⟩),
  (96, ⟨(.type "code"), none, (.fields #[(.str "__init__" 294), (.str "NumberOut.__init__" 295), (.str "/claim/cut.py" 296), (.int 22 0), (.int 2 0), (.int 0 0), (.int 0 0), (.int 3 0), (.ref 91), (.bool true), (.int 181 0), (.ref 92), .none, (.ref 93), (.ref 94), (.ref 95), (.int 299 0), (.int 22 0), (.str "/claim/cut.py" 300)]), #[]⟩),
  (97, fnO (sm 5 0) "NumberOut.__init__" (.ref 90) "kindkeep.diags" 194 96),
  (99, ⟨(.type "dict"), none, (.dict #[eS P "__module__" 288 (.str "kindkeep.diags" 194), eS P "__firstlineno__" 292 (.int 20 291), eS P "__init__" 301 (.ref 97), eS P "__static_attributes__" 304 (.ref 98), eS P "__doc__" 305 .none] 2), #[]⟩),
  (100, ⟨(.type "type"), none, (.cls ⟨"NumberOut", [(.ref 39)], [(.ref 100), (.ref 39), (.type "Exception"), (.type "BaseException"), (.type "object")], 99, "NumberOut", true, [], [], false, none, false⟩), #[(some (.ref 83)), none, (some (.str "NumberOut" 281)), (some (.str "NumberOut" 289)), (some (.builtin "Exception.__new__")), (some (.bool true))]⟩),
  (119, ⟨(.type "dict"), none, (.dict #[eS P "__module__" 315 (.str "kindkeep.diags" 194), eS P "__firstlineno__" 319 (.int 25 318), eS P "__init__" 328 (.ref 117), eS P "__static_attributes__" 331 (.ref 118), eS P "__doc__" 332 .none] 2), #[]⟩),
  (120, ⟨(.type "type"), none, (.cls ⟨"HostFault", [(.ref 39)], [(.ref 120), (.ref 39), (.type "Exception"), (.type "BaseException"), (.type "object")], 119, "HostFault", true, [], [], false, none, false⟩), #[(some (.ref 103)), none, (some (.str "HostFault" 308)), (some (.str "HostFault" 316)), (some (.builtin "Exception.__new__")), (some (.bool true))]⟩),
  (123, ⟨(.type "dict"), none, (.dict #[eS P "0x" 401 (.int 16 402), eS P "0o" 403 (.int 8 404), eS P "0b" 405 (.int 2 406)] 3), #[]⟩),
  (136, ⟨(.type "code"), none, (.fields #[(.str "__init__" 423), (.str "Thing.__init__" 424), (.str "/claim/cut.py" 425), (.int 66 0), (.int 4 0), (.int 0 0), (.int 0 0), (.int 3 0), (.ref 131), (.bool true), (.int 181 0), (.ref 132), .none, (.ref 133), (.ref 134), (.ref 135), (.int 430 0), (.int 66 0), (.str "/claim/cut.py" 431)]), #[]⟩),
  (137, fnO (sm 41 0) "Thing.__init__" .none "kindkeep.values" 335 136),
  (139, ⟨(.type "dict"), none, (.dict #[eS P "__module__" 418 (.str "kindkeep.values" 335), eS P "__firstlineno__" 422 (.int 64 421), eS P "__init__" 432 (.ref 137), eS P "__static_attributes__" 444 (.ref 138), eS P "__dict__" 446 (.ref 141), eS P "__weakref__" 448 (.ref 142), eS P "__doc__" 449 .none] 4), #[]⟩),
  (140, ⟨(.type "type"), none, (.cls ⟨"Thing", [(.type "object")], [(.ref 140), (.type "object")], 139, "Thing", true, [], [], false, none, false⟩), #[none, none, (some (.str "Thing" 411)), (some (.str "Thing" 419)), (some (.builtin "object.__new__")), (some (.bool true))]⟩),
  (160, ⟨(.type "dict"), none, (.dict #[eS P "__module__" 459 (.str "kindkeep.values" 335), eS P "__firstlineno__" 463 (.int 78 462), eS P "call" 474 (.ref 158), eS P "__static_attributes__" 475 (.ref 159), eS P "__dict__" 477 (.ref 162), eS P "__weakref__" 479 (.ref 163), eS P "__doc__" 480 .none] 4), #[]⟩),
  (161, ⟨(.type "type"), none, (.cls ⟨"NativeGroup", [(.type "object")], [(.ref 161), (.type "object")], 160, "NativeGroup", true, [], [(.ref 528), (.ref 561)], false, none, false⟩), #[none, none, (some (.str "NativeGroup" 452)), (some (.str "NativeGroup" 460)), (some (.builtin "object.__new__")), (some (.bool true))]⟩),
  (178, ⟨(.type "code"), none, (.fields #[(.str "__init__" 495), (.str "Heap.__init__" 496), (.str "/claim/cut.py" 497), (.int 84 0), (.int 1 0), (.int 0 0), (.int 0 0), (.int 3 0), (.ref 173), (.bool true), (.int 181 0), (.ref 174), .none, (.ref 175), (.ref 176), (.ref 177), (.int 499 0), (.int 84 0), (.str "/claim/cut.py" 500)]), #[]⟩),
  (179, fnO (sm 43 0) "Heap.__init__" .none "kindkeep.values" 335 178),
  (181, ⟨(.type "dict"), none, (.dict #[eS P "__module__" 490 (.str "kindkeep.values" 335), eS P "__firstlineno__" 494 (.int 82 493), eS P "__init__" 501 (.ref 179), eS P "__static_attributes__" 504 (.ref 180), eS P "__dict__" 506 (.ref 183), eS P "__weakref__" 508 (.ref 184), eS P "__doc__" 509 .none] 4), #[]⟩),
  (182, ⟨(.type "type"), none, (.cls ⟨"Heap", [(.type "object")], [(.ref 182), (.type "object")], 181, "Heap", true, [], [], false, none, false⟩), #[none, none, (some (.str "Heap" 483)), (some (.str "Heap" 491)), (some (.builtin "object.__new__")), (some (.bool true))]⟩),
  (202, ⟨(.type "dict"), none, (.dict #[eS P "__module__" 519 (.str "kindkeep.values" 335), eS P "__firstlineno__" 523 (.int 87 522), eS P "__init__" 531 (.ref 200), eS P "__static_attributes__" 534 (.ref 201), eS P "__dict__" 536 (.ref 204), eS P "__weakref__" 538 (.ref 205), eS P "__doc__" 539 .none] 4), #[]⟩),
  (203, ⟨(.type "type"), none, (.cls ⟨"Env", [(.type "object")], [(.ref 203), (.type "object")], 202, "Env", true, [], [], false, none, false⟩), #[none, none, (some (.str "Env" 512)), (some (.str "Env" 520)), (some (.builtin "object.__new__")), (some (.bool true))]⟩),
  (213, ⟨(.type "code"), none, (.fields #[(.str "undef_value" 542), (.str "undef_value" 543), (.str "/claim/cut.py" 544), (.int 92 0), (.int 0 0), (.int 0 0), (.int 0 0), (.int 3 0), (.ref 208), (.bool true), (.int 181 0), (.ref 209), .none, (.ref 210), (.ref 211), (.ref 212), (.int 545 0), (.int 92 0), (.str "/claim/cut.py" 546)]), #[]⟩),
  (214, fnO (st 45) "undef_value" .none "kindkeep.values" 335 213),
  (220, ⟨(.type "code"), none, (.fields #[(.str "bool_value" 548), (.str "bool_value" 549), (.str "/claim/cut.py" 550), (.int 94 0), (.int 1 0), (.int 0 0), (.int 0 0), (.int 3 0), (.ref 215), (.bool true), (.int 181 0), (.ref 216), .none, (.ref 217), (.ref 218), (.ref 219), (.int 552 0), (.int 94 0), (.str "/claim/cut.py" 553)]), #[]⟩),
  (221, fnO (st 46) "bool_value" .none "kindkeep.values" 335 220),
  (227, ⟨(.type "code"), none, (.fields #[(.str "num_value" 555), (.str "num_value" 556), (.str "/claim/cut.py" 557), (.int 96 0), (.int 1 0), (.int 0 0), (.int 0 0), (.int 3 0), (.ref 222), (.bool true), (.int 181 0), (.ref 223), .none, (.ref 224), (.ref 225), (.ref 226), (.int 559 0), (.int 96 0), (.str "/claim/cut.py" 560)]), #[]⟩),
  (228, fnO (st 47) "num_value" .none "kindkeep.values" 335 227),
  (234, ⟨(.type "code"), none, (.fields #[(.str "new_thing" 562), (.str "new_thing" 563), (.str "/claim/cut.py" 564), (.int 100 0), (.int 3 0), (.int 0 0), (.int 0 0), (.int 3 0), (.ref 229), (.bool true), (.int 181 0), (.ref 230), .none, (.ref 231), (.ref 232), (.ref 233), (.int 569 0), (.int 100 0), (.str "/claim/cut.py" 570)]), #[]⟩),
  (235, fnO (st 48) "new_thing" .none "kindkeep.values" 335 234),
  (241, ⟨(.type "code"), none, (.fields #[(.str "run_of_digits" 572), (.str "run_of_digits" 573), (.str "/claim/cut.py" 574), (.int 104 0), (.int 2 0), (.int 0 0), (.int 0 0), (.int 3 0), (.ref 236), (.bool true), (.int 181 0), (.ref 237), .none, (.ref 238), (.ref 239), (.ref 240), (.int 577 0), (.int 104 0), (.str "/claim/cut.py" 578)]), #[]⟩),
  (242, fnO (st 49) "run_of_digits" .none "kindkeep.values" 335 241),
  (249, fnO (st 50) "values_place_of" .none "kindkeep.values" 335 248),
  (269, ⟨(.type "code"), none, (.fields #[(.str "has_name" 605), (.str "has_name" 606), (.str "/claim/cut.py" 607), (.int 128 0), (.int 2 0), (.int 0 0), (.int 0 0), (.int 3 0), (.ref 264), (.bool true), (.int 181 0), (.ref 265), .none, (.ref 266), (.ref 267), (.ref 268), (.int 610 0), (.int 128 0), (.str "/claim/cut.py" 611)]), #[]⟩),
  (270, fnO (st 53) "has_name" .none "kindkeep.values" 335 269),
  (291, fnO (st 56) "set_length" .none "kindkeep.values" 335 290),
  (298, fnO (st 57) "set_item" .none "kindkeep.values" 335 297),
  (304, ⟨(.type "code"), none, (.fields #[(.str "set_own" 654), (.str "set_own" 655), (.str "/claim/cut.py" 656), (.int 172 0), (.int 4 0), (.int 0 0), (.int 0 0), (.int 3 0), (.ref 299), (.bool true), (.int 181 0), (.ref 300), .none, (.ref 301), (.ref 302), (.ref 303), (.int 663 0), (.int 172 0), (.str "/claim/cut.py" 664)]), #[]⟩),
  (305, fnO (st 58) "set_own" .none "kindkeep.values" 335 304),
  (311, ⟨(.type "code"), none, (.fields #[(.str "hide_name" 666), (.str "hide_name" 667), (.str "/claim/cut.py" 668), (.int 189 0), (.int 3 0), (.int 0 0), (.int 0 0), (.int 3 0), (.ref 306), (.bool true), (.int 181 0), (.ref 307), .none, (.ref 308), (.ref 309), (.ref 310), (.int 673 0), (.int 189 0), (.str "/claim/cut.py" 674)]), #[]⟩),
  (312, fnO (st 59) "hide_name" .none "kindkeep.values" 335 311),
  (339, ⟨(.type "code"), none, (.fields #[(.str "items_text" 704), (.str "items_text" 705), (.str "/claim/cut.py" 706), (.int 209 0), (.int 4 0), (.int 0 0), (.int 0 0), (.int 3 0), (.ref 334), (.bool true), (.int 181 0), (.ref 335), .none, (.ref 336), (.ref 337), (.ref 338), (.int 715 0), (.int 209 0), (.str "/claim/cut.py" 716)]), #[]⟩),
  (347, fnO (st 64) "object_text" .none "kindkeep.values" 335 346),
  (353, ⟨(.type "code"), none, (.fields #[(.str "to_text_in" 729), (.str "to_text_in" 730), (.str "/claim/cut.py" 731), (.int 237 0), (.int 3 0), (.int 0 0), (.int 0 0), (.int 3 0), (.ref 348), (.bool true), (.int 181 0), (.ref 349), .none, (.ref 350), (.ref 351), (.ref 352), (.int 736 0), (.int 237 0), (.str "/claim/cut.py" 737)]), #[]⟩),
  (354, fnO (st 65) "to_text_in" .none "kindkeep.values" 335 353),
  (360, ⟨(.type "code"), none, (.fields #[(.str "to_text" 739), (.str "to_text" 740), (.str "/claim/cut.py" 741), (.int 252 0), (.int 2 0), (.int 0 0), (.int 0 0), (.int 3 0), (.ref 355), (.bool true), (.int 181 0), (.ref 356), .none, (.ref 357), (.ref 358), (.ref 359), (.int 744 0), (.int 252 0), (.str "/claim/cut.py" 745)]), #[]⟩),
  (361, fnO (st 66) "to_text" .none "kindkeep.values" 335 360),
  (367, ⟨(.type "code"), none, (.fields #[(.str "trimmed" 747), (.str "trimmed" 748), (.str "/claim/cut.py" 749), (.int 254 0), (.int 1 0), (.int 0 0), (.int 0 0), (.int 3 0), (.ref 362), (.bool true), (.int 181 0), (.ref 363), .none, (.ref 364), (.ref 365), (.ref 366), (.int 753 0), (.int 254 0), (.str "/claim/cut.py" 754)]), #[]⟩),
  (368, fnO (st 67) "trimmed" .none "kindkeep.values" 335 367),
  (374, ⟨(.type "code"), none, (.fields #[(.str "digits_value" 756), (.str "digits_value" 757), (.str "/claim/cut.py" 758), (.int 262 0), (.int 2 0), (.int 0 0), (.int 0 0), (.int 3 0), (.ref 369), (.bool true), (.int 181 0), (.ref 370), .none, (.ref 371), (.ref 372), (.ref 373), (.int 764 0), (.int 262 0), (.str "/claim/cut.py" 765)]), #[]⟩),
  (375, fnO (st 68) "digits_value" .none "kindkeep.values" 335 374),
  (381, ⟨(.type "code"), none, (.fields #[(.str "base_of_prefix" 767), (.str "base_of_prefix" 768), (.str "/claim/cut.py" 769), (.int 274 0), (.int 1 0), (.int 0 0), (.int 0 0), (.int 3 0), (.ref 376), (.bool true), (.int 181 0), (.ref 377), .none, (.ref 378), (.ref 379), (.ref 380), (.int 771 0), (.int 274 0), (.str "/claim/cut.py" 772)]), #[]⟩),
  (382, fnO (st 69) "base_of_prefix" .none "kindkeep.values" 335 381),
  (388, ⟨(.type "code"), none, (.fields #[(.str "is_other_number" 774), (.str "is_other_number" 775), (.str "/claim/cut.py" 776), (.int 276 0), (.int 1 0), (.int 0 0), (.int 0 0), (.int 3 0), (.ref 383), (.bool true), (.int 181 0), (.ref 384), .none, (.ref 385), (.ref 386), (.ref 387), (.int 782 0), (.int 276 0), (.str "/claim/cut.py" 783)]), #[]⟩),
  (389, fnO (st 70) "is_other_number" .none "kindkeep.values" 335 388),
  (395, ⟨(.type "code"), none, (.fields #[(.str "text_number" 785), (.str "text_number" 786), (.str "/claim/cut.py" 787), (.int 295 0), (.int 1 0), (.int 0 0), (.int 0 0), (.int 3 0), (.ref 390), (.bool true), (.int 181 0), (.ref 391), .none, (.ref 392), (.ref 393), (.ref 394), (.int 793 0), (.int 295 0), (.str "/claim/cut.py" 794)]), #[]⟩),
  (396, fnO (st 71) "text_number" .none "kindkeep.values" 335 395),
  (402, ⟨(.type "code"), none, (.fields #[(.str "to_number" 796), (.str "to_number" 797), (.str "/claim/cut.py" 798), (.int 312 0), (.int 1 0), (.int 0 0), (.int 0 0), (.int 3 0), (.ref 397), (.bool true), (.int 181 0), (.ref 398), .none, (.ref 399), (.ref 400), (.ref 401), (.int 801 0), (.int 312 0), (.str "/claim/cut.py" 802)]), #[]⟩),
  (403, fnO (st 72) "to_number" .none "kindkeep.values" 335 402),
  (410, fnO (st 73) "text_bound" .none "kindkeep.values" 335 409),
  (416, ⟨(.type "code"), none, (.fields #[(.str "error_thing" 811), (.str "error_thing" 812), (.str "/claim/cut.py" 813), (.int 327 0), (.int 3 0), (.int 0 0), (.int 0 0), (.int 3 0), (.ref 411), (.bool true), (.int 181 0), (.ref 412), .none, (.ref 413), (.ref 414), (.ref 415), (.int 818 0), (.int 327 0), (.str "/claim/cut.py" 819)]), #[]⟩),
  (417, fnO (st 74) "error_thing" .none "kindkeep.values" 335 416),
  (418, ⟨(.type "tuple"), none, (.seq #[(.str "charAt" 827), (.int 201 371)] 0), #[]⟩),
  (419, ⟨(.type "tuple"), none, (.seq #[(.str "indexOf" 828), (.int 202 373)] 0), #[]⟩),
  (420, ⟨(.type "tuple"), none, (.seq #[(.str "includes" 829), (.int 203 375)] 0), #[]⟩),
  (421, ⟨(.type "tuple"), none, (.seq #[(.str "slice" 830), (.int 204 377)] 0), #[]⟩),
  (422, ⟨(.type "tuple"), none, (.seq #[(.str "toUpperCase" 831), (.int 205 379)] 0), #[]⟩),
  (423, ⟨(.type "tuple"), none, (.seq #[(.str "toLowerCase" 832), (.int 206 381)] 0), #[]⟩),
  (424, ⟨(.type "tuple"), none, (.seq #[(.str "concat" 833), (.int 207 383)] 0), #[]⟩),
  (425, ⟨(.type "tuple"), none, (.seq #[(.ref 418), (.ref 419), (.ref 420), (.ref 421), (.ref 422), (.ref 423), (.ref 424)] 0), #[]⟩),
  (426, ⟨(.type "tuple"), none, (.seq #[(.str "toString" 835), (.int 301 385)] 0), #[]⟩),
  (427, ⟨(.type "tuple"), none, (.seq #[(.ref 426)] 0), #[]⟩),
  (433, ⟨(.type "code"), none, (.fields #[(.str "call_native" 837), (.str "call_native" 838), (.str "/claim/cut.py" 839), (.int 337 0), (.int 4 0), (.int 0 0), (.int 0 0), (.int 3 0), (.ref 428), (.bool true), (.int 181 0), (.ref 429), .none, (.ref 430), (.ref 431), (.ref 432), (.int 845 0), (.int 337 0), (.str "/claim/cut.py" 846)]), #[]⟩),
  (434, fnO (st 80) "call_native" .none "kindkeep.runlib" 821 433),
  (440, ⟨(.type "code"), none, (.fields #[(.str "arg_at" 848), (.str "arg_at" 849), (.str "/claim/cut.py" 850), (.int 342 0), (.int 2 0), (.int 0 0), (.int 0 0), (.int 3 0), (.ref 435), (.bool true), (.int 181 0), (.ref 436), .none, (.ref 437), (.ref 438), (.ref 439), (.int 853 0), (.int 342 0), (.str "/claim/cut.py" 854)]), #[]⟩),
  (441, fnO (st 81) "arg_at" .none "kindkeep.runlib" 821 440),
  (447, ⟨(.type "code"), none, (.fields #[(.str "runlib_whole_of" 856), (.str "runlib_whole_of" 857), (.str "/claim/cut.py" 858), (.int 344 0), (.int 2 0), (.int 0 0), (.int 0 0), (.int 3 0), (.ref 442), (.bool true), (.int 181 0), (.ref 443), .none, (.ref 444), (.ref 445), (.ref 446), (.int 862 0), (.int 344 0), (.str "/claim/cut.py" 863)]), #[]⟩),
  (448, fnO (st 82) "runlib_whole_of" .none "kindkeep.runlib" 821 447),
  (454, ⟨(.type "code"), none, (.fields #[(.str "runlib_place_in" 865), (.str "runlib_place_in" 866), (.str "/claim/cut.py" 867), (.int 349 0), (.int 2 0), (.int 0 0), (.int 0 0), (.int 3 0), (.ref 449), (.bool true), (.int 181 0), (.ref 450), .none, (.ref 451), (.ref 452), (.ref 453), (.int 870 0), (.int 349 0), (.str "/claim/cut.py" 871)]), #[]⟩),
  (455, fnO (st 83) "runlib_place_in" .none "kindkeep.runlib" 821 454),
  (461, ⟨(.type "code"), none, (.fields #[(.str "front_place" 873), (.str "front_place" 874), (.str "/claim/cut.py" 875), (.int 353 0), (.int 2 0), (.int 0 0), (.int 0 0), (.int 3 0), (.ref 456), (.bool true), (.int 181 0), (.ref 457), .none, (.ref 458), (.ref 459), (.ref 460), (.int 878 0), (.int 353 0), (.str "/claim/cut.py" 879)]), #[]⟩),
  (462, fnO (st 84) "front_place" .none "kindkeep.runlib" 821 461),
  (468, ⟨(.type "code"), none, (.fields #[(.str "text_of_this" 881), (.str "text_of_this" 882), (.str "/claim/cut.py" 883), (.int 357 0), (.int 2 0), (.int 0 0), (.int 0 0), (.int 3 0), (.ref 463), (.bool true), (.int 181 0), (.ref 464), .none, (.ref 465), (.ref 466), (.ref 467), (.int 886 0), (.int 357 0), (.str "/claim/cut.py" 887)]), #[]⟩),
  (469, fnO (st 85) "text_of_this" .none "kindkeep.runlib" 821 468),
  (482, ⟨(.type "code"), none, (.fields #[(.str "text_char_at" 899), (.str "text_char_at" 900), (.str "/claim/cut.py" 901), (.int 368 0), (.int 3 0), (.int 0 0), (.int 0 0), (.int 3 0), (.ref 477), (.bool true), (.int 181 0), (.ref 478), .none, (.ref 479), (.ref 480), (.ref 481), (.int 906 0), (.int 368 0), (.str "/claim/cut.py" 907)]), #[]⟩),
  (483, fnO (st 87) "text_char_at" .none "kindkeep.runlib" 821 482),
  (489, ⟨(.type "code"), none, (.fields #[(.str "text_index_of" 909), (.str "text_index_of" 910), (.str "/claim/cut.py" 911), (.int 373 0), (.int 3 0), (.int 0 0), (.int 0 0), (.int 3 0), (.ref 484), (.bool true), (.int 181 0), (.ref 485), .none, (.ref 486), (.ref 487), (.ref 488), (.int 917 0), (.int 373 0), (.str "/claim/cut.py" 918)]), #[]⟩),
  (490, fnO (st 88) "text_index_of" .none "kindkeep.runlib" 821 489),
  (496, ⟨(.type "code"), none, (.fields #[(.str "text_includes" 920), (.str "text_includes" 921), (.str "/claim/cut.py" 922), (.int 377 0), (.int 3 0), (.int 0 0), (.int 0 0), (.int 3 0), (.ref 491), (.bool true), (.int 181 0), (.ref 492), .none, (.ref 493), (.ref 494), (.ref 495), (.int 926 0), (.int 377 0), (.str "/claim/cut.py" 927)]), #[]⟩),
  (497, fnO (st 89) "text_includes" .none "kindkeep.runlib" 821 496),
  (503, ⟨(.type "code"), none, (.fields #[(.str "text_slice" 929), (.str "text_slice" 930), (.str "/claim/cut.py" 931), (.int 379 0), (.int 3 0), (.int 0 0), (.int 0 0), (.int 3 0), (.ref 498), (.bool true), (.int 181 0), (.ref 499), .none, (.ref 500), (.ref 501), (.ref 502), (.int 937 0), (.int 379 0), (.str "/claim/cut.py" 938)]), #[]⟩),
  (504, fnO (st 90) "text_slice" .none "kindkeep.runlib" 821 503),
  (511, fnO (st 91) "text_concat" .none "kindkeep.runlib" 821 510),
  (524, ⟨(.type "code"), none, (.fields #[(.str "call" 963), (.str "TextLib.call" 964), (.str "/claim/cut.py" 965), (.int 392 0), (.int 5 0), (.int 0 0), (.int 0 0), (.int 3 0), (.ref 519), (.bool true), (.int 181 0), (.ref 520), .none, (.ref 521), (.ref 522), (.ref 523), (.int 972 0), (.int 392 0), (.str "/claim/cut.py" 973)]), #[]⟩),
  (525, fnO (sm 92 0) "TextLib.call" .none "kindkeep.runlib" 821 524),
  (527, ⟨(.type "dict"), none, (.dict #[eS P "__module__" 958 (.str "kindkeep.runlib" 821), eS P "__firstlineno__" 962 (.int 390 961), eS P "call" 974 (.ref 525), eS P "__static_attributes__" 975 (.ref 526), eS P "__doc__" 976 .none] 2), #[]⟩),
  (528, ⟨(.type "type"), none, (.cls ⟨"TextLib", [(.ref 161)], [(.ref 528), (.ref 161), (.type "object")], 527, "TextLib", true, [], [], false, none, false⟩), #[(some (.ref 512)), none, (some (.str "TextLib" 951)), (some (.str "TextLib" 959)), (some (.builtin "object.__new__")), (some (.bool true))]⟩),
  (536, ⟨(.type "code"), none, (.fields #[(.str "digits_in" 979), (.str "digits_in" 980), (.str "/claim/cut.py" 981), (.int 409 0), (.int 2 0), (.int 0 0), (.int 0 0), (.int 3 0), (.ref 531), (.bool true), (.int 181 0), (.ref 532), .none, (.ref 533), (.ref 534), (.ref 535), (.int 986 0), (.int 409 0), (.str "/claim/cut.py" 987)]), #[]⟩),
  (537, fnO (st 93) "digits_in" .none "kindkeep.runlib" 821 536),
  (543, ⟨(.type "code"), none, (.fields #[(.str "number_text" 989), (.str "number_text" 990), (.str "/claim/cut.py" 991), (.int 421 0), (.int 3 0), (.int 0 0), (.int 0 0), (.int 3 0), (.ref 538), (.bool true), (.int 181 0), (.ref 539), .none, (.ref 540), (.ref 541), (.ref 542), (.int 996 0), (.int 421 0), (.str "/claim/cut.py" 997)]), #[]⟩),
  (544, fnO (st 94) "number_text" .none "kindkeep.runlib" 821 543),
  (557, ⟨(.type "code"), none, (.fields #[(.str "call" 1011), (.str "NumberLib.call" 1012), (.str "/claim/cut.py" 1013), (.int 432 0), (.int 5 0), (.int 0 0), (.int 0 0), (.int 3 0), (.ref 552), (.bool true), (.int 181 0), (.ref 553), .none, (.ref 554), (.ref 555), (.ref 556), (.int 1019 0), (.int 432 0), (.str "/claim/cut.py" 1020)]), #[]⟩),
  (558, fnO (sm 95 0) "NumberLib.call" .none "kindkeep.runlib" 821 557),
  (560, ⟨(.type "dict"), none, (.dict #[eS P "__module__" 1006 (.str "kindkeep.runlib" 821), eS P "__firstlineno__" 1010 (.int 430 1009), eS P "call" 1021 (.ref 558), eS P "__static_attributes__" 1022 (.ref 559), eS P "__doc__" 1023 .none] 2), #[]⟩),
  (561, ⟨(.type "type"), none, (.cls ⟨"NumberLib", [(.ref 161)], [(.ref 561), (.ref 161), (.type "object")], 560, "NumberLib", true, [], [], false, none, false⟩), #[(some (.ref 545)), none, (some (.str "NumberLib" 999)), (some (.str "NumberLib" 1007)), (some (.builtin "object.__new__")), (some (.bool true))]⟩),
  (569, ⟨(.type "code"), none, (.fields #[(.str "native_value" 1026), (.str "native_value" 1027), (.str "/claim/cut.py" 1028), (.int 436 0), (.int 2 0), (.int 0 0), (.int 0 0), (.int 3 0), (.ref 564), (.bool true), (.int 181 0), (.ref 565), .none, (.ref 566), (.ref 567), (.ref 568), (.int 1032 0), (.int 436 0), (.str "/claim/cut.py" 1033)]), #[]⟩),
  (570, fnO (st 96) "native_value" .none "kindkeep.runlib" 821 569),
  (576, ⟨(.type "code"), none, (.fields #[(.str "put_natives" 1035), (.str "put_natives" 1036), (.str "/claim/cut.py" 1037), (.int 440 0), (.int 3 0), (.int 0 0), (.int 0 0), (.int 3 0), (.ref 571), (.bool true), (.int 181 0), (.ref 572), .none, (.ref 573), (.ref 574), (.ref 575), (.int 1043 0), (.int 440 0), (.str "/claim/cut.py" 1044)]), #[]⟩),
  (577, fnO (st 97) "put_natives" .none "kindkeep.runlib" 821 576),
  (583, ⟨(.type "code"), none, (.fields #[(.str "put_proto" 1046), (.str "put_proto" 1047), (.str "/claim/cut.py" 1048), (.int 443 0), (.int 3 0), (.int 0 0), (.int 0 0), (.int 3 0), (.ref 578), (.bool true), (.int 181 0), (.ref 579), .none, (.ref 580), (.ref 581), (.ref 582), (.int 1052 0), (.int 443 0), (.str "/claim/cut.py" 1053)]), #[]⟩),
  (584, fnO (st 98) "put_proto" .none "kindkeep.runlib" 821 583),
  (590, ⟨(.type "code"), none, (.fields #[(.str "install_protos" 1055), (.str "install_protos" 1056), (.str "/claim/cut.py" 1057), (.int 446 0), (.int 1 0), (.int 0 0), (.int 0 0), (.int 3 0), (.ref 585), (.bool true), (.int 181 0), (.ref 586), .none, (.ref 587), (.ref 588), (.ref 589), (.int 1060 0), (.int 446 0), (.str "/claim/cut.py" 1061)]), #[]⟩),
  (591, fnO (st 99) "install_protos" .none "kindkeep.runlib" 821 590),
  (597, ⟨(.type "code"), none, (.fields #[(.str "install_texts" 1063), (.str "install_texts" 1064), (.str "/claim/cut.py" 1065), (.int 450 0), (.int 1 0), (.int 0 0), (.int 0 0), (.int 3 0), (.ref 592), (.bool true), (.int 181 0), (.ref 593), .none, (.ref 594), (.ref 595), (.ref 596), (.int 1067 0), (.int 450 0), (.str "/claim/cut.py" 1068)]), #[]⟩),
  (598, fnO (st 100) "install_texts" .none "kindkeep.runlib" 821 597),
  (604, ⟨(.type "code"), none, (.fields #[(.str "install_numbers" 1070), (.str "install_numbers" 1071), (.str "/claim/cut.py" 1072), (.int 453 0), (.int 1 0), (.int 0 0), (.int 0 0), (.int 3 0), (.ref 599), (.bool true), (.int 181 0), (.ref 600), .none, (.ref 601), (.ref 602), (.ref 603), (.int 1074 0), (.int 453 0), (.str "/claim/cut.py" 1075)]), #[]⟩),
  (605, fnO (st 101) "install_numbers" .none "kindkeep.runlib" 821 604),
  (632, ⟨(.type "code"), none, (.fields #[(.str "__init__" 1146), (.str "ScriptThrow.__init__" 1147), (.str "/claim/cut.py" 1148), (.int 497 0), (.int 2 0), (.int 0 0), (.int 0 0), (.int 3 0), (.ref 627), (.bool true), (.int 181 0), (.ref 628), .none, (.ref 629), (.ref 630), (.ref 631), (.int 1151 0), (.int 497 0), (.str "/claim/cut.py" 1152)]), #[]⟩),
  (633, fnO (sm 123 0) "ScriptThrow.__init__" .none "kindkeep.runcore" 1120 632),
  (635, ⟨(.type "dict"), none, (.dict #[eS P "__module__" 1141 (.str "kindkeep.runcore" 1120), eS P "__firstlineno__" 1145 (.int 495 1144), eS P "__init__" 1153 (.ref 633), eS P "__static_attributes__" 1155 (.ref 634), eS P "__weakref__" 1157 (.ref 637), eS P "__doc__" 1158 .none] 3), #[]⟩),
  (636, ⟨(.type "type"), none, (.cls ⟨"ScriptThrow", [(.type "Exception")], [(.ref 636), (.type "Exception"), (.type "BaseException"), (.type "object")], 635, "ScriptThrow", true, [], [], false, none, false⟩), #[(some (.ref 620)), none, (some (.str "ScriptThrow" 1134)), (some (.str "ScriptThrow" 1142)), (some (.builtin "Exception.__new__")), (some (.bool true))]⟩),
  (655, ⟨(.type "dict"), none, (.dict #[eS P "__module__" 1170 (.str "kindkeep.runcore" 1120), eS P "__firstlineno__" 1174 (.int 499 1173), eS P "look" 1184 (.ref 653), eS P "__static_attributes__" 1185 (.ref 654), eS P "__dict__" 1187 (.ref 657), eS P "__weakref__" 1189 (.ref 658), eS P "__doc__" 1190 .none] 4), #[]⟩),
  (656, ⟨(.type "type"), none, (.cls ⟨"Watcher", [(.type "object")], [(.ref 656), (.type "object")], 655, "Watcher", true, [], [], false, none, false⟩), #[none, none, (some (.str "Watcher" 1163)), (some (.str "Watcher" 1171)), (some (.builtin "object.__new__")), (some (.bool true))]⟩),
  (683, ⟨(.type "dict"), none, (.dict #[eS P "__module__" 1200 (.str "kindkeep.runcore" 1120), eS P "__firstlineno__" 1204 (.int 503 1203), eS P "bind" 1215 (.ref 674), eS P "assign" 1225 (.ref 681), eS P "__static_attributes__" 1226 (.ref 682), eS P "__dict__" 1228 (.ref 685), eS P "__weakref__" 1230 (.ref 686), eS P "__doc__" 1231 .none] 4), #[]⟩),
  (684, ⟨(.type "type"), none, (.cls ⟨"RuncoreBinder", [(.type "object")], [(.ref 684), (.type "object")], 683, "RuncoreBinder", true, [], [], false, none, false⟩), #[none, none, (some (.str "RuncoreBinder" 1193)), (some (.str "RuncoreBinder" 1201)), (some (.builtin "object.__new__")), (some (.bool true))]⟩),
  (711, ⟨(.type "dict"), none, (.dict #[eS P "__module__" 1241 (.str "kindkeep.runcore" 1120), eS P "__firstlineno__" 1245 (.int 510 1244), eS P "make" 1256 (.ref 702), eS P "up" 1266 (.ref 709), eS P "__static_attributes__" 1267 (.ref 710), eS P "__dict__" 1269 (.ref 713), eS P "__weakref__" 1271 (.ref 714), eS P "__doc__" 1272 .none] 4), #[]⟩),
  (712, ⟨(.type "type"), none, (.cls ⟨"Maker", [(.type "object")], [(.ref 712), (.type "object")], 711, "Maker", true, [], [], false, none, false⟩), #[none, none, (some (.str "Maker" 1234)), (some (.str "Maker" 1242)), (some (.builtin "object.__new__")), (some (.bool true))]⟩),
  (732, ⟨(.type "dict"), none, (.dict #[eS P "__module__" 1282 (.str "kindkeep.runcore" 1120), eS P "__firstlineno__" 1286 (.int 517 1285), eS P "lay" 1295 (.ref 730), eS P "__static_attributes__" 1296 (.ref 731), eS P "__dict__" 1298 (.ref 734), eS P "__weakref__" 1300 (.ref 735), eS P "__doc__" 1301 .none] 4), #[]⟩),
  (733, ⟨(.type "type"), none, (.cls ⟨"Hoister", [(.type "object")], [(.ref 733), (.type "object")], 732, "Hoister", true, [], [], false, none, false⟩), #[none, none, (some (.str "Hoister" 1275)), (some (.str "Hoister" 1283)), (some (.builtin "object.__new__")), (some (.bool true))]⟩),
  (750, ⟨(.type "code"), none, (.fields #[(.str "__init__" 1316), (.str "Machine.__init__" 1317), (.str "/claim/cut.py" 1318), (.int 523 0), (.int 2 0), (.int 0 0), (.int 0 0), (.int 3 0), (.ref 745), (.bool true), (.int 181 0), (.ref 746), .none, (.ref 747), (.ref 748), (.ref 749), (.int 1321 0), (.int 523 0), (.str "/claim/cut.py" 1322)]), #[]⟩),
  (751, fnO (sm 128 0) "Machine.__init__" .none "kindkeep.runcore" 1120 750),
  (778, ⟨(.type "code"), none, (.fields #[(.str "throw" 1351), (.str "Machine.throw" 1352), (.str "/claim/cut.py" 1353), (.int 554 0), (.int 2 0), (.int 0 0), (.int 0 0), (.int 3 0), (.ref 773), (.bool true), (.int 181 0), (.ref 774), .none, (.ref 775), (.ref 776), (.ref 777), (.int 1356 0), (.int 554 0), (.str "/claim/cut.py" 1357)]), #[]⟩),
  (779, fnO (sm 128 4) "Machine.throw" .none "kindkeep.runcore" 1120 778),
  (795, ⟨(.type "dict"), none, (.dict #[eS P "__module__" 1311 (.str "kindkeep.runcore" 1120), eS P "__firstlineno__" 1315 (.int 521 1314), eS P "__init__" 1323 (.ref 751), eS P "value" 1331 (.ref 758), eS P "run" 1339 (.ref 765), eS P "call" 1350 (.ref 772), eS P "throw" 1358 (.ref 779), eS P "fault" 1368 (.ref 786), eS P "look" 1377 (.ref 793), eS P "__static_attributes__" 1398 (.ref 794), eS P "__dict__" 1400 (.ref 797), eS P "__weakref__" 1402 (.ref 798), eS P "__doc__" 1403 .none] 4), #[]⟩),
  (796, ⟨(.type "type"), none, (.cls ⟨"Machine", [(.type "object")], [(.ref 796), (.type "object")], 795, "Machine", true, [], [], false, none, false⟩), #[none, none, (some (.str "Machine" 1304)), (some (.str "Machine" 1312)), (some (.builtin "object.__new__")), (some (.bool true))]⟩),
  (821, fnO (st 131) "run_node" .none "kindkeep.runcore" 1120 820),
  (881, ⟨(.type "code"), none, (.fields #[(.str "_law_pull" 1513), (.str "_law_pull" 1514), (.str "/claim/cut.py" 1515), (.int 653 0), (.int 2 0), (.int 0 0), (.int 0 0), (.int 3 0), (.ref 876), (.bool true), (.int 181 0), (.ref 877), .none, (.ref 878), (.ref 879), (.ref 880), (.int 1518 0), (.int 653 0), (.str "/claim/cut.py" 1519)]), #[]⟩),
  (882, fnO (st 141) "_law_pull" .none "law_xw0126_01" 1511 881),
  (888, ⟨(.type "code"), none, (.fields #[(.str "_law_digits" 1521), (.str "_law_digits" 1522), (.str "/claim/cut.py" 1523), (.int 655 0), (.int 4 0), (.int 0 0), (.int 0 0), (.int 3 0), (.ref 883), (.bool true), (.int 181 0), (.ref 884), .none, (.ref 885), (.ref 886), (.ref 887), (.int 1533 0), (.int 655 0), (.str "/claim/cut.py" 1534)]), #[]⟩),
  (889, fnO (st 142) "_law_digits" .none "law_xw0126_01" 1511 888),
  (895, ⟨(.type "code"), none, (.fields #[(.str "_law_word" 1536), (.str "_law_word" 1537), (.str "/claim/cut.py" 1538), (.int 665 0), (.int 2 0), (.int 0 0), (.int 0 0), (.int 3 0), (.ref 890), (.bool true), (.int 181 0), (.ref 891), .none, (.ref 892), (.ref 893), (.ref 894), (.int 1553 0), (.int 665 0), (.str "/claim/cut.py" 1554)]), #[]⟩),
  (896, fnO (st 143) "_law_word" .none "law_xw0126_01" 1511 895),
  (902, ⟨(.type "code"), none, (.fields #[(.str "_law_fixed" 1556), (.str "_law_fixed" 1557), (.str "/claim/cut.py" 1558), (.int 689 0), (.int 1 0), (.int 0 0), (.int 0 0), (.int 3 0), (.ref 897), (.bool true), (.int 181 0), (.ref 898), .none, (.ref 899), (.ref 900), (.ref 901), (.int 1561 0), (.int 689 0), (.str "/claim/cut.py" 1562)]), #[]⟩),
  (903, fnO (st 144) "_law_fixed" .none "law_xw0126_01" 1511 902),
  (909, ⟨(.type "code"), none, (.fields #[(.str "_law_value" 1564), (.str "_law_value" 1565), (.str "/claim/cut.py" 1566), (.int 692 0), (.int 3 0), (.int 0 0), (.int 0 0), (.int 3 0), (.ref 904), (.bool true), (.int 181 0), (.ref 905), .none, (.ref 906), (.ref 907), (.ref 908), (.int 1576 0), (.int 692 0), (.str "/claim/cut.py" 1577)]), #[]⟩),
  (910, fnO (st 145) "_law_value" .none "law_xw0126_01" 1511 909),
  (916, ⟨(.type "code"), none, (.fields #[(.str "_law_tells" 1579), (.str "_law_tells" 1580), (.str "/claim/cut.py" 1581), (.int 712 0), (.int 3 0), (.int 0 0), (.int 0 0), (.int 3 0), (.ref 911), (.bool true), (.int 181 0), (.ref 912), .none, (.ref 913), (.ref 914), (.ref 915), (.int 1587 0), (.int 712 0), (.str "/claim/cut.py" 1588)]), #[]⟩),
  (917, fnO (st 146) "_law_tells" .none "law_xw0126_01" 1511 916),
  (923, ⟨(.type "code"), none, (.fields #[(.str "_law_sound" 1590), (.str "_law_sound" 1591), (.str "/claim/cut.py" 1592), (.int 719 0), (.int 2 0), (.int 0 0), (.int 0 0), (.int 3 0), (.ref 918), (.bool true), (.int 181 0), (.ref 919), .none, (.ref 920), (.ref 921), (.ref 922), (.int 1599 0), (.int 719 0), (.str "/claim/cut.py" 1600)]), #[]⟩),
  (924, fnO (st 147) "_law_sound" .none "law_xw0126_01" 1511 923),
  (928, ⟨(.type "code"), none, (.fields #[(.str "_law_ask" 1602), (.str "_law_ask" 1603), (.str "/claim/cut.py" 1604), (.int 730 0), (.int 5 0), (.int 0 0), (.int 0 0), (.int 3 0), (.ref 925), (.bool true), (.int 181 0), (.ref 926), .none, .none, .none, (.ref 927), (.int 1605 0), (.int 730 0), (.str "/claim/cut.py" 1606)]), #[]⟩),
  (929, fnO (st 148) "_law_ask" .none "law_xw0126_01" 1511 928),
  (935, ⟨(.type "code"), none, (.fields #[(.str "_law_laid" 1608), (.str "_law_laid" 1609), (.str "/claim/cut.py" 1610), (.int 741 0), (.int 2 0), (.int 0 0), (.int 0 0), (.int 3 0), (.ref 930), (.bool true), (.int 181 0), (.ref 931), .none, (.ref 932), (.ref 933), (.ref 934), (.int 1616 0), (.int 741 0), (.str "/claim/cut.py" 1617)]), #[]⟩),
  (936, fnO (st 149) "_law_laid" .none "law_xw0126_01" 1511 935),
  (942, ⟨(.type "code"), none, (.fields #[(.str "_law_based" 1619), (.str "_law_based" 1620), (.str "/claim/cut.py" 1621), (.int 752 0), (.int 2 0), (.int 0 0), (.int 0 0), (.int 3 0), (.ref 937), (.bool true), (.int 181 0), (.ref 938), .none, (.ref 939), (.ref 940), (.ref 941), (.int 1626 0), (.int 752 0), (.str "/claim/cut.py" 1627)]), #[]⟩),
  (943, fnO (st 150) "_law_based" .none "law_xw0126_01" 1511 942),
  (949, ⟨(.type "code"), none, (.fields #[(.str "_law_past" 1629), (.str "_law_past" 1630), (.str "/claim/cut.py" 1631), (.int 761 0), (.int 3 0), (.int 0 0), (.int 0 0), (.int 3 0), (.ref 944), (.bool true), (.int 181 0), (.ref 945), .none, (.ref 946), (.ref 947), (.ref 948), (.int 1635 0), (.int 761 0), (.str "/claim/cut.py" 1636)]), #[]⟩),
  (950, fnO (st 151) "_law_past" .none "law_xw0126_01" 1511 949),
  (954, ⟨(.type "code"), none, (.fields #[(.str "_law_placed" 1638), (.str "_law_placed" 1639), (.str "/claim/cut.py" 1640), (.int 763 0), (.int 3 0), (.int 0 0), (.int 0 0), (.int 3 0), (.ref 951), (.bool true), (.int 181 0), (.ref 952), .none, .none, .none, (.ref 953), (.int 1641 0), (.int 763 0), (.str "/claim/cut.py" 1642)]), #[]⟩),
  (955, fnO (st 152) "_law_placed" .none "law_xw0126_01" 1511 954),
  (959, ⟨(.type "code"), none, (.fields #[(.str "_law_found" 1644), (.str "_law_found" 1645), (.str "/claim/cut.py" 1646), (.int 775 0), (.int 3 0), (.int 0 0), (.int 0 0), (.int 3 0), (.ref 956), (.bool true), (.int 181 0), (.ref 957), .none, .none, .none, (.ref 958), (.int 1647 0), (.int 775 0), (.str "/claim/cut.py" 1648)]), #[]⟩),
  (960, fnO (st 153) "_law_found" .none "law_xw0126_01" 1511 959),
  (966, ⟨(.type "code"), none, (.fields #[(.str "_law_round" 1650), (.str "_law_round" 1651), (.str "/claim/cut.py" 1652), (.int 791 0), (.int 2 0), (.int 0 0), (.int 0 0), (.int 3 0), (.ref 961), (.bool true), (.int 181 0), (.ref 962), .none, (.ref 963), (.ref 964), (.ref 965), (.int 1661 0), (.int 791 0), (.str "/claim/cut.py" 1662)]), #[]⟩),
  (967, fnO (st 154) "_law_round" .none "law_xw0126_01" 1511 966),
  (971, ⟨(.type "code"), none, (.fields #[(.str "law" 1664), (.str "law" 1665), (.str "/claim/cut.py" 1666), (.int 807 0), (.int 1 0), (.int 0 0), (.int 0 0), (.int 3 0), (.ref 968), (.bool true), (.int 181 0), (.ref 969), .none, .none, .none, (.ref 970), (.int 1667 0), (.int 807 0), (.str "/claim/cut.py" 1668)]), #[]⟩),
  (972, fnO (st 155) "law" .none "law_xw0126_01" 1511 971)]
end Mine
namespace Mine
@[irreducible] noncomputable def PG : Program := PySem.Challenge.pw_xw0126_01
inductive AV where
  | none | bool (b : Bool) | int (i : Int) | str (s : Str)
  | tup (l : List AV) | lst (l : List AV) | val (v : Value) | rng (n : Int)
noncomputable abbrev Fz := Addr → Option Obj
noncomputable def Fz.le (F G : Fz) : Prop := ∀ a o, F a = some o → G a = some o
theorem Fz.le.refl (F : Fz) : F.le F := fun _ _ e => e
theorem Fz.le.trans {F G H : Fz} (x : F.le G) (y : G.le H) : F.le H := fun a o e => y a o (x a o e)
inductive SeqR (F : Fz) (ty : String) (P : List Value → Prop) (v : Value) : Prop
  | mk (a : Addr) (vs : List Value) (n : Nat) (e : v = .ref a) (f : F a = some ⟨.type ty, none, .seq ⟨vs⟩ n, #[]⟩) (r : P vs)
inductive RngR (F : Fz) (n : Int) (v : Value) : Prop
  | mk (a : Addr) (t u z : Tok) (e : v = .ref a) (f : F a = some ⟨.type "range", none, .fields #[.int 0 t, .int n u, .int 1 z], #[]⟩)
inductive ConsR (P : Value → Prop) (Q : List Value → Prop) (vs : List Value) : Prop
  | mk (v : Value) (vs' : List Value) (e : vs = v :: vs') (r : P v) (s : Q vs')
mutual
noncomputable def Rel (F : Fz) : AV → Value → Prop
  | .none, v => v = .none
  | .bool b, v => v = .bool b
  | .int i, v => ∃ t, v = .int i t
  | .str s, v => ∃ t, v = .str s t
  | .tup l, v => SeqR F "tuple" (RelL F l) v
  | .lst l, v => SeqR F "list" (RelL F l) v
  | .val u, v => v = u
  | .rng n, v => RngR F n v
noncomputable def RelL (F : Fz) : List AV → List Value → Prop
  | [], vs => vs = []
  | a :: l, vs => ConsR (Rel F a) (RelL F l) vs
end
mutual
theorem Rel.mono {F G : Fz} (h : F.le G) : ∀ (a : AV) (v : Value), Rel F a v → Rel G a v
  | .none, _, r => r
  | .bool _, _, r => r
  | .int _, _, r => r
  | .str _, _, r => r
  | .val _, _, r => r
  | .rng n, _, ⟨a, t, u, z, e, f⟩ => ⟨a, t, u, z, e, h a _ f⟩
  | .tup l, _, ⟨a, vs, n, e, f, r⟩ => ⟨a, vs, n, e, h a _ f, RelL.mono h l vs r⟩
  | .lst l, _, ⟨a, vs, n, e, f, r⟩ => ⟨a, vs, n, e, h a _ f, RelL.mono h l vs r⟩
theorem RelL.mono {F G : Fz} (h : F.le G) : ∀ (l : List AV) (vs : List Value), RelL F l vs → RelL G l vs
  | [], _, r => r
  | a :: l, _, ⟨v, vs', e, r, s⟩ => ⟨v, vs', e, Rel.mono h a v r, RelL.mono h l vs' s⟩
end
theorem RelL.length {F : Fz} : ∀ {l : List AV} {vs : List Value}, RelL F l vs → vs.length = l.length
  | [], _, r => by cases r; rfl
  | _ :: _, _, ⟨_, _, e, _, s⟩ => by subst e; simp [RelL.length s]
theorem RelL.get {F : Fz} : ∀ {l : List AV} {vs : List Value}, RelL F l vs → ∀ (i : Nat) (a : AV), l[i]? = some a → ∃ v, vs[i]? = some v ∧ Rel F a v
  | [], _, _, i, a, e => by simp at e
  | x :: l, _, ⟨v, vs', e, r, s⟩, i, a, h => by
    subst e
    cases i with
    | zero => simp at h; subst h; exact ⟨v, rfl, r⟩
    | succ i => simpa using RelL.get s i a (by simpa using h)
theorem RelL.append {F : Fz} : ∀ {l : List AV} {vs : List Value} {l' : List AV} {vs' : List Value}, RelL F l vs → RelL F l' vs' → RelL F (l ++ l') (vs ++ vs')
  | [], _, _, _, r, s => by cases r; exact s
  | _ :: _, _, _, _, ⟨v, vs', e, r, s⟩, t => by subst e; exact ⟨v, _, rfl, r, RelL.append s t⟩
inductive HObj where
  | lst (l : List AV)
  | dctS (es : List (Str × AV))
  | dctI (es : List (Int × AV))
  | ins (C dx : Addr)
  | exc (C : Addr) (d : Option Addr)
noncomputable abbrev HS := List (Addr × HObj)
noncomputable abbrev keys (H : HS) : List Addr := H.map (·.1)
inductive KvR {K : Type} (F : Fz) (x : K) (a : AV) (P : List (K × Value) → Prop) (kvs : List (K × Value)) : Prop
  | mk (v : Value) (kvs' : List (K × Value)) (e : kvs = (x, v) :: kvs') (r : Rel F a v) (s : P kvs')
noncomputable def RelKV {K : Type} (F : Fz) : List (K × AV) → List (K × Value) → Prop
  | [], kvs => kvs = []
  | (x, a) :: l, kvs => KvR F x a (RelKV F l) kvs
theorem RelKV.mono {K : Type} {F G : Fz} (h : F.le G) : ∀ {l : List (K × AV)} {kvs : List (K × Value)}, RelKV F l kvs → RelKV G l kvs
  | [], _, r => r
  | (_, a) :: _, _, ⟨v, kvs', e, r, s⟩ => ⟨v, kvs', e, Rel.mono h a v r, RelKV.mono h s⟩
inductive EntK {K : Type} [DecidableEq K] {w : World} (knd : PySem.KeyKind PG w K) (F : Fz) (l : List (K × AV)) (ds : List DictEntry) : Prop
  | mk (kvs : List (K × Value)) (ko : PySem.KeysOf knd ds.toArray) (ps : PySem.Pairs knd ds kvs) (r : RelKV F l kvs) (nd : (kvs.map (·.1)).Nodup)
theorem EntK.mono {K : Type} [DecidableEq K] {w : World} {knd : PySem.KeyKind PG w K} {F G : Fz} (h : F.le G) {l : List (K × AV)} {ds : List DictEntry} : EntK knd F l ds → EntK knd G l ds
  | ⟨kvs, a, b, c, d⟩ => ⟨kvs, a, b, c.mono h, d⟩
inductive LstR (F : Fz) (l : List AV) (o : Obj) : Prop
  | mk (vs : List Value) (n : Nat) (e : o = ⟨.type "list", none, .seq ⟨vs⟩ n, #[]⟩) (r : RelL F l vs)
inductive DctR {K : Type} [DecidableEq K] {w : World} (knd : PySem.KeyKind PG w K) (F : Fz) (l : List (K × AV)) (o : Obj) : Prop
  | mk (ds : List DictEntry) (n : Nat) (e : o = dictOf ds n) (r : EntK knd F l ds)
noncomputable def HRel (F : Fz) (w : World) : HObj → Obj → Prop
  | .lst l, o => LstR F l o
  | .dctS es, o => DctR (PySem.strKind PG w) F es o
  | .dctI es, o => DctR (PySem.intKind PG w) F es o
  | .ins C dx, o => o = instObj C dx
  | .exc C d, o => ∃ T, o = ⟨.ref C, d, .fields #[.ref T, .none, .none, .none, .bool false, .none], #[]⟩
theorem HRel.mono {F G : Fz} {w : World} (h : F.le G) {ho : HObj} {o : Obj} (r : HRel F w ho o) : HRel G w ho o := by
  cases ho with
  | lst l => obtain ⟨vs, n, e, r⟩ := r; exact ⟨vs, n, e, RelL.mono h l vs r⟩
  | dctS es => obtain ⟨vs, n, e, r⟩ := r; exact ⟨vs, n, e, r.mono h⟩
  | dctI es => obtain ⟨vs, n, e, r⟩ := r; exact ⟨vs, n, e, r.mono h⟩
  | ins C dx => exact r
  | exc C d => exact r
structure Wd (w : World) (B : Heap) : Prop where
  K : (KF w.params).In B
  T : ∃ p loose mg mb, TopRead p loose mg mb B
noncomputable def Same (h : Heap) (a : Addr) (o : Obj) : Prop := h.get? a = some o ∨ ((∃ es n, o.data = .dict es n) ∧ ∃ sl, h.get? a = some { o with slots := sl })
theorem Same.data {h : Heap} {a : Addr} {o : Obj} (x : Same h a o) : ∃ o', h.get? a = some o' ∧ o'.data = o.data := by
  rcases x with e | ⟨_, sl, e⟩
  · exact ⟨_, e, rfl⟩
  · exact ⟨_, e, rfl⟩
theorem Same.trans {h h' : Heap} {a : Addr} {o : Obj} (x : Same h a o) (y : ∀ o', h.get? a = some o' → Same h' a o') : Same h' a o := by
  rcases x with e | ⟨c, sl, e⟩
  · exact y _ e
  · rcases y _ e with e' | ⟨_, sl', e'⟩
    · exact .inr ⟨c, sl, e'⟩
    · exact .inr ⟨c, sl', e'⟩
theorem Same.notFrame {h : Heap} {a : Addr} {o : Obj} (x : Same h a o) (n : ∀ es n, o.data ≠ .dict es n) : h.get? a = some o := x.elim id fun ⟨⟨es, k, e⟩, _⟩ => absurd e (n es k)
inductive FrL (F : Fz) (H : HS) (h : Heap) (env : Env) : Prop
  | mk (L : Addr) (o : Obj) (es : Array DictEntry) (n : Nat) (e : env.frame = some L) (g : h.get? L = some o) (d : o.data = .dict es n) (f : F L = none) (k : L ∉ keys H)
noncomputable def FrOk (B : Heap) (F : Fz) (H : HS) (h : Heap) : List Env → Prop
  | [] => True
  | env :: r => env.scope.kind ≠ .module ∧ FrL F H h env ∧ FrOk B F H h r
inductive HotAt (w : World) (F : Fz) (h : Heap) (p : Addr × HObj) : Prop
  | mk (f : F p.1 = none) (o : Obj) (e : h.get? p.1 = some o) (r : HRel F w p.2 o)
structure CRep (w : World) (B : Heap) (F : Fz) (H : HS) (fs : List Env) (os : OsState) (s : Shared) : Prop where
  base : ∀ a o, B.get? a = some o → F a = some o
  fz : ∀ a o, F a = some o → s.heap.get? a = some o
  nd : (keys H).Nodup
  hot : ∀ p ∈ H, HotAt w F s.heap p
  fr : FrOk B F H s.heap fs
  gens : s.gens = #[]
  os : s.os = os
  big : ∀ a ∈ keys H, 2 < a
structure CPres (F : Fz) (H : HS) (h : Heap) (F' : Fz) (H' : HS) (h' : Heap) : Prop where
  le : F.le F'
  same : ∀ a o, h.get? a = some o → a ∉ keys H → Same h' a o
  ks : ∀ a ∈ keys H', a ∈ keys H ∨ h.get? a = none
  fr : ∀ a o, F' a = some o → F a = some o ∨ a ∈ keys H ∨ h.get? a = none
  ever : ∀ a o, h.get? a = some o → ∃ o', h'.get? a = some o'
theorem CPres.trans {F1 F2 F3 : Fz} {H1 H2 H3 : HS} {h1 h2 h3 : Heap} (x : CPres F1 H1 h1 F2 H2 h2) (y : CPres F2 H2 h2 F3 H3 h3) : CPres F1 H1 h1 F3 H3 h3 := by
  have back : ∀ a, h2.get? a = none → a ∈ keys H1 ∨ h1.get? a = none := fun a e => by
    by_cases m : a ∈ keys H1
    · exact .inl m
    · right
      cases q : h1.get? a with
      | none => rfl
      | some o => obtain ⟨o', e', _⟩ := (x.same a o q m).data; rw [e] at e'; cases e'
  have kk : ∀ a o, h1.get? a = some o → a ∉ keys H1 → a ∉ keys H2 := fun a o e m q => by
    rcases x.ks a q with z | z
    · exact m z
    · rw [e] at z; cases z
  refine ⟨x.le.trans y.le, fun a o e m => (x.same a o e m).trans fun o' e' => y.same a o' e' (kk a o e m), fun a m => ?_, fun a o e => ?_, fun a o e => let ⟨_, e'⟩ := x.ever a o e; y.ever a _ e'⟩
  · rcases y.ks a m with z | z
    · exact x.ks a z
    · exact back a z
  · rcases y.fr a o e with z | z | z
    · exact x.fr a o z
    · exact .inr (x.ks a z)
    · exact .inr (back a z)
structure Ctx (w : World) (B : Heap) where
  A : Around
  env : Env
  L : Addr
  own : List Addr
  fs : List Env
  os : OsState
  F0 : Fz
  H0 : HS
  h0 : Heap
  gd : List (Addr × Obj)
  k : Nat
variable {w : World} {B : Heap}
noncomputable def Held (c : Ctx w B) (a : Addr) : Prop := a ∈ c.own ∨ ((c.h0.get? a).isSome = true ∧ a ∉ keys c.H0)
structure CtxOk (c : Ctx w B) : Prop where
  wd : Wd w B
  kind : c.env.scope.kind = .function
  locals : c.env.locals = c.L
  globals : c.env.globals = mainGlobals
  builtins : c.env.builtins = builtinsNs
  frames : c.A.frames = some c.fs
  depth : c.A.depth + c.k < recursionLimit
  units : c.A.units + 8 * c.k + 8 < cLine
  ownL : c.L ∈ c.own
  cells : ∀ x a, c.env.cells.lookup x = some a → Held c a ∧ a ≠ c.L
  inj : ∀ x y a, c.env.cells.lookup x = some a → c.env.cells.lookup y = some a → x = y
inductive Slot where
  | un | lv (a : AV) | cu | cv (a : AV) | gv (a : AV)
inductive GlobIs (B : Heap) (x : Str) (v : Value) : Prop
  | mk (mg mb : Str → Option Value) (g : B.Ns mainGlobals mg) (b : B.Ns builtinsNs mb) (e : mg x = some v ∨ (mg x = none ∧ mb x = some v))
inductive SlvR (env : Env) (F : Fz) (m : Str → Option Value) (x : Str) (a : AV) : Prop
  | mk (k : env.kindOf x = some .local) (v : Value) (e : m x = some v) (r : Rel F a v)
inductive ScuR (env : Env) (h : Heap) (x : Str) : Prop
  | mk (k : env.kindOf x = some .cell) (ca : Addr) (v : Option Value) (e : env.cells.lookup x = some ca) (i : h.IsCell ca v)
inductive ScvR (env : Env) (F : Fz) (h : Heap) (x : Str) (a : AV) : Prop
  | mk (k : env.kindOf x = some .cell ∨ (env.kindOf x = some .free ∧ (x == ("__classdict__" : Str)) = false)) (ca : Addr) (v : Value) (e : env.cells.lookup x = some ca) (i : h.IsCell ca (some v)) (r : Rel F a v)
inductive SgvR (B : Heap) (env : Env) (F : Fz) (x : Str) (a : AV) : Prop
  | mk (k : env.kindOf x = some .globalImplicit) (v : Value) (g : GlobIs B x v) (r : Rel F a v)
noncomputable def SlotOk (c : Ctx w B) (F : Fz) (h : Heap) (m : Str → Option Value) (x : Str) : Slot → Prop
  | .un => c.env.kindOf x = some .local
  | .lv a => SlvR c.env F m x a
  | .cu => ScuR c.env h x
  | .cv a => ScvR c.env F h x a
  | .gv a => SgvR B c.env F x a
noncomputable abbrev Loc := List (Str × Slot)
structure St where
  loc : Loc
  H : HS
inductive LocAt (c : Ctx w B) (F : Fz) (h : Heap) (loc : Loc) : Prop
  | mk (m : Str → Option Value) (ns : h.Ns c.L m) (sl : ∀ p ∈ loc, SlotOk c F h m p.1 p.2)
structure Rep (c : Ctx w B) (F : Fz) (σ : St) (s : Shared) : Prop where
  ok : CtxOk c
  cr : CRep w B F σ.H c.fs c.os s
  pres : CPres c.F0 c.H0 c.h0 F σ.H s.heap
  own : ∀ a ∈ c.own, F a = none ∧ a ∉ keys σ.H ∧ c.h0.get? a = none ∧ (s.heap.get? a).isSome = true
  gd : ∀ p ∈ c.gd, s.heap.get? p.1 = some p.2 ∧ F p.1 = none ∧ p.1 ∉ keys σ.H ∧ p.1 ∉ c.own ∧ ∀ es n, p.2.data ≠ .dict es n
  nd : (σ.loc.map (·.1)).Nodup
  dbg : ∀ p ∈ σ.loc, (p.1 == ("__debug__" : Str)) = false
  loc : LocAt c F s.heap σ.loc
structure AE where
  C : Addr
  dx : Addr
  e : Addr
inductive ExcT (F : Fz) (H : HS) (ae : AE) (bad : Addr → Prop) (h : Heap) (vs : Array Value) : Prop
  | mk (T : Addr) (ts : Array Value) (oT : Obj) (a1 : vs[1]? = some (.ref T)) (a2 : T ≠ ae.e) (a3 : h.get? T = some oT) (a4 : oT.data = .fields ts) (a5 : ts[3]? = some .none) (a6 : F T = none) (a7 : T ∉ keys H) (a8 : ¬ bad T)
inductive ExcW (F : Fz) (H : HS) (ae : AE) (bad : Addr → Prop) (h : Heap) : Prop
  | mk (vs : Array Value) (sl : Array (Option Value)) (e : h.get? ae.e = some ⟨.ref ae.C, some ae.dx, .fields vs, sl⟩) (r : vs[1]? = some .none ∨ ExcT F H ae bad h vs)
structure ExcAt (F : Fz) (H : HS) (ae : AE) (bad : Addr → Prop) (h : Heap) : Prop where
  at_ : ExcW F H ae bad h
  fz : F ae.e = none
  nk : ae.e ∉ keys H
  nb : ¬ bad ae.e
theorem ExcAt.weak {F : Fz} {H : HS} {ae : AE} {bad bad' : Addr → Prop} {h : Heap} (x : ExcAt F H ae bad h) (k : ∀ a, bad' a → bad a) : ExcAt F H ae bad' h := by
  obtain ⟨⟨vs, sl, e, r⟩, f, n, b⟩ := x
  refine ⟨⟨vs, sl, e, ?_⟩, f, n, fun z => b (k _ z)⟩
  rcases r with r | ⟨T, ts, oT, a1, a2, a3, a4, a5, a6, a7, a8⟩
  · exact .inl r
  · exact .inr ⟨T, ts, oT, a1, a2, a3, a4, a5, a6, a7, fun z => a8 (k _ z)⟩
noncomputable def badOf (own : List Addr) (gd : List (Addr × Obj)) (h0 : Heap) (a : Addr) : Prop := a ∈ own ∨ (h0.get? a).isSome = true ∨ a ∈ gd.map (·.1)
noncomputable def ExcOk (F : Fz) (H : HS) (own : List Addr) (gd : List (Addr × Obj)) (h0 : Heap) (ae : AE) (v : Value) (h : Heap) : Prop := v = .ref ae.e ∧ ExcAt F H ae (badOf own gd h0) h
inductive Post (c : Ctx w B) (F : Fz) (Q : AV → St → Prop) (v : Value) (s : Shared) : Prop
  | mk (F' : Fz) (σ : St) (a : AV) (le : F.le F') (R : Rep c F' σ s) (r : Rel F' a v) (q : Q a σ)
inductive PostE (c : Ctx w B) (F : Fz) (E : AE → St → Prop) (v : Value) (s : Shared) : Prop
  | mk (F' : Fz) (σ : St) (ae : AE) (le : F.le F') (R : Rep c F' σ s) (x : ExcOk F' σ.H c.own c.gd c.h0 ae v s.heap) (e : E ae σ)
theorem Post.elim {c : Ctx w B} {F : Fz} {Q : AV → St → Prop} {v : Value} {s : Shared} {X : Prop} (h : Post c F Q v s) (k : ∀ F' σ a, F.le F' → Rep c F' σ s → Rel F' a v → Q a σ → X) : X := by
  cases h; apply k <;> assumption
theorem PostE.elim {c : Ctx w B} {F : Fz} {E : AE → St → Prop} {v : Value} {s : Shared} {X : Prop} (h : PostE c F E v s) (k : ∀ F' σ ae, F.le F' → Rep c F' σ s → ExcOk F' σ.H c.own c.gd c.h0 ae v s.heap → E ae σ → X) : X := by
  cases h; apply k <;> assumption
theorem Post.mono {c : Ctx w B} {F G : Fz} {Q : AV → St → Prop} {v : Value} {s : Shared} (h : F.le G) : Post c G Q v s → Post c F Q v s
  | ⟨F', σ, a, l, R, r, q⟩ => ⟨F', σ, a, h.trans l, R, r, q⟩
theorem PostE.mono {c : Ctx w B} {F G : Fz} {E : AE → St → Prop} {v : Value} {s : Shared} (h : F.le G) : PostE c G E v s → PostE c F E v s
  | ⟨F', σ, a, l, R, r, q⟩ => ⟨F', σ, a, h.trans l, R, r, q⟩
noncomputable abbrev MW (w : World) : Model := model PG w
noncomputable abbrev QA := AV → St → Prop
noncomputable abbrev QE := AE → St → Prop
end Mine
namespace Mine
variable {w : World} {B : Heap}
theorem isSome_of {h : Heap} {a : Addr} {o : Obj} (e : h.get? a = some o) : (h.get? a).isSome = true := by rw [e]; rfl
theorem FrOk.map {B : Heap} {F F' : Fz} {H H' : HS} {h h' : Heap} (k : ∀ a o, h.get? a = some o → F a = none → a ∉ keys H → Same h' a o ∧ F' a = none ∧ a ∉ keys H') : ∀ {fs : List Env}, FrOk B F H h fs → FrOk B F' H' h' fs
  | [], _ => trivial
  | env :: r, ⟨a, ⟨L, o, es, n, e, g, d, f, nk⟩, t⟩ => by
    obtain ⟨s1, s2, s3⟩ := k L o g f nk
    obtain ⟨o', e', d'⟩ := s1.data
    exact ⟨a, ⟨L, o', es, n, e, e', d'.trans d, s2, s3⟩, FrOk.map k t⟩
theorem Ns_same {h h' : Heap} {a : Addr} {m : Str → Option Value} (n : h.Ns a m) (k : ∀ o, h.get? a = some o → Same h' a o) : h'.Ns a m := by
  obtain ⟨o, es, ep, e, d, r⟩ := n
  obtain ⟨o', e', d'⟩ := (k o e).data
  exact ⟨o', es, ep, e', d'.trans d, r⟩
theorem IsCell_same {h h' : Heap} {a : Addr} {v : Option Value} (n : h.IsCell a v) (k : ∀ o, h.get? a = some o → Same h' a o) : h'.IsCell a v := by
  obtain ⟨o, e, d⟩ := n
  obtain ⟨o', e', d'⟩ := (k o e).data
  exact ⟨o', e', d'.trans d⟩
theorem SlotOk.map {c : Ctx w B} {F F' : Fz} {h h' : Heap} {m : Str → Option Value} {x : Str} {sl : Slot} (le : F.le F') (k : ∀ a, Held c a → ∀ o, h.get? a = some o → Same h' a o) (cells : ∀ x a, c.env.cells.lookup x = some a → Held c a ∧ a ≠ c.L)
    (r : SlotOk c F h m x sl) : SlotOk c F' h' m x sl := by
  cases sl with
  | un => exact r
  | lv a => obtain ⟨e, v, q, r⟩ := r; exact ⟨e, v, q, Rel.mono le _ _ r⟩
  | cu => obtain ⟨e, ca, v, q, r⟩ := r; exact ⟨e, ca, v, q, IsCell_same r (k ca (cells _ _ q).1)⟩
  | cv a => obtain ⟨e, ca, v, q, r, z⟩ := r; exact ⟨e, ca, v, q, IsCell_same r (k ca (cells _ _ q).1), Rel.mono le _ _ z⟩
  | gv a => obtain ⟨e, v, q, r⟩ := r; exact ⟨e, v, q, Rel.mono le _ _ r⟩
theorem Rep.held {c : Ctx w B} {F : Fz} {σ : St} {s : Shared} (R : Rep c F σ s) {a : Addr} (h : Held c a) : a ∉ keys σ.H := by
  rcases h with h | ⟨h1, h2⟩
  · exact (R.own a h).2.1
  · intro z
    rcases R.pres.ks a z with y | y
    · exact h2 y
    · rw [y] at h1; cases h1
theorem Rep.step {c : Ctx w B} {F F' : Fz} {σ : St} {H' : HS} {s s' : Shared} (R : Rep c F σ s) (P : CPres F σ.H s.heap F' H' s'.heap) (C : CRep w B F' H' c.fs c.os s') : Rep c F' ⟨σ.loc, H'⟩ s' := by
  have own' : ∀ a ∈ c.own, F' a = none ∧ a ∉ keys H' ∧ c.h0.get? a = none ∧ (s'.heap.get? a).isSome = true := fun a m => by
    obtain ⟨x1, x2, x3, x4⟩ := R.own a m
    obtain ⟨o, e⟩ := Option.isSome_iff_exists.mp x4
    refine ⟨?_, fun q => ?_, x3, ?_⟩
    · cases q : F' a with
      | none => rfl
      | some o' =>
        rcases P.fr a o' q with z | z | z
        · rw [x1] at z; cases z
        · exact absurd z x2
        · rw [e] at z; cases z
    · rcases P.ks a q with z | z
      · exact x2 z
      · rw [e] at z; cases z
    · obtain ⟨o', e', _⟩ := (P.same a o e x2).data
      exact isSome_of e'
  refine ⟨R.ok, C, R.pres.trans P, own', fun p hp => ?_, R.nd, R.dbg, ?_⟩
  · obtain ⟨g1, g2, g3, g4, g5⟩ := R.gd p hp
    refine ⟨(P.same _ _ g1 g3).notFrame g5, ?_, fun q => ?_, g4, g5⟩
    · cases q : F' p.1 with
      | none => rfl
      | some o' =>
        rcases P.fr _ o' q with z | z | z
        · rw [g2] at z; cases z
        · exact absurd z g3
        · rw [g1] at z; cases z
    · rcases P.ks _ q with z | z
      · exact g3 z
      · rw [g1] at z; cases z
  · obtain ⟨m, n, l⟩ := R.loc
    have ow : ∀ a, Held c a → ∀ o, s.heap.get? a = some o → Same s'.heap a o := fun a ha o e => P.same a o e (R.held ha)
    exact ⟨m, Ns_same n (ow _ (.inl R.ok.ownL)), fun p hp => SlotOk.map P.le ow R.ok.cells (l p hp)⟩
theorem Rep.toks {c : Ctx w B} {F : Fz} {σ : St} {s : Shared} (R : Rep c F σ s) (d : Drawn) (t : Nat) : Rep c F σ ⟨s.heap, s.gens, d, t, s.os⟩ :=
  ⟨R.ok, ⟨R.cr.base, R.cr.fz, R.cr.nd, R.cr.hot, R.cr.fr, R.cr.gens, R.cr.os, R.cr.big⟩, R.pres, R.own, R.gd, R.nd, R.dbg, R.loc⟩
theorem CRep.grow {w : World} {B : Heap} {F F' : Fz} {H new : HS} {fs : List Env} {os : OsState} {s : Shared} {h' : Heap} (C : CRep w B F H fs os s)
    (keep : ∀ a o, s.heap.get? a = some o → h'.get? a = some o) (le : F.le F') (fz : ∀ a o, F' a = some o → F a = some o ∨ (s.heap.get? a = none ∧ h'.get? a = some o))
    (nd : (keys new).Nodup) (hot : ∀ p ∈ new, s.heap.get? p.1 = none ∧ HotAt w F' h' p) (nb : ∀ p ∈ new, 2 < p.1) (d : Drawn) (t : Nat) : CRep w B F' (new ++ H) fs os ⟨h', s.gens, d, t, s.os⟩ := by
  have old : ∀ p ∈ H, ∃ o, s.heap.get? p.1 = some o := fun p hp => let ⟨_, o, e, _⟩ := C.hot p hp; ⟨o, e⟩
  refine ⟨fun a o e => le _ _ (C.base a o e), fun a o e => ?_, ?_, fun p hp => ?_, ?_, C.gens, C.os, fun a ha => ?_⟩
  · rcases fz a o e with z | z
    · exact keep _ _ (C.fz _ _ z)
    · exact z.2
  · show (List.map (·.1) (new ++ H)).Nodup
    rw [List.map_append, List.nodup_append]
    refine ⟨nd, C.nd, fun a ha b hb e => ?_⟩
    subst e
    obtain ⟨p, hp, rfl⟩ := List.mem_map.mp ha
    obtain ⟨q, hq, e⟩ := List.mem_map.mp hb
    obtain ⟨o, e'⟩ := old q hq
    rw [e, (hot p hp).1] at e'; cases e'
  · rcases List.mem_append.mp hp with hp | hp
    · exact (hot p hp).2
    · obtain ⟨f, o, e, r⟩ := C.hot p hp
      refine ⟨?_, o, keep _ _ e, r.mono le⟩
      cases q : F' p.1 with
      | none => rfl
      | some o' =>
        rcases fz _ _ q with z | z
        · rw [f] at z; cases z
        · rw [e] at z; cases z.1
  · refine FrOk.map (fun a o e f n => ⟨.inl (keep _ _ e), ?_, fun q => ?_⟩) C.fr
    · cases q : F' a with
      | none => rfl
      | some o' =>
        rcases fz _ _ q with z | z
        · rw [f] at z; cases z
        · rw [e] at z; cases z.1
    · rw [keys, List.map_append] at q
      rcases List.mem_append.mp q with q | q
      · obtain ⟨p, hp, rfl⟩ := List.mem_map.mp q
        rw [(hot p hp).1] at e; cases e
      · exact n q
  · have ha : a ∈ (new ++ H).map (·.1) := ha
    rw [List.map_append] at ha
    rcases List.mem_append.mp ha with ha | ha
    · obtain ⟨p, hp, rfl⟩ := List.mem_map.mp ha
      exact nb p hp
    · exact C.big a ha
theorem CPres.grow {F F' : Fz} {H new : HS} {h h' : Heap}
    (keep : ∀ a o, h.get? a = some o → h'.get? a = some o) (le : F.le F') (fz : ∀ a o, F' a = some o → F a = some o ∨ (h.get? a = none ∧ h'.get? a = some o))
    (hot : ∀ p ∈ new, h.get? p.1 = none) : CPres F H h F' (new ++ H) h' := by
  refine ⟨le, fun a o e _ => .inl (keep a o e), fun a ha => ?_, fun a o e => ?_, fun a o e => ⟨o, keep a o e⟩⟩
  · rw [keys, List.map_append] at ha
    rcases List.mem_append.mp ha with q | q
    · obtain ⟨p, hp, rfl⟩ := List.mem_map.mp q
      exact .inr (hot p hp)
    · exact .inl q
  · rcases fz a o e with z | z
    · exact .inl z
    · exact .inr (.inr z.1)
theorem Rep.grow {c : Ctx w B} {F F' : Fz} {σ : St} {new : HS} {s : Shared} {h' : Heap} (R : Rep c F σ s)
    (keep : ∀ a o, s.heap.get? a = some o → h'.get? a = some o) (le : F.le F') (fz : ∀ a o, F' a = some o → F a = some o ∨ (s.heap.get? a = none ∧ h'.get? a = some o))
    (nd : (keys new).Nodup) (hot : ∀ p ∈ new, s.heap.get? p.1 = none ∧ HotAt w F' h' p) (nb : ∀ p ∈ new, 2 < p.1) (d : Drawn) (t : Nat) : Rep c F' ⟨σ.loc, new ++ σ.H⟩ ⟨h', s.gens, d, t, s.os⟩ :=
  R.step (CPres.grow keep le fz (fun p hp => (hot p hp).1)) (R.cr.grow keep le fz nd hot nb d t)
theorem get_size (h : Heap) : h.get? h.objs.size = none := by
  cases q : h.get? h.objs.size with
  | none => rfl
  | some o => exact absurd (Heap.lt_size q) (Nat.lt_irrefl _)
theorem Rep.junk {c : Ctx w B} {F : Fz} {σ : St} {s : Shared} {h' : Heap} (R : Rep c F σ s) (keep : ∀ a o, s.heap.get? a = some o → h'.get? a = some o) (d : Drawn) (t : Nat) : Rep c F σ ⟨h', s.gens, d, t, s.os⟩ :=
  R.grow (new := []) keep (Fz.le.refl F) (fun _ _ e => .inl e) List.nodup_nil (fun _ h => (nomatch h)) (fun _ h => (nomatch h)) d t
noncomputable def Fz.put (F : Fz) (a : Addr) (o : Obj) : Fz := fun b => if b = a then some o else F b
theorem Fz.put_self (F : Fz) (a : Addr) (o : Obj) : F.put a o a = some o := if_pos rfl
theorem Fz.put_cases {F : Fz} {a b : Addr} {o o' : Obj} (e : F.put a o b = some o') : (b = a ∧ o' = o) ∨ F b = some o' := by
  unfold Fz.put at e
  by_cases h : b = a
  · rw [if_pos h] at e; cases e; exact .inl ⟨h, rfl⟩
  · rw [if_neg h] at e; exact .inr e
theorem Fz.le_put {F : Fz} {a : Addr} {o : Obj} (n : F a = none) : F.le (F.put a o) := fun b o' e => by
  unfold Fz.put
  by_cases h : b = a
  · subst h; rw [n] at e; cases e
  · rw [if_neg h]; exact e
theorem CRep.fz_none {w : World} {B : Heap} {F : Fz} {H : HS} {fs : List Env} {os : OsState} {s : Shared} (C : CRep w B F H fs os s) {a : Addr} (e : s.heap.get? a = none) : F a = none := by
  cases q : F a with
  | none => rfl
  | some o => rw [C.fz a o q] at e; cases e
theorem Rep.freeze {c : Ctx w B} {F : Fz} {σ : St} {s : Shared} (R : Rep c F σ s) (o : Obj) (hf : o.isFreed = false) (d : Drawn) (t : Nat) :
    F.le (F.put s.heap.objs.size o) ∧ Rep c (F.put s.heap.objs.size o) σ ⟨s.heap.push o, s.gens, d, t, s.os⟩ := by
  have n := R.cr.fz_none (get_size s.heap)
  refine ⟨Fz.le_put n, R.grow (new := []) (fun a o' e => Heap.get?_push_of_some _ e) (Fz.le_put n) (fun a o' e => ?_) List.nodup_nil (fun _ h => (nomatch h)) (fun _ h => (nomatch h)) d t⟩
  rcases Fz.put_cases e with ⟨rfl, rfl⟩ | z
  · exact .inr ⟨get_size _, Heap.get?_push_size _ hf⟩
  · exact .inl z
theorem Rep.size_gt {c : Ctx w B} {F : Fz} {σ : St} {s : Shared} (R : Rep c F σ s) : 2 < s.heap.objs.size := by
  obtain ⟨p, loose, mg, mb, T⟩ := R.ok.wd.T
  obtain ⟨o, _, _, e, _⟩ := T.g
  have := Heap.lt_size (R.cr.fz _ _ (R.cr.base _ _ e))
  exact Nat.lt_trans (by decide) this
theorem Rep.alloc {c : Ctx w B} {F : Fz} {σ : St} {s : Shared} (R : Rep c F σ s) (ho : HObj) (o : Obj) (hr : HRel F w ho o) (hf : o.isFreed = false) (d : Drawn) (t : Nat) :
    Rep c F ⟨σ.loc, (s.heap.objs.size, ho) :: σ.H⟩ ⟨s.heap.push o, s.gens, d, t, s.os⟩ :=
  R.grow (new := [(s.heap.objs.size, ho)]) (fun a o' e => Heap.get?_push_of_some _ e) (Fz.le.refl F) (fun a o' e => .inl e) (by simp)
    (fun p hp => by
      rw [List.mem_singleton] at hp
      subst hp
      exact ⟨get_size _, R.cr.fz_none (get_size _), o, Heap.get?_push_size _ hf, hr⟩) (fun p hp => by
      rw [List.mem_singleton] at hp
      subst hp
      exact R.size_gt) d t
inductive HUpd (a : Addr) (ho ho' : HObj) : HS → HS → Prop
  | head {r} : HUpd a ho ho' ((a, ho) :: r) ((a, ho') :: r)
  | tail {p r r'} : HUpd a ho ho' r r' → HUpd a ho ho' (p :: r) (p :: r')
theorem HUpd.keys {a : Addr} {ho ho' : HObj} {H H' : HS} (u : HUpd a ho ho' H H') : keys H' = keys H := by
  induction u with
  | head => rfl
  | tail _ ih => exact congrArg (List.cons _) ih
theorem HUpd.mem {a : Addr} {ho ho' : HObj} {H H' : HS} (u : HUpd a ho ho' H H') : (a, ho) ∈ H := by
  induction u with
  | head => exact .head _
  | tail _ ih => exact .tail _ ih
theorem HUpd.back {a : Addr} {ho ho' : HObj} {H H' : HS} (u : HUpd a ho ho' H H') (nd : (Mine.keys H).Nodup) : ∀ p ∈ H', p = (a, ho') ∨ (p ∈ H ∧ p.1 ≠ a) := by
  induction u with
  | @head r =>
    intro p hp
    have nd' : (a :: Mine.keys r).Nodup := nd
    rcases List.mem_cons.mp hp with rfl | hp
    · exact .inl rfl
    · refine .inr ⟨.tail _ hp, fun e => ?_⟩
      exact (List.nodup_cons.mp nd').1 (by rw [← e]; exact List.mem_map_of_mem (f := (·.1)) hp)
  | @tail p r r' u ih =>
    intro q hq
    have nd' : (p.1 :: Mine.keys r).Nodup := nd
    rcases List.mem_cons.mp hq with rfl | hq
    · refine .inr ⟨.head _, fun e => ?_⟩
      exact (List.nodup_cons.mp nd').1 (by rw [e]; exact List.mem_map_of_mem (f := (·.1)) u.mem)
    · rcases ih (List.nodup_cons.mp nd').2 q hq with e | ⟨m, n⟩
      · exact .inl e
      · exact .inr ⟨.tail _ m, n⟩
theorem CRep.upd {w : World} {B : Heap} {F : Fz} {H H' : HS} {fs : List Env} {os : OsState} {s : Shared} {h' : Heap} {a : Addr} {ho ho' : HObj} {o' : Obj} (C : CRep w B F H fs os s) (u : HUpd a ho ho' H H')
    (hs : Heap.SameBut a s.heap h') (e : h'.get? a = some o') (hr : HRel F w ho' o') (d : Drawn) (t : Nat) : CRep w B F H' fs os ⟨h', s.gens, d, t, s.os⟩ ∧ CPres F H s.heap F H' h' := by
  have fa := (C.hot _ u.mem).1
  have ma : a ∈ keys H := List.mem_map_of_mem (f := (·.1)) u.mem
  refine ⟨⟨C.base, fun b o eb => ?_, u.keys ▸ C.nd, fun p hp => ?_, ?_, C.gens, C.os, u.keys ▸ C.big⟩, ⟨Fz.le.refl F, fun b o eb m => .inl ?_, fun b hb => .inl (u.keys ▸ hb), fun _ _ e => .inl e, fun b o eb => ?_⟩⟩
  · exact (hs.2 b fun z => by rw [z, fa] at eb; cases eb).trans (C.fz b o eb)
  · rcases u.back C.nd p hp with rfl | ⟨m, n⟩
    · exact ⟨fa, o', e, hr⟩
    · obtain ⟨f, o, eo, r⟩ := C.hot p m
      exact ⟨f, o, (hs.2 _ n).trans eo, r⟩
  · exact FrOk.map (fun b o eb f n => ⟨.inl ((hs.2 b fun z => n (z ▸ ma)).trans eb), f, u.keys ▸ n⟩) C.fr
  · exact (hs.2 b fun z => m (z ▸ ma)).trans eb
  · by_cases z : b = a
    · subst z; exact ⟨_, e⟩
    · exact ⟨o, (hs.2 b z).trans eb⟩
theorem Rep.upd {c : Ctx w B} {F : Fz} {σ : St} {H' : HS} {s : Shared} {h' : Heap} {a : Addr} {ho ho' : HObj} {o' : Obj} (R : Rep c F σ s) (u : HUpd a ho ho' σ.H H')
    (hs : Heap.SameBut a s.heap h') (e : h'.get? a = some o') (hr : HRel F w ho' o') (d : Drawn) (t : Nat) : Rep c F ⟨σ.loc, H'⟩ ⟨h', s.gens, d, t, s.os⟩ :=
  let ⟨x, y⟩ := R.cr.upd u hs e hr d t
  R.step (s' := ⟨h', s.gens, d, t, s.os⟩) y x
inductive LUpd (x : Str) (sl sl' : Slot) : Loc → Loc → Prop
  | head {r} : LUpd x sl sl' ((x, sl) :: r) ((x, sl') :: r)
  | tail {p r r'} : LUpd x sl sl' r r' → LUpd x sl sl' (p :: r) (p :: r')
theorem LUpd.keys {x : Str} {sl sl' : Slot} {l l' : Loc} (u : LUpd x sl sl' l l') : l'.map (·.1) = l.map (·.1) := by
  induction u with
  | head => rfl
  | tail _ ih => rw [List.map_cons, List.map_cons, ih]
theorem LUpd.mem {x : Str} {sl sl' : Slot} {l l' : Loc} (u : LUpd x sl sl' l l') : (x, sl) ∈ l := by
  induction u with
  | head => exact .head _
  | tail _ ih => exact .tail _ ih
theorem LUpd.back {x : Str} {sl sl' : Slot} {l l' : Loc} (u : LUpd x sl sl' l l') (nd : (l.map (·.1)).Nodup) : ∀ p ∈ l', p = (x, sl') ∨ (p ∈ l ∧ p.1 ≠ x) := by
  induction u with
  | head =>
    intro p hp
    rw [List.map_cons, List.nodup_cons] at nd
    rcases List.mem_cons.mp hp with rfl | hp
    · exact .inl rfl
    · exact .inr ⟨.tail _ hp, fun e => nd.1 (by rw [← e]; exact List.mem_map_of_mem (f := (·.1)) hp)⟩
  | tail u ih =>
    intro q hq
    rw [List.map_cons, List.nodup_cons] at nd
    rcases List.mem_cons.mp hq with rfl | hq
    · exact .inr ⟨.head _, fun e => nd.1 (by rw [e]; exact List.mem_map_of_mem (f := (·.1)) u.mem)⟩
    · rcases ih nd.2 q hq with e | ⟨m, n⟩
      · exact .inl e
      · exact .inr ⟨.tail _ m, n⟩
theorem Rep.own1 {c : Ctx w B} {F : Fz} {σ : St} {s : Shared} {h' : Heap} {a : Addr} {loc' : Loc} (R : Rep c F σ s) (ha : a ∈ c.own) (hs : Heap.SameBut a s.heap h') (fr : ∀ o es n, s.heap.get? a = some o → o.data = .dict es n → ∃ o' es n, h'.get? a = some o' ∧ o'.data = .dict es n)
    (some' : (h'.get? a).isSome = true) (nd : (loc'.map (·.1)).Nodup) (db : ∀ p ∈ loc', (p.1 == ("__debug__" : Str)) = false) (lo : LocAt c F h' loc') (d : Drawn) (t : Nat) : Rep c F ⟨loc', σ.H⟩ ⟨h', s.gens, d, t, s.os⟩ := by
  obtain ⟨fa, na, za, sa⟩ := R.own a ha
  refine ⟨R.ok, ⟨R.cr.base, fun b o e => ?_, R.cr.nd, fun p hp => ?_, ?_, R.cr.gens, R.cr.os, R.cr.big⟩, ⟨R.pres.le, fun b o e m => ?_, R.pres.ks, R.pres.fr, fun b o e => ?_⟩, fun b hb => ?_, fun p hp => ?_, nd, db, lo⟩
  · exact (hs.2 b fun z => by rw [z, fa] at e; cases e).trans (R.cr.fz b o e)
  · obtain ⟨f, o, e, r⟩ := R.cr.hot p hp
    exact ⟨f, o, (hs.2 _ fun z => na (z ▸ List.mem_map_of_mem (f := (·.1)) hp)).trans e, r⟩
  · have : ∀ {fs : List Env}, FrOk B F σ.H s.heap fs → FrOk B F σ.H h' fs := by
      intro fs
      induction fs with
      | nil => exact id
      | cons env r ih =>
        rintro ⟨x1, ⟨L, o, es, n, e, g, dd, f, nk⟩, t⟩
        refine ⟨x1, ?_, ih t⟩
        by_cases z : L = a
        · subst z
          obtain ⟨o', es', n', e', d'⟩ := fr o _ _ g dd
          exact ⟨L, o', es', n', e, e', d', f, nk⟩
        · exact ⟨L, o, es, n, e, (hs.2 L z).trans g, dd, f, nk⟩
    exact this R.cr.fr
  · refine (R.pres.same b o e m).trans fun o' e' => .inl ((hs.2 b fun z => ?_).trans e')
    rw [z, za] at e; cases e
  · obtain ⟨o', e'⟩ := R.pres.ever b o e
    by_cases z : b = a
    · subst z; exact Option.isSome_iff_exists.mp some'
    · exact ⟨o', (hs.2 b z).trans e'⟩
  · obtain ⟨x1, x2, x3, x4⟩ := R.own b hb
    refine ⟨x1, x2, x3, ?_⟩
    by_cases z : b = a
    · subst z; exact some'
    · show (h'.get? b).isSome = true
      rw [hs.2 b z]; exact x4
  · obtain ⟨g1, g2, g3, g4, g5⟩ := R.gd p hp
    exact ⟨(hs.2 _ fun z => g4 (by rw [z]; exact ha)).trans g1, g2, g3, g4, g5⟩
end Mine
namespace Mine
set_option genCtorIdx false
variable {w : World} {B : Heap} {c : Ctx w B} {σ : St} {Q : QA} {E : QE}
noncomputable def EW (c : Ctx w B) (σ : St) (t : Sem Value) (Q : QA) (E : QE) : Prop := ∀ F s, Rep c F σ s → wpAny (MW w) c.A t (Post c F Q) (PostE c F E) s
noncomputable def UW (c : Ctx w B) (σ : St) (a : AV) (f : Value → Sem Value) (Q : QA) (E : QE) : Prop := ∀ F s v, Rep c F σ s → Rel F a v → wpAny (MW w) c.A (f v) (Post c F Q) (PostE c F E) s
noncomputable def BW (c : Ctx w B) (σ : St) (a b : AV) (f : Value → Value → Sem Value) (Q : QA) (E : QE) : Prop := ∀ F s u v, Rep c F σ s → Rel F a u → Rel F b v → wpAny (MW w) c.A (f u v) (Post c F Q) (PostE c F E) s
noncomputable def VW (c : Ctx w B) (σ : St) (l : List AV) (f : List Value → Sem Value) (Q : QA) (E : QE) : Prop := ∀ F s vs, Rep c F σ s → RelL F l vs → wpAny (MW w) c.A (f vs) (Post c F Q) (PostE c F E) s
inductive PostL (c : Ctx w B) (F : Fz) (Q : List AV → St → Prop) (vs : List Value) (s : Shared) : Prop
  | mk (F' : Fz) (σ : St) (l : List AV) (le : F.le F') (R : Rep c F' σ s) (r : RelL F' l vs) (q : Q l σ)
noncomputable def LW (c : Ctx w B) (σ : St) (pos : Pos) (es : List Expr) (Q : List AV → St → Prop) (E : QE) : Prop :=
  ∀ F s, Rep c F σ s → wpAny (MW w) c.A (spliced (backTo pos (starEach es c.env))) (PostL c F Q) (PostE c F E) s
inductive PostB (c : Ctx w B) (F : Fz) (Q : Bool → St → Prop) (b : Bool) (s : Shared) : Prop
  | mk (F' : Fz) (σ : St) (le : F.le F') (R : Rep c F' σ s) (q : Q b σ)
noncomputable def TW (c : Ctx w B) (σ : St) (t : Sem Bool) (Q : Bool → St → Prop) (E : QE) : Prop := ∀ F s, Rep c F σ s → wpAny (MW w) c.A t (PostB c F Q) (PostE c F E) s
noncomputable def TU (c : Ctx w B) (σ : St) (a : AV) (Q : Bool → St → Prop) (E : QE) : Prop := ∀ F s v, Rep c F σ s → Rel F a v → wpAny (MW w) c.A (truthy v) (PostB c F Q) (PostE c F E) s
inductive AF where
  | next | brk | cont | ret (a : AV)
noncomputable def FRel (F : Fz) : AF → Flow → Prop
  | .next, f => f = .next
  | .brk, f => f = .brk
  | .cont, f => f = .cont
  | .ret a, f => ∃ v, f = .ret v ∧ Rel F a v
noncomputable abbrev QF := AF → St → Prop
inductive PostF (c : Ctx w B) (F : Fz) (Q : QF) (f : Flow) (s : Shared) : Prop
  | mk (F' : Fz) (σ : St) (a : AF) (le : F.le F') (R : Rep c F' σ s) (r : FRel F' a f) (q : Q a σ)
noncomputable def XW (c : Ctx w B) (σ : St) (t : Sem Flow) (Q : QF) (E : QE) : Prop := ∀ F s, Rep c F σ s → wpAny (MW w) c.A t (PostF c F Q) (PostE c F E) s
noncomputable abbrev SW (c : Ctx w B) (σ : St) (ss : List Stmt) (Q : QF) (E : QE) : Prop := XW c σ (execs ss c.env) Q E
theorem PostL.elim {F : Fz} {Q : List AV → St → Prop} {v : List Value} {s : Shared} {X : Prop} (h : PostL c F Q v s) (k : ∀ F' σ a, F.le F' → Rep c F' σ s → RelL F' a v → Q a σ → X) : X := by
  cases h; apply k <;> assumption
theorem PostB.elim {F : Fz} {Q : Bool → St → Prop} {v : Bool} {s : Shared} {X : Prop} (h : PostB c F Q v s) (k : ∀ F' σ, F.le F' → Rep c F' σ s → Q v σ → X) : X := by
  cases h; apply k <;> assumption
theorem PostF.elim {F : Fz} {Q : QF} {v : Flow} {s : Shared} {X : Prop} (h : PostF c F Q v s) (k : ∀ F' σ a, F.le F' → Rep c F' σ s → FRel F' a v → Q a σ → X) : X := by
  cases h; apply k <;> assumption
theorem PostF.mono {F G : Fz} {Q : QF} {v : Flow} {s : Shared} (h : F.le G) : PostF c G Q v s → PostF c F Q v s
  | ⟨F', σ, a, l, R, r, q⟩ => ⟨F', σ, a, h.trans l, R, r, q⟩
theorem PostB.mono {F G : Fz} {Q : Bool → St → Prop} {v : Bool} {s : Shared} (h : F.le G) : PostB c G Q v s → PostB c F Q v s
  | ⟨F', σ, l, R, q⟩ => ⟨F', σ, h.trans l, R, q⟩
theorem wkV {A : Around} {F G : Fz} {t : Sem Value} {s : Shared} (h : F.le G) (x : wpAny (MW w) A t (Post c G Q) (PostE c G E) s) : wpAny (MW w) A t (Post c F Q) (PostE c F E) s := wpAny_mono x (fun _ _ y => y.mono h) fun _ _ y => y.mono h
theorem wkF {A : Around} {F G : Fz} {Q : QF} {t : Sem Flow} {s : Shared} (h : F.le G) (x : wpAny (MW w) A t (PostF c G Q) (PostE c G E) s) : wpAny (MW w) A t (PostF c F Q) (PostE c F E) s := wpAny_mono x (fun _ _ y => y.mono h) fun _ _ y => y.mono h
theorem wkB {A : Around} {F G : Fz} {Q : Bool → St → Prop} {t : Sem Bool} {s : Shared} (h : F.le G) (x : wpAny (MW w) A t (PostB c G Q) (PostE c G E) s) : wpAny (MW w) A t (PostB c F Q) (PostE c F E) s := wpAny_mono x (fun _ _ y => y.mono h) fun _ _ y => y.mono h
theorem EW.mono {t : Sem Value} {Q' : QA} {E' : QE} (h : EW c σ t Q E) (q : ∀ a σ, Q a σ → Q' a σ) (e : ∀ a σ, E a σ → E' a σ) : EW c σ t Q' E' := fun F s R =>
  wpAny_mono (h F s R) (fun _ _ ⟨F', σ', a, l, r, x, y⟩ => ⟨F', σ', a, l, r, x, q _ _ y⟩) fun _ _ ⟨F', σ', a, l, r, x, y⟩ => ⟨F', σ', a, l, r, x, e _ _ y⟩
theorem XW.mono {t : Sem Flow} {Q Q' : QF} {E' : QE} (h : XW c σ t Q E) (q : ∀ a σ, Q a σ → Q' a σ) (e : ∀ a σ, E a σ → E' a σ) : XW c σ t Q' E' := fun F s R =>
  wpAny_mono (h F s R) (fun _ _ ⟨F', σ', a, l, r, x, y⟩ => ⟨F', σ', a, l, r, x, q _ _ y⟩) fun _ _ ⟨F', σ', a, l, r, x, y⟩ => ⟨F', σ', a, l, r, x, e _ _ y⟩
theorem hand {F : Fz} {s : Shared} {a : AV} {v : Value} (R : Rep c F σ s) (r : Rel F a v) (q : Q a σ) : Post c F Q v s := ⟨F, σ, a, Fz.le.refl F, R, r, q⟩
theorem handT {F : Fz} {s : Shared} {a : AV} {v : Value} (R : Rep c F σ s) (r : Rel F a v) (q : Q a σ) (d : Drawn) (t : Nat) : Post c F Q v ⟨s.heap, s.gens, d, t, s.os⟩ := ⟨F, σ, a, Fz.le.refl F, R.toks d t, r, q⟩
theorem handB {F : Fz} {s : Shared} {Q : Bool → St → Prop} {b : Bool} (R : Rep c F σ s) (q : Q b σ) : PostB c F Q b s := ⟨F, σ, Fz.le.refl F, R, q⟩
theorem rInt {F : Fz} {i : Int} {t : Tok} : Rel F (.int i) (.int i t) := ⟨t, rfl⟩
theorem rStr {F : Fz} {i : Str} {t : Tok} : Rel F (.str i) (.str i t) := ⟨t, rfl⟩
theorem rBool {F : Fz} {i : Bool} : Rel F (.bool i) (.bool i) := rfl
theorem rNone {F : Fz} : Rel F .none .none := rfl
theorem rVal {F : Fz} {v : Value} : Rel F (.val v) v := rfl
noncomputable def Slot.val? : Slot → Option AV
  | .lv a => some a | .cv a => some a | .gv a => some a | _ => none
theorem base_stays {F : Fz} {s : Shared} (R : Rep c F σ s) {a : Addr} {o : Obj} (e : B.get? a = some o) : s.heap.get? a = some o := R.cr.fz _ _ (R.cr.base _ _ e)
theorem EW_Name {x : Str} {sl : Slot} {a : AV} {pos : Pos} (m : (x, sl) ∈ σ.loc) (hv : sl.val? = some a) (q : Q a σ) : EW c σ (eval (.Name x pos) c.env) Q E := by
  intro F s R
  have dbg := R.dbg _ m
  obtain ⟨mm, n, l⟩ := R.loc
  have l := l _ m
  have nn : s.heap.Ns c.env.locals mm := R.ok.locals ▸ n
  cases sl with
  | un => cases hv
  | cu => cases hv
  | lv b =>
    cases hv
    obtain ⟨k, v, e, r⟩ := l
    exact wpAny_Name (wpAny_loadName_local R.ok.kind k nn e (hand R r q)) dbg
  | cv b =>
    cases hv
    obtain ⟨k, ca, v, e, i, r⟩ := l
    rcases k with k | ⟨k, k'⟩
    · exact wpAny_Name (wpAny_loadName_cell R.ok.kind k e i (hand R r q)) dbg
    · exact wpAny_Name (wpAny_loadName_free R.ok.kind k e i (hand R r q) k') dbg
  | gv b =>
    cases hv
    obtain ⟨k, v, ⟨mg, mb, ng, nb, e⟩, r⟩ := l
    have ng' : s.heap.Ns c.env.globals mg := R.ok.globals ▸ ng.keeps fun _ _ e => base_stays R e
    have nb' : s.heap.Ns c.env.builtins mb := R.ok.builtins ▸ nb.keeps fun _ _ e => base_stays R e
    rcases e with e | ⟨e, e'⟩
    · exact Name_function_global R.ok.kind k (loadGlobal_global ng' e (hand R r q)) dbg
    · exact Name_function_global R.ok.kind k (loadGlobal_builtin ng' e nb' e' (hand R r q)) dbg
theorem EW_int {i : Int} {k : Nat} {pos : Pos} (q : Q (.int i) σ) : EW c σ (eval (.Constant (.int i) k pos) c.env) Q E := fun _ s R => wpAny_Constant_int (handT R rInt q _ _)
theorem EW_str {i : Str} {k : Nat} {pos : Pos} (q : Q (.str i) σ) : EW c σ (eval (.Constant (.str i) k pos) c.env) Q E := fun _ s R => wpAny_Constant_str (handT R rStr q _ _)
theorem EW_bool {i : Bool} {k : Nat} {pos : Pos} (q : Q (.bool i) σ) : EW c σ (eval (.Constant (.bool i) k pos) c.env) Q E := fun _ s R => wpAny_Constant_bool (hand R rBool q)
theorem EW_none {k : Nat} {pos : Pos} (q : Q .none σ) : EW c σ (eval (.Constant .none k pos) c.env) Q E := fun _ s R => wpAny_Constant_none (hand R rNone q)
theorem EW.bw {t u : Sem Value} {f : Value → Value → Sem Value} (h : EW c σ t (fun a σ₁ => EW c σ₁ u (fun b σ₂ => BW c σ₂ a b f Q E) E) E) {F : Fz} {s : Shared} (R : Rep c F σ s) :
    wpAny (MW w) c.A t (fun x s₁ => wpAny (MW w) c.A u (fun y s₂ => wpAny (MW w) c.A (f x y) (Post c F Q) (PostE c F E) s₂) (PostE c F E) s₁) (PostE c F E) s := by
  refine wpAny_mono (h F s R) (fun x s₁ zz => zz.elim fun F₁ σ₁ a l₁ R₁ r₁ h₁ => ?_) fun _ _ e => e
  refine wpAny_mono (h₁ F₁ s₁ R₁) (fun y s₂ zz => zz.elim fun F₂ σ₂ b l₂ R₂ r₂ h₂ => ?_) fun _ _ e => e.mono l₁
  exact wkV (l₁.trans l₂) (h₂ F₂ s₂ x y R₂ (Rel.mono l₂ _ _ r₁) r₂)
theorem EW_BinOp {l r : Expr} {op : Operator} {pos : Pos} (h : EW c σ (eval l c.env) (fun a σ₁ => EW c σ₁ (eval r c.env) (fun b σ₂ => BW c σ₂ a b (binaryOp op) Q E) E) E) : EW c σ (eval (.BinOp l op r pos) c.env) Q E :=
  fun _ _ R => wpAny_BinOp (h.bw R)
theorem EW_Compare {l r : Expr} {op : CmpOp} {pos : Pos} (h : EW c σ (eval l c.env) (fun a σ₁ => EW c σ₁ (eval r c.env) (fun b σ₂ => BW c σ₂ a b (compareOp op) Q E) E) E)
    (hm : behindInMarks op r = false) : EW c σ (eval (.Compare l [op] [r] pos) c.env) Q E :=
  fun _ _ R => wpAny_Compare1 (h.bw R) hm
theorem EW_Unary {x : Expr} {op : UnaryOp} {pos : Pos} (h : EW c σ (eval x c.env) (fun a σ₁ => UW c σ₁ a (unaryOp op) Q E) E) : EW c σ (eval (.UnaryOp op x pos) c.env) Q E :=
  fun F s R => wpAny_UnaryOp (wpAny_mono (h F s R) (fun x s₁ zz => zz.elim fun F₁ σ₁ a l₁ R₁ r₁ h₁ => wkV l₁ (h₁ F₁ s₁ x R₁ r₁)) fun _ _ e => e)
theorem EW_IfExp {test body orelse : Expr} {pos : Pos} (h : TW c σ (isTrue test c.env (eval test c.env)) (fun b σ₁ => (b = true → EW c σ₁ (eval body c.env) Q E) ∧ (b = false → EW c σ₁ (eval orelse c.env) Q E)) E) :
    EW c σ (eval (.IfExp test body orelse pos) c.env) Q E :=
  fun F s R => wpAny_IfExp (wpAny_mono (h F s R) (fun b s₁ zz => zz.elim fun F₁ σ₁ l₁ R₁ h₁ => by
    cases b with
    | true => exact wkV l₁ (h₁.1 rfl F₁ s₁ R₁)
    | false => exact wkV l₁ (h₁.2 rfl F₁ s₁ R₁)) fun _ _ e => e)
theorem EW_Sub {value slice : Expr} {pos : Pos} (h : EW c σ (eval value c.env) (fun a σ₁ => EW c σ₁ (eval slice c.env) (fun b σ₂ => BW c σ₂ a b (subscriptTail value slice) Q E) E) E) : EW c σ (eval (.Subscript value slice pos) c.env) Q E :=
  fun _ _ R => Subscript_ (h.bw R)
theorem EW_AttrN {n attr : Str} {np pos : Pos} (h : EW c σ (eval (.Name n np) c.env) (fun a σ₁ => UW c σ₁ a (fun v => getAttr v attr true) Q E) E) : EW c σ (eval (.Attribute (.Name n np) attr pos) c.env) Q E :=
  fun F s R => Attribute_name (wpAny_mono (h F s R) (fun x s₁ zz => zz.elim fun F₁ σ₁ a l₁ R₁ r₁ h₁ => wkV l₁ (h₁ F₁ s₁ x R₁ r₁)) fun _ _ e => e)
theorem EW_Attr {value : Expr} {attr : Str} {pos : Pos} (h : EW c σ (eval value c.env) (fun a σ₁ => UW c σ₁ a (fun v => getAttr v attr true) Q E) E)
    (he : eval (.Attribute value attr pos) c.env = (do
      let o ← eval value c.env
      standAt (Pos.atName pos)
      let r ← holding [o] (getAttr o attr true)
      letTemporaryGo value o r
      pure r)) : EW c σ (eval (.Attribute value attr pos) c.env) Q E :=
  fun F s R => Attribute_any_ (wpAny_mono (h F s R) (fun x s₁ zz => zz.elim fun F₁ σ₁ a l₁ R₁ r₁ h₁ => wkV l₁ (h₁ F₁ s₁ x R₁ r₁)) fun _ _ e => e) he
theorem LW_nil {pos : Pos} {Q : List AV → St → Prop} (q : Q [] σ) : LW c σ pos [] Q E := fun F s R => wpAny_items_nil ⟨F, σ, [], Fz.le.refl F, R, rfl, q⟩
theorem LW_cons {pos : Pos} {e : Expr} {rest : List Expr} {Q : List AV → St → Prop} (h : EW c σ (eval e c.env) (fun a σ₁ => LW c σ₁ pos rest (fun l σ₂ => Q (a :: l) σ₂) E) E)
    (he : starEach (e :: rest) c.env = (false, eval e c.env) :: starEach rest c.env) : LW c σ pos (e :: rest) Q E := fun F s R => by
  refine wpAny_items_cons (wpAny_mono (h F s R) (fun x s₁ zz => zz.elim fun F₁ σ₁ a l₁ R₁ r₁ h₁ => ?_) fun _ _ e => e) he
  exact wpAny_mono (h₁ F₁ s₁ R₁) (fun vs s₂ zz => zz.elim fun F₂ σ₂ l l₂ R₂ r₂ h₂ => ⟨F₂, σ₂, a :: l, l₁.trans l₂, R₂, ⟨x, vs, rfl, Rel.mono l₂ _ _ r₁, r₂⟩, h₂⟩) fun _ _ e => e.mono l₁
theorem EW_Tuple {elts : List Expr} {k : Nat} {pos : Pos} (h : LW c σ pos elts (fun l σ₁ => l.length ≤ 1000 ∧ Q (.tup l) σ₁) E) : EW c σ (eval (.Tuple elts k pos) c.env) Q E := fun F s R => by
  refine wpAny_Tuple (wpAny_mono (h F s R) (fun vs s₁ zz => zz.elim fun F₁ σ₁ l l₁ R₁ r₁ h₁ => ⟨?_, ?_⟩) fun _ _ e => e)
  · rw [r₁.length, sizeLine_eq]; have := h₁.1; omega
  · obtain ⟨le, R₂⟩ := R₁.freeze ⟨.type "tuple", none, .seq vs.toArray 0, #[]⟩ rfl s₁.drawn s₁.toks
    exact ⟨_, σ₁, .tup l, l₁.trans le, R₂, ⟨_, vs, 0, rfl, Fz.put_self _ _ _, RelL.mono le _ _ r₁⟩, h₁.2⟩
theorem EW_ListF {elts : List Expr} {pos : Pos} (h : LW c σ pos elts (fun l σ₁ => l.length ≤ 1000 ∧ Q (.lst l) σ₁) E) : EW c σ (eval (.List elts pos) c.env) Q E := fun F s R => by
  refine wpAny_List (wpAny_mono (h F s R) (fun vs s₁ zz => zz.elim fun F₁ σ₁ l l₁ R₁ r₁ h₁ => ⟨?_, ?_⟩) fun _ _ e => e)
  · rw [r₁.length, sizeLine_eq]; have := h₁.1; omega
  · obtain ⟨le, R₂⟩ := R₁.freeze ⟨.type "list", none, .seq vs.toArray 0, #[]⟩ rfl s₁.drawn s₁.toks
    exact ⟨_, σ₁, .lst l, l₁.trans le, R₂, ⟨_, vs, 0, rfl, Fz.put_self _ _ _, RelL.mono le _ _ r₁⟩, h₁.2⟩
theorem EW_ListH {elts : List Expr} {pos : Pos} (h : LW c σ pos elts (fun l σ₁ => l.length ≤ 1000 ∧ ∀ a, Q (.val (.ref a)) ⟨σ₁.loc, (a, .lst l) :: σ₁.H⟩) E) : EW c σ (eval (.List elts pos) c.env) Q E := fun F s R => by
  refine wpAny_List (wpAny_mono (h F s R) (fun vs s₁ zz => zz.elim fun F₁ σ₁ l l₁ R₁ r₁ h₁ => ⟨?_, ?_⟩) fun _ _ e => e)
  · rw [r₁.length, sizeLine_eq]; have := h₁.1; omega
  · exact ⟨F₁, _, .val (.ref s₁.heap.objs.size), l₁, R₁.alloc (.lst l) ⟨.type "list", none, .seq vs.toArray 0, #[]⟩ ⟨vs, 0, rfl, r₁⟩ rfl s₁.drawn s₁.toks, rfl, h₁.2 _⟩
theorem TW_Compare {l r : Expr} {op : CmpOp} {pos : Pos} {whole : Sem Value} {Q : Bool → St → Prop} (h : EW c σ (eval l c.env) (fun a σ₁ => EW c σ₁ (eval r c.env) (fun b σ₂ => BW c σ₂ a b (compareOp op) (fun x σ₃ => TU c σ₃ x Q E) E) E) E)
    (hm : behindInMarks op r = false) : TW c σ (isTrue (.Compare l [op] [r] pos) c.env whole) Q E := fun F s R => by
  refine wpAny_isTrue_Compare1 ?_ hm
  refine wpAny_mono (h F s R) (fun x s₁ zz => zz.elim fun F₁ σ₁ a l₁ R₁ r₁ h₁ => ?_) fun _ _ e => e
  refine wpAny_mono (h₁ F₁ s₁ R₁) (fun y s₂ zz => zz.elim fun F₂ σ₂ b l₂ R₂ r₂ h₂ => ?_) fun _ _ e => e.mono l₁
  refine wpAny_mono (h₂ F₂ s₂ x y R₂ (Rel.mono l₂ _ _ r₁) r₂) (fun z s₃ zz => zz.elim fun F₃ σ₃ d l₃ R₃ r₃ h₃ => ?_) fun _ _ e => e.mono (l₁.trans l₂)
  exact wkB ((l₁.trans l₂).trans l₃) (h₃ F₃ s₃ z R₃ r₃)
theorem TW_value {e : Expr} {Q : Bool → St → Prop} (h : EW c σ (eval e c.env) (fun a σ₁ => TU c σ₁ a Q E) E)
    (he : isTrue e c.env (eval e c.env) = (do let v ← eval e c.env; standAt e.pos; holding [v] (truthy v))) : TW c σ (isTrue e c.env (eval e c.env)) Q E := fun F s R =>
  wpAny_isTrue_value (wpAny_mono (h F s R) (fun x s₁ zz => zz.elim fun F₁ σ₁ a l₁ R₁ r₁ h₁ => wkB l₁ (h₁ F₁ s₁ x R₁ r₁)) fun _ _ e => e) he
theorem TW_Not {x : Expr} {pos : Pos} {whole : Sem Value} {Q : Bool → St → Prop} (h : TW c σ (isTrue x c.env (eval x c.env)) (fun b σ₁ => Q (!b) σ₁) E) : TW c σ (isTrue (.UnaryOp .Not x pos) c.env whole) Q E := fun F s R =>
  wpAny_isTrue_Not (wpAny_mono (h F s R) (fun b s₁ zz => zz.elim fun F₁ σ₁ l₁ R₁ h₁ => ⟨F₁, σ₁, l₁, R₁, h₁⟩) fun _ _ e => e)
theorem TW_BoolOp {op : BoolOp} {values : List Expr} {pos : Pos} {whole : Sem Value} {Q : Bool → St → Prop} (h : TW c σ (allTrue op values c.env) Q E) : TW c σ (isTrue (.BoolOp op values pos) c.env whole) Q E := fun F s R => wpAny_isTrue_BoolOp (h F s R)
theorem TW_and_nil {Q : Bool → St → Prop} (q : Q true σ) : TW c σ (allTrue .And [] c.env) Q E := fun _ _ R => wpAny_allTrue_And_nil (handB R q)
theorem TW_or_nil {Q : Bool → St → Prop} (q : Q false σ) : TW c σ (allTrue .Or [] c.env) Q E := fun _ _ R => wpAny_allTrue_Or_nil (handB R q)
theorem TW_and {x : Expr} {rest : List Expr} {Q : Bool → St → Prop} (h : TW c σ (isTrue x c.env (eval x c.env)) (fun b σ₁ => (b = true → TW c σ₁ (allTrue .And rest c.env) Q E) ∧ (b = false → Q false σ₁)) E) : TW c σ (allTrue .And (x :: rest) c.env) Q E := fun F s R =>
  wpAny_allTrue_And_cons (wpAny_mono (h F s R) (fun b s₁ zz => zz.elim fun F₁ σ₁ l₁ R₁ h₁ => by
    cases b with
    | true => exact wkB l₁ (h₁.1 rfl F₁ s₁ R₁)
    | false => exact ⟨F₁, σ₁, l₁, R₁, h₁.2 rfl⟩) fun _ _ e => e)
theorem TW_or {x : Expr} {rest : List Expr} {Q : Bool → St → Prop} (h : TW c σ (isTrue x c.env (eval x c.env)) (fun b σ₁ => (b = true → Q true σ₁) ∧ (b = false → TW c σ₁ (allTrue .Or rest c.env) Q E)) E) : TW c σ (allTrue .Or (x :: rest) c.env) Q E := fun F s R =>
  wpAny_allTrue_Or_cons (wpAny_mono (h F s R) (fun b s₁ zz => zz.elim fun F₁ σ₁ l₁ R₁ h₁ => by
    cases b with
    | true => exact ⟨F₁, σ₁, l₁, R₁, h₁.1 rfl⟩
    | false => exact wkB l₁ (h₁.2 rfl F₁ s₁ R₁)) fun _ _ e => e)
theorem TU_bool {b : Bool} {Q : Bool → St → Prop} (q : Q b σ) : TU c σ (.bool b) Q E := fun F s v R r => by
  cases r
  exact wpAny_truthy_bool (handB R q)
theorem TU_none {Q : Bool → St → Prop} (q : Q false σ) : TU c σ .none Q E := fun F s v R r => by
  cases r
  exact wpAny_pure (handB R q)
theorem EW_And {x y : Expr} {pos : Pos} (h : EW c σ (eval x c.env) (fun a σ₁ => TU c σ₁ a (fun b σ₂ => (b = true → EW c σ₂ (eval y c.env) Q E) ∧ (b = false → Q a σ₂)) E) E) : EW c σ (eval (.BoolOp .And [x, y] pos) c.env) Q E := fun F s R => by
  refine wpAny_And2 (wpAny_mono (h F s R) (fun v s₁ zz => zz.elim fun F₁ σ₁ a l₁ R₁ r₁ h₁ => ?_) fun _ _ e => e)
  refine wpAny_mono (h₁ F₁ s₁ v R₁ r₁) (fun b s₂ zz => zz.elim fun F₂ σ₂ l₂ R₂ h₂ => ?_) fun _ _ e => e.mono l₁
  cases b with
  | true => exact wkV (l₁.trans l₂) (h₂.1 rfl F₂ s₂ R₂)
  | false => exact ⟨F₂, σ₂, a, l₁.trans l₂, R₂, Rel.mono l₂ _ _ r₁, h₂.2 rfl⟩
theorem EW_Or {x y : Expr} {pos : Pos} (h : EW c σ (eval x c.env) (fun a σ₁ => TU c σ₁ a (fun b σ₂ => (b = true → Q a σ₂) ∧ (b = false → EW c σ₂ (eval y c.env) Q E)) E) E) : EW c σ (eval (.BoolOp .Or [x, y] pos) c.env) Q E := fun F s R => by
  refine wpAny_Or2 (wpAny_mono (h F s R) (fun v s₁ zz => zz.elim fun F₁ σ₁ a l₁ R₁ r₁ h₁ => ?_) fun _ _ e => e)
  refine wpAny_mono (h₁ F₁ s₁ v R₁ r₁) (fun b s₂ zz => zz.elim fun F₂ σ₂ l₂ R₂ h₂ => ?_) fun _ _ e => e.mono l₁
  cases b with
  | true => exact ⟨F₂, σ₂, a, l₁.trans l₂, R₂, Rel.mono l₂ _ _ r₁, h₂.1 rfl⟩
  | false => exact wkV (l₁.trans l₂) (h₂.2 rfl F₂ s₂ R₂)
end Mine
namespace Mine
variable {w : World} {B : Heap} {c : Ctx w B} {σ : St} {Q : QA} {E : QE}
section
variable {i j : Int}
theorem BW_add (q : Q (.int (i + j)) σ) : BW c σ (.int i) (.int j) (binaryOp .Add) Q E := fun _ _ _ _ R ⟨_, e⟩ ⟨_, e'⟩ => by subst e; subst e'; with_reducible exact add_int (handT R rInt q _ _)
theorem BW_sub (q : Q (.int (i - j)) σ) : BW c σ (.int i) (.int j) (binaryOp .Sub) Q E := fun _ _ _ _ R ⟨_, e⟩ ⟨_, e'⟩ => by subst e; subst e'; with_reducible exact sub_int (handT R rInt q _ _)
theorem BW_mul (h : -(2 ^ 64) < j ∧ j < 2 ^ 64) (q : Q (.int (i * j)) σ) : BW c σ (.int i) (.int j) (binaryOp .Mult) Q E := fun _ _ _ _ R ⟨_, e⟩ ⟨_, e'⟩ => by subst e; subst e'; with_reducible exact mul_int (handT R rInt q _ _) (.of_right (intBits_le_64 h.1 h.2))
theorem noPylong {x y : Int} (h : -(2 ^ 64) < y ∧ y < 2 ^ 64) : Builtin.divisionGoesByPylong x y = false := by
  unfold Builtin.divisionGoesByPylong
  have : ¬ ((if y == 0 then 0 else y.natAbs.log2 / 30 + 1) > 300) := by
    split
    · omega
    · have hn : y.natAbs < 2 ^ 64 := by omega
      have : y.natAbs.log2 < 64 := by
        rcases Nat.eq_zero_or_pos y.natAbs with h0 | hp
        · rw [h0]; decide
        · exact (Nat.log2_lt (by omega)).mpr hn
      omega
  simp only [decide_eq_false this, Bool.false_and]
theorem BW_div (h : -(2 ^ 64) < j ∧ j < 2 ^ 64 ∧ j ≠ 0) (q : Q (.int (Int.fdiv i j)) σ) : BW c σ (.int i) (.int j) (binaryOp .FloorDiv) Q E := fun _ _ _ _ R ⟨_, e⟩ ⟨_, e'⟩ => by subst e; subst e'; with_reducible exact floordiv_int h.2.2 (handT R rInt q _ _) (.inl (noPylong ⟨h.1, h.2.1⟩))
theorem BW_mod (h : j ≠ 0) (q : Q (.int (Int.fmod i j)) σ) : BW c σ (.int i) (.int j) (binaryOp .Mod) Q E := fun _ _ _ _ R ⟨_, e⟩ ⟨_, e'⟩ => by subst e; subst e'; with_reducible exact mod_int' h (handT R rInt q _ _)
theorem BW_pow (h : 0 ≤ j ∧ j ≤ 1000 ∧ i.natAbs < 2 ^ 64) (q : Q (.int (i ^ j.toNat)) σ) : BW c σ (.int i) (.int j) (binaryOp .Pow) Q E := fun _ _ _ _ R ⟨_, e⟩ ⟨_, e'⟩ => by subst e; subst e'; with_reducible exact pow_int_small h.1 (by omega) h.2.2 (handT R rInt q _ _)
theorem UW_neg (q : Q (.int (-i)) σ) : UW c σ (.int i) (unaryOp .USub) Q E := fun _ _ _ R ⟨_, e⟩ => by subst e; with_reducible exact neg_int (handT R rInt q _ _)
theorem UW_not {a : AV} (h : TU c σ a (fun b σ' => Q (.bool (!b)) σ') E) : UW c σ a (unaryOp .Not) Q E := fun F s v R r => not_value (wpAny_mono (h F s v R r) (fun b s' zz => zz.elim fun F' σ' l R' q => ⟨F', σ', _, l, R', rBool, q⟩) fun _ _ e => e)
theorem BW_eqI (q : Q (.bool (i == j)) σ) : BW c σ (.int i) (.int j) (compareOp .Eq) Q E := fun _ _ _ _ R ⟨_, e⟩ ⟨_, e'⟩ => by subst e; subst e'; with_reducible exact eq_int (hand R rBool q)
theorem BW_neI (q : Q (.bool (i != j)) σ) : BW c σ (.int i) (.int j) (compareOp .NotEq) Q E := fun _ _ _ _ R ⟨_, e⟩ ⟨_, e'⟩ => by subst e; subst e'; with_reducible exact P.ne_int (hand R rBool q)
theorem BW_lt (q : Q (.bool (decide (i < j))) σ) : BW c σ (.int i) (.int j) (compareOp .Lt) Q E := fun _ _ _ _ R ⟨_, e⟩ ⟨_, e'⟩ => by subst e; subst e'; with_reducible exact P.lt_int (hand R rBool q)
theorem BW_le (q : Q (.bool (decide (i ≤ j))) σ) : BW c σ (.int i) (.int j) (compareOp .LtE) Q E := fun _ _ _ _ R ⟨_, e⟩ ⟨_, e'⟩ => by subst e; subst e'; with_reducible exact P.le_int (hand R rBool q)
theorem BW_gt (q : Q (.bool (decide (i > j))) σ) : BW c σ (.int i) (.int j) (compareOp .Gt) Q E := fun _ _ _ _ R ⟨_, e⟩ ⟨_, e'⟩ => by subst e; subst e'; with_reducible exact P.gt_int (hand R rBool q)
theorem BW_ge (q : Q (.bool (decide (i ≥ j))) σ) : BW c σ (.int i) (.int j) (compareOp .GtE) Q E := fun _ _ _ _ R ⟨_, e⟩ ⟨_, e'⟩ => by subst e; subst e'; with_reducible exact P.ge_int (hand R rBool q)
end
section
variable {x y : Str}
theorem BW_addS (h : x.length + y.length ≤ 100000) (q : Q (.str (x ++ y)) σ) : BW c σ (.str x) (.str y) (binaryOp .Add) Q E := fun _ _ _ _ R zq5 zq6 => by
  obtain ⟨_, e⟩ := zq5
  obtain ⟨_, e'⟩ := zq6
  subst e; subst e'; with_reducible exact add_str (fun _ _ => handT R rStr q _ _) (by rw [sizeLine_eq]; omega)
theorem BW_eqS (q : Q (.bool (x == y)) σ) : BW c σ (.str x) (.str y) (compareOp .Eq) Q E := fun _ _ _ _ R ⟨_, e⟩ ⟨_, e'⟩ => by subst e; subst e'; with_reducible exact eq_str (hand R rBool q)
theorem BW_neS (q : Q (.bool (x != y)) σ) : BW c σ (.str x) (.str y) (compareOp .NotEq) Q E := fun _ _ _ _ R ⟨_, e⟩ ⟨_, e'⟩ => by subst e; subst e'; with_reducible exact ne_str (hand R rBool q)
theorem BW_inS (q : Q (.bool (!List.isEmpty (Builtin.Str.occurrences y x 0 (Str.length y) 1))) σ) : BW c σ (.str x) (.str y) (compareOp .In) Q E := fun _ _ _ _ R ⟨_, e⟩ ⟨_, e'⟩ => by subst e; subst e'; with_reducible exact in_str (hand R rBool q)
end
mutual
noncomputable def AV.py : AV → PyData
  | .none => .none | .bool b => .bool b | .int i => .int i | .str s => .str s | .tup l => .tuple (pyL l) | .lst l => .list (pyL l) | .val _ => .none | .rng _ => .none
noncomputable def pyL : List AV → List PyData
  | [] => [] | a :: l => a.py :: pyL l
end
mutual
noncomputable def AV.dat : AV → Bool
  | .val _ => false | .rng _ => false | .tup l => datL l | .lst l => datL l | _ => true
noncomputable def datL : List AV → Bool
  | [] => true | a :: l => a.dat && datL l
end
mutual
theorem Rel.reads {F : Fz} {h : Heap} (k : ∀ a o, F a = some o → h.get? a = some o) : ∀ (a : AV) (v : Value), a.dat = true → Rel F a v → ∃ as, Reads h v a.py as
  | .none, _, _, e => by cases e; exact ⟨_, .none⟩
  | .bool _, _, _, e => by cases e; exact ⟨_, .bool _⟩
  | .int _, _, _, ⟨_, e⟩ => by cases e; exact ⟨_, .int _ _⟩
  | .str _, _, _, ⟨_, e⟩ => by cases e; exact ⟨_, .str _ _⟩
  | .val _, _, d, _ => by cases d
  | .rng _, _, d, _ => by cases d
  | .tup l, _, d, ⟨a, vs, n, e, f, r⟩ => by
    obtain ⟨as, q⟩ := RelL.reads k l vs (by simpa only [AV.dat] using d) r
    subst e
    exact ⟨_, .tuple (k _ _ f) rfl rfl q⟩
  | .lst l, _, d, ⟨a, vs, n, e, f, r⟩ => by
    obtain ⟨as, q⟩ := RelL.reads k l vs (by simpa only [AV.dat] using d) r
    subst e
    exact ⟨_, .list (k _ _ f) rfl rfl q⟩
theorem RelL.reads {F : Fz} {h : Heap} (k : ∀ a o, F a = some o → h.get? a = some o) : ∀ (l : List AV) (vs : List Value), datL l = true → RelL F l vs → ∃ as, ReadsAll h vs (pyL l) as
  | [], _, _, e => by cases e; exact ⟨_, .nil⟩
  | a :: l, _, d, ⟨v, vs', e, r, s⟩ => by
    have d' : a.dat = true ∧ datL l = true := by simpa only [datL, Bool.and_eq_true] using d
    obtain ⟨as, q⟩ := Rel.reads k a v d'.1 r
    obtain ⟨bs, q'⟩ := RelL.reads k l vs' d'.2 s
    subst e
    exact ⟨_, .cons q q'⟩
end
theorem BW_eqD {a b : AV} (ha : a.dat = true) (hb : b.dat = true) (sa : SeqAt.shaped a.py = true) (sb : SeqAt.shaped b.py = true) (hk : 8 ≤ c.k) (q : Q (.bool (PyData.eqv a.py b.py)) σ) : BW c σ a b (compareOp .Eq) Q E := fun F s u v R ra rb => by
  obtain ⟨as, x⟩ := Rel.reads R.cr.fz a u ha ra
  obtain ⟨bs, y⟩ := Rel.reads R.cr.fz b v hb rb
  have := R.ok.units
  exact SeqAt.compareEq_shaped x y sa sb (by omega) (hand R rBool q)
theorem BW_neD {a b : AV} (ha : a.dat = true) (hb : b.dat = true) (sa : SeqAt.shaped a.py = true) (sb : SeqAt.shaped b.py = true) (hk : 8 ≤ c.k) (q : Q (.bool (!PyData.eqv a.py b.py)) σ) : BW c σ a b (compareOp .NotEq) Q E := fun F s u v R ra rb => by
  obtain ⟨as, x⟩ := Rel.reads R.cr.fz a u ha ra
  obtain ⟨bs, y⟩ := Rel.reads R.cr.fz b v hb rb
  have := R.ok.units
  exact SeqAt.compareNe_shaped x y sa sb (by omega) (hand R rBool q)
theorem BW_isNone {a : AV} {v : Value} (hv : ∀ F u, Rel F a u → (u == .none) = (v == .none)) (q : Q (.bool (v == .none)) σ) : BW c σ a .none (compareOp .Is) Q E := fun F s u z R ra rb => by
  cases rb
  exact is_none (hand R (by rw [hv F u ra]; exact rBool) q)
theorem BW_isNoneN (q : Q (.bool true) σ) : BW c σ .none .none (compareOp .Is) Q E := BW_isNone (v := .none) (fun F u e => by cases e; rfl) (by exact q)
end Mine
namespace Mine
variable {w : World} {B : Heap}
theorem FrOk.fun {F : Fz} {H : HS} {h : Heap} : ∀ {fs : List Env}, FrOk B F H h fs → h.FunFrames {} fs
  | [], _ => trivial
  | env :: r, ⟨a, ⟨L, o, es, n, e, g, d, f, nk⟩, t⟩ => ⟨a, ⟨L, o, e, by simp [Heap.get?], g, fun vs q => by rw [d] at q; cases q⟩, FrOk.fun t⟩
inductive FrM (F : Fz) (H : HS) (h : Heap) (b : Addr) : Prop
  | mk (o : Obj) (es : Array DictEntry) (n : Nat) (g : h.get? b = some o) (d : o.data = .dict es n) (f : F b = none) (k : b ∉ keys H)
theorem FrOk.mem {F : Fz} {H : HS} {h : Heap} : ∀ {fs : List Env}, FrOk B F H h fs → ∀ b ∈ fs.filterMap (·.frame), FrM F H h b
  | [], _, b, hb => by cases hb
  | env :: r, ⟨a, ⟨L, o, es, n, e, g, d, f, nk⟩, t⟩, b, hb => by
    rw [List.filterMap_cons, e] at hb
    rcases List.mem_cons.mp hb with rfl | hb
    · exact ⟨o, es, n, g, d, f, nk⟩
    · exact FrOk.mem t b hb
inductive NotedX (ae : AE) (h h' : Heap) : Prop
  | mk (vs : Array Value) (sl : Array (Option Value)) (T : Addr) (ts : Array Value) (oT : Obj) (a1 : h'.get? ae.e = some ⟨.ref ae.C, some ae.dx, .fields vs, sl⟩) (a2 : vs[1]? = some (.ref T)) (a3 : T ≠ ae.e) (a4 : h.get? T = none) (a5 : h'.get? T = some oT) (a6 : oT.data = .fields ts) (a7 : ts[3]? = some .none)
structure Noted (F : Fz) (H : HS) (ae : AE) (bad : Addr → Prop) (fs : List Env) (h h' : Heap) : Prop where
  same : ∀ a o, h.get? a = some o → a ≠ ae.e → (F a ≠ none ∨ a ∈ keys H ∨ bad a) → (h'.get? a = some o ∨ (a ∈ fs.filterMap (·.frame) ∧ ∃ sl, h'.get? a = some { o with slots := sl }))
  ever : ∀ a o, h.get? a = some o → ∃ o', h'.get? a = some o'
  size : h.objs.size ≤ h'.objs.size
  exc : NotedX ae h h'
  fr : ∀ b o, b ∈ fs.filterMap (·.frame) → h.get? b = some o → ∃ sl, h'.get? b = some { o with slots := sl }
theorem note {A : Around} {M : Model} {E : Value → Shared → Prop} {env : Env} {fs : List Env} {L : Addr} {F : Fz} {H : HS} {ae : AE} {bad : Addr → Prop} {s : Shared} {Q : Unit → Shared → Prop}
    (hfr : A.frames = some (env :: fs)) (hf : env.frame = some L) (fo : FrOk B F H s.heap (env :: fs)) (X : ExcAt F H ae bad s.heap) (hbad : ∀ a, bad a → (s.heap.get? a).isSome = true)
    (h : ∀ h', Noted F H ae bad (env :: fs) s.heap h' → Q () { s with heap := h' }) :
    wpAny M A (noteFrame (.ref ae.e) env) (fun _ s₁ => wpAny M A (setFlight (.ref ae.e) none) Q E s₁) E s := by
  obtain ⟨⟨vs, sl, he, h1⟩, xf, xk, xb⟩ := X
  have hfun := fo.fun
  have hmem := fo.mem
  -- the tail, from a heap k that differs from the first at the elder entry alone
  have tail : ∀ (k : Heap) (hadNext : Bool) (head : Value), k.objs.size = s.heap.objs.size → (∀ b o, s.heap.get? b = some o → (F b ≠ none ∨ b ∈ keys H ∨ bad b ∨ b ∈ (env :: fs).filterMap (·.frame) ∨ b = ae.e) → k.get? b = some o) → (∀ b o, s.heap.get? b = some o → ∃ o', k.get? b = some o') →
      wpAny M A (do let a ← frameOf env; let pl ← entryPlaceOf L hadNext; let b ← EntryCells.newEntry head a .none (rawInt L) .none pl; setField (.ref ae.e) 1 b) (fun _ s' => wpAny M A (setFlight (.ref ae.e) none) Q E s') E { s with heap := k } := by
    intro k hadNext head ksz kk kever
    have hek := kk _ _ he (.inr (.inr (.inr (.inr rfl))))
    have hvs : 1 < vs.size := by
      rcases h1 with q | ⟨_, _, _, q, _⟩ <;> exact (Array.getElem?_eq_some_iff.mp q).1
    have kfun : k.FunFrames {} (env :: fs) := by
      have : ∀ l : List Env, (∀ x ∈ l, x ∈ env :: fs) → s.heap.FunFrames {} l → k.FunFrames {} l := by
        intro l
        induction l with
        | nil => intro _ _; trivial
        | cons x r ih =>
          rintro hx ⟨y1, ⟨L', o, e, n, g, d⟩, t⟩
          exact ⟨y1, ⟨L', o, e, n, kk _ _ g (.inr (.inr (.inr (.inl (List.mem_filterMap.mpr ⟨x, hx x (.head _), e⟩))))), d⟩, ih (fun z hz => hx z (.tail _ hz)) t⟩
      exact this _ (fun _ hx => hx) hfun
    refine wpAny_bind (wpAny_frameOf_fun (s := { s with heap := k }) hfr kfun hf fun h₁ hs₁ => ?_)
    refine wpAny_bind (wpAny_entryPlaceOf fun pl hpl => ?_)
    unfold EntryCells.newEntry newFields
    refine wpAny_bind (wpAny_newObj_type ?_ (hpl.sizeOk5 _ _ _ _ _))
    have hene : ae.e ∉ (env :: fs).filterMap (·.frame) := fun hm => by
      obtain ⟨o, es, n, g, d, _⟩ := hmem _ hm
      rw [he] at g; cases g; cases d
    have he₁ : h₁.get? ae.e = some ⟨.ref ae.C, some ae.dx, .fields vs, sl⟩ := (hs₁.2.1 _ hene).trans hek
    generalize hob : ({ cls := Value.type "traceback", dict := none, data := Data.fields ([head, .ref L, .none, rawInt L, .none] ++ (if pl.isEmpty then List.replicate 6 Value.none else pl)).toArray, slots := #[] } : Obj) = ob
    have he₂ := Heap.get?_push_of_some (h := h₁) ob he₁
    refine wpAny_setField he₂ rfl hvs ?_
    have hTe : h₁.objs.size ≠ ae.e := Nat.ne_of_gt (Heap.lt_size he₁)
    have he₃ := Heap.get?_update_self (Obj.mapFields (·.setIfInBounds 1 (Value.ref h₁.objs.size))) he₂ rfl
    have obf : ob.isFreed = false := by rw [← hob]; rfl
    have hT₃ : ((h₁.push ob).update ae.e (Obj.mapFields (·.setIfInBounds 1 (Value.ref h₁.objs.size)))).get? h₁.objs.size = some ob := (Heap.get?_update_other _ _ (Ne.symm hTe)).trans (Heap.get?_push_size h₁ obf)
    unfold setFlight
    refine wpAny_bind (wpAny_field he₃ rfl (x := .ref h₁.objs.size) (by simp [hvs]) ?_)
    rw [if_pos (show (Value.ref h₁.objs.size != Value.none) = true from by simp)]
    have obd : ob.data = .fields ([head, .ref L, .none, rawInt L, .none] ++ (if pl.isEmpty then List.replicate 6 Value.none else pl)).toArray := by rw [← hob]
    refine wpAny_setField hT₃ obd (by simp only [List.size_toArray, List.length_append, List.length_cons, List.length_nil] <;> omega) (h _ ?_)
    have sz1 : h₁.objs.size = s.heap.objs.size := hs₁.1.trans ksz
    have fin : ∀ b o, b ≠ ae.e → h₁.get? b = some o →
        (((h₁.push ob).update ae.e (Obj.mapFields (·.setIfInBounds 1 (Value.ref h₁.objs.size)))).update h₁.objs.size (Obj.mapFields (·.setIfInBounds 3 ((none : Option Addr).elim Value.none fun f => rawInt f)))).get? b = some o := fun b o hbe hb => by
      have hbT : h₁.objs.size ≠ b := Nat.ne_of_gt (Heap.lt_size hb)
      rw [Heap.get?_update_other _ _ hbT, Heap.get?_update_other _ _ (Ne.symm hbe)]
      exact Heap.get?_push_of_some _ hb
    refine ⟨fun a o e ne hx => ?_, fun a o e => ?_, ?_, ?_, fun b o hb e => ?_⟩
    · by_cases hm : a ∈ (env :: fs).filterMap (·.frame)
      · obtain ⟨sl', e'⟩ := hs₁.2.2 a o (kk a o e (by rcases hx with x | x | x <;> simp [x]))
        exact .inr ⟨hm, sl', fin a _ ne e'⟩
      · exact .inl (fin a o ne ((hs₁.2.1 a hm).trans (kk a o e (by rcases hx with x | x | x <;> simp [x]))))
    · by_cases ne : a = ae.e
      · subst ne
        exact ⟨_, (Heap.get?_update_other _ _ hTe).trans he₃⟩
      · obtain ⟨o', e'⟩ := kever a o e
        obtain ⟨sl', e''⟩ := hs₁.2.2 a o' e'
        exact ⟨_, fin a _ ne e''⟩
    · simp only [Heap.size_after_update, Heap.size_push, sz1]; exact Nat.le_succ _
    · exact ⟨vs.setIfInBounds 1 (.ref h₁.objs.size), sl, h₁.objs.size, _, _, (Heap.get?_update_other _ _ hTe).trans he₃, by simp [hvs], hTe, by rw [sz1]; exact get_size _, Heap.get?_update_self _ hT₃ (by rw [← hob]; rfl), by rw [← hob]; rfl, by first | (simp; done) | (rcases hpl with rfl | ⟨_, _, _, _, _, _, _, rfl⟩ <;> simp)⟩
    · obtain ⟨o2, es, n, g, d, _⟩ := hmem b hb
      have ne : b ≠ ae.e := fun z => hene (z ▸ hb)
      obtain ⟨sl', e'⟩ := hs₁.2.2 b o (kk b o e (.inr (.inr (.inr (.inl hb)))))
      exact ⟨sl', fin b _ ne e'⟩
  unfold noteFrame
  simp only [hf]
  rcases h1 with h1 | ⟨T, ts, oT, h1, hTe, hT, hdT, h3, fT, nT, bT⟩
  · refine wpAny_bind (wpAny_field he rfl h1 ?_)
    rw [if_neg (by decide)]
    exact tail s.heap _ _ rfl (fun b o e _ => e) fun b o e => ⟨o, e⟩
  · refine wpAny_bind (wpAny_field he rfl h1 ?_)
    rw [if_pos (show (Value.ref T != Value.none) = true from by simp)]
    refine wpAny_bind (wpAny_field hT hdT h3 ?_)
    rw [if_neg (show ¬ ((Value.none == rawInt L) = true) from by simp [rawInt])]
    refine wpAny_bind (wpAny_setField hT hdT (Array.getElem?_eq_some_iff.mp h3).1 ?_)
    have other : ∀ b, b ≠ T → (s.heap.update T (Obj.mapFields (·.setIfInBounds 3 Value.none))).get? b = s.heap.get? b := fun b hb => Heap.get?_update_other _ _ (Ne.symm hb)
    refine tail _ _ _ (Heap.size_after_update ..) (fun b o e hx => (other b fun z => ?_).trans e) fun b o e => ?_
    · subst z
      rcases hx with x | x | x | x | x
      · exact x fT
      · exact nT x
      · exact bT x
      · obtain ⟨o2, es, n, g, d, _⟩ := hmem _ x
        rw [hT] at g; cases g; rw [hdT] at d; cases d
      · exact hTe x
    · by_cases z : b = T
      · subst z
        exact ⟨_, Heap.get?_update_self _ hT (by obtain ⟨c, d, dt, sl⟩ := oT; cases hdT; rfl)⟩
      · exact ⟨o, (other b z).trans e⟩
end Mine
namespace Mine
variable {w : World} {B : Heap}
structure CallPre (A : Around) (fs : List Env) (k : Nat) : Prop where
  frames : A.frames = some fs
  depth : A.depth + k < recursionLimit
  units : A.units + 8 * k + 8 < cLine
  handled : A.handled = none
inductive RetC (w : World) (B : Heap) (F : Fz) (H : HS) (fs : List Env) (os : OsState) (h : Heap) (Q : AV → HS → Prop) (v : Value) (s' : Shared) : Prop
  | mk (F' : Fz) (H' : HS) (a : AV) (C : CRep w B F' H' fs os s') (P : CPres F H h F' H' s'.heap) (r : Rel F' a v) (q : Q a H')
inductive ErrC (w : World) (B : Heap) (F : Fz) (H : HS) (fs : List Env) (os : OsState) (h : Heap) (E : AE → HS → Prop) (e : Value) (s' : Shared) : Prop
  | mk (F' : Fz) (H' : HS) (ae : AE) (C : CRep w B F' H' fs os s') (P : CPres F H h F' H' s'.heap) (x : ExcOk F' H' [] [] h ae e s'.heap) (q : E ae H')
noncomputable def PostC (w : World) (B : Heap) (F : Fz) (H : HS) (fs : List Env) (os : OsState) (h : Heap) (Q : AV → HS → Prop) (E : AE → HS → Prop) : Result → Shared → Prop := fun r s' => match r with
  | .ok (.ret v) => RetC w B F H fs os h Q v s'
  | .ok _ => False
  | .error e => ErrC w B F H fs os h E e s'
noncomputable def CW (w : World) (B : Heap) (k : Nat) (H : HS) (f : Value) (l : List AV) (Q : AV → HS → Prop) (E : AE → HS → Prop) : Prop :=
  ∀ A fs os F s vs, Wd w B → CallPre A fs k → CRep w B F H fs os s → RelL F l vs → codeAny (MW w) A (.call f ⟨vs, []⟩) (PostC w B F H fs os s.heap Q E) s
theorem CallPre.le {A : Around} {fs : List Env} {k j : Nat} (x : CallPre A fs k) (h : j ≤ k) : CallPre A fs j := ⟨x.frames, by have := x.depth; omega, by have := x.units; omega, x.handled⟩
theorem CW.le {k j : Nat} {H : HS} {f : Value} {l : List AV} {Q : AV → HS → Prop} {E : AE → HS → Prop} (x : CW w B j H f l Q E) (h : j ≤ k) : CW w B k H f l Q E := fun A fs os F s vs W P C r => x A fs os F s vs W (P.le h) C r
theorem PostC.mono {F : Fz} {H : HS} {fs : List Env} {os : OsState} {h : Heap} {Q Q' : AV → HS → Prop} {E E' : AE → HS → Prop} {r : Result} {s : Shared} (x : PostC w B F H fs os h Q E r s) (q : ∀ a H, Q a H → Q' a H) (e : ∀ a H, E a H → E' a H) : PostC w B F H fs os h Q' E' r s := by
  cases r with
  | error v => obtain ⟨F', H', a, x1, x2, x3, x4⟩ := x; exact ⟨F', H', a, x1, x2, x3, e _ _ x4⟩
  | ok f =>
    cases f with
    | ret v => obtain ⟨F', H', a, x1, x2, x3, x4⟩ := x; exact ⟨F', H', a, x1, x2, x3, q _ _ x4⟩
    | _ => exact x
theorem CW.mono {k : Nat} {H : HS} {f : Value} {l : List AV} {Q Q' : AV → HS → Prop} {E E' : AE → HS → Prop} (x : CW w B k H f l Q E) (q : ∀ a H, Q a H → Q' a H) (e : ∀ a H, E a H → E' a H) : CW w B k H f l Q' E' :=
  fun A fs os F s vs W P C r => codeAny_mono (x A fs os F s vs W P C r) fun _ _ y => y.mono q e
variable {c : Ctx w B} {σ : St} {Q : QA} {E : QE}
theorem VW_CW {f : Value} {l : List AV} (hh : c.A.handled = none) (h : CW w B c.k σ.H f l (fun a H' => Q a ⟨σ.loc, H'⟩) (fun ae H' => E ae ⟨σ.loc, H'⟩)) : VW c σ l (fun vs => call f vs []) Q E := fun F s vs R r => by
  refine wpAny_call (codeAny_mono (h c.A c.fs c.os F s vs R.ok.wd ⟨R.ok.frames, R.ok.depth, R.ok.units, hh⟩ R.cr r) fun r s' p => ?_)
  cases r with
  | ok f =>
    cases f with
    | ret v =>
      obtain ⟨F', H', a, C, P, ra, q⟩ := p
      exact ⟨F', _, a, P.le, R.step P C, ra, q⟩
    | _ => exact p
  | error e =>
    obtain ⟨F', H', ae, C, P, ⟨ev, X⟩, q⟩ := p
    refine ⟨F', _, ae, P.le, R.step P C, ⟨ev, X.weak fun a z => .inr (.inl ?_)⟩, q⟩
    rcases z with z | z | z
    · exact (R.own a z).2.2.2
    · obtain ⟨o, e⟩ := Option.isSome_iff_exists.mp z
      obtain ⟨o', e'⟩ := R.pres.ever a o e
      exact isSome_of e'
    · obtain ⟨p, hp, rfl⟩ := List.mem_map.mp z
      exact isSome_of (R.gd p hp).1
noncomputable def KeepOk (w : World) (B : Heap) (f : Value) : Prop := ∀ h : Heap, (∀ a o, B.get? a = some o → h.get? a = some o) → ∃ k, (k = Keeper.frame ∨ k = Keeper.machine ∨ k = Keeper.boundFrame) ∧ Looks (MW w) h (keeperOf f) k
theorem keep_K (W : Wd w B) {f : Value} (hk : keepIn (KF w.params) f = true) : KeepOk w B f := fun h k => keeps_K hk h (W.K.keeps k)
theorem keep_builtin {id : String} : KeepOk w B (.builtin id) := fun h _ => ⟨.machine, .inr (.inl rfl), Looks.now⟩
theorem keep_type {n : String} : KeepOk w B (.type n) := fun h _ => ⟨.machine, .inr (.inl rfl), Looks.now⟩
theorem callWith_W {F : Fz} {s : Shared} {pos : Pos} {f : Value} {first : List Value} {fl : List AV} {args : List Expr} (R : Rep c F σ s) (hk : KeepOk w B f) (rf : RelL F fl first)
    (h : LW c σ pos args (fun l σ' => VW c σ' (fl ++ l) (fun vs => call f vs []) Q E) E) (hp : ((backTo pos (starEach args c.env)).any (·.1) || ([] : List (Option Str × Sem Value)).any (·.1.isNone)) = false)
    (hs : ∀ e r, args = e :: r → starEach args c.env = (false, eval e c.env) :: starEach r c.env) :
    wpAny (MW w) c.A (callWith pos f first (backTo pos (starEach args c.env)) []) (Post c F Q) (PostE c F E) s := by
  refine callWith_of (P := fun h => ∀ a o, B.get? a = some o → h.get? a = some o) hp hk ?_
  have fin : ∀ (vs : List Value) (s' : Shared), PostL c F (fun l σ' => VW c σ' (fl ++ l) (fun vs => call f vs []) Q E) vs s' → (∀ a o, B.get? a = some o → s'.heap.get? a = some o) ∧ wpAny (MW w) c.A (call f (first ++ vs) []) (Post c F Q) (PostE c F E) s' := by
    rintro vs s' ⟨F', σ', l, le, R', r, q⟩
    exact ⟨fun a o e => base_stays R' e, wkV le (q F' s' (first ++ vs) R' (RelL.append (RelL.mono le _ _ rf) r))⟩
  cases args with
  | nil =>
    have h' := h F s R
    refine evalArgs_nil3 ?_
    have z : wpAny (MW w) c.A (pure [] : Sem (List Value)) (PostL c F (fun l σ' => VW c σ' (fl ++ l) (fun vs => call f vs []) Q E)) (PostE c F E) s := h'
    refine ⟨fun a o e => base_stays R e, ?_⟩
    intro Γ p hΓ
    exact (fin [] s (z Γ p hΓ)).2 Γ p hΓ
  | cons e r =>
    have h' := h F s R
    rw [hs e r rfl] at h' ⊢
    exact evalArgs_plain (wpAny_mono h' (fun vs s' p => fin vs s' p) fun _ _ e => e)
theorem EW_Call {x : Str} {np pos : Pos} {args : List Expr} {f : Value} (hk : Wd w B → KeepOk w B f) (m : (x, .gv (.val f)) ∈ σ.loc) (h : LW c σ pos args (fun l σ' => VW c σ' l (fun vs => call f vs []) Q E) E)
    (hp : ∀ env, ((backTo pos (starEach args env)).any (·.1) || ([] : List (Option Str × Sem Value)).any (·.1.isNone)) = false)
    (hs : ∀ e r, args = e :: r → starEach args c.env = (false, eval e c.env) :: starEach r c.env) : EW c σ (eval (.Call (.Name x np) args [] pos) c.env) Q E := fun F s R => by
  refine wpAny_Call_ofName (keywords := []) (wpAny_mono (EW_Name (Q := fun a σ' => a = .val f ∧ σ' = σ) (E := E) m rfl ⟨rfl, rfl⟩ F s R) (fun v s₁ zz => zz.elim fun F₁ σ₁ a l₁ R₁ r₁ h₁ => ?_) fun _ _ e => e)
  obtain ⟨rfl, rfl⟩ := h₁
  cases r₁
  exact wkV l₁ (callWith_W (fl := []) R₁ (hk R₁.ok.wd) rfl h (hp _) hs)
noncomputable def MB (c : Ctx w B) (σ : St) (a : AV) (name : Str) (f : Value) (fl : List AV) : Prop :=
  ∀ F s v (pl : Sem Bool) (Q : Value × List Value → Shared → Prop) (E : Value → Shared → Prop), Rep c F σ s → Rel F a v → (∀ first, RelL F fl first → Q (f, first) s) → wpAny (MW w) c.A (getMethod v name pl) Q E s
inductive MethW (c : Ctx w B) (σ : St) (pos : Pos) (args : List Expr) (a : AV) (name : Str) (Q : QA) (E : QE) : Prop
  | mk (f : Value) (fl : List AV) (k : Wd w B → KeepOk w B f) (m : MB c σ a name f fl) (l : LW c σ pos args (fun l σ₂ => VW c σ₂ (fl ++ l) (fun vs => call f vs []) Q E) E)
theorem EW_Meth {o : Expr} {name : Str} {apos pos : Pos} {args : List Expr} {pl : Sem Bool} (h : EW c σ (eval o c.env) (fun a σ₁ => MethW c σ₁ pos args a name Q E) E)
    (he : eval (.Call (.Attribute o name apos) args [] pos) c.env = (do
          let ov ← eval o c.env
          standAt (Pos.atName apos)
          let x ← holding [ov] (getMethod ov name pl)
          match x with
            | (f, first) => callWith pos f first (backTo pos (starEach args c.env)) []))
    (hp : ∀ env, ((backTo pos (starEach args env)).any (·.1) || ([] : List (Option Str × Sem Value)).any (·.1.isNone)) = false)
    (hs : ∀ e r, args = e :: r → starEach args c.env = (false, eval e c.env) :: starEach r c.env) :
    EW c σ (eval (.Call (.Attribute o name apos) args [] pos) c.env) Q E := fun F s R => by
  refine MethodCall_ (pl := pl) (wpAny_mono (h F s R) (fun v s₁ zz => zz.elim fun F₁ σ₁ a l₁ R₁ r₁ ⟨f, fl, hk, hm, h₁⟩ => ?_) fun _ _ e => e) he
  exact hm F₁ s₁ v pl _ _ R₁ r₁ fun first rf => wkV l₁ (callWith_W R₁ (hk R₁.ok.wd) rf h₁ (hp _) hs)
end Mine
namespace Mine
variable {w : World} {B : Heap} {c : Ctx w B} {σ : St} {Q : QF} {E : QE}
inductive PostU (c : Ctx w B) (F : Fz) (Q : St → Prop) (u : Unit) (s : Shared) : Prop
  | mk (F' : Fz) (σ : St) (le : F.le F') (R : Rep c F' σ s) (q : Q σ)
noncomputable def StW (c : Ctx w B) (σ : St) (a : AV) (f : Value → Sem Unit) (Q : St → Prop) (E : QE) : Prop := ∀ F s v, Rep c F σ s → Rel F a v → wpAny (MW w) c.A (f v) (PostU c F Q) (PostE c F E) s
theorem PostU.elim {F : Fz} {Q : St → Prop} {v : Unit} {s : Shared} {X : Prop} (h : PostU c F Q v s) (k : ∀ F' σ, F.le F' → Rep c F' σ s → Q σ → X) : X := by
  cases h; apply k <;> assumption
theorem PostU.mono {F G : Fz} {Q : St → Prop} {v : Unit} {s : Shared} (h : F.le G) : PostU c G Q v s → PostU c F Q v s
  | ⟨F', σ, l, R, q⟩ => ⟨F', σ, h.trans l, R, q⟩
theorem wkU {A : Around} {F G : Fz} {Q : St → Prop} {t : Sem Unit} {s : Shared} (h : F.le G) (x : wpAny (MW w) A t (PostU c G Q) (PostE c G E) s) : wpAny (MW w) A t (PostU c F Q) (PostE c F E) s := wpAny_mono x (fun _ _ y => y.mono h) fun _ _ y => y.mono h
noncomputable def Slot.isL : Slot → Bool | .un => true | .lv _ => true | _ => false
noncomputable def Slot.isC : Slot → Bool | .cu => true | .cv _ => true | _ => false
theorem ns_cls {h h' : Heap} {a : Addr} {m : Str → Option Value} (n : h'.Ns a m) : ∃ o es k, h'.get? a = some o ∧ o.data = .dict es k := let ⟨o, es, k, e, d, _⟩ := n; ⟨o, es, k, e, d⟩
theorem StW_loc {x : Str} {sl : Slot} {a : AV} {loc' : Loc} {Q : St → Prop} (u : LUpd x sl (.lv a) σ.loc loc') (hl : sl.isL = true) (q : Q ⟨loc', σ.H⟩) : StW c σ a (fun v => storeName c.env x v) Q E := fun F s v R r => by
  obtain ⟨m, n, l⟩ := R.loc
  have hk : c.env.kindOf x = some .local := by
    have := l _ u.mem
    cases sl with
    | un => exact this
    | lv b => exact this.1
    | _ => cases hl
  have nn : s.heap.Ns c.env.locals m := R.ok.locals ▸ n
  refine wpAny_storeName_local hk nn (fun h' hn hs => ⟨F, _, Fz.le.refl F, ?_, q⟩) (by rw [R.ok.kind]; rfl)
  rw [R.ok.locals] at hn hs
  refine R.own1 R.ok.ownL hs (fun o es k e d => let ⟨o', es', k', e', d'⟩ := ns_cls (h := s.heap) hn; ⟨o', es', k', e', d'⟩) (let ⟨o', es', k', e', d'⟩ := ns_cls (h := s.heap) hn; isSome_of e') (u.keys ▸ R.nd)
    (fun p hp => ?_) ⟨_, hn, fun p hp => ?_⟩ _ _
  · rcases u.back R.nd p hp with rfl | ⟨z, _⟩
    · exact (R.dbg (x, sl) u.mem : _)
    · exact R.dbg p z
  · rcases u.back R.nd p hp with rfl | ⟨z, ne⟩
    · exact ⟨hk, v, if_pos rfl, r⟩
    · have := l p z
      obtain ⟨y, sp⟩ := p
      cases sp with
      | un => exact this
      | lv b => obtain ⟨k, v', e, r'⟩ := this; exact ⟨k, v', by rw [← e]; exact if_neg ne, r'⟩
      | cu => obtain ⟨k, ca, v', e, ⟨o, e1, e2⟩⟩ := this; exact ⟨k, ca, v', e, ⟨o, (hs.2 _ (R.ok.cells _ _ e).2).trans e1, e2⟩⟩
      | cv b => obtain ⟨k, ca, v', e, ⟨o, e1, e2⟩, r'⟩ := this; exact ⟨k, ca, v', e, ⟨o, (hs.2 _ (R.ok.cells _ _ e).2).trans e1, e2⟩, r'⟩
      | gv b => exact this
theorem StW_cell {x : Str} {a : AV} {sl : Slot} {loc' : Loc} {Q : St → Prop} (hw : ∀ y a, c.env.cells.lookup y = some a → a ∈ c.own) (hk : ∀ F s, Rep c F σ s → c.env.kindOf x = some .cell) (u : LUpd x sl (.cv a) σ.loc loc') (hl : sl.isC = true) (q : Q ⟨loc', σ.H⟩) : StW c σ a (fun v => storeName c.env x v) Q E := fun F s v R r => by
  obtain ⟨m, n, l⟩ := R.loc
  have hk := hk F s R
  obtain ⟨ca, v₀, e, i⟩ : ∃ ca v₀, c.env.cells.lookup x = some ca ∧ s.heap.IsCell ca v₀ := by
    have := l _ u.mem
    cases sl with
    | cu => obtain ⟨_, ca, v, e, i⟩ := this; exact ⟨ca, v, e, i⟩
    | cv b => obtain ⟨_, ca, v, e, i, _⟩ := this; exact ⟨ca, _, e, i⟩
    | _ => cases hl
  have cl := R.ok.cells _ _ e
  refine wpAny_storeName_cell R.ok.kind hk e i fun h' hn hs => ⟨F, _, Fz.le.refl F, ?_, q⟩
  obtain ⟨o', eo, do'⟩ := hn
  refine R.own1 (hw _ _ e) hs (fun o es k e d => ?_) (isSome_of eo) (u.keys ▸ R.nd)
    (fun p hp => ?_) ⟨m, n.sameBut hs (Ne.symm cl.2), fun p hp => ?_⟩ _ _
  · obtain ⟨o2, e2, d2⟩ := i
    rw [e] at e2; cases e2; rw [d] at d2; cases d2
  · rcases u.back R.nd p hp with rfl | ⟨z, _⟩
    · exact (R.dbg (x, sl) u.mem : _)
    · exact R.dbg p z
  · rcases u.back R.nd p hp with rfl | ⟨z, ne⟩
    · exact ⟨.inl hk, ca, v, e, ⟨o', eo, do'⟩, r⟩
    · have := l p z
      obtain ⟨y, sp⟩ := p
      have other : ∀ ca', c.env.cells.lookup y = some ca' → ca' ≠ ca := fun ca' e' z => ne (R.ok.inj _ _ _ e' (z ▸ e))
      cases sp with
      | un => exact this
      | lv b => exact this
      | cu => obtain ⟨k, ca', v', e', ⟨o, e1, e2⟩⟩ := this; exact ⟨k, ca', v', e', ⟨o, (hs.2 _ (other _ e')).trans e1, e2⟩⟩
      | cv b => obtain ⟨k, ca', v', e', ⟨o, e1, e2⟩, r'⟩ := this; exact ⟨k, ca', v', e', ⟨o, (hs.2 _ (other _ e')).trans e1, e2⟩, r'⟩
      | gv b => exact this
noncomputable def Kn (c : Ctx w B) (rest : List Stmt) (Q : QF) (E : QE) : QF := fun f σ => match f with
  | .next => SW c σ rest Q E
  | f => Q f σ
theorem handF {F : Fz} {s : Shared} {a : AF} {f : Flow} (R : Rep c F σ s) (r : FRel F a f) (q : Q a σ) : PostF c F Q f s := ⟨F, σ, a, Fz.le.refl F, R, r, q⟩
theorem rNext {F : Fz} : FRel F .next .next := rfl
theorem rRet {F : Fz} {a : AV} {v : Value} (r : Rel F a v) : FRel F (.ret a) (.ret v) := ⟨v, rfl, r⟩
theorem SW_nil (q : Q .next σ) : SW c σ [] Q E := fun F s R => wpAny_execs_nil (handF R rNext q)
theorem SW_cons {st : Stmt} {rest : List Stmt} (h : XW c σ (exec st c.env) (Kn c rest Q E) E) : SW c σ (st :: rest) Q E := fun F s R => by
  refine wpAny_execs_cons (wpAny_mono (h F s R) (fun f s' zz => zz.elim fun F' σ' a l R' r q => ?_) fun _ _ e => e)
  cases a with
  | next => cases r; exact wkF l (q F' s' R')
  | brk => cases r; exact ⟨F', σ', .brk, l, R', rfl, q⟩
  | cont => cases r; exact ⟨F', σ', .cont, l, R', rfl, q⟩
  | ret a => obtain ⟨v, rfl, r⟩ := r; exact ⟨F', σ', .ret a, l, R', ⟨v, rfl, r⟩, q⟩
theorem XW_Return {e : Expr} {pos : Pos} (h : EW c σ (eval e c.env) (fun a σ' => Q (.ret a) σ') E) : XW c σ (exec (.Return (some e) pos) c.env) Q E := fun F s R =>
  wpAny_Return_some (wpAny_mono (h F s R) (fun v s' zz => zz.elim fun F' σ' a l R' r q => ⟨F', σ', .ret a, l, R', ⟨v, rfl, r⟩, q⟩) fun _ _ e => e)
theorem XW_Return0 {pos : Pos} (h : Q (.ret .none) σ) : XW c σ (exec (.Return none pos) c.env) Q E := fun F s R => wpAny_Return_none (handF R (rRet rNone) h)
theorem XW_If {test : Expr} {body orelse : List Stmt} {pos : Pos} (h : TW c σ (isTrue test c.env (eval test c.env)) (fun b σ' => (b = true → SW c σ' body Q E) ∧ (b = false → SW c σ' orelse Q E)) E) : XW c σ (exec (.If test body orelse pos) c.env) Q E := fun F s R =>
  wpAny_If (wpAny_mono (h F s R) (fun b s' zz => zz.elim fun F' σ' l R' q => by
    cases b with
    | true => exact wkF l (q.1 rfl F' s' R')
    | false => exact wkF l (q.2 rfl F' s' R')) fun _ _ e => e)
theorem XW_Assign {x : Str} {pos' pos : Pos} {value : Expr} (h : EW c σ (eval value c.env) (fun a σ₁ => StW c σ₁ a (fun v => storeName c.env x v) (fun σ₂ => Q .next σ₂) E) E)
    (hs : swapsWith value (some (.Name x pos')) pos.line c.env = pure false) : XW c σ (exec (.Assign [.Name x pos'] value pos) c.env) Q E := fun F s R =>
  wpAny_Assign_Name (wpAny_mono (h F s R) (fun v s₁ zz => zz.elim fun F₁ σ₁ a l₁ R₁ r₁ h₁ => wpAny_mono (h₁ F₁ s₁ v R₁ r₁) (fun _ s₂ zz => zz.elim fun F₂ σ₂ l₂ R₂ q => ⟨F₂, σ₂, .next, l₁.trans l₂, R₂, rfl, q⟩) fun _ _ e => e.mono l₁) fun _ _ e => e) hs
theorem XW_Aug {x : Str} {pos' pos : Pos} {op : Operator} {value : Expr} {sl : Slot} {a : AV} (m : (x, sl) ∈ σ.loc) (hv : sl.val? = some a)
    (h : EW c σ (eval value c.env) (fun b σ₁ => BW c σ₁ a b (inplaceOp op) (fun d σ₂ => StW c σ₂ d (fun v => storeName c.env x v) (fun σ₃ => Q .next σ₃) E) E) E) (hd : sl.isL = true) : XW c σ (exec (.AugAssign (.Name x pos') op value pos) c.env) Q E := fun F s R => by
  refine wpAny_AugAssign_Name ?_
  obtain ⟨mm, n, l⟩ := R.loc
  have l := l _ m
  have nn : s.heap.Ns c.env.locals mm := R.ok.locals ▸ n
  cases sl with
  | lv b =>
    cases hv
    obtain ⟨k, v, e, r⟩ := l
    refine wpAny_loadName_local R.ok.kind k nn e ?_
    refine wpAny_mono (h F s R) (fun v₁ s₁ zz => zz.elim fun F₁ σ₁ b₁ l₁ R₁ r₁ h₁ => ?_) fun _ _ e => e
    refine wpAny_mono (h₁ F₁ s₁ v v₁ R₁ (Rel.mono l₁ _ _ r) r₁) (fun v₂ s₂ zz => zz.elim fun F₂ σ₂ b₂ l₂ R₂ r₂ h₂ => ?_) fun _ _ e => e.mono l₁
    exact wpAny_mono (h₂ F₂ s₂ v₂ R₂ r₂) (fun _ s₃ zz => zz.elim fun F₃ σ₃ l₃ R₃ q => ⟨F₃, σ₃, .next, (l₁.trans l₂).trans l₃, R₃, rfl, q⟩) fun _ _ e => e.mono (l₁.trans l₂)
  | un => cases hv
  | cu => cases hd
  | cv b => cases hd
  | gv b => cases hd
theorem XW_Expr {e : Expr} {pos : Pos} (h : EW c σ (eval e c.env) (fun a σ' => a = .none ∧ Q .next σ') E) (hi : ∀ F s, Rep c F σ s → interactive c.env = false) (hs : swapsWith e none pos.line c.env = pure false) : XW c σ (exec (.Expr e pos) c.env) Q E := fun F s R =>
  wpAny_Expr (wpAny_mono (h F s R) (fun v s' zz => zz.elim fun F' σ' a l R' r zq6 => by
    obtain ⟨ea, q⟩ := zq6
    subst ea
    cases r
    exact ⟨F', σ', .next, l, R', rfl, q⟩) fun _ _ e => e) (hi F s R) hs
theorem not_interactive {F : Fz} {s : Shared} (R : Rep c F σ s) : interactive c.env = false := by
  unfold interactive
  rw [R.ok.kind]; rfl
theorem BW_iadd {i j : Int} {Q : QA} (q : Q (.int (i + j)) σ) : BW c σ (.int i) (.int j) (inplaceOp .Add) Q E := fun _ _ _ _ R ⟨_, e⟩ ⟨_, e'⟩ => by subst e; subst e'; with_reducible exact iadd_int (handT R rInt q _ _)
theorem BW_isub {i j : Int} {Q : QA} (q : Q (.int (i - j)) σ) : BW c σ (.int i) (.int j) (inplaceOp .Sub) Q E := fun _ _ _ _ R ⟨_, e⟩ ⟨_, e'⟩ => by subst e; subst e'; with_reducible exact isub_int (handT R rInt q _ _)
theorem BW_iaddS {x y : Str} {Q : QA} (h : x.length + y.length ≤ 100000) (q : Q (.str (x ++ y)) σ) : BW c σ (.str x) (.str y) (inplaceOp .Add) Q E := fun _ _ _ _ R zq5 zq6 => by
  obtain ⟨_, e⟩ := zq5
  obtain ⟨_, e'⟩ := zq6
  subst e; subst e'; with_reducible exact iadd_str (fun _ _ => handT R rStr q _ _) (by rw [sizeLine_eq]; omega)
noncomputable def AW (c : Ctx w B) (σ : St) (ts : List (Value → Sem Unit)) (l : List AV) (Q : St → Prop) (E : QE) : Prop := ∀ F s vs, Rep c F σ s → RelL F l vs → wpAny (MW w) c.A (assignInOrder ts vs) (PostU c F Q) (PostE c F E) s
theorem AW_nil {Q : St → Prop} (q : Q σ) : AW c σ [] [] Q E := fun F s vs R r => by cases r; exact wpAny_pure ⟨F, σ, Fz.le.refl F, R, q⟩
theorem AW_cons {t : Value → Sem Unit} {ts : List (Value → Sem Unit)} {a : AV} {l : List AV} {Q : St → Prop} (h : StW c σ a t (fun σ' => AW c σ' ts l Q E) E) : AW c σ (t :: ts) (a :: l) Q E := fun F s vs R r => by
  obtain ⟨v, vs', rfl, r, rs⟩ := r
  show wpAny (MW w) c.A (do holding vs' (t v); assignInOrder ts vs') _ _ _
  exact wpAny_bind (wpAny_holding (wpAny_mono (h F s v R r) (fun _ s' zz => zz.elim fun F' σ' l R' q => wkU l (q F' s' vs' R' (RelL.mono l _ _ rs))) fun _ _ e => e))
theorem StW_name {x : Str} {pos : Pos} {a : AV} {Q : St → Prop} (h : StW c σ a (fun v => storeName c.env x v) Q E) : StW c σ a (assign (.Name x pos) c.env) Q E := fun F s v R r => assign_Name (h F s v R r)
theorem XW_Unpack {elts : List Expr} {k : Nat} {tpos pos : Pos} {value : Expr} (hh : c.A.handled = none) (h : EW c σ (eval value c.env) (fun a σ₁ => ∃ l, a = .tup l ∧ elts.length = l.length ∧ AW c σ₁ ((assignEach elts c.env).map (·.2)) l (fun σ₂ => Q .next σ₂) E) E)
    (hn : ∀ env, (assignEach elts env).length = elts.length ∧ List.findIdx? (fun x => x.fst) (assignEach elts env) = none := by intro _; exact ⟨by with_unfolding_all rfl, by with_unfolding_all rfl⟩)
    (hs : swapsWithSole [.Tuple elts k tpos] value pos.line c.env = pure false)
    (hw : swappedStores [.Tuple elts k tpos] value c.env = pure none) : XW c σ (exec (.Assign [.Tuple elts k tpos] value pos) c.env) Q E := fun F s R => by
  refine Assign_Tuple (wpAny_mono (h F s R) (fun v s₁ zz => zz.elim fun F₁ σ₁ a l₁ R₁ r₁ ⟨l, ea, hl, h₁⟩ => ?_) fun _ _ e => e) hs hw
  subst ea
  obtain ⟨ad, vs, n, rfl, f, rl⟩ := r₁
  show wpAny (MW w) c.A (do standAt tpos; unpack (.ref ad) (assignEach elts c.env)) _ _ _
  refine wpAny_bind (wpAny_standAt ?_)
  have hlen : vs.length = l.length := rl.length
  refine unpack_tuple hh (items := ⟨vs⟩) ⟨_, R₁.cr.fz _ _ f, rfl, n, rfl⟩ ((hn _).1.trans (hl.trans hlen.symm)) (hn _).2 fun h' he => ?_
  have R₂ := R₁.junk (h' := h') (fun a o e => he a o (fun z => by rw [z, get_size] at e; cases e) e) s₁.drawn s₁.toks
  exact wpAny_mono (h₁ F₁ _ vs R₂ rl) (fun _ s₂ zz => zz.elim fun F₂ σ₂ l₂ R₂ q => ⟨F₂, σ₂, .next, l₁.trans l₂, R₂, rfl, q⟩) fun _ _ e => e.mono l₁
end Mine
namespace Mine
variable {w : World} {B : Heap}
theorem glob_of (W : Wd w B) {x : Str} {v : Value} (e : nsIn (KF w.params) mainGlobals x = some (some v)) : GlobIs B x v := by
  obtain ⟨p, loose, mg, mb, T⟩ := W.T
  exact ⟨mg, mb, T.g, T.b, .inl (mg_of W.K T.g e)⟩
theorem glob_boot (W : Wd w B) {x : Str} {v : Value} (e : nsIn (KF w.params) mainGlobals x = some none) (hb : bootBuiltins x = some v) (hx : (x == ("__name__" : Str)) = false) : GlobIs B x v := by
  obtain ⟨p, loose, mg, mb, T⟩ := W.T
  exact ⟨mg, mb, T.g, T.b, .inr ⟨mg_none_of W.K T.g e, (T.builtins x (by intro z; rw [z] at hx; exact absurd hx (by decide))).trans hb⟩⟩
noncomputable def GS (B : Heap) : List (Str × AV) → Prop
  | [] => True
  | (x, a) :: r => (∃ v, GlobIs B x v ∧ ∀ F : Fz, (∀ a o, B.get? a = some o → F a = some o) → Rel F a v) ∧ GS B r
theorem GS.get : ∀ {gs : List (Str × AV)}, GS B gs → ∀ p ∈ gs, ∃ v, GlobIs B p.1 v ∧ ∀ F : Fz, (∀ a o, B.get? a = some o → F a = some o) → Rel F p.2 v
  | [], _, _, h => nomatch h
  | (x, a) :: r, ⟨g, t⟩, p, h => by
    rcases List.mem_cons.mp h with rfl | h
    · exact g
    · exact t.get p h
noncomputable def nodupS : List Str → Bool
  | [] => true
  | x :: r => !(r.contains x) && nodupS r
theorem nodupS_ok : ∀ {l : List Str}, nodupS l = true → l.Nodup
  | [], _ => List.nodup_nil
  | x :: r, h => by
    simp only [nodupS, Bool.and_eq_true, Bool.not_eq_true'] at h
    refine List.nodup_cons.mpr ⟨fun m => ?_, nodupS_ok h.2⟩
    have := List.contains_iff_mem.mpr m
    rw [h.1] at this; cases this
noncomputable def kindIs (k : NameKind) (o : Option NameKind) : Bool := match o with | some j => decide (k = j) | none => false
theorem kindIs_ok {k : NameKind} {o : Option NameKind} (h : kindIs k o = true) : o = some k := by
  cases o with
  | none => cases h
  | some j => rw [of_decide_eq_true h]
theorem zip_lookup : ∀ {F : Fz} {ps : List Str} {l : List AV} {vs : List Value}, RelL F l vs → ps.Nodup → ∀ p ∈ ps.zip l, ∃ v, (ps.zip vs).lookup p.1 = some v ∧ Rel F p.2 v
  | _, [], _, _, _, _, _, h => by simp at h
  | _, _ :: _, [], _, _, _, _, h => by simp at h
  | F, x :: ps, a :: l, _, ⟨v, vs', e, r, s⟩, nd, p, h => by
    subst e
    rw [List.zip_cons_cons] at h ⊢
    have nd' := List.nodup_cons.mp nd
    rcases List.mem_cons.mp h with rfl | h
    · exact ⟨v, by simp, r⟩
    · obtain ⟨u, e, r⟩ := zip_lookup s nd'.2 p h
      have ne : p.1 ≠ x := fun z => nd'.1 (z ▸ (List.of_mem_zip (a := p.1) (b := p.2) h).1)
      exact ⟨u, by rw [List.lookup_cons, beq_false_of_ne ne]; exact e, r⟩
theorem zip_mem_lookup {ps : List Str} {vs : List Value} (nd : ps.Nodup) (x : Str) (v : Value) : (ps.zip vs).lookup x = some v → (ps.zip vs).reverse.lookup x = some v := by
  induction ps generalizing vs with
  | nil => intro h; simp at h
  | cons y ps ih =>
    cases vs with
    | nil => intro h; simp at h
    | cons u vs =>
      have nd' := List.nodup_cons.mp nd
      intro h
      rw [List.zip_cons_cons, List.lookup_cons] at h
      rw [List.zip_cons_cons, List.reverse_cons, List.lookup_append]
      by_cases e : x = y
      · subst e
        have hn : (ps.zip vs).reverse.lookup x = none := by
          rw [List.lookup_eq_none_iff]
          intro p hp
          have := (List.of_mem_zip (a := p.1) (b := p.2) (List.mem_reverse.mp hp)).1
          exact bne_iff_ne.mpr (fun z => nd'.1 (z ▸ this))
        rw [hn]
        simpa using h
      · rw [beq_false_of_ne e] at h
        rw [ih nd'.2 h]; rfl
theorem leave_W {c : Ctx w B} {fs : List Env} {F : Fz} {σ : St} {s : Shared} {ae : AE} {e : Value} {Q : AV → HS → Prop} {E : AE → HS → Prop} {E' : Value → Shared → Prop} (hfs : c.fs = c.env :: fs) (hf : c.env.frame = some c.L) (R : Rep c F σ s)
    (X : ExcOk F σ.H c.own c.gd c.h0 ae e s.heap) (q : E ae σ.H) : wpAny (MW w) c.A (leaving c.env e) (fun _ s'' => PostC w B c.F0 c.H0 fs c.os c.h0 Q E (.error e) s'') E' s := by
  obtain ⟨rfl, X⟩ := X
  have fo : FrOk B F σ.H s.heap (c.env :: fs) := hfs ▸ R.cr.fr
  unfold leaving
  refine wpAny_bind (note (hfs ▸ R.ok.frames) hf fo X (fun a ha => ?_) fun h' N => ?_)
  · rcases ha with h | h | h
    · exact (R.own a h).2.2.2
    · obtain ⟨o, e⟩ := Option.isSome_iff_exists.mp h
      obtain ⟨o', e'⟩ := R.pres.ever a o e
      exact isSome_of e'
    · obtain ⟨p, hp, rfl⟩ := List.mem_map.mp h
      exact isSome_of (R.gd p hp).1
  · have hmem := fo.mem
    have keepF : ∀ a o, F a = some o → h'.get? a = some o := fun a o e => by
      have e1 := R.cr.fz a o e
      have ne : a ≠ ae.e := fun z => by rw [z, X.fz] at e; cases e
      rcases N.same a o e1 ne (.inl (by rw [e]; simp)) with z | ⟨m, _⟩
      · exact z
      · obtain ⟨_, _, _, _, _, f, _⟩ := hmem a m
        rw [e] at f; cases f
    refine ⟨F, σ.H, ae, ⟨R.cr.base, keepF, R.cr.nd, fun p hp => ?_, ?_, R.cr.gens, R.cr.os, R.cr.big⟩, ⟨R.pres.le, fun a o e m => ?_, R.pres.ks, R.pres.fr, fun a o e => ?_⟩, ⟨rfl, ?_⟩, q⟩
    · obtain ⟨f, o, e, r⟩ := R.cr.hot p hp
      have mk : p.1 ∈ keys σ.H := List.mem_map_of_mem (f := (·.1)) hp
      have ne : p.1 ≠ ae.e := fun z => X.nk (z ▸ mk)
      refine ⟨f, o, ?_, r⟩
      rcases N.same p.1 o e ne (.inr (.inl mk)) with z | ⟨m, _⟩
      · exact z
      · obtain ⟨_, _, _, _, _, _, f⟩ := hmem _ m
        exact absurd mk f
    · have : ∀ l : List Env, (∀ x ∈ l, x ∈ c.env :: fs) → FrOk B F σ.H s.heap l → FrOk B F σ.H h' l := by
        intro l
        induction l with
        | nil => intro _ _; trivial
        | cons x r ih =>
          rintro hx ⟨y1, ⟨L', o, es, n, e, g, d, f, k⟩, t⟩
          obtain ⟨sl, e'⟩ := N.fr L' o (List.mem_filterMap.mpr ⟨x, hx x (.head _), e⟩) g
          exact ⟨y1, ⟨L', _, es, n, e, e', d, f, k⟩, ih (fun z hz => hx z (.tail _ hz)) t⟩
      exact this fs (fun _ hx => .tail _ hx) fo.2.2
    · have hb : badOf c.own c.gd c.h0 a := .inr (.inl (isSome_of e))
      refine (R.pres.same a o e m).trans fun o' e' => ?_
      have ne : a ≠ ae.e := fun z => X.nb (z ▸ hb)
      rcases N.same a o' e' ne (.inr (.inr hb)) with z | ⟨m, sl, z⟩
      · exact .inl z
      · obtain ⟨o2, es, n, g, d, _⟩ := hmem a m
        rw [e'] at g; cases g
        exact .inr ⟨⟨es, n, d⟩, sl, z⟩
    · obtain ⟨o', e'⟩ := R.pres.ever a o e
      exact N.ever a o' e'
    · obtain ⟨vs, sl, T, ts, oT, a1, a2, a3, a4, a5, a6, a7⟩ := N.exc
      refine ⟨⟨vs, sl, a1, .inr ⟨T, ts, oT, a2, a3, a5, a6, a7, R.cr.fz_none a4, fun z => ?_, fun z => ?_⟩⟩, X.fz, X.nk, fun z => X.nb ?_⟩
      · obtain ⟨p, hp, rfl⟩ := List.mem_map.mp z
        obtain ⟨_, o, e, _⟩ := R.cr.hot p hp
        rw [a4] at e; cases e
      · rcases z with z | z | z
        · cases z
        · obtain ⟨o, e⟩ := Option.isSome_iff_exists.mp z
          obtain ⟨o', e'⟩ := R.pres.ever T o e
          rw [a4] at e'; cases e'
        · cases z
      · rcases z with z | z | z
        · cases z
        · exact .inr (.inl z)
        · cases z
theorem CRep.sub {w : World} {B : Heap} {F : Fz} {H H' : HS} {fs : List Env} {os : OsState} {s : Shared} (C : CRep w B F H' fs os s) (u : H.Sublist H') : CRep w B F H fs os s := by
  have sub : ∀ a, a ∈ keys H → a ∈ keys H' := fun a h => (u.map (·.1)).subset h
  have fr : ∀ {fs : List Env}, FrOk B F H' s.heap fs → FrOk B F H s.heap fs := by
    intro fs
    induction fs with
    | nil => exact id
    | cons env r ih =>
      rintro ⟨x1, ⟨L, o, es, n, e1, g, dd, f, nk⟩, t⟩
      exact ⟨x1, ⟨L, o, es, n, e1, g, dd, f, fun z => nk (sub _ z)⟩, ih t⟩
  exact ⟨C.base, C.fz, (u.map (·.1)).nodup C.nd, fun q hq => C.hot q (u.subset hq), fr C.fr, C.gens, C.os, fun a ha => C.big a (sub _ ha)⟩
theorem CPres.sub {F F' : Fz} {H H1 H2 : HS} {h h' : Heap} (P : CPres F H h F' H1 h') (u : H2.Sublist H1) : CPres F H h F' H2 h' := ⟨P.le, P.same, fun a ha => P.ks a ((u.map (·.1)).subset ha), P.fr, P.ever⟩
noncomputable def RQ (Q : AV → HS → Prop) : QF := fun f σ => match f with | .ret a => ∃ H, H.Sublist σ.H ∧ Q a H | .next => ∃ H, H.Sublist σ.H ∧ Q .none H | _ => False
theorem RQ_ret {Q : AV → HS → Prop} {a : AV} {σ : St} (h : Q a σ.H) : RQ Q (.ret a) σ := ⟨_, List.Sublist.refl _, h⟩
theorem RQ_next {Q : AV → HS → Prop} {σ : St} (h : Q .none σ.H) : RQ Q .next σ := ⟨_, List.Sublist.refl _, h⟩
theorem RQ_drop {Q : AV → HS → Prop} {a : AV} {σ : St} (H : HS) (u : H.Sublist σ.H) (h : Q a H) : RQ Q (.ret a) σ := ⟨_, u, h⟩
noncomputable def Top (c : Ctx w B) : Prop := c.env.frame = some c.L ∧ ∃ fs, c.fs = c.env :: fs
end Mine
namespace Mine
variable {w : World} {B : Heap} {c : Ctx w B} {σ : St} {Q : QA} {E : QE}
theorem seqIndex_nn {i : Int} {n : Nat} (h0 : 0 ≤ i) (h : i.toNat < n) : seqIndex? i n = some i.toNat := by
  unfold seqIndex?
  have h1 : ¬ i < 0 := by omega
  have h2 : i < n := by omega
  simp only [if_neg h1]
  first
    | (simp [h0, h2]; done)
    | (split <;> first | rfl | omega)
theorem toArr_get {l : List Value} {i : Nat} : (⟨l⟩ : Array Value)[i]? = l[i]? := by simp
theorem lt_of_get {α : Type} {l : List α} {i : Nat} {a : α} (h : l[i]? = some a) : i < l.length := (List.getElem?_eq_some_iff.mp h).1
theorem BW_itemT {l : List AV} {i : Int} {a : AV} {value slice : Expr} (h0 : 0 ≤ i) (h1 : i < 2 ^ 62) (e : l[i.toNat]? = some a) (q : Q a σ)
    (hs : ∀ o i, subscripted slice false o i = operate [o, i] (getItem o i)) : BW c σ (.tup l) (.int i) (subscriptTail value slice) Q E := fun F s u v R zq5 zq6 => by
  obtain ⟨ad, vs, n, eu, f, rl⟩ := zq5
  obtain ⟨t, ev⟩ := zq6
  subst eu; subst ev
  obtain ⟨y, ey, ry⟩ := rl.get _ _ e
  have ht : IsT s.heap ad ⟨vs⟩ n := R.cr.fz _ _ f
  refine tail_any (ops := [.ref ad, .int i t]) ⟨_, ht, rfl⟩ PySem.F.slot_tuple_getitem.lookup (P.getItem_tuple ht (by omega) (by omega) (seqIndex_nn h0 (lt_of_get ey)) (toArr_get.trans ey) (hand R ry q)) (hs _ _)
theorem BW_itemL {l : List AV} {i : Int} {a : AV} {value slice : Expr} (h0 : 0 ≤ i) (h1 : i < 2 ^ 62) (e : l[i.toNat]? = some a) (q : Q a σ)
    (hs : ∀ o i, subscripted slice false o i = operate [o, i] (getItem o i)) : BW c σ (.lst l) (.int i) (subscriptTail value slice) Q E := fun F s u v R zq5 zq6 => by
  obtain ⟨ad, vs, n, eu, f, rl⟩ := zq5
  obtain ⟨t, ev⟩ := zq6
  subst eu; subst ev
  obtain ⟨y, ey, ry⟩ := rl.get _ _ e
  have ht : IsL s.heap ad ⟨vs⟩ n := R.cr.fz _ _ f
  refine tail_any (ops := [.ref ad, .int i t]) ⟨_, ht, rfl⟩ PySem.F.slot_list_getitem.lookup (wpAny_getItem_list ht.isList h0 (by omega) (toArr_get.trans ey) (hand R ry q)) (hs _ _)
theorem BW_itemH {ad : Addr} {l : List AV} {i : Int} {a : AV} {value slice : Expr} (m : (ad, .lst l) ∈ σ.H) (h0 : 0 ≤ i) (h1 : i < 2 ^ 62) (e : l[i.toNat]? = some a) (q : Q a σ)
    (hs : ∀ o i, subscripted slice false o i = operate [o, i] (getItem o i)) : BW c σ (.val (.ref ad)) (.int i) (subscriptTail value slice) Q E := fun F s u v R eu zq6 => by
  obtain ⟨t, ev⟩ := zq6
  cases eu; subst ev
  obtain ⟨_, o, eo, vs, n, rfl, rl⟩ := R.cr.hot _ m
  obtain ⟨y, ey, ry⟩ := rl.get _ _ e
  have ht : IsL s.heap ad ⟨vs⟩ n := eo
  refine tail_any (ops := [.ref ad, .int i t]) ⟨_, ht, rfl⟩ PySem.F.slot_list_getitem.lookup (wpAny_getItem_list ht.isList h0 (by omega) (toArr_get.trans ey) (hand R ry q)) (hs _ _)
theorem BW_itemS {x : Str} {i : Int} {ch : Nat} {value slice : Expr} (h0 : 0 ≤ i) (h1 : i < 2 ^ 62) (e : x.cps.toList[i.toNat]? = some ch) (q : Q (.str ⟨#[ch]⟩) σ)
    (hs : ∀ o i, subscripted slice false o i = operate [o, i] (getItem o i)) : BW c σ (.str x) (.int i) (subscriptTail value slice) Q E := fun F s u v R zq5 zq6 => by
  obtain ⟨t', eu⟩ := zq5
  obtain ⟨t, ev⟩ := zq6
  subst eu; subst ev
  have hlt : i.toNat < x.length := by have := lt_of_get e; simpa [Str.length] using this
  refine tail_any (ops := [.str x t', .int i t]) (typeIs_str _ _ _) PySem.F.slot_str_getitem.lookup (getItem_str (c := ch) (by simp; omega) ?_ (handT R rStr q _ _)) (hs _ _)
  rw [seqIndex_nn h0 hlt]
  simpa using e
noncomputable abbrev PW (c : Ctx w B) (σ : St) (p : Option Expr) (Q : QA) (E : QE) : Prop := EW c σ (evalPart p c.env) Q E
theorem PW_none (q : Q .none σ) : PW c σ none Q E := fun F s R => evalPart_none_step (hand R rNone q)
theorem PW_some {e : Expr} (h : EW c σ (eval e c.env) Q E) : PW c σ (some e) Q E := fun F s R => evalPart_some_step (h F s R)
noncomputable def SlW (c : Ctx w B) (σ : St) (value slice : Expr) (a b d g : AV) (Q : QA) (E : QE) : Prop := ∀ F s v x y z, Rep c F σ s → Rel F a v → Rel F b x → Rel F d y → Rel F g z →
  wpAny (MW w) c.A (subscriptTail value slice v (.ref s.heap.objs.size)) (Post c F Q) (PostE c F E) { s with heap := s.heap.push { cls := .type "slice", data := .fields #[x, y, z] } }
theorem EW_Slice {value : Expr} {lo hi st : Option Expr} {p pos : Pos} (h : EW c σ (eval value c.env) (fun a σ₁ => PW c σ₁ lo (fun b σ₂ => PW c σ₂ hi (fun d σ₃ => PW c σ₃ st (fun g σ₄ => SlW c σ₄ value (.Slice lo hi st p) a b d g Q E) E) E) E) E) :
    EW c σ (eval (.Subscript value (.Slice lo hi st p) pos) c.env) Q E := fun F s R => by
  refine Subscript_ (wpAny_mono (h F s R) (fun v s₁ zz => zz.elim fun F₁ σ₁ a l₁ R₁ r₁ h₁ => ?_) fun _ _ e => e)
  refine wpAny_Slice (wpAny_mono (h₁ F₁ s₁ R₁) (fun x s₂ zz => zz.elim fun F₂ σ₂ b l₂ R₂ r₂ h₂ => ?_) fun _ _ e => e.mono l₁)
  refine wpAny_mono (h₂ F₂ s₂ R₂) (fun y s₃ zz => zz.elim fun F₃ σ₃ d l₃ R₃ r₃ h₃ => ?_) fun _ _ e => e.mono (l₁.trans l₂)
  refine wpAny_mono (h₃ F₃ s₃ R₃) (fun z s₄ zz => zz.elim fun F₄ σ₄ g l₄ R₄ r₄ h₄ => ?_) fun _ _ e => e.mono ((l₁.trans l₂).trans l₃)
  exact wkV (((l₁.trans l₂).trans l₃).trans l₄) (h₄ F₄ s₄ v x y z R₄ (Rel.mono ((l₂.trans l₃).trans l₄) _ _ r₁) (Rel.mono (l₃.trans l₄) _ _ r₂) (Rel.mono l₄ _ _ r₃) r₄)
theorem tail_on {value slice : Expr} {o i : Value} {Q : Value → Shared → Prop} {E : Value → Shared → Prop} {A : Around} {s : Shared} {ops : List Value} (h : ItemOn (MW w) A E o i Q s) (hs : subscripted slice false o i = operate ops (getItem o i)) : wpAny (MW w) A (subscriptTail value slice o i) Q E s := by
  obtain ⟨T, id, hl, hT, hg⟩ := h
  exact tail_any hT hl hg hs
theorem stays_kept (h₀ : Heap) : KeptH fun h => ∀ a o, h₀.get? a = some o → h.get? a = some o := fun h ob k a o e => Heap.get?_push_of_some _ (k a o e)
theorem SlW_ss {value : Expr} {lo hi : Option Expr} {p : Pos} {x : Str} {i j : Int} (hx : x.length ≤ 100000) (q : Q (.str (Txt.slice x (some i) (some j))) σ) : SlW c σ value (.Slice lo hi none p) (.str x) (.int i) (.int j) .none Q E := fun F s _ _ _ _ R zq7 zq8 zq9 e4 => by
  obtain ⟨t, e1⟩ := zq7
  obtain ⟨t2, e2⟩ := zq8
  obtain ⟨t3, e3⟩ := zq9
  subst e1; subst e2; subst e3; cases e4
  exact tail_on (SBH.sliceItem_ss (P := fun h => ∀ a o, s.heap.get? a = some o → h.get? a = some o) (stays_kept _) (fun _ _ e => e) (fun h' t' k ph => ⟨F, σ, _, Fz.le.refl F, R.junk ph _ _, rStr, q⟩) (by rw [sizeLine_eq]; omega)) rfl
theorem SlW_sn {value : Expr} {lo hi : Option Expr} {p : Pos} {x : Str} {i : Int} (hx : x.length ≤ 100000) (q : Q (.str (Txt.slice x (some i) none)) σ) : SlW c σ value (.Slice lo hi none p) (.str x) (.int i) .none .none Q E := fun F s _ _ _ _ R zq7 zq8 e3 e4 => by
  obtain ⟨t, e1⟩ := zq7
  obtain ⟨t2, e2⟩ := zq8
  subst e1; subst e2; cases e3; cases e4
  exact tail_on (SBH.sliceItem_sn (P := fun h => ∀ a o, s.heap.get? a = some o → h.get? a = some o) (stays_kept _) (fun _ _ e => e) (fun h' t' k ph => ⟨F, σ, _, Fz.le.refl F, R.junk ph _ _, rStr, q⟩) (by rw [sizeLine_eq]; omega)) rfl
theorem VW_len_str {x : Str} (hx : x.length ≤ 100000) (q : Q (.int x.length) σ) : VW c σ [.str x] (fun vs => call (.builtin "len") vs []) Q E := fun F s _ R zq4 => by
  obtain ⟨v, vs', e, ⟨t, ev⟩, e'⟩ := zq4
  cases e'; subst e; subst ev
  with_reducible exact SBL.len (by omega) (handT R rInt q _ _)
theorem len_list {A : Around} {Q E : Value → Shared → Prop} {s : Shared} {ad : Addr} {items : Array Value} {n : Nat} (ht : IsL s.heap ad items n) (hfit : ¬ (items.size : Int) ≥ 2 ^ 63) (h : Q (.int items.size (s.toks + 1)) { s with toks := s.toks + 1 + 1 }) :
    wpAny (MW w) A (call (.builtin "len") [.ref ad]) Q E s :=
  call_len_meets ⟨_, ht, rfl⟩ PySem.F.slot_list_len PySem.F.entry_list_len (PySem.F.args_list_len_1 _) (AutoListH.list___len___list_0 ad items n) (by omega) hfit (fun _ hq => ⟨ht, hq⟩) h
theorem VW_len_L {l : List AV} (hx : l.length ≤ 100000) (q : Q (.int l.length) σ) : VW c σ [.lst l] (fun vs => call (.builtin "len") vs []) Q E := fun F s _ R zq4 => by
  obtain ⟨v, vs', e, ⟨ad, vs, n, ev, f, rl⟩, e'⟩ := zq4
  cases e'; subst e; subst ev
  have ht : IsL s.heap ad ⟨vs⟩ n := R.cr.fz _ _ f
  have hl := rl.length
  refine len_list ht (by simp only [List.size_toArray]; omega) (handT R ?_ q _ _)
  simp only [List.size_toArray, hl]; exact rInt
theorem VW_len_H {ad : Addr} {l : List AV} (m : (ad, .lst l) ∈ σ.H) (hx : l.length ≤ 100000) (q : Q (.int l.length) σ) : VW c σ [.val (.ref ad)] (fun vs => call (.builtin "len") vs []) Q E := fun F s _ R zq4 => by
  obtain ⟨v, vs', e, ev, e'⟩ := zq4
  cases e'; subst e; cases ev
  obtain ⟨_, o, eo, vs, n, rfl, rl⟩ := R.cr.hot _ m
  have ht : IsL s.heap ad ⟨vs⟩ n := eo
  have hl := rl.length
  refine len_list ht (by simp only [List.size_toArray]; omega) (handT R ?_ q _ _)
  simp only [List.size_toArray, hl]; exact rInt
theorem TU_int {i : Int} {Q : Bool → St → Prop} (q : Q (i != 0) σ) : TU c σ (.int i) Q E := fun F s v R zq4 => by
  obtain ⟨t, e⟩ := zq4
  subst e
  with_reducible exact P.truthy_int (handB R q)
theorem TU_H {ad : Addr} {l : List AV} {Q : Bool → St → Prop} (m : (ad, .lst l) ∈ σ.H) (hx : l.length ≤ 100000) (q : Q (!l.isEmpty) σ) : TU c σ (.val (.ref ad)) Q E := fun F s v R e => by
  cases e
  obtain ⟨_, o, eo, vs, n, rfl, rl⟩ := R.cr.hot _ m
  have ht : IsL s.heap ad ⟨vs⟩ n := eo
  have hl := rl.length
  refine wpAny_truthy_list ht.isList (by simp only [List.size_toArray]; omega) ⟨F, σ, Fz.le.refl F, R.toks _ _, ?_⟩
  have : (Array.isEmpty (⟨vs⟩ : Array Value)) = l.isEmpty := by
    cases l with
    | nil => cases rl; rfl
    | cons a l => obtain ⟨v, vs', e, _, _⟩ := rl; subst e; rfl
  rw [this]; exact q
theorem rL1 {F : Fz} {a : AV} {v : Value} (r : Rel F a v) : RelL F [a] [v] := ⟨v, [], rfl, r, rfl⟩
theorem MB_find {x : Str} : MB c σ (.str x) "find" (.builtin "str.find") [.str x] := fun F s v pl Q E R zq7 h => by
  obtain ⟨t, e⟩ := zq7
  subst e; with_reducible exact GM.find (h _ (rL1 rStr))
theorem MB_lower {x : Str} : MB c σ (.str x) "lower" (.builtin "str.lower") [.str x] := fun F s v pl Q E R zq7 h => by
  obtain ⟨t, e⟩ := zq7
  subst e; with_reducible exact GM.lower (h _ (rL1 rStr))
theorem MB_join {x : Str} : MB c σ (.str x) "join" (.builtin "str.join") [.str x] := fun F s v pl Q E R zq7 h => by
  obtain ⟨t, e⟩ := zq7
  subst e; with_reducible exact GM.join (h _ (rL1 rStr))
theorem VW_find {x y : Str} (q : Q (.int (Txt.find x y)) σ) : VW c σ [.str x, .str y] (fun vs => call (.builtin "str.find") vs []) Q E := fun F s _ R zq4 => by
  obtain ⟨v, _, e, ⟨t, ev⟩, v', _, e', ⟨t', ev'⟩, e2⟩ := zq4
  cases e2; subst e'; subst e; subst ev; subst ev'
  with_reducible exact SC.find (handT R rInt q _ _)
theorem VW_find3 {x y : Str} {i : Int} (q : Q (.int (Txt.find3 x y i)) σ) : VW c σ [.str x, .str y, .int i] (fun vs => call (.builtin "str.find") vs []) Q E := fun F s _ R zq4 => by
  obtain ⟨v, _, e, ⟨t, ev⟩, v', _, e', ⟨t', ev'⟩, v2, _, e2, ⟨t2, ev2⟩, e3⟩ := zq4
  cases e3; subst e2; subst e'; subst e; subst ev; subst ev'; subst ev2
  with_reducible exact SC.find3 (handT R rInt q _ _)
theorem VW_lower {x : Str} (hx : (Txt.lower x).length ≤ 100000) (q : Q (.str (Txt.lower x)) σ) : VW c σ [.str x] (fun vs => call (.builtin "str.lower") vs []) Q E := fun F s _ R zq4 => by
  obtain ⟨v, vs', e, ⟨t, ev⟩, e'⟩ := zq4
  cases e'; subst e; subst ev
  with_reducible exact SC.lower (by unfold Builtin.Str.tooLong; rw [decide_eq_false_iff_not, sizeLine_eq]; omega) (handT R rStr q _ _)
theorem strs_of : ∀ {F : Fz} {ts : List Str} {vs : List Value}, RelL F (ts.map .str) vs → ∃ l : List (Str × Tok), vs = strValues l ∧ l.map (·.1) = ts
  | _, [], _, r => by cases r; exact ⟨[], rfl, rfl⟩
  | F, x :: ts, _, ⟨v, vs', e, ⟨t, ev⟩, r⟩ => by
    obtain ⟨l, e1, e2⟩ := strs_of r
    subst e; subst ev; subst e1
    exact ⟨(x, t) :: l, rfl, by rw [List.map_cons, e2]⟩
theorem VW_joinL {x : Str} {ts : List Str} (ok : JoinOk x ts = true) (q : Q (.str (Txt.join x ts)) σ) : VW c σ [.str x, .lst (ts.map .str)] (fun vs => call (.builtin "str.join") vs []) Q E := fun F s _ R zq4 => by
  obtain ⟨v, _, e, ⟨t, ev⟩, v', _, e', ⟨ad, vs, n, ev', f, rl⟩, e2⟩ := zq4
  cases e2; subst e'; subst e; subst ev; subst ev'
  obtain ⟨l, e1, e2⟩ := strs_of rl
  subst e1
  have ht : IsL s.heap ad ⟨strValues l⟩ n := R.cr.fz _ _ f
  with_reducible exact SC.join ht.isList e2 ok fun t' k => handT R rStr q _ _
theorem VW_joinH {x : Str} {ts : List Str} {ad : Addr} (m : (ad, .lst (ts.map .str)) ∈ σ.H) (ok : JoinOk x ts = true) (q : Q (.str (Txt.join x ts)) σ) : VW c σ [.str x, .val (.ref ad)] (fun vs => call (.builtin "str.join") vs []) Q E := fun F s _ R zq4 => by
  obtain ⟨v, _, e, ⟨t, ev⟩, v', _, e', ev', e2⟩ := zq4
  cases e2; subst e'; subst e; subst ev; cases ev'
  obtain ⟨_, o, eo, vs, n, rfl, rl⟩ := R.cr.hot _ m
  obtain ⟨l, e1, e2⟩ := strs_of rl
  subst e1
  have ht : IsL s.heap ad ⟨strValues l⟩ n := eo
  with_reducible exact SC.join ht.isList e2 ok fun t' k => handT R rStr q _ _
theorem MB_list {ad : Addr} {l : List AV} {name : Str} {id : String} (m : (ad, .lst l) ∈ σ.H) (hs : PySem.Slot "list" name id) (ht : typeOf (Value.builtin id) = pure (Value.type "method_descriptor")) : MB c σ (.val (.ref ad)) name (.builtin id) [.val (.ref ad)] := fun F s v pl Q E R e h => by
  cases e
  obtain ⟨_, o, eo, vs, n, rfl, rl⟩ := R.cr.hot _ m
  have hl : IsL s.heap ad ⟨vs⟩ n := eo
  exact getMethod_list_of hs ht hl.isList ⟨_, eo, rfl⟩ (h _ ⟨_, _, rfl, rfl, rfl⟩)
theorem VW_append {ad : Addr} {l : List AV} {a : AV} {H' : HS} (u : HUpd ad (.lst l) (.lst (l ++ [a])) σ.H H') (hx : l.length ≤ 100000) (q : Q .none ⟨σ.loc, H'⟩) : VW c σ [.val (.ref ad), a] (fun vs => call (.builtin "list.append") vs []) Q E := fun F s _ R zq4 => by
  obtain ⟨v, _, e, ev, v', _, e', r', e2⟩ := zq4
  cases e2; subst e'; subst e; cases ev
  obtain ⟨_, o, eo, vs, n, rfl, rl⟩ := R.cr.hot _ u.mem
  have hl : IsL s.heap ad ⟨vs⟩ n := eo
  have hn := rl.length
  refine call_meets PySem.F.slot_list_append ⟨_, hl, rfl⟩ PySem.F.entry_list_append (PySem.F.args_list_append_2 _ _) (list_append ad ⟨vs⟩ n v' (by rw [sizeLine_eq]; simp only [List.size_toArray]; omega)) ⟨hl, ?_⟩
  have e1 := hl.update (fun xs => Array.push xs v')
  have ea : (⟨vs⟩ : Array Value).push v' = ⟨vs ++ [v']⟩ := by simp
  rw [ea] at e1
  show Post c F Q .none _
  exact ⟨F, _, .none, Fz.le.refl F, R.upd u (Heap.SameBut.update _ _ _) e1 ⟨vs ++ [v'], _, rfl, rl.append ⟨_, _, rfl, r', rfl⟩⟩ _ _, rNone, q⟩
theorem RelL.snoc {F : Fz} : ∀ {l : List AV} {a : AV} {vs : List Value}, RelL F (l ++ [a]) vs → ∃ us v, vs = us ++ [v] ∧ RelL F l us ∧ Rel F a v
  | [], _, _, ⟨v, vs', e, r, s⟩ => by cases s; exact ⟨[], v, e, rfl, r⟩
  | x :: l, _, _, ⟨v, vs', e, r, s⟩ => by
    obtain ⟨us, u, e', r', s'⟩ := RelL.snoc s
    exact ⟨v :: us, u, by rw [e, e']; rfl, ⟨v, us, rfl, r, r'⟩, s'⟩
theorem VW_pop {ad : Addr} {l : List AV} {a : AV} {H' : HS} (u : HUpd ad (.lst (l ++ [a])) (.lst l) σ.H H') (hx : l.length ≤ 100000) (q : Q a ⟨σ.loc, H'⟩) : VW c σ [.val (.ref ad)] (fun vs => call (.builtin "list.pop") vs []) Q E := fun F s _ R zq4 => by
  obtain ⟨v, _, e, ev, e2⟩ := zq4
  cases e2; subst e; cases ev
  obtain ⟨_, o, eo, vs, n, rfl, rl⟩ := R.cr.hot _ u.mem
  obtain ⟨us, y, rfl, ru, ry⟩ := rl.snoc
  have hl : IsL s.heap ad ⟨us ++ [y]⟩ n := eo
  have hn := ru.length
  have sz : (⟨us ++ [y]⟩ : Array Value).size - 1 = us.length := by simp
  refine call_meets PySem.F.slot_list_pop ⟨_, hl, rfl⟩ PySem.F.entry_list_pop (PySem.F.args_list_pop_1 _) (MeetsSeq.list_pop_last ad ⟨us ++ [y]⟩ n y (by rw [sz]; simp) (by rw [sizeLine_eq]; simp; omega)) ⟨hl, ?_⟩
  have e1 := hl.update (fun xs => xs.eraseIdxIfInBounds ((⟨us ++ [y]⟩ : Array Value).size - 1))
  have ea : (⟨us ++ [y]⟩ : Array Value).eraseIdxIfInBounds ((⟨us ++ [y]⟩ : Array Value).size - 1) = ⟨us⟩ := by
    rw [sz]; unfold Array.eraseIdxIfInBounds
    rw [dif_pos (by simp)]
    apply Array.ext'
    simp [List.eraseIdx_append_of_length_le]
  rw [ea] at e1
  show Post c F Q y _
  exact ⟨F, _, a, Fz.le.refl F, R.upd u (Heap.SameBut.update _ _ _) e1 ⟨us, _, rfl, ru⟩ _ _, ry, q⟩
theorem RelL.reverse {F : Fz} : ∀ {l : List AV} {vs : List Value}, RelL F l vs → RelL F l.reverse vs.reverse
  | [], _, r => by cases r; rfl
  | x :: l, _, ⟨v, vs', e, r, s⟩ => by
    subst e
    rw [List.reverse_cons, List.reverse_cons]
    exact s.reverse.append ⟨v, [], rfl, r, rfl⟩
theorem VW_reverse {ad : Addr} {l : List AV} {H' : HS} (u : HUpd ad (.lst l) (.lst l.reverse) σ.H H') (hx : l.length ≤ 100000) (q : Q .none ⟨σ.loc, H'⟩) : VW c σ [.val (.ref ad)] (fun vs => call (.builtin "list.reverse") vs []) Q E := fun F s _ R zq4 => by
  obtain ⟨v, _, e, ev, e2⟩ := zq4
  cases e2; subst e; cases ev
  obtain ⟨_, o, eo, vs, n, rfl, rl⟩ := R.cr.hot _ u.mem
  have hl : IsL s.heap ad ⟨vs⟩ n := eo
  have hn := rl.length
  refine call_meets PySem.F.slot_list_reverse ⟨_, hl, rfl⟩ PySem.F.entry_list_reverse (PySem.F.args_list_reverse_1 _) (AutoSeq1.list_reverse_list_0 ad ⟨vs⟩ n (by rw [sizeLine_eq]; simp; omega)) ⟨hl, ?_⟩
  have e1 := hl.update (fun xs => xs.reverse)
  have ea : (⟨vs⟩ : Array Value).reverse = ⟨vs.reverse⟩ := by simp
  rw [ea] at e1
  show Post c F Q .none _
  exact ⟨F, _, .none, Fz.le.refl F, R.upd u (Heap.SameBut.update _ _ _) e1 ⟨vs.reverse, _, rfl, rl.reverse⟩ _ _, rNone, q⟩
theorem BW_addL {l l' : List AV} (hx : l.length + l'.length ≤ 100000) (q : Q (.lst (l ++ l')) σ) : BW c σ (.lst l) (.lst l') (binaryOp .Add) Q E := fun F s _ _ R zq5 zq6 => by
  obtain ⟨ad, vs, n, e, f, r⟩ := zq5
  obtain ⟨ad', vs', n', e', f', r'⟩ := zq6
  subst e; subst e'
  have h1 := r.length
  have h2 := r'.length
  refine P.add_list (R.cr.fz _ _ f) (R.cr.fz _ _ f') ?_ (by rw [sizeLine_eq]; simp; omega)
  obtain ⟨le, R₂⟩ := R.freeze ⟨.type "list", none, .seq ⟨vs ++ vs'⟩ 0, #[]⟩ rfl s.drawn s.toks
  have ea : (⟨vs⟩ ++ ⟨vs'⟩ : Array Value) = ⟨vs ++ vs'⟩ := by simp
  rw [ea]
  exact ⟨_, σ, .lst (l ++ l'), le, R₂, ⟨_, _, 0, rfl, Fz.put_self _ _ _, RelL.mono le _ _ (r.append r')⟩, q⟩
theorem RelL.take {F : Fz} : ∀ {l : List AV} {vs : List Value} (k : Nat), RelL F l vs → RelL F (l.take k) (vs.take k)
  | [], _, k, r => by cases r; simp only [List.take_nil]; rfl
  | x :: l, _, 0, _ => rfl
  | x :: l, _, k + 1, ⟨v, vs', e, r, s⟩ => by subst e; exact ⟨v, _, rfl, r, s.take k⟩
theorem SlW_upto {value : Expr} {lo hi : Option Expr} {p : Pos} {l : List AV} {k : Int} (h0 : 0 ≤ k) (hx : l.length ≤ 100000) (q : Q (.lst (l.take k.toNat)) σ) : SlW c σ value (.Slice lo hi none p) (.lst l) .none (.int k) .none Q E := fun F s v x y z R zq7 e1 zq9 e3 => by
  obtain ⟨ad, vs, n, ev, f, r⟩ := zq7
  obtain ⟨t, e2⟩ := zq9
  subst ev; cases e1; subst e2; cases e3
  have hn := r.length
  have ht : IsL s.heap ad ⟨vs⟩ n := R.cr.fz _ _ f
  have ht' : IsL (s.heap.push { cls := .type "slice", data := .fields #[.none, .int k t, .none] }) ad ⟨vs⟩ n := ht.push _
  refine tail_any (ops := [.ref s.heap.objs.size, .ref ad]) ⟨_, ht', rfl⟩ PySem.F.slot_list_getitem.lookup
    (wpAny_getItem_list_slice (s := { s with heap := s.heap.push _ }) ht'.isList (.new _ _ _ _) .none (.int k t) .none (by simp) ?_ (by rw [sizeLine_eq]; simp; omega)) rfl
  have R' := R.junk (h' := s.heap.push { cls := .type "slice", data := .fields #[.none, .int k t, .none] }) (fun a o e => Heap.get?_push_of_some _ e) s.drawn s.toks
  have ek : k = ((k.toNat : Nat) : Int) := by omega
  have ep : slicePick ⟨vs⟩ none (some k) none = ⟨vs.take k.toNat⟩ := by have := slicePick_upto' ⟨vs⟩ k.toNat; rw [← ek] at this; exact this
  rw [ep]
  obtain ⟨le, R₂⟩ := R'.freeze ⟨.type "list", none, .seq ⟨vs.take k.toNat⟩ 0, #[]⟩ rfl s.drawn s.toks
  exact ⟨_, σ, .lst (l.take k.toNat), le, R₂, ⟨_, _, 0, rfl, Fz.put_self _ _ _, RelL.mono le _ _ (r.take _)⟩, q⟩
theorem SlW_revH {value : Expr} {lo hi : Option Expr} {st : Expr} {p : Pos} {l : List AV} (hx : l.length ≤ 100000) (q : ∀ a, Q (.val (.ref a)) ⟨σ.loc, (a, .lst l.reverse) :: σ.H⟩) : SlW c σ value (.Slice lo hi (some st) p) (.lst l) .none .none (.int (-1)) Q E := fun F s v x y z R zq7 e1 e2 zq10 => by
  obtain ⟨ad, vs, n, ev, f, r⟩ := zq7
  obtain ⟨t, e3⟩ := zq10
  subst ev; cases e1; cases e2; subst e3
  have hn := r.length
  have ht : IsL s.heap ad ⟨vs⟩ n := R.cr.fz _ _ f
  have ht' : IsL (s.heap.push { cls := .type "slice", data := .fields #[.none, .none, .int (-1) t] }) ad ⟨vs⟩ n := ht.push _
  refine tail_any (ops := [.ref ad, .ref s.heap.objs.size]) ⟨_, ht', rfl⟩ PySem.F.slot_list_getitem.lookup
    (wpAny_getItem_list_slice (s := { s with heap := s.heap.push _ }) ht'.isList (.new _ _ _ _) .none .none (.int (-1) t) (by simp) ?_ (by rw [sizeLine_eq]; simp; omega)) rfl
  have R' := R.junk (h' := s.heap.push { cls := .type "slice", data := .fields #[.none, .none, .int (-1) t] }) (fun a o e => Heap.get?_push_of_some _ e) s.drawn s.toks
  have ep : slicePick ⟨vs⟩ none none (some (-1)) = ⟨vs.reverse⟩ := by rw [krv_pick]
  rw [ep]
  exact ⟨F, _, .val (.ref _), Fz.le.refl F, R'.alloc (.lst l.reverse) ⟨.type "list", none, .seq ⟨vs.reverse⟩ 0, #[]⟩ ⟨_, 0, rfl, r.reverse⟩ rfl s.drawn s.toks, rfl, q _⟩
end Mine
namespace Mine
variable {w : World} {B : Heap}
noncomputable def gTab : List (Str × Value) := [(("Machine" : Str), Value.ref 796),
  (("install_protos" : Str), Value.ref 591),
  (("install_texts" : Str), Value.ref 598),
  (("install_numbers" : Str), Value.ref 605),
  (("_law_pull" : Str), Value.ref 882),
  (("_law_round" : Str), Value.ref 967),
  (("new_thing" : Str), Value.ref 235),
  (("_law_digits" : Str), Value.ref 889),
  (("_law_word" : Str), Value.ref 896),
  (("_law_fixed" : Str), Value.ref 903),
  (("text_number" : Str), Value.ref 396),
  (("to_number" : Str), Value.ref 403),
  (("NumberOut" : Str), Value.ref 100),
  (("runlib_whole_of" : Str), Value.ref 448),
  (("_law_tells" : Str), Value.ref 917),
  (("call_native" : Str), Value.ref 434),
  (("ScriptThrow" : Str), Value.ref 636),
  (("_law_laid" : Str), Value.ref 936),
  (("_law_ask" : Str), Value.ref 929),
  (("_law_past" : Str), Value.ref 950),
  (("_law_value" : Str), Value.ref 910),
  (("_law_sound" : Str), Value.ref 924),
  (("_law_based" : Str), Value.ref 943),
  (("_law_placed" : Str), Value.ref 955),
  (("_law_found" : Str), Value.ref 960),
  (("Heap" : Str), Value.ref 182),
  (("MOST_DEEP" : Str), Value.int 44 1132),
  (("undef_value" : Str), Value.ref 214),
  (("Watcher" : Str), Value.ref 656),
  (("RuncoreBinder" : Str), Value.ref 684),
  (("Maker" : Str), Value.ref 712),
  (("Hoister" : Str), Value.ref 733),
  (("put_proto" : Str), Value.ref 584),
  (("P_OBJECT" : Str), Value.int 0 359),
  (("P_ARRAY" : Str), Value.int 1 361),
  (("P_FUNC" : Str), Value.int 2 363),
  (("P_ERROR" : Str), Value.int 3 365),
  (("P_STRING" : Str), Value.int 4 367),
  (("P_NUMBER" : Str), Value.int 5 369),
  (("O_PLAIN" : Str), Value.int 0 351),
  (("Thing" : Str), Value.ref 140),
  (("N_CHAR_AT" : Str), Value.int 201 371),
  (("TextLib" : Str), Value.ref 528),
  (("put_natives" : Str), Value.ref 577),
  (("TEXT_LIB" : Str), Value.ref 425),
  (("N_NUMBER_TEXT" : Str), Value.int 301 385),
  (("NumberLib" : Str), Value.ref 561),
  (("NUMBER_LIB" : Str), Value.ref 427),
  (("set_own" : Str), Value.ref 305),
  (("native_value" : Str), Value.ref 570),
  (("O_FUNC" : Str), Value.int 2 355),
  (("V_OBJ" : Str), Value.int 6 349),
  (("O_ARRAY" : Str), Value.int 1 353),
  (("set_length" : Str), Value.ref 291),
  (("values_place_of" : Str), Value.ref 249),
  (("set_item" : Str), Value.ref 298),
  (("has_name" : Str), Value.ref 270),
  (("V_UNDEF" : Str), Value.int 0 337),
  (("trimmed" : Str), Value.ref 368),
  (("V_NUM" : Str), Value.int 3 343),
  (("base_of_prefix" : Str), Value.ref 382),
  (("digits_value" : Str), Value.ref 375),
  (("num_value" : Str), Value.ref 228),
  (("V_NAN" : Str), Value.int 4 345),
  (("is_other_number" : Str), Value.ref 389),
  (("BLANKS" : Str), Value.str (Str.ofString " \t\n\x0d\x0b\x0c                 　﻿") 397),
  (("PREFIX_BASES" : Str), Value.ref 123),
  (("DIGITS" : Str), Value.str (Str.ofString "0123456789abcdef") 399),
  (("MOST_NUMBER" : Str), Value.int 9007199254740991 387),
  (("run_of_digits" : Str), Value.ref 242),
  (("V_BOOL" : Str), Value.int 2 341),
  (("V_STR" : Str), Value.int 5 347),
  (("V_NULL" : Str), Value.int 1 339),
  (("HostFault" : Str), Value.ref 120),
  (("text_of_this" : Str), Value.ref 469),
  (("text_char_at" : Str), Value.ref 483),
  (("N_TEXT_INDEX_OF" : Str), Value.int 202 373),
  (("text_index_of" : Str), Value.ref 490),
  (("N_TEXT_INCLUDES" : Str), Value.int 203 375),
  (("text_includes" : Str), Value.ref 497),
  (("N_TEXT_SLICE" : Str), Value.int 204 377),
  (("text_slice" : Str), Value.ref 504),
  (("N_UPPER" : Str), Value.int 205 379),
  (("text_bound" : Str), Value.ref 410),
  (("N_LOWER" : Str), Value.int 206 381),
  (("N_TEXT_CONCAT" : Str), Value.int 207 383),
  (("text_concat" : Str), Value.ref 511),
  (("number_text" : Str), Value.ref 544),
  (("DEED_CALL" : Str), Value.int 1 823),
  (("to_text" : Str), Value.ref 361),
  (("to_text_in" : Str), Value.ref 354),
  (("object_text" : Str), Value.ref 347),
  (("arg_at" : Str), Value.ref 441),
  (("front_place" : Str), Value.ref 462),
  (("bool_value" : Str), Value.ref 221),
  (("runlib_place_in" : Str), Value.ref 455),
  (("error_thing" : Str), Value.ref 417),
  (("digits_in" : Str), Value.ref 537),
  (("DIGIT_SIGNS" : Str), Value.str (Str.ofString "0123456789abcdefghijklmnopqrstuvwxyz") 825),
  (("O_ERROR" : Str), Value.int 3 357),
  (("hide_name" : Str), Value.ref 312)]
theorem gAll (P : Params) : gTab.map (fun p => nsIn (KF P) mainGlobals p.1) = gTab.map (fun p => some (some p.2)) := by kernel_rfl
noncomputable def bTab : List (Str × Value) := [(("len" : Str), .builtin "len"), (("range" : Str), .type "range"), (("max" : Str), .builtin "max"), (("min" : Str), .builtin "min"), (("str" : Str), .type "str")]
theorem bAll (P : Params) : bTab.map (fun p => (nsIn (KF P) mainGlobals p.1, bootBuiltins p.1, p.1 == ("__name__" : Str))) = bTab.map (fun p => (some none, some p.2, false)) := by kernel_rfl
theorem gGet (P : Params) (n : Nat) {x : Str} {v : Value} (e : gTab[n]? = some (x, v)) : nsIn (KF P) mainGlobals x = some (some v) :=
  List.map_inj_left.mp (gAll P) (x, v) (List.mem_of_getElem? e)
theorem bGet (P : Params) (n : Nat) {x : Str} {v : Value} (e : bTab[n]? = some (x, v)) : nsIn (KF P) mainGlobals x = some none ∧ bootBuiltins x = some v ∧ (x == ("__name__" : Str)) = false := by
  have := List.map_inj_left.mp (bAll P) (x, v) (List.mem_of_getElem? e)
  simp only [Prod.mk.injEq] at this
  exact this
noncomputable abbrev GI (B : Heap) (x : Str) (a : AV) : Prop := ∃ v, GlobIs B x v ∧ ∀ F : Fz, (∀ a o, B.get? a = some o → F a = some o) → Rel F a v
theorem giB (W : Wd w B) (n : Nat) {x : Str} {v : Value} (e : bTab[n]? = some (x, v)) : GI B x (.val v) := ⟨v, glob_boot W (bGet w.params n e).1 (bGet w.params n e).2.1 (bGet w.params n e).2.2, fun _ _ => rVal⟩
end Mine
namespace Mine
variable {w : World} {B : Heap} {c : Ctx w B} {σ : St} {Q : QA} {E : QE}
noncomputable def kTab : List Nat := [39, 57, 60, 77, 80, 97, 100, 120, 137, 140, 161, 179, 182, 203, 214, 221, 228, 235, 242, 270, 305, 312, 354, 361, 368, 375, 382, 389, 396, 403, 417, 434, 441, 448, 455, 462, 469, 483, 490, 497, 504, 525, 528, 537, 544, 558, 561, 570, 577, 584, 591, 598, 605, 633, 636, 656, 684, 712, 733, 751, 779, 796, 882, 889, 896, 903, 910, 917, 924, 929, 936, 943, 950, 955, 960, 967, 972]
theorem kAll (P : Params) : kTab.map (fun a => keepIn (KF P) (.ref a)) = kTab.map (fun _ => true) := by kernel_rfl
theorem keepR (W : Wd w B) {a : Nat} (h : kTab.contains a = true) : KeepOk w B (.ref a) := keep_K W (List.map_inj_left.mp (kAll w.params) a (List.contains_iff_mem.mp h))
theorem keepR' {a : Nat} (h : kTab.contains a = true) : Wd w B → KeepOk w B (.ref a) := fun W => keepR W h
theorem keepB' {id : String} : Wd w B → KeepOk w B (.builtin id) := fun _ => keep_builtin
theorem keepT' {id : String} : Wd w B → KeepOk w B (.type id) := fun _ => keep_type
theorem VW_use {f : Value} {l : List AV} {j : Nat} {Q0 : AV → HS → Prop} {E0 : AE → HS → Prop} (h0 : CW w B j σ.H f l Q0 E0) (hh : c.A.handled = none) (hj : j ≤ c.k) (q : ∀ a H', Q0 a H' → Q a ⟨σ.loc, H'⟩) (e : ∀ ae H', E0 ae H' → E ae ⟨σ.loc, H'⟩) : VW c σ l (fun vs => call f vs []) Q E :=
  VW_CW hh ((h0.le hj).mono q e)
theorem stw_loc {loc : Loc} {H : HS} {x : Str} {sl : Slot} {a : AV} {loc' : Loc} {Q : St → Prop} (u : LUpd x sl (.lv a) loc loc') (hl : sl.isL = true) (q : Q ⟨loc', H⟩) : StW c ⟨loc, H⟩ a (fun v => storeName c.env x v) Q E := StW_loc (σ := ⟨loc, H⟩) u hl q
end Mine
namespace Mine
variable {w : World} {B : Heap}
inductive LWeak : Loc → Loc → Prop
  | nil : LWeak [] []
  | same {p l l'} : LWeak l l' → LWeak (p :: l) (p :: l')
  | drop {x a l l'} : LWeak l l' → LWeak ((x, .lv a) :: l) ((x, .un) :: l')
  | eq {x a b l l'} : a = b → LWeak l l' → LWeak ((x, .lv a) :: l) ((x, .lv b) :: l')
theorem LWeak.keys {l l' : Loc} (h : LWeak l l') : l'.map (·.1) = l.map (·.1) := by
  induction h with
  | nil => rfl
  | same _ ih => rw [List.map_cons, List.map_cons, ih]
  | drop _ ih => rw [List.map_cons, List.map_cons, ih]
  | eq _ _ ih => rw [List.map_cons, List.map_cons, ih]
theorem LWeak.mem {l l' : Loc} (h : LWeak l l') : ∀ p ∈ l', p ∈ l ∨ (p.2 = .un ∧ ∃ a, (p.1, .lv a) ∈ l) := by
  induction h with
  | nil => intro p hp; cases hp
  | same _ ih =>
    intro p hp
    rcases List.mem_cons.mp hp with rfl | hp
    · exact .inl (.head _)
    · rcases ih p hp with z | ⟨z, a, y⟩
      · exact .inl (.tail _ z)
      · exact .inr ⟨z, a, .tail _ y⟩
  | drop _ ih =>
    intro p hp
    rcases List.mem_cons.mp hp with rfl | hp
    · exact .inr ⟨rfl, _, .head _⟩
    · rcases ih p hp with z | ⟨z, a, y⟩
      · exact .inl (.tail _ z)
      · exact .inr ⟨z, a, .tail _ y⟩
  | eq e _ ih =>
    subst e
    intro p hp
    rcases List.mem_cons.mp hp with rfl | hp
    · exact .inl (.head _)
    · rcases ih p hp with z | ⟨z, a, y⟩
      · exact .inl (.tail _ z)
      · exact .inr ⟨z, a, .tail _ y⟩
noncomputable def Weak (σ σ' : St) : Prop := LWeak σ.loc σ'.loc ∧ σ'.H = σ.H
theorem Rep.weak {c : Ctx w B} {F : Fz} {σ σ' : St} {s : Shared} (R : Rep c F σ s) (h : Weak σ σ') : Rep c F σ' s := by
  obtain ⟨l, e⟩ := h
  obtain ⟨loc, H⟩ := σ
  obtain ⟨loc', H'⟩ := σ'
  cases e
  obtain ⟨m, n, q⟩ := R.loc
  refine ⟨R.ok, R.cr, R.pres, R.own, R.gd, l.keys ▸ R.nd, fun p hp => ?_, m, n, fun p hp => ?_⟩
  · rcases l.mem p hp with z | ⟨_, a, y⟩
    · exact R.dbg p z
    · exact (R.dbg (p.1, .lv a) y : _)
  · rcases l.mem p hp with z | ⟨z, a, y⟩
    · exact q p z
    · rw [z]; exact (q (p.1, .lv a) y).1
noncomputable def LoopQ (Again : St → Prop) (Q : QF) : QF := fun f σ => match f with
  | .next => ∃ σ', Weak σ σ' ∧ Again σ'
  | .cont => ∃ σ', Weak σ σ' ∧ Again σ'
  | .brk => Q .next σ
  | .ret a => Q (.ret a) σ
theorem XW_While {c : Ctx w B} {σ : St} {Q : QF} {E : QE} {test : Expr} {body : List Stmt} {pos : Pos} (Inv : Nat → St → Prop) (n : Nat) (h0 : Inv n σ)
    (step : ∀ n σ, Inv n σ → TW c σ (isTrue test c.env (eval test c.env)) (fun b σ' => (b = true → SW c σ' body (LoopQ (fun σ'' => ∃ m, m < n ∧ Inv m σ'') Q) (fun _ _ => False)) ∧ (b = false → Q .next σ')) (fun _ _ => False)) :
    XW c σ (exec (.While test body [] pos) c.env) Q E := fun F s R => by
  refine wpAny_While (codeAny_whileLoop (fun n s' => ∃ F' σ', F.le F' ∧ Rep c F' σ' s' ∧ Inv n σ') (fun n s' ⟨F', σ', l, R', hI⟩ => ?_) n ⟨F, σ, Fz.le.refl F, R, h0⟩)
  refine wpAny_mono (step n σ' hI F' s' R') (fun b s₂ zz => zz.elim fun F₂ σ₂ l₂ R₂ h₂ => ?_) fun _ _ ⟨_, _, _, _, _, _, x⟩ => x.elim
  cases b with
  | true =>
    rw [if_pos rfl]
    refine wpAny_mono (h₂.1 rfl F₂ s₂ R₂) (fun f s₃ zz => zz.elim fun F₃ σ₃ a l₃ R₃ r₃ h₃ => ?_) fun _ _ ⟨_, _, _, _, _, _, x⟩ => x.elim
    cases a with
    | next => cases r₃; obtain ⟨σ₄, hw, m, hm, hI'⟩ := h₃; exact ⟨m, hm, F₃, σ₄, (l.trans l₂).trans l₃, R₃.weak hw, hI'⟩
    | cont => cases r₃; obtain ⟨σ₄, hw, m, hm, hI'⟩ := h₃; exact ⟨m, hm, F₃, σ₄, (l.trans l₂).trans l₃, R₃.weak hw, hI'⟩
    | brk => cases r₃; exact ⟨F₃, σ₃, .next, (l.trans l₂).trans l₃, R₃, rNext, h₃⟩
    | ret a => obtain ⟨v, rfl, r⟩ := r₃; exact ⟨F₃, σ₃, .ret a, (l.trans l₂).trans l₃, R₃, rRet r, h₃⟩
  | false =>
    rw [if_neg (by decide)]
    exact wpAny_execs_nil ⟨F₂, σ₂, .next, l.trans l₂, R₂, rNext, h₂.2 rfl⟩
noncomputable def Ctx.guard (c : Ctx w B) (p : Addr × Obj) : Ctx w B := { c with gd := p :: c.gd }
structure Apart (c : Ctx w B) (I : Addr) : Prop where
  h0 : c.h0.get? I = none
  gd : ∀ p ∈ c.gd, p.1 ≠ I
theorem CtxOk.guard {c : Ctx w B} (x : CtxOk c) (p : Addr × Obj) : CtxOk (c.guard p) := ⟨x.wd, x.kind, x.locals, x.globals, x.builtins, x.frames, x.depth, x.units, x.ownL, x.cells, x.inj⟩
theorem CtxOk.unguard {c : Ctx w B} {p : Addr × Obj} (x : CtxOk (c.guard p)) : CtxOk c := ⟨x.wd, x.kind, x.locals, x.globals, x.builtins, x.frames, x.depth, x.units, x.ownL, x.cells, x.inj⟩
theorem Rep.unguard {c : Ctx w B} {p : Addr × Obj} {F : Fz} {σ : St} {s : Shared} (R : Rep (c.guard p) F σ s) : Rep c F σ s :=
  ⟨R.ok.unguard, R.cr, R.pres, R.own, fun q hq => R.gd q (.tail _ hq), R.nd, R.dbg, let ⟨m, n, l⟩ := R.loc; ⟨m, n, fun p hp => SlotOk.map (c := c) (Fz.le.refl F) (fun _ _ _ e => .inl e) R.ok.cells (l p hp)⟩⟩
theorem Rep.guardNew {c : Ctx w B} {F : Fz} {σ : St} {s : Shared} (R : Rep c F σ s) (o : Obj) (hf : o.isFreed = false) (hd : ∀ es n, o.data ≠ .dict es n) (d : Drawn) (t : Nat) :
    Apart c s.heap.objs.size ∧ Rep (c.guard (s.heap.objs.size, o)) F σ ⟨s.heap.push o, s.gens, d, t, s.os⟩ := by
  have hn := get_size s.heap
  have R' := R.junk (h' := s.heap.push o) (fun a o e => Heap.get?_push_of_some _ e) d t
  have ap : Apart c s.heap.objs.size := by
    refine ⟨?_, fun p hp e => ?_⟩
    · cases q : c.h0.get? s.heap.objs.size with
      | none => rfl
      | some o => obtain ⟨o', e'⟩ := R.pres.ever _ o q; rw [hn] at e'; cases e'
    · have := (R.gd p hp).1; rw [e, hn] at this; cases this
  refine ⟨ap, ⟨R'.ok.guard _, R'.cr, R'.pres, R'.own, fun q hq => ?_, R'.nd, R'.dbg, let ⟨m, n, l⟩ := R'.loc; ⟨m, n, fun p hp => SlotOk.map (c := c.guard _) (Fz.le.refl F) (fun _ _ _ e => .inl e) R.ok.cells (l p hp)⟩⟩⟩
  rcases List.mem_cons.mp hq with rfl | hq
  · refine ⟨Heap.get?_push_size _ hf, R.cr.fz_none hn, fun z => ?_, fun z => ?_, hd⟩
    · obtain ⟨p, hp, e⟩ := List.mem_map.mp z
      obtain ⟨_, o, e', _⟩ := R.cr.hot p hp
      rw [e, hn] at e'; cases e'
    · have := (R.own _ z).2.2.2
      rw [hn] at this; cases this
  · exact R'.gd q hq
theorem Rep.off {c : Ctx w B} {I : Addr} {o : Obj} {F : Fz} {σ : St} {s : Shared} {h' : Heap} (ap : Apart c I) (R : Rep (c.guard (I, o)) F σ s) (hs : Heap.ExtBut I s.heap h') (d : Drawn) (t : Nat) : Rep c F σ ⟨h', s.gens, d, t, s.os⟩ := by
  obtain ⟨g1, g2, g3, g4, g5⟩ := R.gd (I, o) (.head _)
  have U := R.unguard
  have k : ∀ a o', a ≠ I → s.heap.get? a = some o' → h'.get? a = some o' := fun a o' n e => hs a o' n e
  refine ⟨U.ok, ⟨U.cr.base, fun a o' e => k a o' (fun z => by rw [z, g2] at e; cases e) (U.cr.fz a o' e), U.cr.nd, fun p hp => ?_, ?_, U.cr.gens, U.cr.os, U.cr.big⟩, ⟨U.pres.le, fun a o' e m => (U.pres.same a o' e m).trans fun o2 e2 => .inl (k a o2 (fun z => by rw [z, ap.h0] at e; cases e) e2), U.pres.ks, U.pres.fr, fun a o' e => ?_⟩, fun a ha => ?_, fun p hp => ?_, U.nd, U.dbg, ?_⟩
  · obtain ⟨f, o', e, r⟩ := U.cr.hot p hp
    exact ⟨f, o', k _ _ (fun z => g3 (z ▸ List.mem_map_of_mem (f := (·.1)) hp)) e, r⟩
  · have : ∀ {fs : List Env}, FrOk B F σ.H s.heap fs → FrOk B F σ.H h' fs := by
      intro fs
      induction fs with
      | nil => exact id
      | cons env r ih =>
        rintro ⟨x1, ⟨L, o', es, n, e, g, dd, f, nk⟩, t⟩
        exact ⟨x1, ⟨L, o', es, n, e, k _ _ (fun z => by rw [z, g1] at g; cases g; exact g5 _ _ dd) g, dd, f, nk⟩, ih t⟩
    exact this U.cr.fr
  · obtain ⟨o2, e2⟩ := U.pres.ever a o' e
    exact ⟨o2, k a o2 (fun z => by rw [z, ap.h0] at e; cases e) e2⟩
  · obtain ⟨x1, x2, x3, x4⟩ := U.own a ha
    obtain ⟨o', e⟩ := Option.isSome_iff_exists.mp x4
    exact ⟨x1, x2, x3, isSome_of (k a o' (fun z => g4 (z ▸ ha)) e)⟩
  · obtain ⟨y1, y2, y3, y4, y5⟩ := U.gd p hp
    exact ⟨k _ _ (ap.gd p hp) y1, y2, y3, y4, y5⟩
  · obtain ⟨m, n, l⟩ := U.loc
    have ow : ∀ a, Held c a → ∀ o', s.heap.get? a = some o' → Same h' a o' := fun a ha o' e => .inl (k a o' (fun z => ha.elim (fun y => g4 (z ▸ y)) fun y => by rw [z, ap.h0] at y; cases y.1) e)
    exact ⟨m, Ns_same n (ow _ (.inl U.ok.ownL)), fun p hp => SlotOk.map (Fz.le.refl F) ow U.ok.cells (l p hp)⟩
theorem Rep.reguard {c : Ctx w B} {I : Addr} {o o' : Obj} {F : Fz} {σ : St} {s : Shared} {h' : Heap} (ap : Apart c I) (R : Rep (c.guard (I, o)) F σ s) (hs : Heap.ExtBut I s.heap h') (e : h'.get? I = some o') (hd : ∀ es n, o'.data ≠ .dict es n) (d : Drawn) (t : Nat) : Rep (c.guard (I, o')) F σ ⟨h', s.gens, d, t, s.os⟩ := by
  obtain ⟨g1, g2, g3, g4, g5⟩ := R.gd (I, o) (.head _)
  have U := R.off ap hs d t
  refine ⟨U.ok.guard _, U.cr, U.pres, U.own, fun q hq => ?_, U.nd, U.dbg, let ⟨m, n, l⟩ := U.loc; ⟨m, n, fun p hp => SlotOk.map (c := c.guard _) (Fz.le.refl F) (fun _ _ _ e => .inl e) U.ok.cells (l p hp)⟩⟩
  rcases List.mem_cons.mp hq with rfl | hq
  · exact ⟨e, g2, g3, g4, hd⟩
  · exact U.gd q hq
structure Iter (w : World) (A : Around) (F₀ : Fz) (I : Addr) (n : Nat) (item : Nat → AV) (it : Nat → Obj → Prop) : Prop where
  nd : ∀ i o, it i o → ∀ es k, o.data ≠ .dict es k
  next : ∀ i, i < n → ∀ (s : Shared) o (Q : Option Value → Shared → Prop) (E : Value → Shared → Prop), (∀ a o, F₀ a = some o → s.heap.get? a = some o) → s.heap.get? I = some o → it i o →
    (∀ v h' tk o', Heap.ExtBut I s.heap h' → h'.get? I = some o' → it (i + 1) o' → (∀ F : Fz, F₀.le F → Rel F (item i) v) → Q (some v) ⟨h', s.gens, s.drawn, tk, s.os⟩) → wpAny (MW w) A (pyNext (.ref I)) Q E s
  last : ∀ (s : Shared) o (Q : Option Value → Shared → Prop) (E : Value → Shared → Prop), (∀ a o, F₀ a = some o → s.heap.get? a = some o) → s.heap.get? I = some o → it n o →
    (∀ h', Heap.ExtBut I s.heap h' → Q none ⟨h', s.gens, s.drawn, s.toks, s.os⟩) → wpAny (MW w) A (pyNext (.ref I)) Q E s
inductive ForOb (c : Ctx w B) (σ : St) (n : Nat) (item : Nat → AV) (target : Expr) (body : List Stmt) (Q : QF) : Prop
  | mk (Inv : Nat → St → Prop) (h0 : Inv 0 σ) (step : ∀ i σ', i < n → Inv i σ' → ∀ c' : Ctx w B, c'.A = c.A → c'.env = c.env → c'.k = c.k → StW c' σ' (item i) (assign target c'.env) (fun σ₂ => SW c' σ₂ body (LoopQ (Inv (i + 1)) Q) (fun _ _ => False)) (fun _ _ => False)) (fin : ∀ σ', Inv n σ' → Q .next σ')
theorem For_core {c : Ctx w B} {σ : St} {Q : QF} {target : Expr} {body : List Stmt} {I : Addr} {n : Nat} {item : Nat → AV} {it : Nat → Obj → Prop} {F : Fz} {s : Shared} {o : Obj} {E' : Value → Shared → Prop}
    (hit : Iter w c.A F I n item it) (ap : Apart c I) (R : Rep (c.guard (I, o)) F σ s) (ho : it 0 o) (ob : ForOb c σ n item target body Q) (hl : ∀ v, letOwnedTupleGo target (.ref I) v = pure ()) :
    codeAny (MW w) c.A (.forLoop target (.ref I) body [] c.env) (fun r s' => match r with | .ok f => PostF c F Q f s' | .error e => E' e s') s := by
  obtain ⟨Inv, h0, step, fin⟩ := ob
  refine codeAny_forLoop (fun k s' => ∃ i F' σ' o', i ≤ n ∧ k = n + 1 - i ∧ F.le F' ∧ Rep (c.guard (I, o')) F' σ' s' ∧ it i o' ∧ Inv i σ') (fun k s' ⟨i, F', σ', o', hi, hk, l, R', hit', hI⟩ => ?_) (n + 1) ⟨0, F, σ, o, Nat.zero_le _, rfl, Fz.le.refl F, R, ho, h0⟩ hl
  have fz : ∀ a o, F a = some o → s'.heap.get? a = some o := fun a o e => R'.cr.fz _ _ (l a o e)
  have gI := (R'.gd (I, o') (.head _)).1
  by_cases hlt : i < n
  · refine hit.next i hlt s' o' _ _ fz gI hit' fun v h' tk o2 hs e2 hit2 rv => ?_
    have R2 := R'.reguard ap hs e2 (hit.nd _ _ hit2) s'.drawn tk
    have st := step i σ' hlt hI (c.guard (I, o2)) rfl rfl rfl F' _ v R2 (rv F' l)
    refine wpAny_mono st (fun _ s₂ zz => zz.elim fun F₂ σ₂ l₂ R₂ h₂ => ?_) fun _ _ ⟨_, _, _, _, _, _, x⟩ => x.elim
    refine wpAny_mono (h₂ F₂ s₂ R₂) (fun f s₃ zz => zz.elim fun F₃ σ₃ a l₃ R₃ r₃ h₃ => ?_) fun _ _ ⟨_, _, _, _, _, _, x⟩ => x.elim
    have lt := (l.trans l₂).trans l₃
    cases a with
    | next => cases r₃; obtain ⟨σ₄, hw, hI'⟩ := h₃; exact ⟨n + 1 - (i + 1), by omega, i + 1, F₃, σ₄, o2, hlt, rfl, lt, R₃.weak hw, hit2, hI'⟩
    | cont => cases r₃; obtain ⟨σ₄, hw, hI'⟩ := h₃; exact ⟨n + 1 - (i + 1), by omega, i + 1, F₃, σ₄, o2, hlt, rfl, lt, R₃.weak hw, hit2, hI'⟩
    | brk => cases r₃; exact ⟨F₃, σ₃, .next, lt, R₃.unguard, rNext, h₃⟩
    | ret a => obtain ⟨v, rfl, r⟩ := r₃; exact ⟨F₃, σ₃, .ret a, lt, R₃.unguard, rRet r, h₃⟩
  · have hn : i = n := by omega
    subst hn
    refine hit.last s' o' _ _ fz gI hit' fun h' hs => wpAny_execs_nil ?_
    exact ⟨F', σ', .next, l, R'.off ap hs _ _, rNext, fin σ' hI⟩
noncomputable def ForW (c : Ctx w B) (σ : St) (a : AV) (target : Expr) (body : List Stmt) (Q : QF) (E : QE) : Prop := ∀ F s v, Rep c F σ s → Rel F a v →
  wpAny (MW w) c.A (pyIter v) (fun it s₂ => codeAny (MW w) c.A (.forLoop target it body [] c.env) (fun r s' => match r with | .ok f => PostF c F Q f s' | .error e => cameBackBy (MW w) c.A c.env (PostE c F E) e s') s₂) (PostE c F E) s
theorem XW_For {c : Ctx w B} {σ : St} {Q : QF} {E : QE} {target iter : Expr} {body : List Stmt} {pos : Pos} (h : EW c σ (eval iter c.env) (fun a σ₁ => ForW c σ₁ a target body Q E) E)
    (hf : ∀ x env, foldedSetIterable iter env x = pure x) : XW c σ (exec (.For target iter body [] pos) c.env) Q E := fun F s R => by
  refine wpAny_For (wpAny_mono (h F s R) (fun v s₁ zz => zz.elim fun F₁ σ₁ a l R₁ r h₁ => ?_) fun _ _ e => e) (fun x => hf x _)
  refine wpAny_mono (h₁ F₁ s₁ v R₁ r) (fun it s₂ h₂ => codeAny_mono h₂ fun r s' p => ?_) fun _ _ e => e.mono l
  cases r with
  | ok f => exact PostF.mono l p
  | error e => exact wpAny_mono p (fun _ _ x => x.mono l) fun _ _ x => x.mono l
theorem VW_range {c : Ctx w B} {σ : St} {Q : QA} {E : QE} {n : Int} (q : Q (.rng n) σ) : VW c σ [.int n] (fun vs => call (.type "range") vs []) Q E := fun F s _ R zq4 => by
  obtain ⟨v, vs', e, ⟨t, ev⟩, e'⟩ := zq4
  cases e'; subst e; subst ev
  refine call_range_1 ?_
  obtain ⟨le, R₂⟩ := R.freeze { cls := .type "range", data := .fields #[.int 0 s.toks, .int n t, .int 1 (s.toks + 1)] } rfl s.drawn (s.toks + 1 + 1)
  exact ⟨_, σ, .rng n, le, R₂, ⟨_, _, _, _, rfl, Fz.put_self _ _ _⟩, q⟩
theorem rangeSize_1 {n : Nat} : Builtin.Range.rangeSize 0 n 1 = n := by
  unfold Builtin.Range.rangeSize
  by_cases h : (0 : Int) < n
  · simp [h] <;> omega
  · have : n = 0 := by omega
    subst this; decide
theorem small_1 {n : Nat} (h : n ≤ 100000) : Builtin.Range.small 0 n 1 = true := by
  have f : ∀ i : Int, -1000000 ≤ i → i ≤ 1000000 → Builtin.Range.rangeFitsLong i = true := by
    intro i h1 h2
    unfold Builtin.Range.rangeFitsLong
    simp only [Bool.and_eq_true, decide_eq_true_eq]
    omega
  unfold Builtin.Range.small
  rw [rangeSize_1]
  simp only [Bool.and_eq_true, Bool.or_eq_true]
  refine ⟨⟨⟨⟨f _ (by omega) (by omega), f _ (by omega) (by omega)⟩, f _ (by omega) (by omega)⟩, f _ (by omega) (by omega)⟩, .inr ?_⟩
  rw [if_pos (by decide)]
  exact f _ (by omega) (by omega)
theorem For_rng {c : Ctx w B} {σ : St} {Q : QF} {E : QE} {target : Expr} {body : List Stmt} (n : Nat) (hh : c.A.handled = none) (hn : n ≤ 100000) (ob : ForOb c σ n (fun i => .int i) target body Q)
    (hl : ∀ it v, letOwnedTupleGo target it v = pure ()) : ForW c σ (.rng n) target body Q E := fun F s v R zq4 => by
  obtain ⟨a, t, u, z, ev, f⟩ := zq4
  subst ev
  refine wpAny_pyIter_range (R.cr.fz _ _ f) (small_1 hn) ?_
  rw [rangeSize_1]
  obtain ⟨ap, R'⟩ := R.guardNew { cls := .type "range_iterator", data := .fields #[rawInt 0, rawInt n, rawInt 1] } rfl (fun _ _ e => by cases e) s.drawn s.toks
  refine For_core (it := fun i o => o = { cls := .type "range_iterator", data := .fields #[rawInt i, rawInt ((n : Int) - i), rawInt 1] }) ⟨fun i o e es k => by rw [e]; simp, fun i hi s o Q E fz g e k => ?_, fun s o Q E fz g e k => ?_⟩ ap R' (by simp) ob (hl _)
  · subst e
    refine wpAny_pyNext_range_item (x := i) (left := (n : Int) - i) (step := 1) g (by omega) fun h' hit' hs => k _ _ _ _ hs.extBut hit' ?_ fun F _ => rInt
    have e1 : ((i + 1 : Nat) : Int) = (i : Int) + 1 := by push_cast; rfl
    rw [e1, show (n : Int) - ((i : Int) + 1) = (n : Int) - i - 1 by omega]
  · subst e
    exact wpAny_pyNext_range_end hh g (by omega) fun h' hs => k h' hs
theorem For_tup {c : Ctx w B} {σ : St} {Q : QF} {E : QE} {target : Expr} {body : List Stmt} {l : List AV} (hh : c.A.handled = none) (ob : ForOb c σ l.length (fun i => (l[i]?).getD .none) target body Q)
    (hlt : ∀ it v, letOwnedTupleGo target it v = pure ()) : ForW c σ (.tup l) target body Q E := fun F s v R zq4 => by
  obtain ⟨a, vs, k, ev, f, rl⟩ := zq4
  subst ev
  have ht : ∀ s : Shared, (∀ a o, F a = some o → s.heap.get? a = some o) → s.heap.IsTuple a ⟨vs⟩ := fun s fz => ⟨_, fz _ _ f, rfl, k, rfl⟩
  refine wpAny_pyIter_tuple (ht s R.cr.fz) ?_
  obtain ⟨ap, R'⟩ := R.guardNew { cls := .type "tuple_iterator", data := .fields #[.ref a, .int 0 0] } rfl (fun _ _ e => by cases e) s.drawn s.toks
  refine For_core (it := fun i o => o.cls = .type "tuple_iterator" ∧ o.data = .fields #[.ref a, .int i 0]) ⟨fun i o e es k => by rw [e.2]; simp, fun i hi s o Q E fz g e kk => ?_, fun s o Q E fz g e kk => ?_⟩ ap R' ⟨rfl, rfl⟩ ob (hlt _)
  · have hi' : i < vs.length := by rw [rl.length]; exact hi
    obtain ⟨y, ey, ry⟩ := rl.get i l[i] (by simp [hi])
    refine wpAny_pyNext_tuple_item ⟨o, g, e.1, e.2⟩ (ht s fz) (toArr_get.trans ey) fun h' ⟨o', g', c', d'⟩ hs => kk _ _ _ o' hs.extBut g' ⟨c', d'⟩ fun G le => ?_
    simp only [List.getElem?_eq_getElem hi, Option.getD_some]
    exact Rel.mono le _ _ ry
  · exact wpAny_pyNext_tuple_end hh ⟨o, g, e.1, e.2⟩ (ht s fz) (by rw [toArr_get]; exact List.getElem?_eq_none (by rw [rl.length]; exact Nat.le_refl _)) fun h' hs => kk h' hs
theorem For_str {c : Ctx w B} {σ : St} {Q : QF} {E : QE} {target : Expr} {body : List Stmt} {x : Str} (hh : c.A.handled = none) (ob : ForOb c σ x.cps.size (fun i => .str ⟨#[(x.cps[i]?).getD 0]⟩) target body Q)
    (hlt : ∀ it v, letOwnedTupleGo target it v = pure ()) : ForW c σ (.str x) target body Q E := fun F s v R zq4 => by
  obtain ⟨t, ev⟩ := zq4
  subst ev
  by_cases ha : x.cps.all (· < 128) = true
  · refine wpAny_pyIter_ascii ha ?_
    obtain ⟨ap, R'⟩ := R.guardNew { cls := .type "str_ascii_iterator", data := .fields #[.str x t, .int 0 0] } rfl (fun _ _ e => by cases e) s.drawn s.toks
    refine For_core (it := fun i o => o.cls = .type "str_ascii_iterator" ∧ o.data = .fields #[.str x t, .int i 0]) ⟨fun i o e es k => by rw [e.2]; simp, fun i hi s o Q E fz g e kk => ?_, fun s o Q E fz g e kk => ?_⟩ ap R' ⟨rfl, rfl⟩ ob (hlt _)
    · have hx : x.cps[i]? = some x.cps[i] := by simp [hi]
      refine wpAny_pyNext_ascii_item ⟨o, g, e.1, e.2⟩ hx fun h' ⟨o', g', c', d'⟩ hs => kk _ _ _ o' hs.extBut g' ⟨c', d'⟩ fun G le => ?_
      simp only [hx, Option.getD_some]; exact rStr
    · exact wpAny_pyNext_ascii_end hh ⟨o, g, e.1, e.2⟩ (by simp) fun h' hs => kk h' hs
  · refine wpAny_pyIter_wide (by simpa using ha) ?_
    obtain ⟨ap, R'⟩ := R.guardNew { cls := .type "str_iterator", data := .fields #[.str x t, .int 0 0] } rfl (fun _ _ e => by cases e) s.drawn s.toks
    refine For_core (it := fun i o => o.cls = .type "str_iterator" ∧ o.data = .fields #[.str x t, .int i 0]) ⟨fun i o e es k => by rw [e.2]; simp, fun i hi s o Q E fz g e kk => ?_, fun s o Q E fz g e kk => ?_⟩ ap R' ⟨rfl, rfl⟩ ob (hlt _)
    · have hx : x.cps[i]? = some x.cps[i] := by simp [hi]
      refine wpAny_pyNext_wide_item ⟨o, g, e.1, e.2⟩ hx fun h' ⟨o', g', c', d'⟩ hs => kk _ _ _ o' hs.extBut g' ⟨c', d'⟩ fun G le => ?_
      simp only [hx, Option.getD_some]; exact rStr
    · exact wpAny_pyNext_wide_end hh ⟨o, g, e.1, e.2⟩ (by simp) fun h' hs => kk h' hs
end Mine
namespace Mine
variable {w : World} {B : Heap} {c : Ctx w B} {σ : St} {Q : QA} {E : QE}
section
variable {K : Type} [DecidableEq K] {knd : PySem.KeyKind PG w K} {F : Fz} {es : List (K × AV)} {ds : List DictEntry} {kvs : List (K × Value)} {k : K} {a : AV}
theorem RelKV.keys : ∀ {es : List (K × AV)} {kvs : List (K × Value)}, RelKV F es kvs → kvs.map (·.1) = es.map (·.1)
  | [], _, r => by cases r; rfl
  | (_, _) :: _, _, ⟨v, kvs', e, _, s⟩ => by subst e; rw [List.map_cons, List.map_cons, s.keys]
theorem RelKV.mem : ∀ {es : List (K × AV)} {kvs : List (K × Value)}, RelKV F es kvs → ∀ p ∈ es, ∃ v, (p.1, v) ∈ kvs ∧ Rel F p.2 v
  | [], _, _, _, h => nomatch h
  | (x, a) :: l, _, ⟨v, kvs', e, r, s⟩, p, h => by
    subst e
    rcases List.mem_cons.mp h with rfl | h
    · exact ⟨v, .head _, r⟩
    · obtain ⟨u, m, r'⟩ := s.mem p h
      exact ⟨u, .tail _ m, r'⟩
theorem valueAt_some : ∀ {kvs : List (K × Value)} {k : K} {v : Value}, (kvs.map (·.1)).Nodup → (k, v) ∈ kvs → valueAt kvs k = some v
  | [], _, _, _, h => nomatch h
  | (x, u) :: r, k, v, nd, h => by
    have nd' := List.nodup_cons.mp nd
    unfold valueAt
    rcases List.mem_cons.mp h with e | h
    · cases e; rw [List.find?_cons]; simp
    · have ne : x ≠ k := fun z => nd'.1 (z ▸ List.mem_map_of_mem (f := (·.1)) h)
      rw [List.find?_cons]
      simp only [ne, decide_false]
      exact valueAt_some nd'.2 h
theorem valueAt_none {kvs : List (K × Value)} {k : K} (h : k ∉ kvs.map (·.1)) : valueAt kvs k = none := by
  unfold valueAt
  rw [List.find?_eq_none.mpr]
  · rfl
  · intro p hp e
    exact h (by rw [← of_decide_eq_true e]; exact List.mem_map_of_mem (f := (·.1)) hp)
theorem EntK.dictOf {h : Heap} {d : Addr} {n : Nat} (r : EntK knd F es ds) (e : h.get? d = some (dictOf ds n)) : ∃ kvs : List (K × Value), h.DictOf knd d kvs ∧ RelKV F es kvs := by
  obtain ⟨kvs, a, b, x, y⟩ := r
  exact ⟨kvs, ⟨_, _, n, e, ⟨rfl, rfl, rfl⟩, rfl, a, b, y⟩, x⟩
theorem EntK.of {h : Heap} {d : Addr} (D : h.DictOf knd d kvs) (r : RelKV F es kvs) : ∃ ds n, h.get? d = some (W.dictOf ds n) ∧ EntK knd F es ds := by
  obtain ⟨⟨oc, od, odt, osl⟩, es', ep, e, ⟨e1, e2, e3⟩, dd, a, b, y⟩ := D
  dsimp only at e1 e2 e3 dd
  subst e1; subst e2; subst e3; subst dd
  exact ⟨es'.toList, ep, by simpa using e, kvs, by simpa using a, b, r, y⟩
inductive KUpd (k : K) (a : AV) : List (K × AV) → List (K × AV) → Prop
  | head {b r} : KUpd k a ((k, b) :: r) ((k, a) :: r)
  | tail {p r r'} : KUpd k a r r' → KUpd k a (p :: r) (p :: r')
theorem KUpd.mem {es es' : List (K × AV)} (u : KUpd k a es es') : k ∈ es.map (·.1) := by
  induction u with
  | head => exact .head _
  | tail _ ih => exact .tail _ ih
theorem KUpd.stored {es es' : List (K × AV)} {v : Value} (u : KUpd k a es es') (rv : Rel F a v) : ∀ {kvs : List (K × Value)}, RelKV F es kvs → (kvs.map (·.1)).Nodup → RelKV F es' (kvs.map fun kv => if kv.1 = k then (kv.1, v) else kv) := by
  induction u with
  | @head b r =>
    rintro _ ⟨v', kvs', rfl, r1, s⟩ nd
    have nd' := List.nodup_cons.mp nd
    refine ⟨v, kvs', ?_, rv, s⟩
    rw [List.map_cons, map_store_of_not_mem _ _ _ nd'.1]; simp
  | @tail p r r' u ih =>
    obtain ⟨x, b⟩ := p
    rintro _ ⟨v', kvs', rfl, r1, s⟩ nd
    have nd' := List.nodup_cons.mp nd
    refine ⟨v', _, ?_, r1, ih s nd'.2⟩
    have : x ≠ k := fun z => nd'.1 (by rw [s.keys, z]; exact u.mem)
    rw [List.map_cons, if_neg this]
theorem RelKV.snoc {v : Value} (rv : Rel F a v) : ∀ {es : List (K × AV)} {kvs : List (K × Value)}, RelKV F es kvs → RelKV F (es ++ [(k, a)]) (kvs ++ [(k, v)])
  | [], _, r => by cases r; exact ⟨v, [], rfl, rv, rfl⟩
  | (_, _) :: _, _, ⟨v', kvs', e, r1, s⟩ => by subst e; exact ⟨v', _, rfl, r1, RelKV.snoc rv s⟩
theorem stored_upd {es es' : List (K × AV)} {v : Value} (u : KUpd k a es es') (rv : Rel F a v) (r : RelKV F es kvs) (nd : (kvs.map (·.1)).Nodup) : RelKV F es' (stored kvs k v) := by
  unfold stored
  rw [if_pos]
  · exact u.stored rv r nd
  · have := u.mem
    rw [← r.keys] at this
    obtain ⟨p, hp, e⟩ := List.mem_map.mp this
    exact List.any_eq_true.mpr ⟨p, hp, by simp [e]⟩
theorem stored_new {v : Value} (n : k ∉ es.map (·.1)) (rv : Rel F a v) (r : RelKV F es kvs) : RelKV F (es ++ [(k, a)]) (stored kvs k v) := by
  unfold stored
  rw [if_neg]
  · exact RelKV.snoc rv r
  · intro h
    obtain ⟨p, hp, e⟩ := List.any_eq_true.mp h
    exact n (by rw [← r.keys, ← of_decide_eq_true e]; exact List.mem_map_of_mem (f := (·.1)) hp)
end
theorem DictOf.nodup {K : Type} [DecidableEq K] {knd : PySem.KeyKind PG w K} {h : Heap} {d : Addr} {kvs : List (K × Value)} (D : h.DictOf knd d kvs) : (kvs.map (·.1)).Nodup := by
  obtain ⟨_, _, _, _, _, _, _, _, y⟩ := D; exact y
structure Dct (w : World) (K : Type) [DecidableEq K] (knd : PySem.KeyKind PG w K) (mk : List (K × AV) → HObj) (key : K → AV) : Prop where
  rel : ∀ (F : Fz) es o, HRel F w (mk es) o ↔ DctR knd F es o
  is : ∀ (F : Fz) k v, Rel F (key k) v → knd.is k v = true
theorem dctS (w : World) : Dct w Str (PySem.strKind PG w) HObj.dctS AV.str := ⟨fun _ _ _ => Iff.rfl, fun _ k v ⟨t, e⟩ => by subst e; show Value.isStrOf k (.str k t) = true; unfold Value.isStrOf; simp⟩
theorem dctI (w : World) : Dct w Int (PySem.intKind PG w) HObj.dctI AV.int := ⟨fun _ _ _ => Iff.rfl, fun _ k v ⟨t, e⟩ => by subst e; show Value.isInt k (.int k t) = true; unfold Value.isInt; simp⟩
section
variable {K : Type} [DecidableEq K] {knd : PySem.KeyKind PG w K} {mk : List (K × AV) → HObj} {key : K → AV} {d : Addr} {es : List (K × AV)} {k : K} {a : AV} {F : Fz} {s : Shared}
theorem Dct.at (T : Dct w K knd mk key) (R : Rep c F σ s) (m : (d, mk es) ∈ σ.H) : ∃ kvs : List (K × Value), s.heap.DictOf knd d kvs ∧ RelKV F es kvs ∧ (d == sysModules) = false := by
  obtain ⟨_, o, eo, hr⟩ := R.cr.hot _ m
  obtain ⟨ds, n, rfl, ek⟩ := (T.rel F es o).mp hr
  obtain ⟨kvs, D, r⟩ := ek.dictOf eo
  refine ⟨kvs, D, r, ?_⟩
  have := R.cr.big d (List.mem_map_of_mem (f := (·.1)) m)
  exact beq_false_of_ne (fun z => by rw [z] at this; exact absurd this (by decide))
theorem Dct.get (T : Dct w K knd mk key) {value slice : Expr} (m : (d, mk es) ∈ σ.H) (mk' : (k, a) ∈ es) (q : Q a σ) (hs : ∀ o i, subscripted slice false o i = operate [o, i] (getItem o i)) : BW c σ (.val (.ref d)) (key k) (subscriptTail value slice) Q E := fun F s u v R eu ev => by
  cases eu
  obtain ⟨kvs, D, r, ne⟩ := T.at R m
  obtain ⟨y, my, ry⟩ := r.mem _ mk'
  exact tail_any (ops := [.ref d, v]) D.typeIs slot_dict_getitem.lookup (wpAny_getItem_of (T.is F k v ev) D.mapOf (valueAt_some (DictOf.nodup D) my) (handT R ry q _ _)) (hs _ _)
theorem Dct.in_f (T : Dct w K knd mk key) (m : (d, mk es) ∈ σ.H) (n : k ∉ es.map (·.1)) (q : Q (.bool false) σ) : BW c σ (key k) (.val (.ref d)) (compareOp .In) Q E := fun F s u v R ev eu => by
  cases eu
  obtain ⟨kvs, D, r, ne⟩ := T.at R m
  refine wpAny_in_of (T.is F k u ev) ne D.mapOf ?_
  rw [valueAt_none (r.keys ▸ n)]
  exact handT R rBool q _ _
theorem dget1 {kv : Value} {f : K → Option Value} {A : Around} {Q E : Value → Shared → Prop} (hk : knd.is k kv = true) (ne : (d == sysModules) = false) (D : s.heap.MapOf knd d f) (q : Q ((f k).getD .none) { s with toks := s.toks + 1 }) : wpAny (MW w) A (call (.builtin "dict.get") [.ref d, kv]) Q E s :=
  call_meetsIn PySem.F.slot_dict_get D.typeIs PySem.F.entry_dict_get (PySem.F.args_dict_get_2 _ _) (meets_dict_get knd d hk ne) ⟨_, D, q⟩
theorem dget2 {kv df : Value} {f : K → Option Value} {A : Around} {Q E : Value → Shared → Prop} (hk : knd.is k kv = true) (ne : (d == sysModules) = false) (D : s.heap.MapOf knd d f) (q : Q ((f k).getD df) { s with toks := s.toks + 1 }) : wpAny (MW w) A (call (.builtin "dict.get") [.ref d, kv, df]) Q E s :=
  call_meetsIn PySem.F.slot_dict_get D.typeIs PySem.F.entry_dict_get (PySem.F.args_dict_get_3 _ _ _) (meets_dict_get_default knd d hk ne df) ⟨_, D, q⟩
theorem Dct.get1 (T : Dct w K knd mk key) (m : (d, mk es) ∈ σ.H) (mk' : (k, a) ∈ es) (q : Q a σ) : VW c σ [.val (.ref d), key k] (fun vs => call (.builtin "dict.get") vs []) Q E := fun F s _ R zq4 => by
  obtain ⟨v, _, e, ev, v', _, e', ev', e2⟩ := zq4
  cases e2; subst e'; subst e; cases ev
  obtain ⟨kvs, D, r, ne⟩ := T.at R m
  obtain ⟨y, my, ry⟩ := r.mem _ mk'
  refine dget1 (T.is F k v' ev') ne D.mapOf ?_
  rw [valueAt_some (DictOf.nodup D) my]
  exact handT R ry q _ _
theorem Dct.get2 (T : Dct w K knd mk key) {b : AV} (m : (d, mk es) ∈ σ.H) (mk' : (k, a) ∈ es) (q : Q a σ) : VW c σ [.val (.ref d), key k, b] (fun vs => call (.builtin "dict.get") vs []) Q E := fun F s _ R zq4 => by
  obtain ⟨v, _, e, ev, v', _, e', ev', v2, _, e2, ev2, e3⟩ := zq4
  cases e3; subst e2; subst e'; subst e; cases ev
  obtain ⟨kvs, D, r, ne⟩ := T.at R m
  obtain ⟨y, my, ry⟩ := r.mem _ mk'
  refine dget2 (T.is F k v' ev') ne D.mapOf ?_
  rw [valueAt_some (DictOf.nodup D) my]
  exact handT R ry q _ _
theorem Dct.meth (T : Dct w K knd mk key) (m : (d, mk es) ∈ σ.H) : MB c σ (.val (.ref d)) "get" (.builtin "dict.get") [.val (.ref d)] := fun F s v pl Q E R e h => by
  cases e
  obtain ⟨kvs, D, r, ne⟩ := T.at R m
  exact getMethod_builtin D.typeIs PySem.F.plainAttrs_dict PySem.F.slot_dict_get PySem.F.type_dict_get D.mapOf.noDict (h _ ⟨_, _, rfl, rfl, rfl⟩)
theorem Dct.set (T : Dct w K knd mk key) {F : Fz} {s : Shared} {H' : HS} {es' : List (K × AV)} {v kv : Value} {Q : St → Prop} (u : HUpd d (mk es) (mk es') σ.H H') (hl : es.length ≤ 100000) (st : KUpd k a es es' ∨ (k ∉ es.map (·.1) ∧ es' = es ++ [(k, a)])) (q : Q ⟨σ.loc, H'⟩)
    (R : Rep c F σ s) (rk : Rel F (key k) kv) (rv : Rel F a v) : wpAny (MW w) c.A (setItem (.ref d) kv v) (PostU c F Q) (PostE c F E) s := by
  obtain ⟨kvs, D, r, ne⟩ := T.at R u.mem
  have hlen : kvs.length = es.length := by have := congrArg List.length r.keys; simpa using this
  refine wpAny_setItem_pairs (T.is F k kv rk) D (fun h' D' hs => ?_) (by rw [sizeLine_eq]; omega)
  have r' : RelKV F es' (stored kvs k v) := by
    rcases st with st | ⟨n, rfl⟩
    · exact stored_upd st rv r (DictOf.nodup D)
    · exact stored_new n rv r
  obtain ⟨ds, n, e, ek⟩ := EntK.of D' r'
  exact ⟨F, _, Fz.le.refl F, R.upd u hs e ((T.rel F es' _).mpr ⟨ds, n, rfl, ek⟩) _ _, q⟩
end
end Mine
namespace Mine
variable {w : World} {B : Heap} {c : Ctx w B} {σ : St} {Q : QA} {E : QE}
theorem Rep.updL {F : Fz} {H' : HS} {s : Shared} {h' : Heap} {dx : Addr} {ho ho' : HObj} {o' : Obj} {m : Str → Option Value} (R : Rep c F σ s) (u : HUpd dx ho ho' σ.H H')
    (l : ∀ p ∈ σ.loc, SlotOk c F s.heap m p.1 p.2) (hn : h'.Ns c.L m) (hs : ∀ b o, b ≠ c.L → b ≠ dx → s.heap.get? b = some o → h'.get? b = some o) (e : h'.get? dx = some o') (hr : HRel F w ho' o') (d : Drawn) (t : Nat) : Rep c F ⟨σ.loc, H'⟩ ⟨h', s.gens, d, t, s.os⟩ := by
  have fd := (R.cr.hot _ u.mem).1
  have md : dx ∈ keys σ.H := List.mem_map_of_mem (f := (·.1)) u.mem
  obtain ⟨fL, kL, zL, sL⟩ := R.own c.L R.ok.ownL
  obtain ⟨oL, esL, epL, eL, dL, _⟩ := id hn
  have ndx : dx ≠ c.L := fun z => kL (z ▸ md)
  have own : ∀ a, Held c a → ∀ o, s.heap.get? a = some o → a ≠ c.L → h'.get? a = some o := fun a ha o ea ne => hs a o ne (fun z => (R.held ha) (z ▸ md)) ea
  refine ⟨R.ok, ⟨R.cr.base, fun b o eb => ?_, u.keys ▸ R.cr.nd, fun p hp => ?_, ?_, R.cr.gens, R.cr.os, u.keys ▸ R.cr.big⟩, ⟨R.pres.le, fun b o eb mb => ?_, u.keys ▸ R.pres.ks, R.pres.fr, fun b o eb => ?_⟩, fun b hb => ?_, fun p hp => ?_, R.nd, R.dbg, m, hn, fun p hp => ?_⟩
  · exact hs b o (fun z => by rw [z, fL] at eb; cases eb) (fun z => by rw [z, fd] at eb; cases eb) (R.cr.fz b o eb)
  · rcases u.back R.cr.nd p hp with rfl | ⟨mp, n⟩
    · exact ⟨fd, o', e, hr⟩
    · obtain ⟨f, o, eo, r⟩ := R.cr.hot p mp
      exact ⟨f, o, hs _ _ (fun z => kL (z ▸ List.mem_map_of_mem (f := (·.1)) mp)) n eo, r⟩
  · have : ∀ {fs : List Env}, FrOk B F σ.H s.heap fs → FrOk B F H' h' fs := by
      intro fs
      induction fs with
      | nil => exact id
      | cons env r ih =>
        rintro ⟨x1, ⟨L, o, es, n, e1, g, dd, f, nk⟩, t⟩
        refine ⟨x1, ?_, ih t⟩
        by_cases z : L = c.L
        · subst z
          exact ⟨c.L, oL, esL, epL, e1, eL, dL, f, u.keys ▸ nk⟩
        · exact ⟨L, o, es, n, e1, hs L o z (fun z => nk (z ▸ md)) g, dd, f, u.keys ▸ nk⟩
    exact this R.cr.fr
  · by_cases z : b = dx
    · subst z
      exfalso
      rcases R.pres.ks _ md with q | q
      · exact mb q
      · rw [eb] at q; cases q
    · refine (R.pres.same b o eb mb).trans fun o2 e2 => .inl (hs b o2 (fun z => by rw [z, zL] at eb; cases eb) z e2)
  · obtain ⟨o2, e2⟩ := R.pres.ever b o eb
    by_cases z : b = dx
    · subst z; exact ⟨_, e⟩
    · exact ⟨o2, hs b o2 (fun z => by rw [z, zL] at eb; cases eb) z e2⟩
  · obtain ⟨x1, x2, x3, x4⟩ := R.own b hb
    refine ⟨x1, u.keys ▸ x2, x3, ?_⟩
    by_cases z : b = c.L
    · subst z; exact isSome_of eL
    · obtain ⟨o2, e2⟩ := Option.isSome_iff_exists.mp x4
      exact isSome_of (own b (.inl hb) o2 e2 z)
  · obtain ⟨g1, g2, g3, g4, g5⟩ := R.gd p hp
    exact ⟨hs _ _ (fun z => g4 (z ▸ R.ok.ownL)) (fun z => g3 (z ▸ md)) g1, g2, u.keys ▸ g3, g4, g5⟩
  · have cell : ∀ {x : Str} {ca : Addr} {v : Option Value}, c.env.cells.lookup x = some ca → s.heap.IsCell ca v → h'.IsCell ca v := fun lk ⟨o, e1, e2⟩ => ⟨o, own _ (R.ok.cells _ _ lk).1 o e1 (R.ok.cells _ _ lk).2, e2⟩
    have := l p hp
    obtain ⟨y, sp⟩ := p
    cases sp with
    | un => exact this
    | lv a => exact this
    | cu => obtain ⟨k, ca, v, e1, i⟩ := this; exact ⟨k, ca, v, e1, cell e1 i⟩
    | cv a => obtain ⟨k, ca, v, e1, i, r⟩ := this; exact ⟨k, ca, v, e1, cell e1 i, r⟩
    | gv a => exact this
theorem isStr_of {x : Str} {v : Value} : (PySem.strKind PG w).is x v = v.isStr x := by cases v <;> rfl
theorem notRef {x : Str} {e : DictEntry} (h : (PySem.strKind PG w).is x e.key = true) : e.refKey = false := by
  obtain ⟨t, e1⟩ := Value.isStrOf_shape h
  unfold DictEntry.refKey; rw [e1]
section
variable {ds : List DictEntry} {kvs : List (Str × Value)}
theorem getL_some {name : Str} {v : Value} (P : PySem.Pairs (PySem.strKind PG w) ds kvs) (nd : (kvs.map (·.1)).Nodup) (m : (name, v) ∈ kvs) : getL name ds = some (some v) := by
  have h := P.find name
  rw [valueAt_some nd m] at h
  unfold getL
  have e : (fun e : DictEntry => (PySem.strKind PG w).is name e.key) = fun e => e.key.isStr name := funext fun e => isStr_of
  rw [e] at h
  cases q : ds.find? (fun e => e.key.isStr name) with
  | none => rw [q] at h; cases h
  | some en => rw [q] at h; simp only [Option.map_some, Option.some.injEq] at h; simp only [h]
theorem no_ref (P : PySem.Pairs (PySem.strKind PG w) ds kvs) : ds.any (·.refKey) = false := by
  induction P with
  | nil => rfl
  | cons h1 _ _ ih => rw [List.any_cons, notRef h1, ih]; rfl
theorem getL_none {name : Str} (P : PySem.Pairs (PySem.strKind PG w) ds kvs) (n : name ∉ kvs.map (·.1)) : getL name ds = some none := by
  have h := P.find name
  rw [valueAt_none n] at h
  unfold getL
  have e : (fun e : DictEntry => (PySem.strKind PG w).is name e.key) = fun e => e.key.isStr name := funext fun e => isStr_of
  rw [e] at h
  cases q : ds.find? (fun e => e.key.isStr name) with
  | none => simp only [no_ref P]; rfl
  | some en => rw [q] at h; cases h
theorem putL_upd {F : Fz} {name : Str} {a : AV} {v key : Value} {hsh : Int} {es es' : List (Str × AV)} (u : KUpd name a es es') (rv : Rel F a v) : ∀ {ds : List DictEntry} {kvs : List (Str × Value)}, PySem.KeysOf (PySem.strKind PG w) ds.toArray → PySem.Pairs (PySem.strKind PG w) ds kvs → RelKV F es kvs → (kvs.map (·.1)).Nodup →
    ∃ kvs' : List (Str × Value), PySem.KeysOf (PySem.strKind PG w) (putL name hsh key v ds).toArray ∧ PySem.Pairs (PySem.strKind PG w) (putL name hsh key v ds) kvs' ∧ RelKV F es' kvs' ∧ kvs'.map (·.1) = kvs.map (·.1) := by
  induction u with
  | @head b r =>
    rintro ds _ ko P ⟨v', kvs', rfl, r1, s⟩ nd
    cases P with
    | @cons e kv ds' _ h1 h2 h3 =>
      have hs : e.key.isStr name = true := isStr_of (w := w) ▸ h1
      refine ⟨(name, v) :: kvs', ?_, ?_, ⟨v, kvs', rfl, rv, s⟩, rfl⟩
      · unfold putL; rw [if_pos hs]
        intro x hx
        have hx : x ∈ (⟨e.hash, e.key, v⟩ : DictEntry) :: ds' := by simpa using hx
        rcases List.mem_cons.mp hx with rfl | hx
        · obtain ⟨k, k1, k2⟩ := ko e (by simp); exact ⟨k, k1, k2⟩
        · exact ko x (by simp [hx])
      · unfold putL; rw [if_pos hs]
        exact .cons h1 rfl h3
  | @tail p r r' u ih =>
    obtain ⟨x, b⟩ := p
    rintro ds _ ko P ⟨v', kvs', rfl, r1, s⟩ nd
    have nd' := List.nodup_cons.mp nd
    cases P with
    | @cons e kv ds' _ h1 h2 h3 =>
      have ne : x ≠ name := fun z => nd'.1 (by rw [s.keys, z]; exact u.mem)
      have hs : ¬ e.key.isStr name = true := fun z => by
        have : (PySem.strKind PG w).is name e.key = true := isStr_of (w := w) ▸ z
        exact ne ((PySem.strKind PG w).inj e.key _ _ h1 this)
      obtain ⟨kvs2, k1, k2, k3, k4⟩ := ih (fun x hx => ko x (by simp at hx; simp [hx])) h3 s nd'.2
      refine ⟨(x, v') :: kvs2, ?_, ?_, ⟨v', kvs2, rfl, r1, k3⟩, by rw [List.map_cons, List.map_cons, k4]⟩
      · unfold putL; rw [if_neg hs]
        intro y hy
        have hy : y ∈ e :: putL name hsh key v ds' := by simpa using hy
        rcases List.mem_cons.mp hy with rfl | hy
        · exact ko y (by simp)
        · exact k1 y (by simpa using hy)
      · unfold putL; rw [if_neg hs]
        exact .cons h1 h2 k2
theorem putL_new {F : Fz} {name : Str} {a : AV} {v : Value} {t : Tok} : ∀ {es : List (Str × AV)} {ds : List DictEntry} {kvs : List (Str × Value)}, name ∉ es.map (·.1) → Rel F a v → PySem.KeysOf (PySem.strKind PG w) ds.toArray → PySem.Pairs (PySem.strKind PG w) ds kvs → RelKV F es kvs →
    PySem.KeysOf (PySem.strKind PG w) (putL name (PyData.keyHash w.params name) (.str name t) v ds).toArray ∧ PySem.Pairs (PySem.strKind PG w) (putL name (PyData.keyHash w.params name) (.str name t) v ds) (kvs ++ [(name, v)]) ∧ RelKV F (es ++ [(name, a)]) (kvs ++ [(name, v)])
  | [], ds, kvs, n, rv, ko, P, r => by
    cases r
    cases P
    refine ⟨fun x hx => ?_, .cons (isStr_of.trans (by show (name == name) = true; exact beq_self_eq_true _)) rfl .nil, ⟨v, [], rfl, rv, rfl⟩⟩
    have hx : x = ⟨PyData.keyHash w.params name, .str name t, v⟩ := by simpa [putL] using hx
    subst hx
    exact ⟨name, isStr_of.trans (by show (name == name) = true; exact beq_self_eq_true _), rfl⟩
  | (x, b) :: es, ds, kvs, n, rv, ko, P, ⟨v', kvs', er, r1, s⟩ => by
    subst er
    cases P with
    | @cons e kv ds' _ h1 h2 h3 =>
      have ne : x ≠ name := fun z => n (by rw [z]; exact .head _)
      have hs : ¬ e.key.isStr name = true := fun z => by
        have : (PySem.strKind PG w).is name e.key = true := isStr_of (w := w) ▸ z
        exact ne ((PySem.strKind PG w).inj e.key _ _ h1 this)
      obtain ⟨k1, k2, k3⟩ := putL_new (t := t) (fun z => n (.tail _ z)) rv (fun x hx => ko x (by simp at hx; simp [hx])) h3 s
      refine ⟨?_, ?_, ⟨v', _, rfl, r1, k3⟩⟩
      · unfold putL; rw [if_neg hs]
        intro y hy
        have hy : y ∈ e :: putL name (PyData.keyHash w.params name) (.str name t) v ds' := by simpa using hy
        rcases List.mem_cons.mp hy with rfl | hy
        · exact ko y (by simp)
        · exact k1 y (by simpa using hy)
      · unfold putL; rw [if_neg hs]
        exact .cons h1 h2 k2
end
noncomputable def attrOk (K : Frag) (p : Addr × Str) : Bool := plainGet K p.1 p.2 && hasDictIn K p.1 && match findIn K (.ref p.1) p.2 with | some a => noGet K a | none => false
noncomputable def storeOk (K : Frag) (p : Addr × Str) : Bool := findIn K (.ref p.1) "__setattr__" == some (some (.builtin "object.__setattr__")) && plainOver K p.1 && takerIn K p.1 p.2 == some none && hasDictIn K p.1
inductive InsA (w : World) (F : Fz) (h : Heap) (x C dx : Addr) (es : List (Str × AV)) : Prop
  | mk (ds : List DictEntry) (n : Nat) (kvs : List (Str × Value)) (I : InstAt h x (instObj C dx) C (some (dictOf ds n))) (ed : h.get? dx = some (dictOf ds n)) (ko : PySem.KeysOf (PySem.strKind PG w) ds.toArray) (P : PySem.Pairs (PySem.strKind PG w) ds kvs) (r : RelKV F es kvs) (nd : (kvs.map (·.1)).Nodup)
theorem inst_at {F : Fz} {s : Shared} {x C dx : Addr} {es : List (Str × AV)} (R : Rep c F σ s) (mx : (x, .ins C dx) ∈ σ.H) (md : (dx, .dctS es) ∈ σ.H) :
    InsA w F s.heap x C dx es := by
  obtain ⟨_, ox, ex, rfl⟩ := R.cr.hot _ mx
  obtain ⟨_, od, ed, ds, n, rfl, kvs, a, b, r, nd⟩ := R.cr.hot _ md
  exact ⟨ds, n, kvs, ⟨ex, rfl, rfl, ed⟩, ed, a, b, r, nd⟩
theorem K_in {F : Fz} {s : Shared} (R : Rep c F σ s) : (KF w.params).In s.heap := R.ok.wd.K.keeps fun a o e => base_stays R e
noncomputable def noBuiltin : AV → Bool | .val (.builtin _) => false | _ => true
theorem handed {F : Fz} {a : AV} {v : Value} (r : Rel F a v) (h : noBuiltin a = true) : handedIn v = true := by
  cases a with
  | none => cases r; rfl
  | bool b => cases r; rfl
  | int i => obtain ⟨t, rfl⟩ := r; rfl
  | str i => obtain ⟨t, rfl⟩ := r; rfl
  | tup l => obtain ⟨_, _, _, rfl, _⟩ := r; rfl
  | lst l => obtain ⟨_, _, _, rfl, _⟩ := r; rfl
  | val u => cases r; cases v <;> first | rfl | cases h
  | rng n => obtain ⟨_, _, _, _, rfl, _⟩ := r; rfl
theorem UW_attr {x C dx : Addr} {es : List (Str × AV)} {name : Str} {a : AV} {b : Bool} (ok : attrOk (KF w.params) (C, name) = true) (mx : (x, .ins C dx) ∈ σ.H) (md : (dx, .dctS es) ∈ σ.H) (mk : (name, a) ∈ es) (hb : noBuiltin a = true) (q : Q a σ) : UW c σ (.val (.ref x)) (fun v => getAttr v name b) Q E := fun F s v R e => by
  cases e
  obtain ⟨ds, n, kvs, I, ed, ko, P, r, nd⟩ := inst_at R mx md
  obtain ⟨v, mv, rv⟩ := r.mem _ mk
  simp only [attrOk, Bool.and_eq_true] at ok
  obtain ⟨⟨o1, o2⟩, o3⟩ := ok
  split at o3
  · rename_i at' q'
    exact get_value (K_in R) I (plainGet_of o1).1 (findObj_own o2 q' o3 (getL_some P nd mv)) (handed rv hb) (handT R rv q _ _)
  · cases o3
theorem KUpd.length {K : Type} {k : K} {a : AV} {es es' : List (K × AV)} (u : KUpd k a es es') : es'.length = es.length := by
  induction u with
  | head => rfl
  | tail _ ih => simp [ih]
noncomputable def restOf (h : Heap) (L dx : Addr) : List (Addr × Obj) := (List.range h.objs.size).filterMap fun a => if a = L ∨ a = dx then none else (h.get? a).map (a, ·)
theorem restOf_mem {h : Heap} {L dx : Addr} {p : Addr × Obj} : p ∈ restOf h L dx ↔ p.1 ≠ L ∧ p.1 ≠ dx ∧ h.get? p.1 = some p.2 := by
  unfold restOf
  rw [List.mem_filterMap]
  constructor
  · rintro ⟨a, _, e⟩
    by_cases z : a = L ∨ a = dx
    · rw [if_pos z] at e; cases e
    · rw [if_neg z] at e
      cases q : h.get? a with
      | none => rw [q] at e; cases e
      | some o => rw [q] at e; cases e; exact ⟨fun y => z (.inl y), fun y => z (.inr y), q⟩
  · rintro ⟨h1, h2, e⟩
    exact ⟨p.1, List.mem_range.mpr (Heap.lt_size e), by rw [if_neg (fun z => z.elim h1 h2), e]; rfl⟩
theorem set_attr {x C dx : Addr} {es es' : List (Str × AV)} {H' : HS} {name : Str} {a : AV} {F : Fz} {s : Shared} {v : Value} {Q : St → Prop} (ok : storeOk (KF w.params) (C, name) = true) (mx : (x, .ins C dx) ∈ σ.H) (u : HUpd dx (.dctS es) (.dctS es') σ.H H')
    (hl : es.length ≤ 900) (st : KUpd name a es es' ∨ (name ∉ es.map (·.1) ∧ es' = es ++ [(name, a)])) (q : Q ⟨σ.loc, H'⟩) (R : Rep c F σ s) (rv : Rel F a v) : wpAny (MW w) c.A (setAttr (.ref x) name v) (PostU c F Q) (PostE c F E) s := by
  obtain ⟨ds, n, kvs, I, ed, ko, P, r, nd⟩ := inst_at R mx u.mem
  simp only [storeOk, Bool.and_eq_true, beq_iff_eq] at ok
  obtain ⟨⟨⟨o1, o2⟩, o3⟩, o4⟩ := ok
  obtain ⟨m, hn, hloc⟩ := R.loc
  obtain ⟨fL, kL, zL, sL⟩ := R.own c.L R.ok.ownL
  have md : dx ∈ keys σ.H := List.mem_map_of_mem (f := (·.1)) u.mem
  have hlen : ds.length = es.length := by
    rw [P.length]; have := congrArg List.length r.keys; simpa using this
  obtain ⟨kvs', k1, k2, k3, k4⟩ : ∃ kvs' : List (Str × Value), PySem.KeysOf (PySem.strKind PG w) (putL name (PyData.keyHash w.params name) (.str name (s.toks + 1)) v ds).toArray ∧ PySem.Pairs (PySem.strKind PG w) (putL name (PyData.keyHash w.params name) (.str name (s.toks + 1)) v ds) kvs' ∧ RelKV F es' kvs' ∧ (kvs'.map (·.1)).Nodup := by
    rcases st with st | ⟨nn, rfl⟩
    · obtain ⟨kvs', a1, a2, a3, a4⟩ := putL_upd (w := w) (key := .str name (s.toks + 1)) (hsh := PyData.keyHash w.params name) st rv ko P r nd
      exact ⟨kvs', a1, a2, a3, a4 ▸ nd⟩
    · obtain ⟨a1, a2, a3⟩ := putL_new (t := s.toks + 1) nn rv ko P r
      refine ⟨_, a1, a2, a3, ?_⟩
      rw [List.map_append, List.nodup_append]
      refine ⟨nd, by simp, fun y hy z hz e => ?_⟩
      simp only [List.map_cons, List.map_nil, List.mem_singleton] at hz
      exact nn (by rw [← r.keys, ← hz, ← e]; exact hy)
  have hz : (putL name (PyData.keyHash w.params name) (.str name (s.toks + 1)) v ds).length ≤ 1000 := by
    rw [k2.length]
    have e1 : kvs'.length = es'.length := by have := congrArg List.length k3.keys; simpa using this
    rw [e1]
    rcases st with st | ⟨nn, rfl⟩
    · have := st.length; omega
    · simp; omega
  have F0 : Fr {} c.L s.heap m := ⟨hn, fun b o e => by simp [Heap.get?] at e, Nat.zero_le _⟩
  have N0 : News {} c.L s.heap (restOf s.heap c.L dx ++ (dx, dictOf ds n) :: []) := by
    intro p hp
    rcases List.mem_append.mp hp with hp | hp
    · obtain ⟨h1, h2, h3⟩ := restOf_mem.mp hp
      exact ⟨h3, h1, by simp [Heap.get?]⟩
    · rw [List.mem_singleton] at hp
      subst hp
      exact ⟨ed, fun z => kL (z ▸ md), by simp [Heap.get?]⟩
  have hg : (getL name ds).isSome = true := by
    by_cases z : name ∈ kvs.map (·.1)
    · obtain ⟨p, hp, e⟩ := List.mem_map.mp z
      rw [getL_some (v := p.2) P nd (by rw [← e]; exact hp)]; rfl
    · rw [getL_none P z]; rfl
  refine set_plain (K_in R) I o1 (osa_dict (s := { s with toks := s.toks + 1 }) F0 N0 (show Frag.In _ s.heap from K_in R) I rfl o2 o3 o4 hg (fun p hp => (restOf_mem.mp hp).2.1) (fun _ h => (nomatch h)) (putName_dict _ _ _ _ _ _) rfl hz fun h' F' N' => ?_)
  refine ⟨F, _, Fz.le.refl F, R.updL u hloc F'.ns (fun b o n1 n2 e => (N' (b, o) (List.mem_append_left _ (restOf_mem.mpr ⟨n1, n2, e⟩))).1) (N' (dx, _) (List.mem_append_right _ (.head _))).1 ?_ _ _, q⟩
  exact ⟨_, _, rfl, kvs', k1, k2, k3, k4⟩
end Mine
namespace Mine
variable {w : World} {B : Heap} {c : Ctx w B} {σ : St} {Q : QA} {E : QE}
theorem tc_weight (C : Addr) (rest : List Value) : (Code.builtin "type.__call__" ⟨.ref C :: rest, []⟩).weight = 1 := by
  have h1 : (Code.builtin "type.__call__" ⟨.ref C :: rest, []⟩).isCreation = true := rfl
  have h2 : (Code.builtin "type.__call__" ⟨.ref C :: rest, []⟩).isGuard = false := by show guardIds.contains "type.__call__" = false; decide +kernel
  have h3 : (Code.builtin "type.__call__" ⟨.ref C :: rest, []⟩).isCaller = false := by unfold Code.isCaller; rfl
  have h4 : (Code.builtin "type.__call__" ⟨.ref C :: rest, []⟩).frames = 0 := by rfl
  unfold Code.weight
  rw [h1, h2, h3, h4]; rfl
theorem tc_envs (C : Addr) (rest : List Value) : (Code.builtin "type.__call__" ⟨.ref C :: rest, []⟩).envs = [] := by rfl
theorem tc_units (C : Addr) (rest : List Value) : (Code.builtin "type.__call__" ⟨.ref C :: rest, []⟩).cUnits ≤ 8 := by
  have : (Code.builtin "type.__call__" ⟨.ref C :: rest, []⟩).cUnits = (Code.builtin "type.__call__" ⟨[], []⟩).cUnits := by rfl
  rw [this]; decide +kernel
theorem CallPre.under {A : Around} {fs : List Env} {k : Nat} (P : CallPre A fs (k + 1)) (C : Addr) (rest : List Value) : CallPre (A.under (.builtin "type.__call__" ⟨.ref C :: rest, []⟩)) fs k := by
  have h1 := tc_weight C rest
  have h2 := tc_envs C rest
  have h3 := tc_units C rest
  have p1 := P.depth
  have p2 := P.units
  refine ⟨?_, ?_, ?_, P.handled⟩
  · unfold Around.under
    simp only [h2, P.frames]; rfl
  · unfold Around.under
    simp only [h1]; omega
  · unfold Around.under
    simp only; omega
theorem CW_new {k : Nat} {H : HS} {C fI : Addr} {l : List AV} {Q : AV → HS → Prop} {E : AE → HS → Prop} (hm : ∀ w : World, makesIn (KF w.params) C = true)
    (hi : ∀ w : World, findIn (KF w.params) (.ref C) "__init__" = some (some (.ref fI)) ∧ typeIn (KF w.params) (.ref fI) = some (.type "function"))
    (h : ∀ x dx, CW w B k ((x, .ins C dx) :: (dx, .dctS []) :: H) (.ref fI) (.val (.ref x) :: l) (fun a H' => a = .none ∧ Q (.val (.ref x)) H') E) : CW w B (k + 1) H (.ref C) l Q E := fun A fs os F s vs W P C' r => by
  obtain ⟨hh, g, d, t, os'⟩ := s
  have stays : ∀ a o, B.get? a = some o → hh.get? a = some o := fun a o e => C'.fz _ _ (C'.base a o e)
  have X : (KF w.params).In hh := W.K.keeps stays
  have big : 2 < hh.objs.size := by
    obtain ⟨p, loose, mg, mb, T⟩ := W.T
    obtain ⟨o, _, _, e, _⟩ := T.g
    exact Nat.lt_trans (by decide) (Heap.lt_size (stays _ _ e))
  have k1 : ∀ a o, hh.get? a = some o → ((hh.push emptyDict).push (instObj C hh.objs.size)).get? a = some o := fun a o e => Heap.get?_push_of_some _ (Heap.get?_push_of_some _ e)
  have n1 : hh.get? hh.objs.size = none := get_size _
  have n2 : hh.get? (hh.objs.size + 1) = none := by
    cases q : hh.get? (hh.objs.size + 1) with
    | none => rfl
    | some o => exact absurd (Heap.lt_size q) (Nat.not_lt.mpr (Nat.le_succ _))
  have g1 : ((hh.push emptyDict).push (instObj C hh.objs.size)).get? hh.objs.size = some emptyDict := Heap.get?_push_of_some _ (Heap.get?_push_size _ rfl)
  have g2 : ((hh.push emptyDict).push (instObj C hh.objs.size)).get? (hh.objs.size + 1) = some (instObj C hh.objs.size) := by
    have := Heap.get?_push_size (hh.push emptyDict) (o := instObj C hh.objs.size) rfl
    rwa [Heap.size_push] at this
  have fzn : ∀ a, hh.get? a = none → F a = none := fun a e => C'.fz_none (s := ⟨hh, g, d, t, os'⟩) e
  have hot : ∀ p ∈ [(hh.objs.size + 1, HObj.ins C hh.objs.size), (hh.objs.size, .dctS [])], hh.get? p.1 = none ∧ HotAt w F ((hh.push emptyDict).push (instObj C hh.objs.size)) p := by
    intro p hp
    simp only [List.mem_cons, List.not_mem_nil, or_false] at hp
    rcases hp with rfl | rfl
    · exact ⟨n2, fzn _ n2, _, g2, rfl⟩
    · exact ⟨n1, fzn _ n1, _, g1, [], 0, rfl, [], (fun e he => by simp at he), .nil, rfl, List.nodup_nil⟩
  have Cg := C'.grow (s := ⟨hh, g, d, t, os'⟩) (new := [(hh.objs.size + 1, HObj.ins C hh.objs.size), (hh.objs.size, .dctS [])]) (F' := F) k1 (Fz.le.refl F) (fun _ _ e => .inl e) (by show [hh.objs.size + 1, hh.objs.size].Nodup; simp) hot
    (fun p hp => by
      simp only [List.mem_cons, List.not_mem_nil, or_false] at hp
      rcases hp with rfl | rfl
      · exact Nat.lt_succ_of_lt big
      · exact big) d t
  have Pg : CPres F H hh F _ _ := CPres.grow (new := [(hh.objs.size + 1, HObj.ins C hh.objs.size), (hh.objs.size, .dctS [])]) (F' := F) k1 (Fz.le.refl F) (fun _ _ e => .inl e) (fun p hp => (hot p hp).1)
  refine make_core (makes_of X (hm w)) (looks_findIn X (hi w).1) (fun self => bind_fn X self (hi w).2) (.inl rfl) ?_
  have := h (hh.objs.size + 1) hh.objs.size _ fs os F _ (.ref (hh.objs.size + 1) :: vs) W (P.under C vs) Cg ⟨_, vs, rfl, rfl, r⟩
  refine codeAny_mono this fun r s' z => ?_
  cases r with
  | ok f =>
    cases f with
    | ret v => obtain ⟨F', H', a, y1, y2, y3, rfl, y4⟩ := z; exact ⟨y3, F', H', .val (.ref (hh.objs.size + 1)), y1, Pg.trans y2, rVal, y4⟩
    | _ => exact z
  | error e =>
    obtain ⟨F', H', ae, y1, y2, ⟨ev, X⟩, y4⟩ := z
    refine ⟨F', H', ae, y1, Pg.trans y2, ⟨ev, X.weak fun a z => ?_⟩, y4⟩
    rcases z with z | z | z
    · exact .inl z
    · obtain ⟨o, e⟩ := Option.isSome_iff_exists.mp z
      exact .inr (.inl (isSome_of (k1 a o e)))
    · exact .inr (.inr z)
theorem Rep.newL {F : Fz} {new : HS} {s : Shared} {h' : Heap} {m : Str → Option Value} (R : Rep c F σ s) (l : ∀ p ∈ σ.loc, SlotOk c F s.heap m p.1 p.2) (hn : h'.Ns c.L m) (hs : ∀ b o, b ≠ c.L → s.heap.get? b = some o → h'.get? b = some o)
    (nd : (keys new).Nodup) (hot : ∀ p ∈ new, s.heap.get? p.1 = none ∧ 2 < p.1 ∧ ∃ o, h'.get? p.1 = some o ∧ HRel F w p.2 o) (d : Drawn) (t : Nat) : Rep c F ⟨σ.loc, new ++ σ.H⟩ ⟨h', s.gens, d, t, s.os⟩ := by
  obtain ⟨fL, kL, zL, sL⟩ := R.own c.L R.ok.ownL
  obtain ⟨oL, esL, epL, eL, dL, _⟩ := id hn
  have own : ∀ a, Held c a → ∀ o, s.heap.get? a = some o → a ≠ c.L → h'.get? a = some o := fun a ha o ea ne => hs a o ne ea
  have nk : ∀ a o, s.heap.get? a = some o → a ∉ keys new := fun a o e z => by
    obtain ⟨p, hp, rfl⟩ := List.mem_map.mp z
    rw [(hot p hp).1] at e; cases e
  have kk : keys (new ++ σ.H) = keys new ++ keys σ.H := List.map_append
  refine ⟨R.ok, ⟨R.cr.base, fun b o eb => ?_, ?_, fun p hp => ?_, ?_, R.cr.gens, R.cr.os, fun a ha => ?_⟩, ⟨R.pres.le, fun b o eb mb => ?_, fun a ha => ?_, R.pres.fr, fun b o eb => ?_⟩, fun b hb => ?_, fun p hp => ?_, R.nd, R.dbg, m, hn, fun p hp => ?_⟩
  · exact hs b o (fun z => by rw [z, fL] at eb; cases eb) (R.cr.fz b o eb)
  · show (keys (new ++ σ.H)).Nodup
    rw [kk, List.nodup_append]
    refine ⟨nd, R.cr.nd, fun a ha b hb e => ?_⟩
    subst e
    obtain ⟨p, hp, rfl⟩ := List.mem_map.mp hb
    obtain ⟨_, o, e, _⟩ := R.cr.hot p hp
    exact nk _ o e ha
  · rcases List.mem_append.mp hp with hp | hp
    · obtain ⟨h1, _, o, e, r⟩ := hot p hp
      exact ⟨R.cr.fz_none h1, o, e, r⟩
    · obtain ⟨f, o, eo, r⟩ := R.cr.hot p hp
      exact ⟨f, o, hs _ _ (fun z => kL (z ▸ List.mem_map_of_mem (f := (·.1)) hp)) eo, r⟩
  · have : ∀ {fs : List Env}, FrOk B F σ.H s.heap fs → FrOk B F (new ++ σ.H) h' fs := by
      intro fs
      induction fs with
      | nil => exact id
      | cons env r ih =>
        rintro ⟨x1, ⟨L, o, es, n, e1, g, dd, f, nk'⟩, t⟩
        refine ⟨x1, ?_, ih t⟩
        have nn : L ∉ keys (new ++ σ.H) := by rw [kk]; exact fun z => (List.mem_append.mp z).elim (nk _ _ g) nk'
        by_cases z : L = c.L
        · subst z
          exact ⟨c.L, oL, esL, epL, e1, eL, dL, f, nn⟩
        · exact ⟨L, o, es, n, e1, hs L o z g, dd, f, nn⟩
    exact this R.cr.fr
  · rw [kk] at ha
    rcases List.mem_append.mp ha with ha | ha
    · obtain ⟨p, hp, rfl⟩ := List.mem_map.mp ha; exact (hot p hp).2.1
    · exact R.cr.big a ha
  · exact (R.pres.same b o eb mb).trans fun o2 e2 => .inl (hs b o2 (fun z => by rw [z, zL] at eb; cases eb) e2)
  · rw [kk] at ha
    rcases List.mem_append.mp ha with ha | ha
    · obtain ⟨p, hp, rfl⟩ := List.mem_map.mp ha
      right
      cases q : c.h0.get? p.1 with
      | none => rfl
      | some o => obtain ⟨o', e'⟩ := R.pres.ever _ o q; rw [(hot p hp).1] at e'; cases e'
    · exact R.pres.ks a ha
  · obtain ⟨o2, e2⟩ := R.pres.ever b o eb
    exact ⟨o2, hs b o2 (fun z => by rw [z, zL] at eb; cases eb) e2⟩
  · obtain ⟨x1, x2, x3, x4⟩ := R.own b hb
    obtain ⟨o2, e2⟩ := Option.isSome_iff_exists.mp x4
    refine ⟨x1, by rw [kk]; exact fun z => (List.mem_append.mp z).elim (nk _ _ e2) x2, x3, ?_⟩
    by_cases z : b = c.L
    · subst z; exact isSome_of eL
    · exact isSome_of (own b (.inl hb) o2 e2 z)
  · obtain ⟨g1, g2, g3, g4, g5⟩ := R.gd p hp
    exact ⟨hs _ _ (fun z => g4 (z ▸ R.ok.ownL)) g1, g2, by rw [kk]; exact fun z => (List.mem_append.mp z).elim (nk _ _ g1) g3, g4, g5⟩
  · have cell : ∀ {x : Str} {ca : Addr} {v : Option Value}, c.env.cells.lookup x = some ca → s.heap.IsCell ca v → h'.IsCell ca v := fun lk ⟨o, e1, e2⟩ => ⟨o, own _ (R.ok.cells _ _ lk).1 o e1 (R.ok.cells _ _ lk).2, e2⟩
    have := l p hp
    obtain ⟨y, sp⟩ := p
    cases sp with
    | un => exact this
    | lv a => exact this
    | cu => obtain ⟨k, ca, v, e1, i⟩ := this; exact ⟨k, ca, v, e1, cell e1 i⟩
    | cv a => obtain ⟨k, ca, v, e1, i, r⟩ := this; exact ⟨k, ca, v, e1, cell e1 i, r⟩
    | gv a => exact this
theorem VW_new0 {C : Addr} (hm : ∀ w : World, makesIn (KF w.params) C = true) (hi : ∀ w : World, findIn (KF w.params) (.ref C) "__init__" = some (some (.builtin "object.__init__")))
    (q : ∀ x dx, Q (.val (.ref x)) ⟨σ.loc, (x, .ins C dx) :: (dx, .dctS []) :: σ.H⟩) : VW c σ [] (fun vs => call (.ref C) vs []) Q E := fun F s _ R e => by
  cases e
  obtain ⟨m, hn, hloc⟩ := R.loc
  obtain ⟨fL, kL, zL, sL⟩ := R.own c.L R.ok.ownL
  have F0 : Fr {} c.L s.heap m := ⟨hn, fun b o e => by simp [Heap.get?] at e, Nat.zero_le _⟩
  have N0 : News {} c.L s.heap (restOf s.heap c.L c.L) := fun p hp => by
    obtain ⟨h1, h2, h3⟩ := restOf_mem.mp hp
    exact ⟨h3, h1, by simp [Heap.get?]⟩
  refine wpAny_call (make_K0 F0 N0 (K_in R) (hm w) (hi w) fun x dx h' F' N' lt1 lt2 => ?_)
  have hx := N' (x, instObj C dx) (.head _)
  have hdx := N' (dx, emptyDict) (.tail _ (.head _))
  have old : ∀ b o, b ≠ c.L → s.heap.get? b = some o → h'.get? b = some o ∧ b < dx := fun b o n e => by
    have hm : (b, o) ∈ restOf s.heap c.L c.L := restOf_mem.mpr ⟨n, n, e⟩
    exact ⟨(N' (b, o) (.tail _ (.tail _ hm))).1, lt1 _ hm⟩
  have nw : ∀ b, b ≠ c.L → dx ≤ b → s.heap.get? b = none := fun b n le => by
    cases q : s.heap.get? b with
    | none => rfl
    | some o => exact absurd (old b o n q).2 (Nat.not_lt.mpr le)
  have b2 : 2 < dx := by
    obtain ⟨p, loose, mg, mb, T⟩ := R.ok.wd.T
    obtain ⟨o, _, _, e, _⟩ := T.g
    have e' := R.cr.base _ _ e
    exact Nat.lt_trans (by decide) (old _ o (fun z => by rw [z, fL] at e'; cases e') (R.cr.fz _ _ e')).2
  have R' := R.newL (new := [(x, .ins C dx), (dx, .dctS [])]) hloc F'.ns (fun b o n e => (old b o n e).1) (by show [x, dx].Nodup; simp only [List.nodup_cons, List.mem_singleton, List.not_mem_nil, not_false_eq_true, List.nodup_nil, and_true]; exact Nat.ne_of_gt lt2) (fun p hp => by
    simp only [List.mem_cons, List.not_mem_nil, or_false] at hp
    rcases hp with rfl | rfl
    · exact ⟨nw x hx.2.1 (Nat.le_of_lt lt2), Nat.lt_trans b2 lt2, _, hx.1, rfl⟩
    · exact ⟨nw dx hdx.2.1 (Nat.le_refl _), b2, _, hdx.1, [], 0, rfl, [], (fun e he => by simp at he), .nil, rfl, List.nodup_nil⟩) s.drawn s.toks
  exact ⟨F, _, _, Fz.le.refl F, R', rVal, q x dx⟩
end Mine
namespace Mine
section
variable {prog : Program} {w : World} {A : Around} {E : Value → Shared → Prop} {R : Result → Shared → Prop} {h : Heap} {g : Array GenState} {d : Drawn} {t : Nat} {os : OsState}
variable {nm q : Str} {C N : Addr} {bs bm : List Value} {hdct : Bool} {sn : List Str} {sub : List Value} {ab : Bool} {col : Option Bool} {dd : Option Addr} {k0 k1 k2 k3 k5 : Option Value}
noncomputable abbrev excObj (C : Addr) (d : Option Addr) (T : Addr) : Obj := { cls := .ref C, dict := d, data := .fields #[.ref T, .none, .none, .none, .bool false, .none] }
structure ExcMro (bm : List Value) : Prop where
  hasE : bm.contains (.type "Exception") = true
  hasB : bm.contains (.type "BaseException") = true
  hasO : bm.contains (.type "object") = true
  noA : bm.contains (.type "AttributeError") = false
  noN : bm.contains (.type "NameError") = false
theorem exc_new (X : ExcMro bm) {rest : List Value} (hC : h.get? C = some (excClassObj nm q C N bs bm hdct sn sub ab col dd k0 k1 k2 k3 k5 "Exception.__new__")) (hrest : rest.length ≤ sizeLine)
    (hq : R (.ok (.ret (.ref (h.objs.size + 1)))) ⟨(h.push { cls := .type "tuple", data := .seq rest.toArray }).push (excObj C none h.objs.size), g, d, t, os⟩) :
    codeAny (model prog w) A (.builtin "Exception.__new__" ⟨.ref C :: rest, []⟩) R ⟨h, g, d, t, os⟩ := by
  have V := PySem.F.excBase_Exception
  have ends := V.ends
  have c1 : (Value.ref C :: bm).contains (.type "Exception") = true := by rw [List.contains_cons, X.hasE, Bool.or_true]
  have c2 : (Value.ref C :: bm).contains (.type "AttributeError") = false := by rw [List.contains_cons, X.noA]; rfl
  have c3 : (Value.ref C :: bm).contains (.type "NameError") = false := by rw [List.contains_cons, X.noN]; rfl
  refine codeAny_builtinAt V.entry ?_
  unfold Builtin.«BaseException.__new__»
  refine PySem.wpAt_bind ?_
  show PySem.wpAt _ _ _ (stack >>= _) _ _ _
  refine PySem.wpAt_bind (PySem.wpAt_stack fun p below => PySem.wpAt_of_wpAny ?_)
  wp_walk
  refine PySem.wpAt_of_wpAny ?_
  rw [V.owner]
  repeat (first | with_reducible refine wpAny_madeHere_exc V.canon hC ?_ | with_reducible refine wpAny_loadPart_at hC ?_ | (with_reducible refine wpAny_isSubtype_exc hC ?_; first | rw [c1] | rw [c2] | rw [c3]) | wp_step)
  show R _ _
  rw [Heap.size_push]
  exact hq
theorem exc_type_call (X : ExcMro bm) {K : Frag} (XK : K.In h) {rest : List Value} {fI : Addr} {Q : Fin → Shared → Prop}
    (hC : h.get? C = some (excClassObj nm q C N bs bm hdct sn sub ab col dd k0 k1 k2 k3 k5 "Exception.__new__")) (hi : findIn K (.ref C) "__init__" = some (some (.ref fI))) (hf : typeIn K (.ref fI) = some (.type "function")) (hrest : rest.length ≤ sizeLine)
    (hq : wpAny (model prog w) A (call (.ref fI) (.ref (h.objs.size + 1) :: rest)) (fun r s' => r = .none ∧ Q (.done (.ret (.ref (h.objs.size + 1)))) s') E ⟨(h.push { cls := .type "tuple", data := .seq rest.toArray }).push (excObj C none h.objs.size), g, d, t, os⟩) :
    wpAny (model prog w) A (Builtin.«type.__call__» ⟨.ref C :: rest, []⟩) Q E ⟨h, g, d, t, os⟩ := by
  have V := PySem.F.excBase_Exception
  repeat (first | with_reducible refine wpAny_loadPart_at hC ?_ | with_reducible refine wpAny_madeBy_exc hC ?_ | wp_step)
  refine codeAny_call_builtin_code (Code.quiet_builtin _ V.quiet) (wpAny_check_new_subU V X.hasE .base hC ?_)
  refine exc_new X hC hrest ?_
  show wpAny _ _ _ _ _ _
  have kk : ∀ b o, h.get? b = some o → ((h.push { cls := .type "tuple", data := .seq rest.toArray }).push (excObj C none h.objs.size)).get? b = some o := fun b o e => Heap.get?_push_of_some _ (Heap.get?_push_of_some _ e)
  have hC₁ := kk _ _ hC
  have he : ((h.push { cls := .type "tuple", data := .seq rest.toArray }).push (excObj C none h.objs.size)).get? (h.objs.size + 1) = some (excObj C none h.objs.size) := by
    have := Heap.get?_push_size (h.push { cls := .type "tuple", data := .seq rest.toArray }) (o := excObj C none h.objs.size) rfl
    rwa [Heap.size_push] at this
  have cC : (Value.ref C :: bm).contains (.ref C) = true := by simp
  unfold isInstance
  repeat (first | with_reducible refine wpAny_loadPart_at he ?_ | (with_reducible refine wpAny_isSubtype_exc hC₁ ?_; rw [cC]) | wp_step)
  refine ((looks_findIn (XK.keeps kk) hi).at ?_)
  refine wpAny_holding (wpAny_bind ((bind_fn (XK.keeps kk) _ hf).at ?_))
  refine wpAny_bind (wpAny_mono hq (fun r s' hr => ?_) fun _ _ x => x)
  obtain ⟨rfl, hQ⟩ := hr
  wp_walk
  exact hQ
theorem exc_code (X : ExcMro bm) {K : Frag} (XK : K.In h) {rest : List Value} {fI : Addr}
    (hC : h.get? C = some (excClassObj nm q C N bs bm hdct sn sub ab col dd k0 k1 k2 k3 k5 "Exception.__new__")) (hi : findIn K (.ref C) "__init__" = some (some (.ref fI))) (hf : typeIn K (.ref fI) = some (.type "function")) (hrest : rest.length ≤ sizeLine)
    (hq : wpAny (model prog w) (A.under (.builtin "type.__call__" ⟨.ref C :: rest, []⟩)) (call (.ref fI) (.ref (h.objs.size + 1) :: rest)) (fun r s' => r = .none ∧ R (.ok (.ret (.ref (h.objs.size + 1)))) s') (fun e s' => R (.error e) s') ⟨(h.push { cls := .type "tuple", data := .seq rest.toArray }).push (excObj C none h.objs.size), g, d, t, os⟩) :
    codeAny (model prog w) A (.call (.ref C) ⟨rest, []⟩) R ⟨h, g, d, t, os⟩ := by
  have f1 := tc_lookup
  have f2 := tc_bind (.ref C)
  have hT : (⟨h, g, d, t, os⟩ : Shared).TypeIs (.ref C) "type" := ⟨_, hC, rfl⟩
  refine codeAny_of_tree ?_
  show wpAny _ _ (callAny (.ref C) _) _ _ _
  repeat (any_goals (first | assumption | with_reducible refine wpAny_loadPart_at hC ?_ | wp_step))
  refine ⟨rfl, ?_⟩
  exact codeAny_call_builtin_at (Code.quiet_builtin _ (by decide +kernel)) entry_typeCall (wpAny_check_type_call_sub hC (exc_type_call X XK hC hi hf hrest hq))
end
end Mine
namespace Mine
section
variable {w : World} {A : Around} {E : Value → Shared → Prop} {R : Result → Shared → Prop} {s : Shared} {K : Frag} {x C dx T : Addr} {name : Str} {tk : Tok} {v : Value}
theorem nsSet_at {ds : List DictEntry} {n : Nat} {Q : Unit → Shared → Prop} (D : s.heap.get? dx = some (dictOf ds n)) (hr : ds.any (·.refKey) = false)
    (q : Q () { s with heap := s.heap.update dx (Obj.putName name (PyData.keyHash w.params name) (.str name s.toks) v), toks := s.toks + 1 }) : wpAny (MW w) A (nsSet dx name v) Q E s := by
  unfold nsSet
  refine wpAny_bind (wpAny_bind (wpAny_askSetting (wpAny_pure (wpAny_bind (wpAny_mkText (wpAny_bind (wpAny_loadPart D ?_)))))))
  dsimp only
  have c : (!ds.toArray.any (·.key.isStr name) && ds.toArray.any (·.refKey)) = false := by
    rw [← Array.any_toList (p := DictEntry.refKey)]
    simp only [hr, Bool.and_false]
  rw [aRefKeyMayBeTheName_at, c]
  exact wpAny_updatePart D q
theorem storeInDict_at {ds ds' : List DictEntry} {n n' : Nat} {Q : Fin → Shared → Prop} (D : s.heap.get? dx = some (dictOf ds n)) (hr : ds.any (·.refKey) = false) (e : Obj.putName name (PyData.keyHash w.params name) (.str name s.toks) v (dictOf ds n) = dictOf ds' n') (hz : ds'.length ≤ 1000)
    (q : Q (.done (.ret .none)) { s with heap := s.heap.update dx (Obj.putName name (PyData.keyHash w.params name) (.str name s.toks) v), toks := s.toks + 1 }) : wpAny (MW w) A (Builtin.ObjectAttr.storeInDict dx (.str name tk) name v) Q E s := by
  unfold Builtin.ObjectAttr.storeInDict Builtin.ObjectAttr.newKeyGuard
  refine wpAny_bind (wpAny_pure (wpAny_bind (nsSet_at D hr ?_)))
  have D' : (s.heap.update dx (Obj.putName name (PyData.keyHash w.params name) (.str name s.toks) v)).get? dx = some (dictOf ds' n') := by
    rw [← e]; exact Heap.get?_update_self _ D (by rw [e]; rfl)
  refine wpAny_bind (wpAny_lookBehind D' (pastItsLine_dict (by rw [List.size_toArray, sizeLine_eq]; omega)) ?_)
  exact wpAny_pure q
structure StoreOk (K : Frag) (C : Addr) (name : Str) (cd : ClassData) : Prop where
  cls : clsIn K C = some cd
  dict : cd.hasDict = true
  top : cd.mro.contains (.type "object") = true
  pass : ∀ x, refuseLoop (.ref x) "__setattr__" cd.mro = pure ()
  taker : takerIn K C name = some none
theorem exc_osa {dO : Option Addr} (X : K.In s.heap) {cd : ClassData} (ok : StoreOk K C name cd) (hx : s.heap.get? x = some (excObj C dO T))
    (h : ∀ b, wpAny (MW w) A.in1 (Builtin.ObjectAttr.storeInOwnDict (.ref x) (.ref C) (.str name tk) name v b)
      (fun fin s' => match fin with | .done f => R (.ok f) s' | .again c' => c'.quiet = true ∧ codeAny (MW w) A c' R s') (fun e s' => R (.error e) s') s) :
    codeAny (MW w) A (.call (.builtin "object.__setattr__") ⟨[.ref x, .str name tk, v], []⟩) R s := by
  have SF := PySem.F.store_object
  obtain ⟨hc, hd, top, pass, ht⟩ := ok
  have ne : cd.mro.isEmpty = false := by cases q : cd.mro with | nil => rw [q] at top; cases top | cons _ _ => rfl
  have ty : Looks (MW w) s.heap (typeOf (.ref x)) (.ref C) := (Looks.ld hx).andThen .now
  have sub : Looks (MW w) s.heap (isInstance (.ref x) (.type "object")) true := ty.andThen (looks_mroIn X (by unfold mroIn; rw [hc, Option.bind_some, if_neg (by rw [ne]; decide), top]))
  refine codeAny_call_builtin SF.slot.plain SF.entry (@check_slot (MW w) _ _ s "object.__setattr__" "object" "__setattr__" (.ref x) [.str name tk, v] [] _ SF.kind SF.split sub (SF.args (.ref x) (.str name tk) v) ?_)
  obtain ⟨attr, ha, hr⟩ := Option.bind_eq_some_iff.mp ht
  have hm : Looks (MW w) s.heap (mroOf (.ref C)) cd.mro := (looks_clsIn X hc).andThen .now
  have L3 : Looks (MW w) s.heap (Builtin.ObjectAttr.storeTaker? attr) none := by
    cases attr with
    | none => cases hr; exact .now
    | some a =>
      obtain ⟨b, hb, e⟩ := Option.map_eq_some_iff.mp hr
      refine (looks_takesIn X hb).andThen ?_
      cases b with
      | true => cases e
      | false => exact .now
  rw [osa_eq, refuse_eq]
  refine wpAny_bind (wpAny_bind (ty.here (wpAny_bind (hm.here ?_))))
  rw [pass x]
  exact wpAny_pure (wpAny_bind (ty.here (wpAny_bind ((looks_findIn X ha).here (wpAny_bind (L3.here (h _)))))))
theorem upd_exc {h : Heap} {x C T d : Addr} (hx : h.get? x = some (excObj C none T)) : (h.update x fun o => { o with dict := some d }).get? x = some (excObj C (some d) T) := Heap.get?_update_self _ hx rfl
noncomputable abbrev mk0 (h : Heap) (x : Addr) : Heap := (h.push emptyDict).update x fun o => { o with dict := some h.objs.size }
theorem exc_store0 {Q : Fin → Shared → Prop} {b : Bool} (X : K.In s.heap) {cd : ClassData} (ok : StoreOk K C name cd) (hx : s.heap.get? x = some (excObj C none T))
    (q : Q (.done (.ret .none)) { s with heap := (mk0 s.heap x).update s.heap.objs.size (Obj.putName name (PyData.keyHash w.params name) (.str name s.toks) v), toks := s.toks + 1 }) :
    wpAny (MW w) A (Builtin.ObjectAttr.storeInOwnDict (.ref x) (.ref C) (.str name tk) name v b) Q E s := by
  unfold Builtin.ObjectAttr.storeInOwnDict
  refine wpAny_bind (wpAny_pure (wpAny_bind ?_))
  have hs : x ≠ s.heap.objs.size := Nat.ne_of_lt (Heap.lt_size hx)
  have hx1 : (s.heap.push emptyDict).get? x = some (excObj C none T) := Heap.get?_push_of_some _ hx
  have D0 : (mk0 s.heap x).get? s.heap.objs.size = some (dictOf [] 0) := (Heap.get?_update_other _ _ hs).trans (Heap.get?_push_size _ rfl)
  show wpAny _ _ (instanceDict x true) _ _ _
  unfold instanceDict
  refine wpAny_bind (wpAny_loadPart hx ?_)
  refine wpAny_bind ((looks_clsIn X ok.cls).here ?_)
  rw [ok.dict, if_neg (by decide)]
  show wpAny _ _ (alloc emptyDict >>= _) _ _ _
  refine wpAny_bind (wpAny_alloc (wpAny_bind (wpAny_update hx1 ?_)))
  show wpAny _ _ (pure (some s.heap.objs.size)) _ _ _
  refine wpAny_pure ?_
  have ee : Obj.putName name (PyData.keyHash w.params name) (.str name s.toks) v (dictOf [] 0) = dictOf (putL name (PyData.keyHash w.params name) (.str name s.toks) v []) (putN name [] 0) := putName_dict _ _ _ _ _ _
  exact storeInDict_at (s := { s with heap := mk0 s.heap x }) D0 rfl ee (by show 1 ≤ 1000; decide) q
theorem exc_store1 {Q : Fin → Shared → Prop} {b : Bool} {ds : List DictEntry} {n : Nat} (X : K.In s.heap) {cd : ClassData} (ok : StoreOk K C name cd) (hx : s.heap.get? x = some (excObj C (some dx) T)) (D : s.heap.get? dx = some (dictOf ds n)) (hr : ds.any (·.refKey) = false)
    (hz : (putL name (PyData.keyHash w.params name) (.str name s.toks) v ds).length ≤ 1000)
    (q : Q (.done (.ret .none)) { s with heap := s.heap.update dx (Obj.putName name (PyData.keyHash w.params name) (.str name s.toks) v), toks := s.toks + 1 }) :
    wpAny (MW w) A (Builtin.ObjectAttr.storeInOwnDict (.ref x) (.ref C) (.str name tk) name v b) Q E s := by
  unfold Builtin.ObjectAttr.storeInOwnDict
  refine wpAny_bind (wpAny_pure (wpAny_bind ?_))
  show wpAny _ _ (instanceDict x true) _ _ _
  unfold instanceDict
  refine wpAny_bind (wpAny_loadPart hx ?_)
  refine wpAny_bind ((looks_clsIn X ok.cls).here ?_)
  rw [ok.dict, if_neg (by decide)]
  show wpAny _ _ (pure (some dx)) _ _ _
  refine wpAny_pure ?_
  have ee : Obj.putName name (PyData.keyHash w.params name) (.str name s.toks) v (dictOf ds n) = dictOf (putL name (PyData.keyHash w.params name) (.str name s.toks) v ds) (putN name ds n) := putName_dict _ _ _ _ _ _
  exact storeInDict_at D hr ee hz q
end
end Mine
namespace Mine
variable {w : World} {B : Heap} {c : Ctx w B} {σ : St} {E : QE}
noncomputable def SA (c : Ctx w B) (σ : St) (a b : AV) (name : Str) (Q : St → Prop) (E : QE) : Prop := ∀ F s u v, Rep c F σ s → Rel F a u → Rel F b v → wpAny (MW w) c.A (setAttr u name v) (PostU c F Q) (PostE c F E) s
noncomputable def SI (c : Ctx w B) (σ : St) (a k b : AV) (Q : St → Prop) (E : QE) : Prop := ∀ F s u x v, Rep c F σ s → Rel F a u → Rel F k x → Rel F b v → wpAny (MW w) c.A (setItem u x v) (PostU c F Q) (PostE c F E) s
noncomputable def GIt (c : Ctx w B) (σ : St) (a k : AV) (Q : QA) (E : QE) : Prop := ∀ F s u x, Rep c F σ s → Rel F a u → Rel F k x → wpAny (MW w) c.A (getItem u x) (Post c F Q) (PostE c F E) s
theorem XW_AssignAttr {o value : Expr} {attr : Str} {pos' pos : Pos} {Q : QF} (h : EW c σ (eval value c.env) (fun b σ₁ => EW c σ₁ (eval o c.env) (fun a σ₂ => SA c σ₂ a b attr (fun σ₃ => Q .next σ₃) E) E) E)
    (hs : ∀ env, swapsWith value (some (.Attribute o attr pos')) pos.line env = pure false) : XW c σ (exec (.Assign [.Attribute o attr pos'] value pos) c.env) Q E := fun F s R => by
  refine plainObj_wpAny_Assign_Attribute (wpAny_mono (h F s R) (fun v s₁ zz => zz.elim fun F₁ σ₁ b l₁ R₁ r₁ h₁ => ?_) fun _ _ e => e) (hs _)
  refine wpAny_mono (h₁ F₁ s₁ R₁) (fun u s₂ zz => zz.elim fun F₂ σ₂ a l₂ R₂ r₂ h₂ => ?_) fun _ _ e => e.mono l₁
  exact wpAny_mono (h₂ F₂ s₂ u v R₂ r₂ (Rel.mono l₂ _ _ r₁)) (fun _ s₃ zz => zz.elim fun F₃ σ₃ l₃ R₃ q => ⟨F₃, σ₃, .next, (l₁.trans l₂).trans l₃, R₃, rNext, q⟩) fun _ _ e => e.mono (l₁.trans l₂)
theorem XW_AssignSub {o i value : Expr} {pos' pos : Pos} {Q : QF} (h : EW c σ (eval value c.env) (fun b σ₁ => EW c σ₁ (eval o c.env) (fun a σ₂ => EW c σ₂ (eval i c.env) (fun k σ₃ => SI c σ₃ a k b (fun σ₄ => Q .next σ₄) E) E) E) E)
    (hs : ∀ env, swapsWith value (some (.Subscript o i pos')) pos.line env = pure false) : XW c σ (exec (.Assign [.Subscript o i pos'] value pos) c.env) Q E := fun F s R => by
  refine wpAny_Assign_Subscript (wpAny_mono (h F s R) (fun v s₁ zz => zz.elim fun F₁ σ₁ b l₁ R₁ r₁ h₁ => ?_) fun _ _ e => e) (hs _)
  refine wpAny_mono (h₁ F₁ s₁ R₁) (fun u s₂ zz => zz.elim fun F₂ σ₂ a l₂ R₂ r₂ h₂ => ?_) fun _ _ e => e.mono l₁
  refine wpAny_mono (h₂ F₂ s₂ R₂) (fun x s₃ zz => zz.elim fun F₃ σ₃ k l₃ R₃ r₃ h₃ => ?_) fun _ _ e => e.mono (l₁.trans l₂)
  exact wpAny_mono (h₃ F₃ s₃ u x v R₃ (Rel.mono l₃ _ _ r₂) r₃ (Rel.mono (l₂.trans l₃) _ _ r₁)) (fun _ s₄ zz => zz.elim fun F₄ σ₄ l₄ R₄ q => ⟨F₄, σ₄, .next, ((l₁.trans l₂).trans l₃).trans l₄, R₄, rNext, q⟩) fun _ _ e => e.mono ((l₁.trans l₂).trans l₃)
theorem XW_AugSub {o i value : Expr} {op : Operator} {tpos pos : Pos} {Q : QF} (h : EW c σ (eval o c.env) (fun a σ₁ => EW c σ₁ (eval i c.env) (fun k σ₂ => GIt c σ₂ a k (fun g σ₃ => EW c σ₃ (eval value c.env) (fun b σ₄ => BW c σ₄ g b (inplaceOp op) (fun d σ₅ => SI c σ₅ a k d (fun σ₆ => Q .next σ₆) E) E) E) E) E) E)
    (hs : ∀ ov iv new, augStore i ov iv new = (do holding [new, ov, iv] (setItem ov iv new); release [new, ov, iv] []; pure Flow.next) := by intro _ _ _; with_unfolding_all rfl) : XW c σ (exec (.AugAssign (.Subscript o i tpos) op value pos) c.env) Q E := fun F s R => by
  refine wpAny_AugAssign_SubscriptAny (wpAny_mono (h F s R) (fun u s₁ zz => zz.elim fun F₁ σ₁ a l₁ R₁ r₁ h₁ => ?_) fun _ _ e => e) hs
  refine wpAny_mono (h₁ F₁ s₁ R₁) (fun x s₂ zz => zz.elim fun F₂ σ₂ k l₂ R₂ r₂ h₂ => ?_) fun _ _ e => e.mono l₁
  refine wpAny_mono (h₂ F₂ s₂ u x R₂ (Rel.mono l₂ _ _ r₁) r₂) (fun y s₃ zz => zz.elim fun F₃ σ₃ g l₃ R₃ r₃ h₃ => ?_) fun _ _ e => e.mono (l₁.trans l₂)
  have l13 := (l₁.trans l₂).trans l₃
  refine wpAny_mono (h₃ F₃ s₃ R₃) (fun v s₄ zz => zz.elim fun F₄ σ₄ b l₄ R₄ r₄ h₄ => ?_) fun _ _ e => e.mono l13
  refine wpAny_mono (h₄ F₄ s₄ y v R₄ (Rel.mono l₄ _ _ r₃) r₄) (fun z s₅ zz => zz.elim fun F₅ σ₅ d l₅ R₅ r₅ h₅ => ?_) fun _ _ e => e.mono (l13.trans l₄)
  have l25 := (l₃.trans l₄).trans l₅
  exact wpAny_mono (h₅ F₅ s₅ u x z R₅ (Rel.mono (l₂.trans l25) _ _ r₁) (Rel.mono l25 _ _ r₂) r₅) (fun _ s₆ zz => zz.elim fun F₆ σ₆ l₆ R₆ q => ⟨F₆, σ₆, .next, ((l13.trans l₄).trans l₅).trans l₆, R₆, rNext, q⟩) fun _ _ e => e.mono ((l13.trans l₄).trans l₅)
theorem SA_ins {loc : Loc} {H : HS} {x C dx : Addr} {es es' : List (Str × AV)} {H' : HS} {name : Str} {b : AV} {Q : St → Prop} (ok : storeOk (KF w.params) (C, name) = true) (mx : (x, .ins C dx) ∈ H) (u : HUpd dx (.dctS es) (.dctS es') H H')
    (hl : es.length ≤ 900) (st : KUpd name b es es' ∨ (name ∉ es.map (·.1) ∧ es' = es ++ [(name, b)])) (q : Q ⟨loc, H'⟩) : SA c ⟨loc, H⟩ (.val (.ref x)) b name Q E := fun F s u' v R e rv => by
  cases e
  exact set_attr (σ := ⟨loc, H⟩) ok mx u hl st q R rv
theorem SI_dct {K : Type} [DecidableEq K] {knd : PySem.KeyKind PG w K} {mk : List (K × AV) → HObj} {key : K → AV} (T : Dct w K knd mk key) {loc : Loc} {H H' : HS} {d : Addr} {es es' : List (K × AV)} {k : K} {b : AV} {Q : St → Prop} (u : HUpd d (mk es) (mk es') H H') (hl : es.length ≤ 100000) (st : KUpd k b es es' ∨ (k ∉ es.map (·.1) ∧ es' = es ++ [(k, b)])) (q : Q ⟨loc, H'⟩) : SI c ⟨loc, H⟩ (.val (.ref d)) (key k) b Q E := fun F s _ x v R e rk rv => by
  cases e
  exact T.set (σ := ⟨loc, H⟩) u hl st q R rk rv
theorem GIt_dct {K : Type} [DecidableEq K] {knd : PySem.KeyKind PG w K} {mk : List (K × AV) → HObj} {key : K → AV} (T : Dct w K knd mk key) {d : Addr} {es : List (K × AV)} {k : K} {a : AV} {Q : QA} (m : (d, mk es) ∈ σ.H) (mk' : (k, a) ∈ es) (q : Q a σ) : GIt c σ (.val (.ref d)) (key k) Q E := fun F s u x R e rk => by
  cases e
  obtain ⟨kvs, D, r, ne⟩ := T.at R m
  obtain ⟨y, my, ry⟩ := r.mem _ mk'
  exact wpAny_getItem_of (T.is F k x rk) D.mapOf (valueAt_some (DictOf.nodup D) my) (handT R ry q _ _)
structure ExcC (w : World) (C : Addr) (name : Str) : Prop where
  ok : ∃ cd, StoreOk (KF w.params) C name cd
  set : findIn (KF w.params) (.ref C) "__setattr__" = some (some (.builtin "object.__setattr__"))
theorem SA_exc0 {loc : Loc} {H : HS} {H1 : Addr → HS} {x C : Addr} {name : Str} {b : AV} {Q : St → Prop} (X : ExcC w C name) (u : ∀ d, HUpd x (.exc C none) (.exc C (some d)) H (H1 d)) (q : ∀ d, Q ⟨loc, (d, .dctS [(name, b)]) :: H1 d⟩) : SA c ⟨loc, H⟩ (.val (.ref x)) b name Q E := fun F s _ v R e rv => by
  cases e
  obtain ⟨cd, ok⟩ := X.ok
  obtain ⟨_, o, ex, T, rfl⟩ := R.cr.hot _ (u 0).mem
  have K1 := K_in R
  refine set_plain (od := none) K1 ⟨ex, rfl, rfl, trivial⟩ X.set (exc_osa (s := { s with toks := s.toks + 1 }) K1 ok ex fun b' => exc_store0 (s := { s with toks := s.toks + 1 }) K1 ok ex ?_)
  have hs : x ≠ s.heap.objs.size := Nat.ne_of_lt (Heap.lt_size ex)
  have R1 := R.alloc (.dctS []) emptyDict ⟨[], 0, rfl, [], (fun e he => by simp at he), .nil, rfl, List.nodup_nil⟩ rfl s.drawn s.toks
  have R2 := R1.upd (.tail (u s.heap.objs.size)) (Heap.SameBut.update _ x (fun o => { o with dict := some s.heap.objs.size })) (upd_exc (Heap.get?_push_of_some _ ex)) ⟨T, rfl⟩ s.drawn s.toks
  have D0 : (mk0 s.heap x).get? s.heap.objs.size = some (dictOf [] 0) := (Heap.get?_update_other _ _ hs).trans (Heap.get?_push_size _ rfl)
  have D1 : ((mk0 s.heap x).update s.heap.objs.size (Obj.putName name (PyData.keyHash w.params name) (.str name (s.toks + 1)) v)).get? s.heap.objs.size = some (dictOf (putL name (PyData.keyHash w.params name) (.str name (s.toks + 1)) v []) (putN name [] 0)) := by
    rw [← putName_dict]; exact Heap.get?_update_self _ D0 (by rw [putName_dict]; rfl)
  obtain ⟨a1, a2, a3⟩ := putL_new (w := w) (t := s.toks + 1) (es := []) (ds := []) (kvs := []) (a := b) (v := v) (name := name) (by simp) rv (fun e he => by simp at he) .nil rfl
  have R3 := R2.upd (ho' := .dctS [(name, b)]) .head (Heap.SameBut.update _ _ _) D1 ⟨_, _, rfl, [(name, v)], a1, a2, a3, by simp⟩ s.drawn (s.toks + 1 + 1)
  exact ⟨F, _, Fz.le.refl F, R3, q _⟩
theorem SA_exc1 {loc : Loc} {H H' : HS} {x C dx : Addr} {es es' : List (Str × AV)} {name : Str} {b : AV} {Q : St → Prop} (X : ExcC w C name) (mx : (x, .exc C (some dx)) ∈ H) (u : HUpd dx (.dctS es) (.dctS es') H H') (hl : es.length ≤ 900) (n : name ∉ es.map (·.1)) (es'' : es' = es ++ [(name, b)]) (q : Q ⟨loc, H'⟩) : SA c ⟨loc, H⟩ (.val (.ref x)) b name Q E := fun F s _ v R e rv => by
  cases e
  subst es''
  obtain ⟨cd, ok⟩ := X.ok
  obtain ⟨_, o, ex, T, rfl⟩ := R.cr.hot _ mx
  obtain ⟨_, od, ed, ds, k, rfl, kvs, ko, P, r, nd⟩ := R.cr.hot _ u.mem
  have K1 := K_in R
  obtain ⟨a1, a2, a3⟩ := putL_new (w := w) (t := s.toks + 1) n rv ko P r
  have hz : (putL name (PyData.keyHash w.params name) (.str name (s.toks + 1)) v ds).length ≤ 1000 := by
    rw [a2.length]
    have : kvs.length = es.length := by have := congrArg List.length r.keys; simpa using this
    simp; omega
  refine set_plain (od := some (dictOf ds k)) K1 ⟨ex, rfl, rfl, ed⟩ X.set (exc_osa (s := { s with toks := s.toks + 1 }) K1 ok ex fun b' => exc_store1 (s := { s with toks := s.toks + 1 }) K1 ok ex ed (no_ref P) hz ?_)
  have D1 : (s.heap.update dx (Obj.putName name (PyData.keyHash w.params name) (.str name (s.toks + 1)) v)).get? dx = some (dictOf (putL name (PyData.keyHash w.params name) (.str name (s.toks + 1)) v ds) (putN name ds k)) := by
    rw [← putName_dict]; exact Heap.get?_update_self _ ed (by rw [putName_dict]; rfl)
  have nd' : ((kvs ++ [(name, v)]).map (·.1)).Nodup := by
    rw [List.map_append, List.nodup_append]
    refine ⟨nd, by simp, fun y hy z hz e => ?_⟩
    simp only [List.map_cons, List.map_nil, List.mem_singleton] at hz
    exact n (by rw [← r.keys, ← hz, ← e]; exact hy)
  exact ⟨F, _, Fz.le.refl F, R.upd u (Heap.SameBut.update _ _ _) D1 ⟨_, _, rfl, _, a1, a2, a3, nd'⟩ s.drawn (s.toks + 1 + 1), q⟩
end Mine
namespace Mine
variable {w : World} {B : Heap} {c : Ctx w B} {σ : St} {E : QE}
theorem Rep.sub {F : Fz} {H H' : HS} {loc : Loc} {s : Shared} (R : Rep c F ⟨loc, H'⟩ s) (u : H.Sublist H') : Rep c F ⟨loc, H⟩ s := by
  have sub : ∀ a, a ∈ keys H → a ∈ keys H' := fun a h => (u.map (·.1)).subset h
  have fr : ∀ {fs : List Env}, FrOk B F H' s.heap fs → FrOk B F H s.heap fs := by
    intro fs
    induction fs with
    | nil => exact id
    | cons env r ih =>
      rintro ⟨x1, ⟨L, o, es, n, e1, g, dd, f, nk⟩, t⟩
      exact ⟨x1, ⟨L, o, es, n, e1, g, dd, f, fun z => nk (sub _ z)⟩, ih t⟩
  exact ⟨R.ok, ⟨R.cr.base, R.cr.fz, (u.map (·.1)).nodup R.cr.nd, fun q hq => R.cr.hot q (u.subset hq), fr R.cr.fr, R.cr.gens, R.cr.os, fun a ha => R.cr.big a (sub _ ha)⟩,
    ⟨R.pres.le, R.pres.same, fun a ha => R.pres.ks a (sub _ ha), R.pres.fr, R.pres.ever⟩, fun a ha => ⟨(R.own a ha).1, fun z => (R.own a ha).2.1 (sub _ z), (R.own a ha).2.2⟩, fun q hq => let ⟨g1, g2, g3, g4⟩ := R.gd q hq; ⟨g1, g2, fun z => g3 (sub _ z), g4⟩, R.nd, R.dbg, R.loc⟩
inductive ExcAtK (w : World) (C : Addr) : Prop
  | mk (nm q N bs bm hdct sn sub ab col dd k0 k1 k2 k3 k5 : _) (e : (KF w.params).lookup C = some (excClassObj nm q C N bs bm hdct sn sub ab col dd k0 k1 k2 k3 k5 "Exception.__new__")) (m : ExcMro bm)
structure ExcK (w : World) (C fI : Addr) : Prop where
  at_ : ExcAtK w C
  init : findIn (KF w.params) (.ref C) "__init__" = some (some (.ref fI))
  fn : typeIn (KF w.params) (.ref fI) = some (.type "function")
theorem CW_newE {k : Nat} {H : HS} {C fI : Addr} {l : List AV} {Q : AV → HS → Prop} {E : AE → HS → Prop} (hx : ∀ w : World, ExcK w C fI) (hl : l.length ≤ 1000)
    (h : ∀ x, CW w B k ((x, .exc C none) :: H) (.ref fI) (.val (.ref x) :: l) (fun a H' => a = .none ∧ Q (.val (.ref x)) H') E) : CW w B (k + 1) H (.ref C) l Q E := fun A fs os F s vs W P C' r => by
  obtain ⟨hh, g, d, t, os'⟩ := s
  have stays : ∀ a o, B.get? a = some o → hh.get? a = some o := fun a o e => C'.fz _ _ (C'.base a o e)
  have X : (KF w.params).In hh := W.K.keeps stays
  have big : 2 < hh.objs.size := by
    obtain ⟨p, loose, mg, mb, T⟩ := W.T
    obtain ⟨o, _, _, e, _⟩ := T.g
    exact Nat.lt_trans (by decide) (Heap.lt_size (stays _ _ e))
  obtain ⟨⟨nm, q, N, bs, bm, hdct, sn, sub, ab, col, dd, k0, k1, k2, k3, k5, hC, M⟩, hi, hf⟩ := hx w
  let h1 := (hh.push { cls := .type "tuple", data := .seq vs.toArray }).push (excObj C none hh.objs.size)
  have kk : ∀ a o, hh.get? a = some o → h1.get? a = some o := fun a o e => Heap.get?_push_of_some _ (Heap.get?_push_of_some _ e)
  have n2 : hh.get? (hh.objs.size + 1) = none := by
    cases q : hh.get? (hh.objs.size + 1) with
    | none => rfl
    | some o => exact absurd (Heap.lt_size q) (Nat.not_lt.mpr (Nat.le_succ _))
  have g2 : h1.get? (hh.objs.size + 1) = some (excObj C none hh.objs.size) := by
    have := Heap.get?_push_size (hh.push { cls := .type "tuple", data := .seq vs.toArray }) (o := excObj C none hh.objs.size) rfl
    rwa [Heap.size_push] at this
  have hot : ∀ p ∈ [(hh.objs.size + 1, HObj.exc C none)], hh.get? p.1 = none ∧ HotAt w F h1 p := by
    intro p hp
    rw [List.mem_singleton] at hp
    subst hp
    exact ⟨n2, C'.fz_none (s := ⟨hh, g, d, t, os'⟩) n2, _, g2, _, rfl⟩
  have Cg := C'.grow (s := ⟨hh, g, d, t, os'⟩) (new := [(hh.objs.size + 1, HObj.exc C none)]) (F' := F) (h' := h1) kk (Fz.le.refl F) (fun _ _ e => .inl e) (by simp) hot (fun p hp => by rw [List.mem_singleton] at hp; subst hp; exact Nat.lt_succ_of_lt big) d t
  have Pg : CPres F H hh F _ h1 := CPres.grow (new := [(hh.objs.size + 1, HObj.exc C none)]) (F' := F) kk (Fz.le.refl F) (fun _ _ e => .inl e) (fun p hp => (hot p hp).1)
  have hlen := r.length
  refine exc_code M X (X _ _ hC) hi hf (by rw [sizeLine_eq]; omega) (wpAny_call ?_)
  have := h (hh.objs.size + 1) _ fs os F ⟨h1, g, d, t, os'⟩ (.ref (hh.objs.size + 1) :: vs) W (P.under C vs) Cg ⟨_, vs, rfl, rVal, r⟩
  refine codeAny_mono this fun r s' z => ?_
  cases r with
  | ok f =>
    cases f with
    | ret v => obtain ⟨F', H', a, y1, y2, y3, rfl, y4⟩ := z; exact ⟨y3, F', H', .val (.ref (hh.objs.size + 1)), y1, Pg.trans y2, rVal, y4⟩
    | _ => exact z
  | error e =>
    obtain ⟨F', H', ae, y1, y2, ⟨ev, X⟩, y4⟩ := z
    refine ⟨F', H', ae, y1, Pg.trans y2, ⟨ev, X.weak fun a z => ?_⟩, y4⟩
    rcases z with z | z | z
    · exact .inl z
    · obtain ⟨o, e⟩ := Option.isSome_iff_exists.mp z
      exact .inr (.inl (isSome_of (kk a o e)))
    · exact .inr (.inr z)
section
variable {prog : Program} {A : Around} {E : Value → Shared → Prop} {s : Shared} {env : Env} {C N e d T : Addr} {nm q : Str} {bs bm : List Value} {hdct : Bool} {sn : List Str} {sub : List Value} {ab : Bool} {col : Option Bool} {dd : Option Addr} {k0 k1 k2 k3 k5 : Option Value}
theorem raise_made {M : Model} {x : Sem Value} {Q : Flow → Shared → Prop} (X : ExcMro bm) (hh : A.handled = none)
    (h : wpAny M A x (fun v s₁ => ∃ e d T, v = .ref e ∧ s₁.heap.get? C = some (excClassObj nm q C N bs bm hdct sn sub ab col dd k0 k1 k2 k3 k5 "Exception.__new__") ∧ s₁.heap.get? e = some (excObj C (some d) T) ∧ E (.ref e) s₁) E s) :
    wpAny M A (raiseStmt env (some x) none) Q E s := by
  have c1 : (Value.ref C :: bm).contains (.type "BaseException") = true := by rw [List.contains_cons, X.hasB, Bool.or_true]
  unfold raiseStmt
  refine wpAny_bind (wpAny_mono h (fun v s₁ h₁ => ?_) fun _ _ x => x)
  obtain ⟨e, d, T, rfl, hC, he, hE⟩ := h₁
  obtain ⟨hp, g, dr, tk, os⟩ := s₁
  repeat (first | with_reducible refine wpAny_loadPart_at he ?_ | with_reducible refine wpAny_loadPart_at hC ?_ | (with_reducible refine wpAny_isSubtype_exc hC ?_; rw [c1]) | wp_step)
  exact wpAny_raiseNew_none hh hE
end
inductive RaiseK (c : Ctx w B) (C : Addr) (E : QE) (a : AV) (σ₁ : St) : Prop
  | mk (loc : Loc) (H2 : HS) (x d : Addr) (es : List (Str × AV)) (ea : a = .val (.ref x)) (eσ : σ₁ = ⟨loc, (d, .dctS es) :: (x, .exc C (some d)) :: H2⟩) (hk : ∀ a ∈ keys c.H0, a ∈ keys H2) (q : E ⟨C, d, x⟩ ⟨loc, (d, .dctS es) :: H2⟩)
inductive RaiseD (c : Ctx w B) (C : Addr) (E : QE) (a : AV) (σ₁ : St) : Prop
  | mk (loc : Loc) (H2 : HS) (x d : Addr) (es : List (Str × AV)) (ea : a = .val (.ref x)) (eσ : σ₁ = ⟨loc, (d, .dctS es) :: (x, .exc C (some d)) :: H2⟩) (hk : ∀ a ∈ keys c.H0, a ∈ keys H2) (q : E ⟨C, d, x⟩ ⟨loc, H2⟩)
theorem XW_RaiseK {e : Expr} {pos : Pos} {Q : QF} {C fI : Addr} (hx : ∀ w : World, ExcK w C fI) (hh : c.A.handled = none) (h : EW c σ (eval e c.env) (RaiseK c C E) E) : XW c σ (exec (.Raise (some e) none pos) c.env) Q E := fun F s R => by
  obtain ⟨⟨nm, q, N, bs, bm, hdct, sn, sub, ab, col, dd, k0, k1, k2, k3, k5, hC, M⟩, hi, hf⟩ := hx w
  rw [arm_exec_Raise]
  refine wpAny_bind (wpAny_standAt ?_)
  show wpAny _ _ (raiseStmt c.env (some (do let v ← eval e c.env; standAt pos; pure v)) none) _ _ _
  refine raise_made (C := C) (nm := nm) (q := q) (N := N) (bs := bs) (hdct := hdct) (sn := sn) (sub := sub) (ab := ab) (col := col) (dd := dd) (k0 := k0) (k1 := k1) (k2 := k2) (k3 := k3) (k5 := k5) M hh (wpAny_bind (wpAny_mono (h F s R) (fun v s₁ zz => zz.elim fun F₁ σ₁ a l₁ R₁ r₁ ⟨loc, H2, x, d, es, ea, eσ, hk, hE⟩ => wpAny_bind (wpAny_standAt (wpAny_pure ?_))) fun _ _ e => e))
  subst ea; subst eσ; cases r₁
  obtain ⟨fx, o, ex, T, rfl⟩ := R₁.cr.hot (x, .exc C (some d)) (.tail _ (.head _))
  have nd : (d :: x :: keys H2).Nodup := R₁.cr.nd
  have nx := (List.nodup_cons.mp (List.nodup_cons.mp nd).2).1
  have nxd : x ∉ keys ((d, HObj.dctS es) :: H2) := fun z => by
    rcases List.mem_cons.mp (show x ∈ d :: keys H2 from z) with z | z
    · exact (List.nodup_cons.mp nd).1 (z ▸ .head _)
    · exact nx z
  have mx : x ∈ keys ((d, HObj.dctS es) :: (x, HObj.exc C (some d)) :: H2) := .tail _ (.head _)
  have new : c.h0.get? x = none := (R₁.pres.ks x mx).elim (fun z => absurd (hk x z) nx) id
  refine ⟨x, d, T, rfl, (K_in R₁) _ _ hC, ex, F₁, _, ⟨C, d, x⟩, l₁, R₁.sub (.cons_cons _ (.cons _ (List.Sublist.refl _))), ⟨rfl, ⟨_, _, ex, .inl rfl⟩, fx, nxd, fun z => ?_⟩, hE⟩
  rcases z with z | z | z
  · exact (R₁.own x z).2.1 mx
  · rw [new] at z; cases z
  · obtain ⟨p, hp, e⟩ := List.mem_map.mp z
    exact (R₁.gd p hp).2.2.1 (e ▸ mx)
theorem XW_RaiseD {e : Expr} {pos : Pos} {Q : QF} {C fI : Addr} (hx : ∀ w : World, ExcK w C fI) (hh : c.A.handled = none) (h : EW c σ (eval e c.env) (RaiseD c C E) E) : XW c σ (exec (.Raise (some e) none pos) c.env) Q E := fun F s R => by
  have := XW_RaiseK (Q := Q) (E := fun ae σ' => E ae σ' ∨ ∃ p H2, σ'.H = p :: H2 ∧ E ae ⟨σ'.loc, H2⟩) (pos := pos) hx hh (h.mono (fun a σ₁ ⟨loc, H2, x, d, es, ea, eσ, hk, hE⟩ => ⟨loc, H2, x, d, es, ea, eσ, hk, .inr ⟨_, H2, rfl, hE⟩⟩) fun _ _ x => .inl x) F s R
  refine wpAny_mono this (fun _ _ x => x) fun v s' zz => zz.elim fun F' σ' ae l R' X y => ?_
  rcases y with y | ⟨p, H2, e, y⟩
  · exact ⟨F', σ', ae, l, R', X, y⟩
  · obtain ⟨loc, H⟩ := σ'
    cases e
    obtain ⟨ev, ⟨at_, fz, nk, nb⟩⟩ := X
    refine ⟨F', ⟨loc, H2⟩, ae, l, R'.sub (.cons _ (List.Sublist.refl _)), ⟨ev, ⟨?_, fz, fun z => nk (.tail _ z), nb⟩⟩, y⟩
    obtain ⟨vs, sl, e1, r⟩ := at_
    refine ⟨vs, sl, e1, ?_⟩
    rcases r with r | ⟨T, ts, oT, a1, a2, a3, a4, a5, a6, a7, a8⟩
    · exact .inl r
    · exact .inr ⟨T, ts, oT, a1, a2, a3, a4, a5, a6, fun z => a7 (.tail _ z), a8⟩
end Mine
namespace Mine
variable {w : World} {B : Heap} {c : Ctx w B} {σ : St} {E : QE}
theorem mro1 : ExcMro [.ref 39, .type "Exception", .type "BaseException", .type "object"] := ⟨by decide +kernel, by decide +kernel, by decide +kernel, by decide +kernel, by decide +kernel⟩
theorem mro2 : ExcMro [.type "Exception", .type "BaseException", .type "object"] := ⟨by decide +kernel, by decide +kernel, by decide +kernel, by decide +kernel, by decide +kernel⟩
theorem excK100 (w : World) : ExcK w 100 97 := ⟨⟨_, _, _, _, _, _, _, _, _, _, _, _, _, _, _, _, rfl, mro1⟩, by kernel_rfl, by kernel_rfl⟩
theorem excK636 (w : World) : ExcK w 636 633 := ⟨⟨_, _, _, _, _, _, _, _, _, _, _, _, _, _, _, _, rfl, mro2⟩, by kernel_rfl, by kernel_rfl⟩
theorem pass2 (x : Addr) : refuseLoop (.ref x) "__setattr__" [.type "Exception", .type "BaseException", .type "object"] = pure () := by kernel_rfl
theorem excC100a (w : World) : ExcC w 100 "number" := ⟨⟨_, rfl, rfl, by decide +kernel, fun x => (refuseLoop_ref _ _ _ _).trans ((refuseLoop_ref _ _ _ _).trans (pass2 x)), by kernel_rfl⟩, by kernel_rfl⟩
theorem excC100b (w : World) : ExcC w 100 "text" := ⟨⟨_, rfl, rfl, by decide +kernel, fun x => (refuseLoop_ref _ _ _ _).trans ((refuseLoop_ref _ _ _ _).trans (pass2 x)), by kernel_rfl⟩, by kernel_rfl⟩
theorem excC636 (w : World) : ExcC w 636 "value" := ⟨⟨_, rfl, rfl, by decide +kernel, fun x => (refuseLoop_ref _ _ _ _).trans (pass2 x), by kernel_rfl⟩, by kernel_rfl⟩
section
variable {x : Str} {np pos : Pos} {args : List Expr} {Q : QA}
theorem EW_CallR {a : Nat} (m : (x, .gv (.val (.ref a))) ∈ σ.loc) (hk : kTab.contains a = true) (h : LW c σ pos args (fun l σ' => VW c σ' l (fun vs => call (.ref a) vs []) Q E) E)
    (hp : ∀ env, ((backTo pos (starEach args env)).any (·.1) || ([] : List (Option Str × Sem Value)).any (·.1.isNone)) = false)
    (hs : ∀ e r, args = e :: r → starEach args c.env = (false, eval e c.env) :: starEach r c.env) : EW c σ (eval (.Call (.Name x np) args [] pos) c.env) Q E := EW_Call (keepR' hk) m h hp hs
theorem EW_CallB {id : String} (m : (x, .gv (.val (.builtin id))) ∈ σ.loc) (h : LW c σ pos args (fun l σ' => VW c σ' l (fun vs => call (.builtin id) vs []) Q E) E)
    (hp : ∀ env, ((backTo pos (starEach args env)).any (·.1) || ([] : List (Option Str × Sem Value)).any (·.1.isNone)) = false)
    (hs : ∀ e r, args = e :: r → starEach args c.env = (false, eval e c.env) :: starEach r c.env) : EW c σ (eval (.Call (.Name x np) args [] pos) c.env) Q E := EW_Call keepB' m h hp hs
theorem EW_CallT {id : String} (m : (x, .gv (.val (.type id))) ∈ σ.loc) (h : LW c σ pos args (fun l σ' => VW c σ' l (fun vs => call (.type id) vs []) Q E) E)
    (hp : ∀ env, ((backTo pos (starEach args env)).any (·.1) || ([] : List (Option Str × Sem Value)).any (·.1.isNone)) = false)
    (hs : ∀ e r, args = e :: r → starEach args c.env = (false, eval e c.env) :: starEach r c.env) : EW c σ (eval (.Call (.Name x np) args [] pos) c.env) Q E := EW_Call keepT' m h hp hs
end
end Mine
namespace Mine
noncomputable abbrev ls (x : Str) : List Nat := x.cps.toList
noncomputable abbrev mkS (l : List Nat) : Str := ⟨l.toArray⟩
theorem ls_mkS (l : List Nat) : ls (mkS l) = l := rfl
theorem len_ls (x : Str) : x.length = (ls x).length := by simp [Str.length]
theorem ls_append (x y : Str) : ls (x ++ y) = ls x ++ ls y := by show (x.cps ++ y.cps).toList = _; simp
theorem str_ext {x y : Str} (h : ls x = ls y) : x = y := by
  obtain ⟨a⟩ := x; obtain ⟨b⟩ := y
  have : a = b := Array.toList_inj.mp h
  rw [this]
theorem slice_nat (x : Str) {a b : Nat} (hab : a ≤ b) (hb : b ≤ x.length) : Txt.slice x (some (a : Int)) (some (b : Int)) = mkS (((ls x).drop a).take (b - a)) := by
  have h := StrLaws.sliced_plain x hab hb
  unfold Txt.slice
  split
  · rename_i e
    simp only [Bool.and_eq_true, beq_iff_eq] at e
    have hl := e.2
    rw [StrLaws.strSliceIndices_plain hab hb, List.length_map, List.length_range] at hl
    have ha : a = 0 := by omega
    have hb' : b = x.length := by omega
    subst ha; subst hb'
    rw [List.drop_zero, Nat.sub_zero, List.take_of_length_le (Nat.le_of_eq (len_ls x).symm)]
  · rw [h]
theorem clip_hi (lo : Option Int) {j : Int} (n : Nat) (h : (n : Int) ≤ j) : Builtin.Str.strSliceIndices lo (some j) 1 n = Builtin.Str.strSliceIndices lo (some (n : Int)) 1 n := by
  unfold Builtin.Str.strSliceIndices
  have h1 : ¬ j < 0 := by omega
  have h2 : ¬ (n : Int) < 0 := by omega
  have e : min j (n : Int) = n := by omega
  simp only [h1, h2, if_false, e, Int.min_self, show ((1 : Int) > 0) = True by simp, if_true]
theorem clip_lo (hi : Option Int) {i : Int} (n : Nat) (h : (n : Int) ≤ i) : Builtin.Str.strSliceIndices (some i) hi 1 n = Builtin.Str.strSliceIndices (some (n : Int)) hi 1 n := by
  unfold Builtin.Str.strSliceIndices
  have h1 : ¬ i < 0 := by omega
  have h2 : ¬ (n : Int) < 0 := by omega
  have e : min i (n : Int) = n := by omega
  simp only [h1, h2, if_false, e, Int.min_self, show ((1 : Int) > 0) = True by simp, if_true]
theorem slice_clip_hi (x : Str) (lo : Option Int) {j : Int} (h : (x.length : Int) ≤ j) : Txt.slice x lo (some j) = Txt.slice x lo (some (x.length : Int)) := by
  unfold Txt.slice; rw [clip_hi lo _ h]
theorem slice_clip_lo (x : Str) (hi : Option Int) {i : Int} (h : (x.length : Int) ≤ i) : Txt.slice x (some i) hi = Txt.slice x (some (x.length : Int)) hi := by
  unfold Txt.slice; rw [clip_lo hi _ h]
theorem slice_le (x : Str) {a b : Nat} (hab : a ≤ b) : Txt.slice x (some (a : Int)) (some (b : Int)) = mkS (((ls x).drop a).take (b - a)) := by
  have hn := len_ls x
  have hn2 : x.length = x.cps.toList.length := hn
  by_cases hb : b ≤ x.length
  · exact slice_nat x hab hb
  · rw [slice_clip_hi x _ (by omega)]
    by_cases ha : a ≤ x.length
    · rw [slice_nat x ha (Nat.le_refl _)]
      refine congrArg mkS ?_
      rw [List.take_of_length_le (by rw [List.length_drop]; omega), List.take_of_length_le (by rw [List.length_drop]; omega)]
    · rw [slice_clip_lo x _ (by omega), slice_nat x (Nat.le_refl _) (Nat.le_refl _)]
      refine congrArg mkS ?_
      rw [Nat.sub_self, List.take_zero, List.drop_of_length_le (by omega), List.take_nil]
theorem slice_from (x : Str) (a : Nat) : Txt.slice x (some (a : Int)) none = mkS ((ls x).drop a) := by
  have e : Txt.slice x (some (a : Int)) none = Txt.slice x (some (a : Int)) (some (x.length : Int)) := by
    unfold Txt.slice; rw [StrLaws.sliceIdx_none_hi]
  have hn := len_ls x
  have hn2 : x.length = x.cps.toList.length := hn
  rw [e]
  by_cases ha : a ≤ x.length
  · rw [slice_nat x ha (Nat.le_refl _)]
    refine congrArg mkS ?_
    rw [List.take_of_length_le (by rw [List.length_drop]; omega)]
  · rw [slice_clip_lo x _ (by omega), slice_nat x (Nat.le_refl _) (Nat.le_refl _)]
    refine congrArg mkS ?_
    rw [Nat.sub_self, List.take_zero, List.drop_of_length_le (by omega)]
noncomputable def BLANK : Str := " \t\n\x0d\x0b\x0c\u00a0\u1680\u2000\u2001\u2002\u2003\u2004\u2005\u2006\u2007\u2008\u2009\u200a\u2028\u2029\u202f\u205f\u3000\ufeff"
noncomputable def isBl (ch : Nat) : Bool := decide (ch ∈ ls BLANK)
theorem in_blanks (ch : Nat) : (!List.isEmpty (Builtin.Str.occurrences BLANK ⟨#[ch]⟩ 0 (Str.length BLANK) 1)) = isBl ch := StrLaws.found_one _ _
noncomputable def trimL (l : List Nat) : List Nat := ((l.dropWhile isBl).reverse.dropWhile isBl).reverse
theorem dropWhile_no {p : Nat → Bool} {l : List Nat} (h : ∀ ch, l[0]? = some ch → p ch = false) : l.dropWhile p = l := by
  cases l with
  | nil => rfl
  | cons a r => rw [List.dropWhile_cons, h a rfl]; rfl
theorem dropWhile_yes {p : Nat → Bool} {l : List Nat} {j ch : Nat} (e : l[j]? = some ch) (h : p ch = true) : (l.drop j).dropWhile p = (l.drop (j + 1)).dropWhile p := by
  have hlt := lt_of_get e
  rw [List.drop_eq_getElem_cons hlt, List.dropWhile_cons, show l[j] = ch by simpa [List.getElem?_eq_getElem hlt] using e, h]; rfl
theorem find_one (x : Str) (ch : Nat) : Txt.find x ⟨#[ch]⟩ = if ch ∈ ls x then (((ls x).findIdx (· == ch) : Nat) : Int) else -1 := by
  have at1 : ∀ i, StrLaws.At x ⟨#[ch]⟩ x.length i ↔ (ls x)[i]? = some ch := fun i => by
    unfold StrLaws.At
    rw [StrLaws.subAt_eq]
    have hn := len_ls x
    constructor
    · rintro ⟨h1, h2⟩
      have h1 : i + 1 ≤ x.length := h1
      have hlt : i < (ls x).length := by omega
      have h2 : ((List.take 1 (List.drop i (ls x))) == [ch]) = true := h2
      rw [List.drop_eq_getElem_cons hlt] at h2
      simp only [List.take_succ_cons, List.take_zero, beq_iff_eq, List.cons.injEq, and_true] at h2
      rw [List.getElem?_eq_getElem hlt, h2]
    · intro h
      have hlt := lt_of_get h
      refine ⟨by show i + 1 ≤ x.length; omega, ?_⟩
      show ((List.take 1 (List.drop i (ls x))) == [ch]) = true
      rw [List.drop_eq_getElem_cons hlt]
      have : (ls x)[i] = ch := by simpa [List.getElem?_eq_getElem hlt] using h
      simp [this]
  rcases find_whole x ⟨#[ch]⟩ with ⟨e, h⟩ | ⟨i, e, h, hk⟩
  · rw [e, if_neg]
    intro m
    obtain ⟨i, hi⟩ := List.mem_iff_getElem?.mp m
    exact h i ((at1 i).mpr hi)
  · have h' := (at1 i).mp h
    rw [e, if_pos (List.mem_of_getElem? h')]
    have hlt := lt_of_get h'
    have : (ls x).findIdx (· == ch) = i := by
      rw [List.findIdx_eq hlt]
      refine ⟨by have : (ls x)[i] = ch := by simpa [List.getElem?_eq_getElem hlt] using h'
                 simp [this], fun j hj => ?_⟩
      have := fun z => hk j hj ((at1 j).mpr z)
      rw [List.getElem?_eq_getElem (Nat.lt_trans hj hlt)] at this
      simpa using this
    rw [this]
theorem sjoin_empty : ∀ l : List Str, ls (Str.join "" l) = (l.map ls).flatten
  | [] => rfl
  | [x] => by show ls x = ls x ++ []; rw [List.append_nil]
  | x :: y :: r => by
    show ls (x ++ "" ++ Str.join "" (y :: r)) = ls x ++ _
    rw [ls_append, ls_append, sjoin_empty (y :: r)]
    have : ls ("" : Str) = [] := by decide +kernel
    rw [this, List.append_nil]
theorem join_one (l : List Nat) : Txt.join "" (l.map fun ch => (⟨#[ch]⟩ : Str)) = mkS l := by
  apply str_ext
  show ls (Builtin.Str.glued _ _) = l
  rw [StrLaws.glued_eq_join, sjoin_empty, List.map_map]
  induction l with
  | nil => rfl
  | cons a l ih => rw [List.map_cons, List.flatten_cons, ih]; rfl
theorem joinOk_one (l : List Nat) (h : l.length ≤ 1000) : JoinOk "" (l.map fun ch => (⟨#[ch]⟩ : Str)) = true := by
  have : ∀ (l : List Nat) (a : Nat), (l.map fun ch => (⟨#[ch]⟩ : Str)).foldl (fun x y => x + y.length + ("" : Str).length) a = a + l.length := by
    intro l
    induction l with
    | nil => intro a; rfl
    | cons x r ih =>
      intro a
      rw [List.map_cons, List.foldl_cons, ih]
      have e0 : ("" : Str).length = 0 := by decide +kernel
      rw [e0]
      show a + 1 + 0 + r.length = a + (r.length + 1)
      omega
  unfold JoinOk
  rw [List.foldl_toArray]
  rw [this]
  unfold Builtin.Str.tooLong
  rw [sizeLine_eq]
  simp only [Bool.not_eq_true', decide_eq_false_iff_not]
  omega
end Mine
namespace Mine
variable {w : World} {B : Heap} {c : Ctx w B} {σ : St} {Q : QA} {E : QE}
theorem EW_M {o : Expr} {name : Str} {apos pos : Pos} {args : List Expr} {pl : Sem Bool} (h : EW c σ (eval o c.env) (fun a σ₁ => MethW c σ₁ pos args a name Q E) E)
    (he : eval (.Call (.Attribute o name apos) args [] pos) c.env = (do
          let ov ← eval o c.env
          standAt (Pos.atName apos)
          let x ← holding [ov] (getMethod ov name pl)
          match x with
            | (f, first) => callWith pos f first (backTo pos (starEach args c.env)) []))
    (hp : ∀ env, ((backTo pos (starEach args env)).any (·.1) || ([] : List (Option Str × Sem Value)).any (·.1.isNone)) = false)
    (hs : ∀ e r, args = e :: r → starEach args c.env = (false, eval e c.env) :: starEach r c.env) :
    EW c σ (eval (.Call (.Attribute o name apos) args [] pos) c.env) Q E := EW_Meth h he hp hs
section
variable {pos : Pos} {args : List Expr} {x : Str} {ad : Addr} {l : List AV}
theorem meth_find (h : LW c σ pos args (fun l σ₂ => VW c σ₂ (.str x :: l) (fun vs => call (.builtin "str.find") vs []) Q E) E) : MethW c σ pos args (.str x) "find" Q E := ⟨_, _, fun _ => keep_builtin, MB_find, h⟩
theorem meth_lower (h : LW c σ pos args (fun l σ₂ => VW c σ₂ (.str x :: l) (fun vs => call (.builtin "str.lower") vs []) Q E) E) : MethW c σ pos args (.str x) "lower" Q E := ⟨_, _, fun _ => keep_builtin, MB_lower, h⟩
theorem meth_join (h : LW c σ pos args (fun l σ₂ => VW c σ₂ (.str x :: l) (fun vs => call (.builtin "str.join") vs []) Q E) E) : MethW c σ pos args (.str x) "join" Q E := ⟨_, _, fun _ => keep_builtin, MB_join, h⟩
theorem meth_append (m : (ad, .lst l) ∈ σ.H) (h : LW c σ pos args (fun l σ₂ => VW c σ₂ (.val (.ref ad) :: l) (fun vs => call (.builtin "list.append") vs []) Q E) E) : MethW c σ pos args (.val (.ref ad)) "append" Q E := ⟨_, _, fun _ => keep_builtin, MB_list m PySem.F.slot_list_append PySem.F.type_list_append, h⟩
theorem meth_pop (m : (ad, .lst l) ∈ σ.H) (h : LW c σ pos args (fun l σ₂ => VW c σ₂ (.val (.ref ad) :: l) (fun vs => call (.builtin "list.pop") vs []) Q E) E) : MethW c σ pos args (.val (.ref ad)) "pop" Q E := ⟨_, _, fun _ => keep_builtin, MB_list m PySem.F.slot_list_pop PySem.F.type_list_pop, h⟩
theorem meth_reverse (m : (ad, .lst l) ∈ σ.H) (h : LW c σ pos args (fun l σ₂ => VW c σ₂ (.val (.ref ad) :: l) (fun vs => call (.builtin "list.reverse") vs []) Q E) E) : MethW c σ pos args (.val (.ref ad)) "reverse" Q E := ⟨_, _, fun _ => keep_builtin, MB_list m PySem.F.slot_list_reverse PySem.F.type_list_reverse, h⟩
theorem meth_get {K : Type} [DecidableEq K] {knd : PySem.KeyKind PG w K} {mk : List (K × AV) → HObj} {key : K → AV} {es : List (K × AV)} (T : Dct w K knd mk key) (m : (ad, mk es) ∈ σ.H) (h : LW c σ pos args (fun l σ₂ => VW c σ₂ (.val (.ref ad) :: l) (fun vs => call (.builtin "dict.get") vs []) Q E) E) : MethW c σ pos args (.val (.ref ad)) "get" Q E := ⟨_, _, fun _ => keep_builtin, T.meth m, h⟩
end
theorem BW_in2 {x y z : Str} (q : Q (.bool (y == x || z == x)) σ) : BW c σ (.str x) (.tup [.str y, .str z]) (compareOp .In) Q E := fun F s u v R zq5 zq6 => by
  obtain ⟨t, e⟩ := zq5
  obtain ⟨a, vs, n, e', f, v1, _, er, ⟨t1, e1⟩, v2, _, er2, ⟨t2, e2⟩, e3⟩ := zq6
  cases e3; subst er2; subst er; subst e; subst e'; subst e1; subst e2
  let ev : Value → Bool := fun y' => match y' with | .str k _ => k == x | _ => false
  refine SeqAt.in_tupleAt ev ⟨_, R.cr.fz _ _ f, rfl, n, rfl⟩ (fun y' hy => ?_) ?_
  · simp only [List.mem_toArray, List.mem_cons, List.not_mem_nil, or_false] at hy
    rcases hy with rfl | rfl
    · exact SeqAt.EqAt.str_str _ _ _ _
    · exact SeqAt.EqAt.str_str _ _ _ _
  · have : Array.any (⟨[.str y t1, .str z t2]⟩ : Array Value) ev = (y == x || z == x) := by simp [ev]
    rw [this]; exact hand R rBool q
noncomputable def prefB (x : Str) : Int := if x = "0x" then 16 else if x = "0o" then 8 else if x = "0b" then 2 else 10
theorem prefix_at (w : World) : ∃ t1 t2 t3 u1 u2 u3 n, (KF w.params).lookup 123 = some (dictOf [⟨PyData.keyHash w.params "0x", .str "0x" t1, .int 16 u1⟩, ⟨PyData.keyHash w.params "0o", .str "0o" t2, .int 8 u2⟩, ⟨PyData.keyHash w.params "0b", .str "0b" t3, .int 2 u3⟩] n) := ⟨_, _, _, _, _, _, _, rfl⟩
theorem is_refl {x : Str} {t : Tok} : (PySem.strKind PG w).is x (.str x t) = true := isStr_of.trans (by show (x == x) = true; exact beq_self_eq_true _)
theorem prefix_dict {F : Fz} {s : Shared} (R : Rep c F σ s) : ∃ u1 u2 u3, s.heap.DictOf (PySem.strKind PG w) 123 [("0x", .int 16 u1), ("0o", .int 8 u2), ("0b", .int 2 u3)] := by
  obtain ⟨t1, t2, t3, u1, u2, u3, n, e⟩ := prefix_at w
  refine ⟨u1, u2, u3, _, _, n, (K_in R) _ _ e, ⟨rfl, rfl, rfl⟩, rfl, fun x hx => ?_, .cons is_refl rfl (.cons is_refl rfl (.cons is_refl rfl .nil)), by show [("0x" : Str), "0o", "0b"].Nodup; decide +kernel⟩
  simp only [List.mem_toArray, List.mem_cons, List.not_mem_nil, or_false] at hx
  rcases hx with rfl | rfl | rfl
  · exact ⟨"0x", is_refl, rfl⟩
  · exact ⟨"0o", is_refl, rfl⟩
  · exact ⟨"0b", is_refl, rfl⟩
theorem meth_pref {pos : Pos} {args : List Expr} (h : LW c σ pos args (fun l σ₂ => VW c σ₂ (.val (.ref 123) :: l) (fun vs => call (.builtin "dict.get") vs []) Q E) E) : MethW c σ pos args (.val (.ref 123)) "get" Q E := ⟨_, [.val (.ref 123)], fun _ => keep_builtin, fun F s v pl Q E R e h => by
  cases e
  obtain ⟨u1, u2, u3, D⟩ := prefix_dict R
  exact getMethod_builtin D.typeIs PySem.F.plainAttrs_dict PySem.F.slot_dict_get PySem.F.type_dict_get D.mapOf.noDict (h _ ⟨_, _, rfl, rfl, rfl⟩), h⟩
theorem VW_pref {x : Str} (q : Q (.int (prefB x)) σ) : VW c σ [.val (.ref 123), .str x, .int 10] (fun vs => call (.builtin "dict.get") vs []) Q E := fun F s _ R zq4 => by
  obtain ⟨v, _, e, ev, v', _, e', ev', v2, _, e2, ⟨t2, ev2⟩, e3⟩ := zq4
  cases e3; subst e2; subst e'; subst e; cases ev; subst ev2
  obtain ⟨u1, u2, u3, D⟩ := prefix_dict R
  refine dget2 ((dctS w).is F x v' ev') (by decide) D.mapOf ?_
  have hv : Rel F (.int (prefB x)) ((valueAt [(("0x" : Str), Value.int 16 u1), ("0o", .int 8 u2), ("0b", .int 2 u3)] x).getD (.int 10 t2)) := by
    unfold prefB valueAt
    simp only [List.find?_cons, List.find?_nil]
    by_cases h1 : x = "0x"
    · subst h1; simp; exact rInt
    · rw [if_neg h1, decide_eq_false (Ne.symm h1)]
      by_cases h2 : x = "0o"
      · subst h2; simp; exact rInt
      · rw [if_neg h2, decide_eq_false (Ne.symm h2)]
        by_cases h3 : x = "0b"
        · subst h3; simp; exact rInt
        · rw [if_neg h3, decide_eq_false (Ne.symm h3)]; simp; exact rInt
  exact handT R hv q _ _
end Mine
namespace Mine
variable {w : World} {B : Heap} {c : Ctx w B} {σ : St} {Q : QA} {E : QE}
noncomputable def attrTab : List (Addr × Str) := [(796, ("heap" : Str)), (796, ("protos" : Str)), (796, ("told" : Str)), (796, ("out" : Str)), (182, ("things" : Str)), (182, ("natives" : Str)), (140, ("number" : Str)), (140, ("sort" : Str)), (140, ("names" : Str)), (140, ("slots" : Str)), (140, ("getters" : Str)), (140, ("setters" : Str)), (140, ("items" : Str)), (140, ("native" : Str))]
theorem attrAll (P : Params) : attrTab.map (fun p => attrOk (KF P) p) = attrTab.map (fun _ => true) := by kernel_rfl
noncomputable def storeTab : List (Addr × Str) := [(796, ("heap" : Str)), (796, ("exprs" : Str)), (796, ("stmts" : Str)), (796, ("steps" : Str)), (796, ("most" : Str)), (796, ("deep" : Str)), (796, ("most_deep" : Str)), (796, ("out" : Str)), (796, ("env" : Str)), (796, ("globals" : Str)), (796, ("this" : Str)), (796, ("home" : Str)), (796, ("told" : Str)), (796, ("watch" : Str)), (796, ("protos" : Str)), (796, ("class_protos" : Str)), (796, ("binder" : Str)), (796, ("maker" : Str)), (796, ("hoister" : Str)), (796, ("raised" : Str)),
  (182, ("things" : Str)), (182, ("natives" : Str)), (140, ("number" : Str)), (140, ("sort" : Str)), (140, ("names" : Str)), (140, ("slots" : Str)), (140, ("getters" : Str)), (140, ("setters" : Str)), (140, ("proto" : Str)), (140, ("items" : Str)), (140, ("code" : Str)), (140, ("native" : Str)), (140, ("home" : Str))]
theorem storeAll (P : Params) : storeTab.map (fun p => storeOk (KF P) p) = storeTab.map (fun _ => true) := by kernel_rfl
noncomputable def methOk (K : Frag) (p : Addr × Str × Addr) : Bool := plainGet K p.1 p.2.1 && findIn K (.ref p.1) p.2.1 == some (some (.ref p.2.2)) && isFn K (.ref p.2.2) && keepIn K (.ref p.2.2)
noncomputable abbrev methTab : List (Addr × Str × Addr) := [(528, ("call" : Str), 525), (561, ("call" : Str), 558), (796, ("throw" : Str), 779)]
theorem methAll (P : Params) : methTab.map (fun p => methOk (KF P) p) = methTab.map (fun _ => true) := by kernel_rfl
noncomputable def makeTab : List (Addr × Addr) := [(796, 751), (182, 179), (140, 137)]
noncomputable def initOk (K : Frag) (p : Addr × Addr) : Bool := makesIn K p.1 && findIn K (.ref p.1) "__init__" == some (some (.ref p.2)) && typeIn K (.ref p.2) == some (.type "function")
theorem makeAll (P : Params) : makeTab.map (fun p => initOk (KF P) p) = makeTab.map (fun _ => true) := by kernel_rfl
noncomputable def bareTab : List Addr := [656, 684, 712, 733, 528, 561]
noncomputable def bareOk (K : Frag) (a : Addr) : Bool := makesIn K a && findIn K (.ref a) "__init__" == some (some (.builtin "object.__init__"))
theorem bareAll (P : Params) : bareTab.map (fun p => bareOk (KF P) p) = bareTab.map (fun _ => true) := by kernel_rfl
theorem tab_get {α : Type} {l : List α} {f : α → Bool} (h : l.map f = l.map (fun _ => true)) {x : α} (m : x ∈ l) : f x = true := List.map_inj_left.mp h x m
theorem UW_at {x C dx : Addr} {es : List (Str × AV)} {name : Str} {a : AV} {b : Bool} (mx : (x, .ins C dx) ∈ σ.H) (md : (dx, .dctS es) ∈ σ.H) (mk : (name, a) ∈ es) (ok : (C, name) ∈ attrTab) (hb : noBuiltin a = true) (q : Q a σ) : UW c σ (.val (.ref x)) (fun v => getAttr v name b) Q E :=
  UW_attr (tab_get (attrAll w.params) ok) mx md mk hb q
theorem SA_at {loc : Loc} {H : HS} {x C dx : Addr} {es es' : List (Str × AV)} {H' : HS} {name : Str} {b : AV} {Q : St → Prop} (mx : (x, .ins C dx) ∈ H) (u : HUpd dx (.dctS es) (.dctS es') H H')
    (ok : (C, name) ∈ storeTab) (hl : es.length ≤ 900) (st : KUpd name b es es' ∨ (name ∉ es.map (·.1) ∧ es' = es ++ [(name, b)])) (q : Q ⟨loc, H'⟩) : SA c ⟨loc, H⟩ (.val (.ref x)) b name Q E := SA_ins (tab_get (storeAll w.params) ok) mx u hl st q
theorem meth_at {pos : Pos} {args : List Expr} {x C dx f : Addr} {es : List (Str × AV)} {name : Str} (mx : (x, .ins C dx) ∈ σ.H) (md : (dx, .dctS es) ∈ σ.H) (ok : (C, name, f) ∈ methTab) (n : name ∉ es.map (·.1))
    (h : LW c σ pos args (fun l σ₂ => VW c σ₂ (.val (.ref x) :: l) (fun vs => call (.ref f) vs []) Q E) E) : MethW c σ pos args (.val (.ref x)) name Q E := by
  have ok := fun P : Params => tab_get (methAll P) ok
  have keep : keepIn (KF w.params) (.ref f) = true := by have := ok w.params; simp only [methOk, Bool.and_eq_true] at this; exact this.2
  refine ⟨.ref f, [.val (.ref x)], fun W => keep_K W keep, fun F s v pl Q E R e hq => ?_, h⟩
  cases e
  have ok := ok w.params
  simp only [methOk, Bool.and_eq_true, beq_iff_eq] at ok
  obtain ⟨⟨⟨o1, o2⟩, o3⟩, o4⟩ := ok
  obtain ⟨ds, k, kvs, I, ed, ko, P, r, nd⟩ := inst_at R mx md
  exact method_fn (K_in R) I (plainGet_of o1).1 (plainGet_of o1).2 o2 (beq_iff_eq.mp o3) (by show (lookIn name (dictOf ds k)).map _ = _; rw [lookIn_dict, getL_none P (r.keys ▸ n)]; rfl) (hq _ ⟨_, _, rfl, rfl, rfl⟩)
theorem CW_cls {k : Nat} {H : HS} {C fI : Addr} {l : List AV} {Q : AV → HS → Prop} {E : AE → HS → Prop} (ok : (C, fI) ∈ makeTab)
    (h : ∀ x dx, CW w B k ((x, .ins C dx) :: (dx, .dctS []) :: H) (.ref fI) (.val (.ref x) :: l) (fun a H' => a = .none ∧ Q (.val (.ref x)) H') E) : CW w B (k + 1) H (.ref C) l Q E := by
  have ok := fun P : Params => tab_get (makeAll P) ok
  simp only [initOk, Bool.and_eq_true, beq_iff_eq] at ok
  exact CW_new (fun w => (ok w.params).1.1) (fun w => ⟨(ok w.params).1.2, (ok w.params).2⟩) h
theorem VW_bare {C : Addr} (ok : C ∈ bareTab) (q : ∀ x dx, Q (.val (.ref x)) ⟨σ.loc, (x, .ins C dx) :: (dx, .dctS []) :: σ.H⟩) : VW c σ [] (fun vs => call (.ref C) vs []) Q E := by
  have ok := fun P : Params => tab_get (bareAll P) ok
  simp only [bareOk, Bool.and_eq_true, beq_iff_eq] at ok
  exact VW_new0 (fun w => (ok w.params).1) (fun w => (ok w.params).2) q
end Mine
namespace Mine
variable {w : World} {B : Heap} {c : Ctx w B} {σ : St} {Q : QA} {E : QE}
section
variable {K : Type} [DecidableEq K] {k : K} {a : AV}
inductive KAbs (k : K) : List (K × AV) → Prop
  | nil : KAbs k []
  | cons {x a r} (h : decide (x = k) = false) : KAbs k r → KAbs k ((x, a) :: r)
theorem KAbs.ok {es : List (K × AV)} (h : KAbs k es) : k ∉ es.map (·.1) := by
  induction h with
  | nil => simp
  | cons h _ ih => exact fun m => (List.mem_cons.mp m).elim (fun e => of_decide_eq_false h e.symm) ih
inductive KNew (k : K) (a : AV) : List (K × AV) → List (K × AV) → Prop
  | nil : KNew k a [] [(k, a)]
  | cons {x b r r'} (h : decide (x = k) = false) : KNew k a r r' → KNew k a ((x, b) :: r) ((x, b) :: r')
theorem KNew.eq {es es' : List (K × AV)} (h : KNew k a es es') : es' = es ++ [(k, a)] := by
  induction h with
  | nil => rfl
  | cons _ _ ih => rw [ih]; rfl
theorem KNew.ok {es es' : List (K × AV)} (h : KNew k a es es') : k ∉ es.map (·.1) := by
  induction h with
  | nil => simp
  | cons h _ ih => exact fun m => (List.mem_cons.mp m).elim (fun e => of_decide_eq_false h e.symm) ih
theorem KNew.st {es es' : List (K × AV)} (h : KNew k a es es') : KUpd k a es es' ∨ (k ∉ es.map (·.1) ∧ es' = es ++ [(k, a)]) := .inr ⟨h.ok, h.eq⟩
theorem KUpd.st {es es' : List (K × AV)} (h : KUpd k a es es') : KUpd k a es es' ∨ (k ∉ es.map (·.1) ∧ es' = es ++ [(k, a)]) := .inl h
end
theorem len_le {α : Type} {l : List α} {n : Nat} (h : Nat.ble l.length n = true) : l.length ≤ n := Nat.le_of_ble_eq_true h
section
variable {loc : Loc} {H H' : HS} {x C dx f : Addr} {es es' : List (Str × AV)} {name : Str} {b : AV} {Qs : St → Prop}
theorem SA_upd (mx : (x, .ins C dx) ∈ H) (u : HUpd dx (.dctS es) (.dctS es') H H') (ok : (C, name) ∈ storeTab) (st : KUpd name b es es') (hl : es.length ≤ 900) (q : Qs ⟨loc, H'⟩) : SA c ⟨loc, H⟩ (.val (.ref x)) b name Qs E := SA_at mx u ok hl st.st q
theorem SA_new (mx : (x, .ins C dx) ∈ H) (u : HUpd dx (.dctS es) (.dctS es') H H') (ok : (C, name) ∈ storeTab) (st : KNew name b es es') (hl : es.length ≤ 900) (q : Qs ⟨loc, H'⟩) : SA c ⟨loc, H⟩ (.val (.ref x)) b name Qs E := SA_at mx u ok hl st.st q
theorem SIS_upd {k : Str} (u : HUpd dx (.dctS es) (.dctS es') H H') (st : KUpd k b es es') (hl : es.length ≤ 900) (q : Qs ⟨loc, H'⟩) : SI c ⟨loc, H⟩ (.val (.ref dx)) (.str k) b Qs E := SI_dct (dctS w) u (by omega) st.st q
theorem SIS_new {k : Str} (u : HUpd dx (.dctS es) (.dctS es') H H') (st : KNew k b es es') (hl : es.length ≤ 900) (q : Qs ⟨loc, H'⟩) : SI c ⟨loc, H⟩ (.val (.ref dx)) (.str k) b Qs E := SI_dct (dctS w) u (by omega) st.st q
theorem SII_new {k : Int} {es es' : List (Int × AV)} (u : HUpd dx (.dctI es) (.dctI es') H H') (st : KNew k b es es') (hl : es.length ≤ 900) (q : Qs ⟨loc, H'⟩) : SI c ⟨loc, H⟩ (.val (.ref dx)) (.int k) b Qs E := SI_dct (dctI w) u (by omega) st.st q
theorem meth_own {pos : Pos} {args : List Expr} (mx : (x, .ins C dx) ∈ σ.H) (md : (dx, .dctS es) ∈ σ.H) (ok : (C, name, f) ∈ methTab) (n : KAbs name es)
    (h : LW c σ pos args (fun l σ₂ => VW c σ₂ (.val (.ref x) :: l) (fun vs => call (.ref f) vs []) Q E) E) : MethW c σ pos args (.val (.ref x)) name Q E := meth_at mx md ok n.ok h
theorem BW_getS {value slice : Expr} {k : Str} {a : AV} (m : (dx, .dctS es) ∈ σ.H) (mk' : (k, a) ∈ es) (q : Q a σ) (hs : ∀ o i, subscripted slice false o i = operate [o, i] (getItem o i)) : BW c σ (.val (.ref dx)) (.str k) (subscriptTail value slice) Q E := (dctS w).get m mk' q hs
theorem BW_getI {value slice : Expr} {k : Int} {a : AV} {es : List (Int × AV)} (m : (dx, .dctI es) ∈ σ.H) (mk' : (k, a) ∈ es) (q : Q a σ) (hs : ∀ o i, subscripted slice false o i = operate [o, i] (getItem o i)) : BW c σ (.val (.ref dx)) (.int k) (subscriptTail value slice) Q E := (dctI w).get m mk' q hs
theorem BW_inS_f {k : Str} (m : (dx, .dctS es) ∈ σ.H) (n : KAbs k es) (q : Q (.bool false) σ) : BW c σ (.str k) (.val (.ref dx)) (compareOp .In) Q E := (dctS w).in_f m n.ok q
theorem GItS {k : Str} {a : AV} (m : (dx, .dctS es) ∈ σ.H) (mk' : (k, a) ∈ es) (q : Q a σ) : GIt c σ (.val (.ref dx)) (.str k) Q E := GIt_dct (dctS w) m mk' q
end
end Mine
namespace Mine
variable {w : World} {B : Heap} {c : Ctx w B} {σ : St} {Q : QA} {E : QE}
theorem EW_DictS {pos : Pos} (q : ∀ a, Q (.val (.ref a)) ⟨σ.loc, (a, .dctS []) :: σ.H⟩) : EW c σ (eval (.Dict [] [] pos) c.env) Q E := fun F s R =>
  wpAny_Dict_empty ⟨F, _, _, Fz.le.refl F, R.alloc (.dctS []) emptyDict ⟨[], 0, rfl, [], (fun e he => by simp at he), .nil, rfl, List.nodup_nil⟩ rfl s.drawn s.toks, rVal, q _⟩
theorem EW_DictI {pos : Pos} (q : ∀ a, Q (.val (.ref a)) ⟨σ.loc, (a, .dctI []) :: σ.H⟩) : EW c σ (eval (.Dict [] [] pos) c.env) Q E := fun F s R =>
  wpAny_Dict_empty ⟨F, _, _, Fz.le.refl F, R.alloc (.dctI []) emptyDict ⟨[], 0, rfl, [], (fun e he => by simp at he), .nil, rfl, List.nodup_nil⟩ rfl s.drawn s.toks, rVal, q _⟩
theorem VW_strI {n : Int} (h : n.natAbs < 2 ^ 64) (q : Q (.str (toString n)) σ) : VW c σ [.int n] (fun vs => call (.type "str") vs []) Q E := fun F s _ R zq4 => by
  obtain ⟨v, _, e, ⟨t, ev⟩, e'⟩ := zq4
  cases e'; subst e; subst ev
  refine P.str_of_int ?_ (handT R rStr q _ _)
  rcases Nat.eq_zero_or_pos n.natAbs with h0 | hp
  · rw [h0]; decide
  · have := (Nat.log2_lt (n := n.natAbs) (k := 64) (by omega)).mpr h
    omega
theorem TW_Compare2 {l r1 r2 : Expr} {op1 op2 : CmpOp} {pos : Pos} {whole : Sem Value} {Q : Bool → St → Prop} (h : EW c σ (eval l c.env) (fun a σ₁ => EW c σ₁ (eval r1 c.env) (fun b σ₂ => BW c σ₂ a b (compareOp op1) (fun x σ₃ => TU c σ₃ x (fun t σ₄ =>
      (t = true → EW c σ₄ (eval r2 c.env) (fun d σ₅ => BW c σ₅ b d (compareOp op2) (fun y σ₆ => TU c σ₆ y Q E) E) E) ∧ (t = false → Q false σ₄)) E) E) E) E)
    (hm : lastMarks [op1, op2] [r1, r2] = false) : TW c σ (isTrue (.Compare l [op1, op2] [r1, r2] pos) c.env whole) Q E := fun F s R => by
  refine isTrue_chain (rs := []) ?_ hm
  refine wpAny_mono (h F s R) (fun u s₁ zz => zz.elim fun F₁ σ₁ a l₁ R₁ r₁ h₁ => test_link ?_) fun _ _ e => e
  refine wpAny_mono (h₁ F₁ s₁ R₁) (fun v s₂ zz => zz.elim fun F₂ σ₂ b l₂ R₂ r₂ h₂ => ?_) fun _ _ e => e.mono l₁
  have l12 := l₁.trans l₂
  refine wpAny_mono (h₂ F₂ s₂ u v R₂ (Rel.mono l₂ _ _ r₁) r₂) (fun z s₃ zz => zz.elim fun F₃ σ₃ x l₃ R₃ r₃ h₃ => ?_) fun _ _ e => e.mono l12
  have l13 := l12.trans l₃
  refine wpAny_mono (h₃ F₃ s₃ z R₃ r₃) (fun t s₄ zz => zz.elim fun F₄ σ₄ l₄ R₄ h₄ => ?_) fun _ _ e => e.mono l13
  have l14 := l13.trans l₄
  cases t with
  | false => exact ⟨F₄, σ₄, l14, R₄, h₄.2 rfl⟩
  | true =>
    refine test_last (wpAny_mono (h₄.1 rfl F₄ s₄ R₄) (fun y s₅ zz => zz.elim fun F₅ σ₅ d l₅ R₅ r₅ h₅ => ?_) fun _ _ e => e.mono l14)
    refine wpAny_mono (h₅ F₅ s₅ v y R₅ (Rel.mono ((l₃.trans l₄).trans l₅) _ _ r₂) r₅) (fun q s₆ zz => zz.elim fun F₆ σ₆ g l₆ R₆ r₆ h₆ => ?_) fun _ _ e => e.mono (l14.trans l₅)
    exact wkB ((l14.trans l₅).trans l₆) (h₆ F₆ s₆ q R₆ r₆)
theorem BW_isNoneR {a : Addr} (q : Q (.bool false) σ) : BW c σ (.val (.ref a)) .none (compareOp .Is) Q E := BW_isNone (v := .ref a) (fun F u e => by cases e; rfl) (by exact q)
theorem BW_isNoneI {i : Int} (q : Q (.bool false) σ) : BW c σ (.int i) .none (compareOp .Is) Q E := BW_isNone (v := .int i 0) (fun F u e => by obtain ⟨t, rfl⟩ := e; rfl) (by exact q)
theorem VW_getI {ad : Addr} {es : List (Int × AV)} {k : Int} {a : AV} (m : (ad, .dctI es) ∈ σ.H) (mk' : (k, a) ∈ es) (q : Q a σ) : VW c σ [.val (.ref ad), .int k] (fun vs => call (.builtin "dict.get") vs []) Q E := (dctI w).get1 m mk' q
theorem VW_getI2 {ad : Addr} {es : List (Int × AV)} {k : Int} {a b : AV} (m : (ad, .dctI es) ∈ σ.H) (mk' : (k, a) ∈ es) (q : Q a σ) : VW c σ [.val (.ref ad), .int k, b] (fun vs => call (.builtin "dict.get") vs []) Q E := (dctI w).get2 m mk' q
theorem BW_divR {i j r : Int} (e : Int.fdiv i j = r) (h : -(2 ^ 64) < j ∧ j < 2 ^ 64 ∧ j ≠ 0) (q : Q (.int r) σ) : BW c σ (.int i) (.int j) (binaryOp .FloorDiv) Q E := BW_div h (e ▸ q)
theorem EW_Or3 {x y z : Expr} {pos : Pos} (h : EW c σ (eval x c.env) (fun a σ₁ => TU c σ₁ a (fun b σ₂ => (b = true → Q a σ₂) ∧ (b = false → EW c σ₂ (eval (.BoolOp .Or [y, z] pos) c.env) Q E)) E) E) : EW c σ (eval (.BoolOp .Or [x, y, z] pos) c.env) Q E := fun F s R => by
  refine BoolOp_or (wpAny_mono (h F s R) (fun v s₁ zz => zz.elim fun F₁ σ₁ a l₁ R₁ r₁ h₁ => ?_) fun _ _ e => e)
  refine wpAny_mono (h₁ F₁ s₁ v R₁ r₁) (fun b s₂ zz => zz.elim fun F₂ σ₂ l₂ R₂ h₂ => ?_) fun _ _ e => e.mono l₁
  cases b with
  | true => exact ⟨F₂, σ₂, a, l₁.trans l₂, R₂, Rel.mono l₂ _ _ r₁, h₂.1 rfl⟩
  | false => exact wkV (l₁.trans l₂) (h₂.2 rfl F₂ s₂ R₂)
end Mine
namespace Mine
section
variable {w : World} {A : Around} {E : Value → Shared → Prop} {s : Shared}
theorem exc_get {K : Frag} {x C : Addr} {ox : Obj} {od : Option Obj} {name : Str} {v : Value} {expr : Bool} {Q : Value → Shared → Prop} (X : K.In s.heap) (I : InstAt s.heap x ox C od)
    (hga : findIn K (.ref C) "__getattribute__" = some (some (.builtin "BaseException.__getattribute__"))) (hgt : findIn K (.ref C) "__getattr__" = some none) (hsub : subIn K (.ref C) (.type "BaseException") = some true)
    (hf : findObj K C od name = some (.value v)) (hh : handedIn v = true) (h : Q v { s with toks := s.toks + 1 }) : wpAny (MW w) A (getAttr (.ref x) name expr) Q E s := by
  obtain ⟨hh', g, d, t, os⟩ := s
  have L0 := I.type (M := MW w)
  have L1 := looks_findIn (M := MW w) X hga
  have L2 := looks_findIn (M := MW w) X hgt
  have L3 := looks_subIn (M := MW w) X hsub
  have L4 := looks_find (M := MW w) X I hf
  have f3 := PySem.F.attr_ValueError.ga.bind (.ref x)
  have hk : builtinKind "BaseException.__getattribute__" = some .slot := by decide +kernel
  have hsplit : splitId "BaseException.__getattribute__" = some ("BaseException", "__getattribute__") := by decide +kernel
  unfold getAttr getAttrBy
  refine wpAny_bind (wpAny_mkText (wpAny_holding (wpAny_bind (L0.at (wpAny_bind (L1.at ?_))))))
  show wpAny _ _ (getAttrByItsOwn (.ref x) (.str name t) (.ref C) (.builtin "BaseException.__getattribute__") true expr) _ _ _
  unfold getAttrByItsOwn
  refine wpAny_bind (show wpAny _ _ (typeLookup (.ref C) "__getattr__") _ _ _ from L2.at ?_)
  have e1 : callGetattribute (.ref x) (.str name t) (.builtin "BaseException.__getattribute__") expr = boundAndCalled (.builtin "BaseException.__getattribute__") (.ref x) (.str name t) := by
    unfold callGetattribute; cases expr <;> rfl
  rw [e1]
  refine wpAny_bind (wpAny_attempt (wpAny_holding ?_))
  unfold boundAndCalled
  refine wpAny_bind (wpAny_of_eq f3 ?_)
  refine wpAny_call (codeAny_call_builtin PySem.F.attr_ValueError.ga.plain PySem.F.entry_bexc_ga ?_)
  simp only [checkBuiltinCall, hk, hsplit]
  refine wpAny_bind ?_
  refine wpAny_bind (L0.at (L3.at ?_))
  rw [if_neg (by decide)]
  refine wpAny_of_eq (PySem.F.args_bexc_ga (.ref x) (.str name t)) ?_
  show wpAny _ _ (Builtin.«object.__getattribute__» ⟨[.ref x, .str name t], []⟩) _ _ _
  unfold Builtin.«object.__getattribute__»
  show wpAny _ _ (typeOf (.ref x) >>= _) _ _ _
  refine wpAny_bind (L0.at (wpAny_bind (L4.at ?_)))
  refine wpAny_pure ?_
  show wpAny _ _ (handedOut v) _ _ _
  rw [handedOut_of hh]; exact wpAny_pure h
end
end Mine
namespace Mine
variable {w : World} {B : Heap} {c : Ctx w B} {σ : St} {E : QE}
structure Caught (F : Fz) (H : HS) (ae : AE) (bad : Addr → Prop) (h : Heap) (oe : Obj) (T : Addr) (oT : Obj) : Prop where
  at_ : ∃ vs sl, oe = ⟨.ref ae.C, some ae.dx, .fields vs, sl⟩ ∧ vs[1]? = some (.ref T)
  e : h.get? ae.e = some oe
  ne : T ≠ ae.e
  t : h.get? T = some oT
  ts : ∃ ts, oT.data = .fields ts ∧ 3 < ts.size
  fT : F T = none
  kT : T ∉ keys H
  bT : ¬ bad T
  fe : F ae.e = none
  ke : ae.e ∉ keys H
  be : ¬ bad ae.e
noncomputable abbrev badC (c : Ctx w B) : Addr → Prop := badOf c.own c.gd c.h0
noncomputable def HB (c : Ctx w B) (σ : St) (ae : AE) (hs : List ExceptHandler) (Q : QF) (E : QE) : Prop :=
  ∀ F s oe T oT, Rep c F σ s → Caught F σ.H ae (badC c) s.heap oe T oT → wpAny (MW w) c.A (handleBy (.ref ae.e) c.env hs) (PostF c F Q) (PostE c F E) s
noncomputable def Ctx.marked (c : Ctx w B) (e : Addr) : Ctx w B := { c with A := c.A.mark (some (.ref e)) }
theorem Rep.marked {F : Fz} {s : Shared} (R : Rep c F σ s) (e : Addr) : Rep (c.marked e) F σ s :=
  ⟨⟨R.ok.wd, R.ok.kind, R.ok.locals, R.ok.globals, R.ok.builtins, R.ok.frames, R.ok.depth, R.ok.units, R.ok.ownL, R.ok.cells, R.ok.inj⟩, R.cr, R.pres, R.own, R.gd, R.nd, R.dbg, let ⟨m, n, l⟩ := R.loc; ⟨m, n, fun p hp => SlotOk.map (c := c.marked e) (Fz.le.refl F) (fun _ _ _ e => .inl e) R.ok.cells (l p hp)⟩⟩
theorem Rep.unmarked {F : Fz} {s : Shared} {e : Addr} (R : Rep (c.marked e) F σ s) : Rep c F σ s :=
  ⟨⟨R.ok.wd, R.ok.kind, R.ok.locals, R.ok.globals, R.ok.builtins, R.ok.frames, R.ok.depth, R.ok.units, R.ok.ownL, R.ok.cells, R.ok.inj⟩, R.cr, R.pres, R.own, R.gd, R.nd, R.dbg, let ⟨m, n, l⟩ := R.loc; ⟨m, n, fun p hp => SlotOk.map (c := c) (Fz.le.refl F) (fun _ _ _ e => .inl e) R.ok.cells (l p hp)⟩⟩
theorem Rep.guard1 {F : Fz} {s : Shared} (R : Rep c F σ s) {a : Addr} {o : Obj} (e : s.heap.get? a = some o) (f : F a = none) (k : a ∉ keys σ.H) (n : a ∉ c.own) (d : ∀ es n, o.data ≠ .dict es n) : Rep (c.guard (a, o)) F σ s :=
  ⟨R.ok.guard _, R.cr, R.pres, R.own, fun q hq => by
    rcases List.mem_cons.mp hq with rfl | hq
    · exact ⟨e, f, k, n, d⟩
    · exact R.gd q hq, R.nd, R.dbg, let ⟨m, n, l⟩ := R.loc; ⟨m, n, fun p hp => SlotOk.map (c := c.guard _) (Fz.le.refl F) (fun _ _ _ e => .inl e) R.ok.cells (l p hp)⟩⟩
theorem Rep.noted {F : Fz} {s : Shared} {ae : AE} {fs : List Env} {h' : Heap} (R : Rep c F σ s) (hfs : c.fs = c.env :: fs) (X : ExcAt F σ.H ae (badC c) s.heap) (N : Noted F σ.H ae (badC c) (c.env :: fs) s.heap h') : Rep c F σ { s with heap := h' } := by
  have fo : FrOk B F σ.H s.heap (c.env :: fs) := hfs ▸ R.cr.fr
  have hmem := fo.mem
  have keepF : ∀ a o, F a = some o → h'.get? a = some o := fun a o e => by
    have e1 := R.cr.fz a o e
    have ne : a ≠ ae.e := fun z => by rw [z, X.fz] at e; cases e
    rcases N.same a o e1 ne (.inl (by rw [e]; simp)) with z | ⟨m, _⟩
    · exact z
    · obtain ⟨_, _, _, _, _, f, _⟩ := hmem a m
      rw [e] at f; cases f
  have badSame : ∀ a, badC c a → ∀ o, s.heap.get? a = some o → Same h' a o := fun a hb o e => by
    have ne : a ≠ ae.e := fun z => X.nb (z ▸ hb)
    rcases N.same a o e ne (.inr (.inr hb)) with z | ⟨m, sl, z⟩
    · exact .inl z
    · obtain ⟨o2, es, n, g, d, _⟩ := hmem a m
      rw [e] at g; cases g
      exact .inr ⟨⟨es, n, d⟩, sl, z⟩
  have heldBad : ∀ a, Held c a → badC c a := fun a h => h.elim (fun z => .inl z) fun z => .inr (.inl z.1)
  refine ⟨R.ok, ⟨R.cr.base, keepF, R.cr.nd, fun p hp => ?_, ?_, R.cr.gens, R.cr.os, R.cr.big⟩, ⟨R.pres.le, fun a o e m => ?_, R.pres.ks, R.pres.fr, fun a o e => ?_⟩, fun a ha => ?_, fun p hp => ?_, R.nd, R.dbg, ?_⟩
  · obtain ⟨f, o, e, r⟩ := R.cr.hot p hp
    have mk : p.1 ∈ keys σ.H := List.mem_map_of_mem (f := (·.1)) hp
    have ne : p.1 ≠ ae.e := fun z => X.nk (z ▸ mk)
    refine ⟨f, o, ?_, r⟩
    rcases N.same p.1 o e ne (.inr (.inl mk)) with z | ⟨m, _⟩
    · exact z
    · obtain ⟨_, _, _, _, _, _, f⟩ := hmem _ m
      exact absurd mk f
  · have : ∀ l : List Env, (∀ x ∈ l, x ∈ c.env :: fs) → FrOk B F σ.H s.heap l → FrOk B F σ.H h' l := by
      intro l
      induction l with
      | nil => intro _ _; trivial
      | cons x r ih =>
        rintro hx ⟨y1, ⟨L', o, es, n, e, g, d, f, k⟩, t⟩
        obtain ⟨sl, e'⟩ := N.fr L' o (List.mem_filterMap.mpr ⟨x, hx x (.head _), e⟩) g
        exact ⟨y1, ⟨L', _, es, n, e, e', d, f, k⟩, ih (fun z hz => hx z (.tail _ hz)) t⟩
    show FrOk B F σ.H h' c.fs
    rw [hfs]
    exact this _ (fun _ hx => hx) fo
  · exact (R.pres.same a o e m).trans fun o' e' => badSame a (.inr (.inl (isSome_of e))) o' e'
  · obtain ⟨o', e'⟩ := R.pres.ever a o e
    exact N.ever a o' e'
  · obtain ⟨x1, x2, x3, x4⟩ := R.own a ha
    obtain ⟨o, e⟩ := Option.isSome_iff_exists.mp x4
    obtain ⟨o', e'⟩ := N.ever a o e
    exact ⟨x1, x2, x3, isSome_of e'⟩
  · obtain ⟨g1, g2, g3, g4, g5⟩ := R.gd p hp
    exact ⟨(badSame p.1 (.inr (.inr (List.mem_map_of_mem (f := (·.1)) hp))) _ g1).notFrame g5, g2, g3, g4, g5⟩
  · obtain ⟨m, n, l⟩ := R.loc
    have ow : ∀ a, Held c a → ∀ o, s.heap.get? a = some o → Same h' a o := fun a ha o e => badSame a (heldBad a ha) o e
    exact ⟨m, Ns_same n (ow _ (.inl R.ok.ownL)), fun p hp => SlotOk.map (Fz.le.refl F) ow R.ok.cells (l p hp)⟩
theorem XW_Try {body : List Stmt} {h₀ : ExceptHandler} {hs : List ExceptHandler} {pos : Pos} {Q : QF} (tp : Top c) (h : SW c σ body Q (fun ae σ' => HB c σ' ae (h₀ :: hs) Q E)) : XW c σ (exec (.Try body (h₀ :: hs) [] [] pos) c.env) Q E := fun F s R => by
  obtain ⟨hf, fs, hfs⟩ := tp
  refine wpAny_Try_except (wpAny_mono (h F s R) (fun f s₁ zz => zz.elim fun F' σ' a l R' r q => ?_) (fun e s₁ zz => zz.elim fun F' σ' ae l R' ⟨ev, X⟩ hb => ?_))
  · cases a with
    | next => cases r; exact wpAny_execs_nil ⟨F', σ', .next, l, R', rfl, q⟩
    | brk => cases r; exact ⟨F', σ', .brk, l, R', rfl, q⟩
    | cont => cases r; exact ⟨F', σ', .cont, l, R', rfl, q⟩
    | ret a => obtain ⟨v, rfl, r⟩ := r; exact ⟨F', σ', .ret a, l, R', ⟨v, rfl, r⟩, q⟩
  · subst ev
    have fo : FrOk B F' σ'.H s₁.heap (c.env :: fs) := hfs ▸ R'.cr.fr
    refine note (hfs ▸ R'.ok.frames) hf fo X (fun a ha => ?_) fun h' N => ?_
    · rcases ha with h | h | h
      · exact (R'.own a h).2.2.2
      · obtain ⟨o, e⟩ := Option.isSome_iff_exists.mp h
        obtain ⟨o', e'⟩ := R'.pres.ever a o e
        exact isSome_of e'
      · obtain ⟨p, hp, rfl⟩ := List.mem_map.mp h
        exact isSome_of (R'.gd p hp).1
    · obtain ⟨vs, sl, T, ts, oT, a1, a2, a3, a4, a5, a6, a7⟩ := N.exc
      refine wkF l (hb F' { s₁ with heap := h' } _ T oT (R'.noted hfs X N) ⟨⟨vs, sl, rfl, a2⟩, a1, a3, a5, ⟨ts, a6, (Array.getElem?_eq_some_iff.mp a7).1⟩, R'.cr.fz_none a4, fun z => ?_, fun z => ?_, X.fz, X.nk, X.nb⟩)
      · obtain ⟨p, hp, rfl⟩ := List.mem_map.mp z
        obtain ⟨_, o, e, _⟩ := R'.cr.hot p hp
        rw [a4] at e; cases e
      · rcases z with z | z | z
        · obtain ⟨o, e⟩ := Option.isSome_iff_exists.mp (R'.own T z).2.2.2
          rw [a4] at e; cases e
        · obtain ⟨o, e⟩ := Option.isSome_iff_exists.mp z
          obtain ⟨o', e'⟩ := R'.pres.ever T o e
          rw [a4] at e'; cases e'
        · obtain ⟨p, hp, e⟩ := List.mem_map.mp z
          have := (R'.gd p hp).1
          rw [e, a4] at this; cases this
end Mine
namespace Mine
variable {w : World} {B : Heap} {c : Ctx w B} {σ : St} {E : QE}
theorem not_dict {o : Obj} {fs : Array Value} (h : o.data = .fields fs) : ∀ es n, o.data ≠ .dict es n := fun es n e => by rw [h] at e; cases e
theorem Rep.touch {F : Fz} {s : Shared} {T : Addr} {oT : Obj} {h' : Heap} (R : Rep c F σ s) (e : s.heap.get? T = some oT) (nd : ∀ es n, oT.data ≠ .dict es n) (fT : F T = none) (kT : T ∉ keys σ.H) (bT : ¬ badC c T) (hs : Heap.SameBut T s.heap h') : Rep c F σ { s with heap := h' } :=
  Rep.off (c := c) (I := T) (o := oT) ⟨by
    cases q : c.h0.get? T with
    | none => rfl
    | some o => exact absurd (.inr (.inl (isSome_of q))) bT, fun p hp z => bT (.inr (.inr (z ▸ List.mem_map_of_mem (f := (·.1)) hp)))⟩ (R.guard1 e fT kT (fun z => bT (.inl z)) nd) hs.extBut s.drawn s.toks
noncomputable def Ctx.caught (c : Ctx w B) (e : Addr) (oe : Obj) : Ctx w B := (c.marked e).guard (e, oe)
theorem Caught.dict {F : Fz} {H : HS} {ae : AE} {bad : Addr → Prop} {h : Heap} {oe : Obj} {T : Addr} {oT : Obj} (X : Caught F H ae bad h oe T oT) : (∀ es n, oe.data ≠ .dict es n) ∧ ∀ es n, oT.data ≠ .dict es n := by
  obtain ⟨vs, sl, rfl, _⟩ := X.at_
  obtain ⟨ts, e, _⟩ := X.ts
  exact ⟨not_dict rfl, not_dict e⟩
section
variable {ae : AE} {F : Fz} {s : Shared} {oe oT : Obj} {T : Addr}
theorem HB_test {n : Str} {np : Pos} {K : Addr} {b : Bool} {Q : Bool → Shared → Prop} {E' : Value → Shared → Prop} (m : (n, .gv (.val (.ref K))) ∈ σ.loc) (hx : ∀ w : World, exmOne (KF w.params) (.ref ae.C) (.ref K) = some b) (R : Rep c F σ s) (X : Caught F σ.H ae (badC c) s.heap oe T oT)
    (q : ∀ F' s', F.le F' → Rep c F' σ s' → Caught F' σ.H ae (badC c) s'.heap oe T oT → Q b s') : wpAny (MW w) (c.A.mark (some (.ref ae.e))) (eval (.Name n np) c.env) (fun v s₁ => wpAny (MW w) (c.A.mark (some (.ref ae.e))) (excMatches (.ref ae.e) v) Q E' s₁) E' s := by
  obtain ⟨d1, d2⟩ := X.dict
  have R1 := ((R.marked ae.e).guard1 X.t X.fT X.kT (fun z => X.bT (.inl z)) d2).guard1 X.e X.fe X.ke (fun z => X.be (.inl z)) d1
  refine wpAny_mono (EW_Name (c := ((c.marked ae.e).guard (T, oT)).guard (ae.e, oe)) (Q := fun a σ' => a = .val (.ref K) ∧ σ' = σ) (E := fun _ _ => False) m rfl ⟨rfl, rfl⟩ F s R1) (fun v s₁ zz => zz.elim fun F₁ σ₁ a l₁ R₁ r₁ ⟨ea, eσ⟩ => ?_) fun _ _ ⟨_, _, _, _, _, _, z⟩ => z.elim
  subst ea; subst eσ; cases r₁
  obtain ⟨g1, g2, g3, _⟩ := R₁.gd (ae.e, oe) (.head _)
  obtain ⟨k1, k2, k3, _⟩ := R₁.gd (T, oT) (.tail _ (.head _))
  have LT : Looks (MW w) s₁.heap (typeOf (.ref ae.e)) (.ref ae.C) := by
    obtain ⟨vs, sl, rfl, _⟩ := X.at_
    exact (Looks.ld g1).andThen .now
  exact (exm_one (K_in R₁) LT (hx w)).here (q F₁ s₁ l₁ R₁.unguard.unguard.unmarked ⟨X.at_, g1, X.ne, k1, X.ts, k2, k3, X.bT, g2, g3, X.be⟩)
theorem HB_miss {n : Str} {np : Pos} {name : Option Str} {body : List Stmt} {pos : Pos} {rest : List ExceptHandler} {K : Addr} {Q : QF} (m : (n, .gv (.val (.ref K))) ∈ σ.loc) (hx : ∀ w : World, exmOne (KF w.params) (.ref ae.C) (.ref K) = some false) (h : HB c σ ae rest Q E) :
    HB c σ ae (.ExceptHandler (some (.Name n np)) name body pos :: rest) Q E := fun F s oe T oT R X =>
  wpAny_handleBy_cons (codeAny_handlers_test (HB_test m hx R X fun F' s' l R' X' => wkF l (h F' s' oe T oT R' X'))) (by intro q; cases q)
theorem Caught.fall {Q : Unit → Shared → Prop} {A : Around} {E' : Value → Shared → Prop} (R : Rep c F σ s) (X : Caught F σ.H ae (badC c) s.heap oe T oT) (q : ∀ h', Rep (c.caught ae.e oe) F σ { s with heap := h' } → Q () { s with heap := h' }) : wpAny (MW w) A (setFlight (.ref ae.e) none) Q E' s := by
  obtain ⟨d1, d2⟩ := X.dict
  obtain ⟨vs, sl, eo, h1⟩ := X.at_
  obtain ⟨ts, e, sz⟩ := X.ts
  have R1 := (R.marked ae.e).guard1 X.e X.fe X.ke (fun z => X.be (.inl z)) d1
  refine wpAny_setFlight_none X.e (by rw [eo]) h1 X.t e sz (q _ (Rep.touch (c := c.caught ae.e oe) R1 X.t d2 X.fT X.kT (fun z => ?_) (Heap.SameBut.update _ _ _)))
  rcases z with z | z | z
  · exact X.bT (.inl z)
  · exact X.bT (.inr (.inl z))
  · rcases List.mem_cons.mp (show T ∈ ae.e :: c.gd.map (·.1) from z) with z | z
    · exact X.ne z
    · exact X.bT (.inr (.inr z))
theorem HB_hit {n : Str} {np : Pos} {b₀ : Stmt} {body : List Stmt} {pos : Pos} {rest : List ExceptHandler} {K : Addr} {Q : QF} (m : (n, .gv (.val (.ref K))) ∈ σ.loc) (hx : ∀ w : World, exmOne (KF w.params) (.ref ae.C) (.ref K) = some true)
    (h : ∀ oe, SW (c.caught ae.e oe) σ (b₀ :: body) Q (fun _ _ => False)) : HB c σ ae (.ExceptHandler (some (.Name n np)) none (b₀ :: body) pos :: rest) Q E := fun F s oe T oT R X => by
  refine wpAny_handleBy_cons (codeAny_handlers_test (HB_test m hx R X fun F' s' l R' X' => ?_)) (by intro q; cases q)
  show codeAny _ _ (.handlers _ [.ExceptHandler none none (b₀ :: body) pos] _) _ _
  refine codeAny_handlers_suite (X'.fall R' fun h' R2 => ?_)
  exact wpAny_mono (h oe F' _ R2) (fun f s₂ zz => zz.elim fun F₂ σ₂ a l₂ R₂ r₂ q₂ => ⟨F₂, σ₂, a, l.trans l₂, R₂.unguard.unmarked, r₂, q₂⟩) fun _ _ ⟨_, _, _, _, _, _, z⟩ => z.elim
theorem HB_hitAs {n x : Str} {np : Pos} {b₀ : Stmt} {body : List Stmt} {pos : Pos} {rest : List ExceptHandler} {K : Addr} {Q : QF} {sl : Slot} {loc' : Loc} (m : (n, .gv (.val (.ref K))) ∈ σ.loc) (hx : ∀ w : World, exmOne (KF w.params) (.ref ae.C) (.ref K) = some true)
    (u : LUpd x sl (.lv (.val (.ref ae.e))) σ.loc loc') (hl : sl.isL = true)
    (h : ∀ oe, (∃ vs sl, oe = ⟨.ref ae.C, some ae.dx, .fields vs, sl⟩) → SW (c.caught ae.e oe) ⟨loc', σ.H⟩ (b₀ :: body) (fun a σ' => Q a ⟨[], σ'.H⟩) (fun _ _ => False)) : HB c σ ae (.ExceptHandler (some (.Name n np)) (some x) (b₀ :: body) pos :: rest) Q E := fun F s oe T oT R X => by
  have hk : c.env.kindOf x = some .local := by
    obtain ⟨m, n, l⟩ := R.loc
    have := l _ u.mem
    cases sl with
    | un => exact this
    | lv b => exact this.1
    | _ => cases hl
  have hoe : ∃ vs sl, oe = ⟨.ref ae.C, some ae.dx, .fields vs, sl⟩ := let ⟨vs, sl, e, _⟩ := X.at_; ⟨vs, sl, e⟩
  refine wpAny_handleBy_cons (codeAny_handlers_test (HB_test m hx R X fun F' s' l R' X' => ?_)) (by intro q; cases q)
  show codeAny _ _ (.handlers _ [.ExceptHandler none (some x) (b₀ :: body) pos] _) _ _
  refine codeAny_handlers_suite_as (X'.fall R' fun h' R2 => ?_)
  refine wpAny_mono (StW_loc (c := c.caught ae.e oe) (a := .val (.ref ae.e)) (Q := fun σ₃ => σ₃ = ⟨loc', σ.H⟩) (E := fun _ _ => False) u hl rfl F' _ _ R2 rfl) (fun _ s₃ zz => zz.elim fun F₃ σ₃ l₃ R₃ e₃ => ?_) fun _ _ ⟨_, _, _, _, _, _, z⟩ => z.elim
  subst e₃
  refine wpAny_mono (h oe hoe F₃ s₃ R₃) (fun f s₄ zz => zz.elim fun F₄ σ₄ a l₄ R₄ r₄ q₄ => ?_) fun _ _ ⟨_, _, _, _, _, _, z⟩ => z.elim
  have R5 := R₄.unguard.unmarked
  obtain ⟨m4, n4, _⟩ := R5.loc
  refine wpAny_nameGoes hk (R5.ok.locals ▸ n4) (by rw [R5.ok.kind]; rfl) fun h6 m6 hn6 hs6 => ?_
  rw [R5.ok.locals] at hn6 hs6
  refine ⟨F₄, ⟨[], σ₄.H⟩, a, l.trans (l₃.trans l₄), ?_, r₄, q₄⟩
  refine Rep.own1 (loc' := []) R5 R5.ok.ownL hs6 (fun o es k e d => let ⟨o', es', k', e', d'⟩ := ns_cls (h := s₄.heap) hn6; ⟨o', es', k', e', d'⟩) (let ⟨o', es', k', e', d'⟩ := ns_cls (h := s₄.heap) hn6; isSome_of e') List.nodup_nil (fun _ h => (nomatch h)) ⟨m6, hn6, fun _ h => (nomatch h)⟩ _ _
end
structure ExcA (w : World) (C : Addr) (name : Str) : Prop where
  ga : findIn (KF w.params) (.ref C) "__getattribute__" = some (some (.builtin "BaseException.__getattribute__"))
  gt : findIn (KF w.params) (.ref C) "__getattr__" = some none
  sub : subIn (KF w.params) (.ref C) (.type "BaseException") = some true
  no : findIn (KF w.params) (.ref C) name = some none
  dct : hasDictIn (KF w.params) C = true
theorem UW_exc {C dx x : Addr} {es : List (Str × AV)} {name : Str} {a : AV} {b : Bool} {oe : Obj} {Q : QA} (ok : ExcA w C name) (mg : (x, oe) ∈ c.gd) (ho : ∃ vs sl, oe = ⟨.ref C, some dx, .fields vs, sl⟩) (md : (dx, .dctS es) ∈ σ.H) (mk : (name, a) ∈ es) (hb : noBuiltin a = true) (q : Q a σ) : UW c σ (.val (.ref x)) (fun v => getAttr v name b) Q E := fun F s v R e => by
  cases e
  obtain ⟨vs, sl, rfl⟩ := ho
  obtain ⟨_, od, ed, ds, n, rfl, kvs, ko, P, r, nd⟩ := R.cr.hot _ md
  obtain ⟨v, mv, rv⟩ := r.mem _ mk
  have g1 := (R.gd _ mg).1
  exact exc_get (od := some (dictOf ds n)) (K_in R) ⟨g1, rfl, rfl, ed⟩ ok.ga ok.gt ok.sub (findObj_own ok.dct ok.no rfl (getL_some P nd mv)) (handed rv hb) (handT R rv q _ _)
theorem excA636 (w : World) : ExcA w 636 "value" := ⟨by kernel_rfl, by kernel_rfl, by kernel_rfl, by kernel_rfl, by kernel_rfl⟩
theorem exm_nn (w : World) : exmOne (KF w.params) (.ref 100) (.ref 100) = some true := by kernel_rfl
theorem exm_tn (w : World) : exmOne (KF w.params) (.ref 636) (.ref 100) = some false := by kernel_rfl
theorem exm_tt (w : World) : exmOne (KF w.params) (.ref 636) (.ref 636) = some true := by kernel_rfl
end Mine
namespace Mine
variable {w : World} {B : Heap} {c : Ctx w B} {σ : St} {E : QE}
structure Loose (c : Ctx w B) (a : Addr) : Prop where
  own : a ∉ c.own
  h0 : c.h0.get? a = none
  gd : ∀ p ∈ c.gd, p.1 ≠ a
  fr : ∀ env ∈ c.fs, env.frame ≠ some a
theorem FrOk.fresh {F : Fz} {H : HS} {h : Heap} {a : Addr} (e : h.get? a = none) : ∀ {fs : List Env}, FrOk B F H h fs → ∀ env ∈ fs, env.frame ≠ some a
  | [], _, _, m => nomatch m
  | x :: r, ⟨_, ⟨L, o, es, n, e1, g, _, _, _⟩, t⟩, env, m => by
    rcases List.mem_cons.mp m with rfl | m
    · intro z; rw [e1] at z; cases z; rw [e] at g; cases g
    · exact FrOk.fresh e t env m
theorem CPres.fresh {F F' : Fz} {H H' : HS} {h h' : Heap} (P : CPres F H h F' H' h') {a : Addr} (e : h'.get? a = none) : h.get? a = none := by
  cases q : h.get? a with
  | none => rfl
  | some o => obtain ⟨o', e'⟩ := P.ever a o q; rw [e] at e'; cases e'
theorem Rep.fresh {F : Fz} {s : Shared} (R : Rep c F σ s) {a : Addr} (e : s.heap.get? a = none) : Loose c a := by
  refine ⟨fun z => ?_, R.pres.fresh e, fun p hp z => ?_, FrOk.fresh e R.cr.fr⟩
  · have := (R.own a z).2.2.2
    rw [e] at this; cases this
  · have := (R.gd p hp).1
    rw [z, e] at this; cases this
theorem FrOk.but {F F' : Fz} {H : HS} {h h' : Heap} {a : Addr} (hs : ∀ b o, b ≠ a → h.get? b = some o → h'.get? b = some o) (hF : ∀ b, b ≠ a → F b = none → F' b = none) : ∀ {fs : List Env}, (∀ env ∈ fs, env.frame ≠ some a) → FrOk B F H h fs → FrOk B F' H h' fs
  | [], _, _ => trivial
  | x :: r, n, ⟨y, ⟨L, o, es, k, e1, g, d, f, nk⟩, t⟩ => by
    have ne : L ≠ a := fun z => n x (.head _) (z ▸ e1)
    exact ⟨y, ⟨L, o, es, k, e1, hs L o ne g, d, hF L ne f, nk⟩, FrOk.but hs hF (fun e m => n e (.tail _ m)) t⟩
theorem Rep.but {F : Fz} {s : Shared} {a : Addr} {h' : Heap} (R : Rep c F σ s) (L : Loose c a) (fa : F a = none) (ka : a ∉ keys σ.H) (hs : ∀ b o, b ≠ a → s.heap.get? b = some o → h'.get? b = some o) : Rep c F σ { s with heap := h' } := by
  have hne : ∀ b, Held c b → b ≠ a := fun b hb z => hb.elim (fun y => L.own (z ▸ y)) fun y => by rw [z, L.h0] at y; cases y.1
  refine ⟨R.ok, ⟨R.cr.base, fun b o e => hs b o (fun z => by rw [z, fa] at e; cases e) (R.cr.fz b o e), R.cr.nd, fun p hp => ?_, FrOk.but hs (fun _ _ f => f) L.fr R.cr.fr, R.cr.gens, R.cr.os, R.cr.big⟩, ⟨R.pres.le, fun b o e m => ?_, R.pres.ks, R.pres.fr, fun b o e => ?_⟩, fun b hb => ?_, fun p hp => ?_, R.nd, R.dbg, ?_⟩
  · obtain ⟨f, o, e, r⟩ := R.cr.hot p hp
    exact ⟨f, o, hs _ _ (fun z => ka (z ▸ List.mem_map_of_mem (f := (·.1)) hp)) e, r⟩
  · exact (R.pres.same b o e m).trans fun o' e' => .inl (hs b o' (fun z => by rw [z, L.h0] at e; cases e) e')
  · obtain ⟨o', e'⟩ := R.pres.ever b o e
    exact ⟨o', hs b o' (fun z => by rw [z, L.h0] at e; cases e) e'⟩
  · obtain ⟨x1, x2, x3, x4⟩ := R.own b hb
    obtain ⟨o, e⟩ := Option.isSome_iff_exists.mp x4
    exact ⟨x1, x2, x3, isSome_of (hs b o (hne b (.inl hb)) e)⟩
  · obtain ⟨g1, g2⟩ := R.gd p hp
    exact ⟨hs _ _ (L.gd p hp) g1, g2⟩
  · obtain ⟨m, n, l⟩ := R.loc
    have ow : ∀ b, Held c b → ∀ o, s.heap.get? b = some o → Same h' b o := fun b hb o e => .inl (hs b o (hne b hb) e)
    exact ⟨m, Ns_same n (ow _ (.inl R.ok.ownL)), fun p hp => SlotOk.map (Fz.le.refl F) ow R.ok.cells (l p hp)⟩
theorem Rep.freezeAt {F : Fz} {s : Shared} {a : Addr} {oa : Obj} (R : Rep c F σ s) (L : Loose c a) (fa : F a = none) (ka : a ∉ keys σ.H) (e : s.heap.get? a = some oa) : F.le (F.put a oa) ∧ Rep c (F.put a oa) σ s := by
  have le : F.le (F.put a oa) := Fz.le_put fa
  have other : ∀ b, b ≠ a → F b = none → (F.put a oa) b = none := fun b n f => by unfold Fz.put; rw [if_neg n]; exact f
  refine ⟨le, R.ok, ⟨fun b o e => le _ _ (R.cr.base b o e), fun b o eb => ?_, R.cr.nd, fun p hp => ?_, FrOk.but (fun _ _ _ e => e) (fun b n f => other b n f) L.fr R.cr.fr, R.cr.gens, R.cr.os, R.cr.big⟩, ⟨R.pres.le.trans le, R.pres.same, R.pres.ks, fun b o eb => ?_, R.pres.ever⟩, fun b hb => ?_, fun p hp => ?_, R.nd, R.dbg, ?_⟩
  · rcases Fz.put_cases eb with ⟨rfl, rfl⟩ | z
    · exact e
    · exact R.cr.fz b o z
  · obtain ⟨f, o, eo, r⟩ := R.cr.hot p hp
    exact ⟨other _ (fun z => ka (z ▸ List.mem_map_of_mem (f := (·.1)) hp)) f, o, eo, r.mono le⟩
  · rcases Fz.put_cases eb with ⟨rfl, rfl⟩ | z
    · exact .inr (.inr L.h0)
    · exact R.pres.fr b o z
  · obtain ⟨x1, x2⟩ := R.own b hb
    exact ⟨other b (fun z => L.own (z ▸ hb)) x1, x2⟩
  · obtain ⟨g1, g2, g3⟩ := R.gd p hp
    exact ⟨g1, other _ (L.gd p hp) g2, g3⟩
  · obtain ⟨m, n, l⟩ := R.loc
    exact ⟨m, n, fun p hp => SlotOk.map le (fun _ _ _ e => .inl e) R.ok.cells (l p hp)⟩
noncomputable def ItW (c : Ctx w B) (σ : St) (a : AV) (n : Nat) (item : Nat → AV) : Prop := ∀ F s v (Q : Value → Shared → Prop) (E : Value → Shared → Prop), Rep c F σ s → Rel F a v →
  (∀ o it, Iter w c.A F s.heap.objs.size n item it → it 0 o → o.isFreed = false →
    (∀ (s' : Shared) (Q : Value → Shared → Prop) (E : Value → Shared → Prop), s'.heap.get? s.heap.objs.size = some o → Q (.ref s.heap.objs.size) s' → wpAny (MW w) c.A (pyIter (.ref s.heap.objs.size)) Q E s') → Q (.ref s.heap.objs.size) { s with heap := s.heap.push o }) → wpAny (MW w) c.A (pyIter v) Q E s
theorem ItW_rng (n : Nat) (hh : c.A.handled = none) (hn : n ≤ 100000) : ItW c σ (.rng n) n (fun i => .int i) := fun F s v Q E R zq6 k => by
  obtain ⟨a, t, u, z, ev, f⟩ := zq6
  subst ev
  refine wpAny_pyIter_range (R.cr.fz _ _ f) (small_1 hn) ?_
  rw [rangeSize_1]
  refine k { cls := .type "range_iterator", data := .fields #[rawInt 0, rawInt (n : Int), rawInt 1] } (fun i o => o = { cls := .type "range_iterator", data := .fields #[rawInt i, rawInt ((n : Int) - i), rawInt 1] }) ⟨fun i o e es k => by rw [e]; simp, fun i hi s o Q E fz g e k => ?_, fun s o Q E fz g e k => ?_⟩ (by simp) rfl fun s' Q E g q => wpAny_pyIter_rangeiter g q
  · subst e
    refine wpAny_pyNext_range_item (x := i) (left := (n : Int) - i) (step := 1) g (by omega) fun h' hit' hs => k _ _ _ _ hs.extBut hit' ?_ fun F _ => rInt
    have e1 : ((i + 1 : Nat) : Int) = (i : Int) + 1 := by push_cast; rfl
    rw [e1, show (n : Int) - ((i : Int) + 1) = (n : Int) - i - 1 by omega]
  · subst e
    exact wpAny_pyNext_range_end hh g (by omega) fun h' hs => k h' hs
theorem ItW_tup (l : List AV) (hh : c.A.handled = none) : ItW c σ (.tup l) l.length (fun i => (l[i]?).getD .none) := fun F s v Q E R zq6 kq => by
  obtain ⟨a, vs, k, ev, f, rl⟩ := zq6
  subst ev
  have ht : ∀ s : Shared, (∀ a o, F a = some o → s.heap.get? a = some o) → s.heap.IsTuple a ⟨vs⟩ := fun s fz => ⟨_, fz _ _ f, rfl, k, rfl⟩
  refine wpAny_pyIter_tuple (ht s R.cr.fz) ?_
  refine kq { cls := .type "tuple_iterator", data := .fields #[.ref a, .int 0 0] } (fun i o => o.cls = .type "tuple_iterator" ∧ o.data = .fields #[.ref a, .int i 0]) ⟨fun i o e es k => by rw [e.2]; simp, fun i hi s o Q E fz g e kk => ?_, fun s o Q E fz g e kk => ?_⟩ ⟨rfl, rfl⟩ rfl fun s' Q E g q => wpAny_pyIter_tupleiter (i := 0) ⟨_, g, rfl, rfl⟩ q
  · have hi' : i < vs.length := by rw [rl.length]; exact hi
    obtain ⟨y, ey, ry⟩ := rl.get i l[i] (by simp [hi])
    refine wpAny_pyNext_tuple_item ⟨o, g, e.1, e.2⟩ (ht s fz) (toArr_get.trans ey) fun h' ⟨o', g', c', d'⟩ hs => kk _ _ _ o' hs.extBut g' ⟨c', d'⟩ fun G le => ?_
    simp only [List.getElem?_eq_getElem hi, Option.getD_some]
    exact Rel.mono le _ _ ry
  · exact wpAny_pyNext_tuple_end hh ⟨o, g, e.1, e.2⟩ (ht s fz) (by rw [toArr_get]; exact List.getElem?_eq_none (by rw [rl.length]; exact Nat.le_refl _)) fun h' hs => kk h' hs
theorem ItW_lst (l : List AV) (hh : c.A.handled = none) : ItW c σ (.lst l) l.length (fun i => (l[i]?).getD .none) := fun F s v Q E R zq6 kq => by
  obtain ⟨a, vs, k, ev, f, rl⟩ := zq6
  subst ev
  have ht : ∀ s : Shared, (∀ a o, F a = some o → s.heap.get? a = some o) → s.heap.IsList a ⟨vs⟩ := fun s fz => ⟨_, fz _ _ f, rfl, k, rfl⟩
  refine wpAny_pyIter_list (ht s R.cr.fz) ?_
  refine kq { cls := .type "list_iterator", data := .fields #[.ref a, .int 0 0] } (fun i o => o.cls = .type "list_iterator" ∧ o.data = .fields #[.ref a, .int i 0]) ⟨fun i o e es k => by rw [e.2]; simp, fun i hi s o Q E fz g e kk => ?_, fun s o Q E fz g e kk => ?_⟩ ⟨rfl, rfl⟩ rfl fun s' Q E g q => wpAny_pyIter_listiter (i := 0) ⟨_, g, rfl, rfl⟩ q
  · have hi' : i < vs.length := by rw [rl.length]; exact hi
    obtain ⟨y, ey, ry⟩ := rl.get i l[i] (by simp [hi])
    refine wpAny_pyNext_list_item ⟨o, g, e.1, e.2⟩ (ht s fz) (toArr_get.trans ey) fun h' ⟨o', g', c', d'⟩ hs => kk _ _ _ o' hs.extBut g' ⟨c', d'⟩ fun G le => ?_
    simp only [List.getElem?_eq_getElem hi, Option.getD_some]
    exact Rel.mono le _ _ ry
  · exact wpAny_pyNext_list_end hh ⟨o, g, e.1, e.2⟩ (ht s fz) (by rw [toArr_get]; exact List.getElem?_eq_none (by rw [rl.length]; exact Nat.le_refl _)) fun h' hs => kk h' hs
noncomputable def closGo (cells : List (Str × Addr)) : List (Str × NameKind) → List (Str × Addr) → List (Str × Addr)
  | [], acc => acc
  | (n, k) :: r, acc => closGo cells r (if k == .free then (n, (cells.lookup n).getD 0) :: acc else acc)
theorem closure_go {env : Env} : ∀ (names : List (Str × NameKind)) (acc : List (Str × Addr)), (∀ p ∈ names, p.2 = .free → (env.cells.lookup p.1).isSome = true) →
    (forIn names acc fun (x : Str × NameKind) cs => (match x with | (name, kind) => if kind == .free then do let a ← cellOf env name; pure (.yield ((name, a) :: cs)) else pure (.yield cs) : Sem (ForInStep (List (Str × Addr))))) = pure (closGo env.cells names acc)
  | [], acc, _ => rfl
  | (n, k) :: r, acc, h => by
    rw [List.forIn_cons]
    unfold closGo
    by_cases hk : k = .free
    · subst hk
      obtain ⟨a, ha⟩ := Option.isSome_iff_exists.mp (h (n, .free) (.head _) rfl)
      have e : cellOf env n = pure a := by unfold cellOf; rw [ha]
      simp only [beq_self_eq_true, if_true, e, ha, Option.getD_some, pure_bind]
      exact closure_go r _ fun p hp => h p (.tail _ hp)
    · have hb : (k == NameKind.free) = false := by simpa using hk
      simp only [hb, Bool.false_eq_true, if_false, pure_bind]
      exact closure_go r _ fun p hp => h p (.tail _ hp)
theorem closGo_lookup {cells : List (Str × Addr)} : ∀ (names : List (Str × NameKind)) (acc : List (Str × Addr)) (n : Str) (a : Addr), (∀ p ∈ names, p.2 = .free → (cells.lookup p.1).isSome = true) → (∀ n a, acc.lookup n = some a → cells.lookup n = some a) → (closGo cells names acc).lookup n = some a → cells.lookup n = some a
  | [], acc, n, a, _, h, e => h n a e
  | (m, k) :: r, acc, n, a, hs, h, e => by
    unfold closGo at e
    refine closGo_lookup r _ n a (fun p hp => hs p (.tail _ hp)) (fun n' a' e' => ?_) e
    by_cases hk : k = .free
    · subst hk
      obtain ⟨a0, ha⟩ := Option.isSome_iff_exists.mp (hs (m, .free) (.head _) rfl)
      simp only [beq_self_eq_true, if_true, List.lookup_cons] at e'
      by_cases z : n' = m
      · subst z; rw [beq_self_eq_true] at e'; rw [ha] at e' ⊢; exact e'
      · rw [beq_false_of_ne z] at e'; exact h n' a' e'
    · have hb : (k == NameKind.free) = false := by simpa using hk
      rw [hb] at e'; exact h n' a' e'
theorem closGo_some {cells : List (Str × Addr)} : ∀ (names : List (Str × NameKind)) (acc : List (Str × Addr)) (n : Str), (∀ p ∈ names, p.2 = .free → (cells.lookup p.1).isSome = true) → ((n, NameKind.free) ∈ names ∨ (acc.lookup n).isSome = true) → ((closGo cells names acc).lookup n).isSome = true
  | [], acc, n, _, h => h.elim (fun z => nomatch z) id
  | (m, k) :: r, acc, n, hs, h => by
    unfold closGo
    refine closGo_some r _ n (fun p hp => hs p (.tail _ hp)) ?_
    by_cases hk : k = .free
    · subst hk
      simp only [beq_self_eq_true, if_true, List.lookup_cons]
      by_cases z : n = m
      · subst z; right; rw [beq_self_eq_true]; rfl
      · rw [beq_false_of_ne z]
        refine h.imp (fun y => ?_) id
        rcases List.mem_cons.mp y with y | y
        · cases y; exact absurd rfl z
        · exact y
    · have hb : (k == NameKind.free) = false := by simpa using hk
      rw [hb]
      refine h.imp (fun y => ?_) id
      rcases List.mem_cons.mp y with y | y
      · cases y; exact absurd rfl hk
      · exact y
theorem closure_of {scope : Scope} {env : Env} (h : ∀ p ∈ scope.names, p.2 = .free → (env.cells.lookup p.1).isSome = true) : closureFor scope env = pure (closGo env.cells scope.names []) := by
  have := closure_go scope.names [] h
  unfold closureFor
  simp only [bind_pure_comp] at this ⊢
  simpa using this
end Mine
namespace Mine
variable {w : World} {B : Heap} {c : Ctx w B} {σ : St} {E : QE}
noncomputable def compOk (sc : Scope) (x : Str) (cn gn : List Str) : Bool :=
  decide (sc.kind = .function) && sc.names.all (fun p => decide (p.2 ≠ .cell)) && sc.names.all (fun p => decide (p.2 ≠ .local) || kindIs .local (sc.names.lookup p.1)) && kindIs .local (sc.names.lookup x)
  && cn.all (fun n => kindIs .free (sc.names.lookup n)) && gn.all (fun n => kindIs .globalImplicit (sc.names.lookup n)) && sc.names.all (fun p => decide (p.2 ≠ .free) || cn.contains p.1) && nodupS (x :: cn ++ gn) && (x :: cn ++ gn).all (fun n => !(n == ("__debug__" : Str))) && cn.all (fun n => !(n == ("__classdict__" : Str)))
theorem lookup_map {g : Str → NameKind → NameKind} : ∀ (names : List (Str × NameKind)) (n : Str), (names.map fun x => (x.1, g x.1 x.2)).lookup n = (names.lookup n).map (g n)
  | [], _ => rfl
  | (m, k) :: r, n => by
    rw [List.map_cons, List.lookup_cons, List.lookup_cons]
    by_cases z : n = m
    · subst z; rw [beq_self_eq_true]; rfl
    · rw [beq_false_of_ne z]; exact lookup_map r n
theorem relabel_lookup {sc : Scope} {env : Env} (n : Str) : (relabel sc env).names.lookup n = (sc.names.lookup n).map fun k => if (k == .free && env.scope.kind == .function && env.kindOf n == some .cell) then .cell else k := by
  have : (relabel sc env).names = sc.names.map fun x => (x.1, if (x.2 == .free && env.scope.kind == .function && env.kindOf x.1 == some .cell) then .cell else x.2) := by
    unfold relabel
    simp only
    refine List.map_congr_left fun x _ => ?_
    obtain ⟨n, k⟩ := x
    simp only
    split <;> rfl
  rw [this, lookup_map (g := fun n k => if (k == .free && env.scope.kind == .function && env.kindOf n == some .cell) then .cell else k)]
noncomputable def capOf (cs gs : List (Str × AV)) : Loc := (cs.map fun p => (p.1, Slot.cv p.2)) ++ (gs.map fun p => (p.1, Slot.gv p.2))
noncomputable def TsW (c : Ctx w B) (σ : St) (ifs : List Expr) (Q : Bool → St → Prop) (E : QE) : Prop := ∀ F s, Rep c F σ s →
  wpAny (MW w) c.A (forIn ifs true fun t r => if r = true then do let ok ← isTrue t c.env (eval t c.env); pure (ForInStep.yield ok) else pure (ForInStep.yield r)) (PostB c F Q) (PostE c F E) s
theorem TsW_nil {Q : Bool → St → Prop} (q : Q true σ) : TsW c σ [] Q E := fun F s R => wpAny_tests_nil (handB R q)
theorem TsW_one {t : Expr} {Q : Bool → St → Prop} (h : TW c σ (isTrue t c.env (eval t c.env)) Q E) : TsW c σ [t] Q E := fun F s R => wpAny_tests_one (h F s R)
inductive CompI (x : Str) (cap : Loc) (P : HS → Prop) (σ : St) : Prop
  | mk (H3 : HS) (wk : Weak σ ⟨(x, .un) :: cap, H3⟩) (q : P H3)
noncomputable def CompSt (c : Ctx w B) (ifs : List Expr) (elt : Expr) (x : Str) (cap : Loc) (n : Nat) (item : Nat → AV) (Inv : Nat → List AV → HS → Prop) : Prop := ∀ i ys H', i < n → Inv i ys H' → ys.length ≤ i → ∀ c' : Ctx w B, c'.A = c.A → c'.k = c.k → TsW c' ⟨(x, .lv (item i)) :: cap, H'⟩ ifs (fun ok σ₂ =>
    (ok = true → EW c' σ₂ (eval elt c'.env) (fun a σ₃ => CompI x cap (Inv (i + 1) (ys ++ [a])) σ₃) (fun _ _ => False)) ∧ (ok = false → CompI x cap (Inv (i + 1) ys) σ₂)) (fun _ _ => False)
inductive CompOb (c : Ctx w B) (σ : St) (scope : Scope) (x : Str) (cap : Loc) (ifs : List Expr) (elt : Expr) (n : Nat) (item : Nat → AV) (K : List AV → HS → Prop) : Prop
  | mk (Inv : Nat → List AV → HS → Prop) (h0 : Inv 0 [] σ.H) (step : CompSt c ifs elt x cap n item Inv) (fin : ∀ ys H', Inv n ys H' → ys.length ≤ n → K ys H')
noncomputable abbrev lObj (vs : List Value) (n : Nat) : Obj := ⟨.type "list", none, .seq ⟨vs⟩ n, #[]⟩
theorem lookup_free {sc : Scope} {cn : List Str} (h : sc.names.all (fun p => decide (p.2 ≠ .free) || cn.contains p.1) = true) : ∀ p ∈ sc.names, p.2 = .free → p.1 ∈ cn := fun p hp e => by
  have := List.all_eq_true.mp h p hp
  rw [e] at this
  simpa using this
noncomputable def compCtx (c : Ctx w B) (scope : Scope) (C : Addr) (F : Fz) (H : HS) (h : Heap) : Ctx w B := { A := c.A, env := compEnvC scope (closGo c.env.cells scope.names []) C c.env, L := C, own := [C], fs := c.fs, os := c.os, F0 := F, H0 := H, h0 := h, gd := [], k := c.k }
theorem comp_rep {x : Str} {scope : Scope} {cs gs : List (Str × AV)} {cn gn : List Str} {F : Fz} {s : Shared} {C : Addr} {h₁ : Heap} {t₁ : Nat} {m₁ : Str → Option Value} (hck : compOk scope x cn gn = true) (hcn : cs.map (·.1) = cn) (hgn : gs.map (·.1) = gn) (hcs : ∀ p ∈ cs, (p.1, Slot.cv p.2) ∈ σ.loc) (hg : Wd w B → GS B gs) (R : Rep c F σ s)
    (nC : s.heap.get? C = none) (keep : ∀ a o', s.heap.get? a = some o' → h₁.get? a = some o') (hns₁ : h₁.Ns C m₁) : Rep (compCtx c scope C F σ.H s.heap) F ⟨(x, .un) :: capOf cs gs, σ.H⟩ ⟨h₁, s.gens, s.drawn, t₁, s.os⟩ := by
  simp only [compOk, Bool.and_eq_true, decide_eq_true_eq] at hck
  obtain ⟨⟨⟨⟨⟨⟨⟨⟨⟨k1, k2⟩, k3⟩, k4⟩, k5⟩, k6⟩, k7⟩, k8⟩, k9⟩, k10⟩ := hck
  obtain ⟨mo, no, lo⟩ := R.loc
  have free : ∀ p ∈ cs, ∃ ca v, c.env.cells.lookup p.1 = some ca ∧ s.heap.IsCell ca (some v) ∧ Rel F p.2 v := fun p hp => by
    obtain ⟨_, ca, v, e1, i, r⟩ := lo _ (hcs p hp)
    exact ⟨ca, v, e1, i, r⟩
  have freeN : ∀ p ∈ scope.names, p.2 = .free → (c.env.cells.lookup p.1).isSome = true := fun p hp e => by
    have m := lookup_free k7 p hp e
    rw [← hcn] at m
    obtain ⟨q, hq, eq⟩ := List.mem_map.mp m
    obtain ⟨ca, v, e1, _⟩ := free q hq
    rw [← eq, e1]; rfl
  have lkup : ∀ n a, (closGo c.env.cells scope.names []).lookup n = some a → c.env.cells.lookup n = some a := fun n a => closGo_lookup _ _ _ _ freeN (fun _ _ h => by simp at h)
  have held : ∀ y a, (closGo c.env.cells scope.names []).lookup y = some a → (s.heap.get? a).isSome = true ∧ a ∉ keys σ.H := fun y a e => by
    have hh := (R.ok.cells y a (lkup y a e)).1
    refine ⟨?_, R.held hh⟩
    rcases hh with hh | ⟨hh, _⟩
    · exact (R.own a hh).2.2.2
    · obtain ⟨o, e⟩ := Option.isSome_iff_exists.mp hh
      obtain ⟨o', e'⟩ := R.pres.ever a o e
      exact isSome_of e'
  have kindC : ∀ y, (compCtx c scope C F σ.H s.heap).env.kindOf y = (scope.names.lookup y).map fun k => if (k == .free && c.env.scope.kind == .function && c.env.kindOf y == some .cell) then .cell else k := fun y => relabel_lookup y
  have nd := nodupS_ok k8
  have keysL : (((x, Slot.un) :: capOf cs gs).map (·.1)) = x :: cn ++ gn := by
    unfold capOf
    simp only [List.map_cons, List.map_append, List.map_map]
    rw [← hcn, ← hgn]; rfl
  refine ⟨⟨R.ok.wd, k1, rfl, R.ok.globals, R.ok.builtins, R.ok.frames, R.ok.depth, R.ok.units, .head _, fun y a e => ?_, fun y z a e e' => R.ok.inj _ _ _ (lkup y a e) (lkup z a e')⟩, ?_, ?_, fun a ha => ?_, fun _ h => (nomatch h), ?_, fun p hp => ?_, ⟨_, hns₁, fun p hp => ?_⟩⟩
  · obtain ⟨h1, h2⟩ := held y a e
    exact ⟨.inr ⟨h1, h2⟩, fun z => by have z : a = C := z; rw [z, nC] at h1; cases h1⟩
  · exact R.cr.grow (new := []) keep (Fz.le.refl F) (fun _ _ e => .inl e) List.nodup_nil (fun _ h => (nomatch h)) (fun _ h => (nomatch h)) s.drawn t₁
  · exact CPres.grow (new := []) keep (Fz.le.refl F) (fun _ _ e => .inl e) (fun _ h => (nomatch h))
  · rcases List.mem_cons.mp ha with rfl | ha
    · refine ⟨R.cr.fz_none nC, fun z => ?_, nC, ?_⟩
      · obtain ⟨p, hp, e⟩ := List.mem_map.mp z
        obtain ⟨_, o', e', _⟩ := R.cr.hot p hp
        rw [e, nC] at e'; cases e'
      · obtain ⟨o', _, _, e, _⟩ := hns₁
        exact isSome_of e
    · cases ha
  · show (((x, Slot.un) :: capOf cs gs).map (·.1)).Nodup
    rw [keysL]; exact nd
  · have m : p.1 ∈ x :: cn ++ gn := by rw [← keysL]; exact List.mem_map_of_mem (f := (·.1)) hp
    simpa using List.all_eq_true.mp k9 _ m
  · rcases List.mem_cons.mp hp with rfl | hp
    · show (compCtx c scope C F σ.H s.heap).env.kindOf x = some .local
      rw [kindC, kindIs_ok k4]; rfl
    · unfold capOf at hp
      rcases List.mem_append.mp hp with hp | hp
      · obtain ⟨q, hq, rfl⟩ := List.mem_map.mp hp
        obtain ⟨ca, v, e1, i, r⟩ := free q hq
        have mq : q.1 ∈ cn := hcn ▸ List.mem_map_of_mem (f := (·.1)) hq
        have lq := kindIs_ok (List.all_eq_true.mp k5 _ mq)
        have lc : (closGo c.env.cells scope.names []).lookup q.1 = some ca := by
          have := closGo_some scope.names [] q.1 freeN (.inl (mem_of_lookup lq))
          obtain ⟨a, ea⟩ := Option.isSome_iff_exists.mp this
          rw [ea]; rw [lkup _ _ ea] at e1; exact e1
        refine ⟨?_, ca, v, lc, i.keeps keep, r⟩
        rw [kindC, lq]
        simp only [Option.map_some]
        split
        · exact .inl rfl
        · exact .inr ⟨rfl, by simpa using List.all_eq_true.mp k10 _ mq⟩
      · obtain ⟨q, hq, rfl⟩ := List.mem_map.mp hp
        have mq : q.1 ∈ gn := hgn ▸ List.mem_map_of_mem (f := (·.1)) hq
        have lq := kindIs_ok (List.all_eq_true.mp k6 _ mq)
        obtain ⟨v, g, rv⟩ := (hg R.ok.wd).get q hq
        refine ⟨?_, v, g, rv _ R.cr.base⟩
        rw [kindC, lq]; rfl
inductive CompL (d : Ctx w B) (F : Fz) (x : Str) (cap : Loc) (D I : Addr) (n : Nat) (it : Nat → Obj → Prop) (Inv : Nat → List AV → HS → Prop) (k : Nat) (s' : Shared) : Prop
  | mk (i : Nat) (F' : Fz) (ys : List AV) (H' : HS) (oI : Obj) (vs : List Value) (ep : Nat) (hi : i ≤ n) (ek : k = n + 1 - i) (l : F.le F') (R : Rep ((d.guard (D, lObj vs ep)).guard (I, oI)) F' ⟨(x, .un) :: cap, H'⟩ s') (hit : it i oI) (rl : RelL F' ys vs) (hy : ys.length ≤ i) (hI : Inv i ys H')
theorem comp_loop {d : Ctx w B} {elt iter : Expr} {x : Str} {px : Pos} {ifs : List Expr} {scope : Scope} {pos : Pos} {cap : Loc} {n : Nat} {item : Nat → AV} {F : Fz} {s₁ : Shared} {o : Obj} {it : Nat → Obj → Prop} {I D : Addr} {H0 : HS} {Inv : Nat → List AV → HS → Prop} {RR : Result → Shared → Prop}
    (hn : n ≤ 1000) (hit : Iter w d.A F I n item it) (h0 : it 0 o) (lID : I ≠ D) (apD : Apart d D) (apI : ∀ oD, Apart (d.guard (D, oD)) I) (R1 : Rep ((d.guard (D, lObj [] 0)).guard (I, o)) F ⟨(x, .un) :: cap, H0⟩ s₁) (hI0 : Inv 0 [] H0)
    (step : CompSt d ifs elt x cap n item Inv)
    (fin : ∀ F' ys H' vs ep s', F.le F' → Rep (d.guard (D, lObj vs ep)) F' ⟨(x, .un) :: cap, H'⟩ s' → RelL F' ys vs → ys.length ≤ n → Inv n ys H' → RR (.ok .next) s') :
    codeAny (MW w) d.A (.compLoop (.ListComp elt [⟨.Name x px, iter, ifs, 0⟩] scope pos) 0 (.ref I) (.ref D) d.env) RR s₁ := by
  refine codeAny_compLoop_tests (CompL d F x cap D I n it Inv) ?_ (n + 1) ⟨0, F, [], H0, o, [], 0, Nat.zero_le _, rfl, Fz.le.refl F, R1, h0, rfl, Nat.le_refl _, hI0⟩
  rintro k s' ⟨i, F', ys, H', oI, vs, ep, hi, rfl, l, R', hit', rl, hyl, hI⟩
  have fz : ∀ a o, F a = some o → s'.heap.get? a = some o := fun a o e => R'.cr.fz _ _ (l a o e)
  have gI := (R'.gd (I, oI) (.head _)).1
  by_cases hlt : i < n
  · refine hit.next i hlt s' oI _ _ fz gI hit' fun v h' tk o2 hs e2 hit2 rv => ?_
    have R2 := R'.reguard (apI _) hs e2 (hit.nd _ _ hit2) s'.drawn tk
    refine wpAny_mono (StW_name (c := (d.guard (D, lObj vs ep)).guard (I, o2)) (StW_loc (Q := fun σ₃ => σ₃ = ⟨(x, .lv (item i)) :: cap, H'⟩) (E := fun _ _ => False) .head rfl rfl) F' _ v R2 (rv F' l)) (fun _ s₂ zz => zz.elim fun F₂ σ₂ l₂ R₂ e₂ => ?_) fun _ _ ⟨_, _, _, _, _, _, x⟩ => x.elim
    subst e₂
    refine wpAny_mono (step i ys H' hlt hI hyl ((d.guard (D, lObj vs ep)).guard (I, o2)) rfl rfl F₂ s₂ R₂) (fun ok s₃ zz => zz.elim fun F₃ σ₃ l₃ R₃ h₃ => ?_) fun _ _ ⟨_, _, _, _, _, _, x⟩ => x.elim
    have lt3 := (l.trans l₂).trans l₃
    cases ok with
    | false =>
      rw [if_neg (by decide)]
      obtain ⟨H3, hw, hI'⟩ := h₃.2 rfl
      exact ⟨n + 1 - (i + 1), by omega, i + 1, F₃, ys, H3, o2, vs, ep, hlt, rfl, lt3, R₃.weak hw, hit2, RelL.mono (l₂.trans l₃) _ _ rl, by omega, hI'⟩
    | true =>
      rw [if_pos rfl]
      refine wpAny_mono (h₃.1 rfl F₃ s₃ R₃) (fun y s₄ zz => zz.elim fun F₄ σ₄ ay l₄ R₄ r₄ ⟨H4, hw, hI'⟩ => ?_) fun _ _ ⟨_, _, _, _, _, _, x⟩ => x.elim
      have R4 := R₄.weak hw
      obtain ⟨g1, g2, g3, g4, g5⟩ := R4.gd (D, lObj vs ep) (.tail _ (.head _))
      obtain ⟨i1, i2, i3, i4, i5⟩ := R4.gd (I, o2) (.head _)
      have hl : IsL s₄.heap D ⟨vs⟩ ep := g1
      have hvl := rl.length
      refine call_meets PySem.F.slot_list_append ⟨_, hl, rfl⟩ PySem.F.entry_list_append (PySem.F.args_list_append_2 _ _) (list_append D ⟨vs⟩ ep y (by rw [sizeLine_eq]; simp only [List.size_toArray]; omega)) ⟨hl, ?_⟩
      have e1 := hl.update (fun xs => Array.push xs y)
      have ea : (⟨vs⟩ : Array Value).push y = ⟨vs ++ [y]⟩ := by simp
      rw [ea] at e1
      have R5 := Rep.reguard (o' := lObj (vs ++ [y]) _) apD R4.unguard (Heap.SameBut.update _ _ _).extBut e1 (fun es k e => by cases e) s₄.drawn (s₄.toks)
      have R6 := R5.guard1 (a := I) (o := o2) (by exact ((Heap.SameBut.update _ D _).2 I lID).trans i1) i2 i3 i4 i5
      exact ⟨n + 1 - (i + 1), by omega, i + 1, F₄, ys ++ [ay], H4, o2, vs ++ [y], _, hlt, rfl, lt3.trans l₄, R6, hit2, (RelL.mono ((l₂.trans l₃).trans l₄) _ _ rl).append ⟨y, [], rfl, r₄, rfl⟩, by simp; omega, hI'⟩
  · have hn : i = n := by omega
    subst hn
    refine hit.last s' oI _ _ fz gI hit' fun h' hs => ?_
    exact fin F' ys H' vs ep _ l (R'.off (apI _) hs s'.drawn s'.toks) rl hyl hI
theorem comp_core {elt iter : Expr} {x : Str} {px : Pos} {ifs : List Expr} {scope : Scope} {pos : Pos} {cs gs : List (Str × AV)} {cn gn : List Str} {n : Nat} {item : Nat → AV} {K : List AV → HS → Prop} {F : Fz} {s : Shared} {o : Obj} {it : Nat → Obj → Prop} {E' : Value → Shared → Prop}
    (hck : compOk scope x cn gn = true) (hcn : cs.map (·.1) = cn) (hgn : gs.map (·.1) = gn) (hcs : ∀ p ∈ cs, (p.1, Slot.cv p.2) ∈ σ.loc) (hg : Wd w B → GS B gs) (hn : n ≤ 1000) (R : Rep c F σ s)
    (hit : Iter w c.A F s.heap.objs.size n item it) (h0 : it 0 o) (hf : o.isFreed = false)
    (self : ∀ (s' : Shared) (Q : Value → Shared → Prop) (E : Value → Shared → Prop), s'.heap.get? s.heap.objs.size = some o → Q (.ref s.heap.objs.size) s' → wpAny (MW w) c.A (pyIter (.ref s.heap.objs.size)) Q E s')
    (ob : CompOb c σ scope x (capOf cs gs) ifs elt n item K) {RR : Value → Addr → Result → Shared → Prop}
    (hRR : ∀ D C F' H' ys s', F.le F' → Rep c F' ⟨σ.loc, H'⟩ s' → Rel F' (.lst ys) (.ref D) → (∃ m, s'.heap.Ns C m) → Loose c C → F' C = none → C ∉ keys H' → C ≠ c.L → K ys H' → RR (.ref D) C (.ok .next) s') :
    wpAny (MW w) c.A (newList []) (fun acc s₃ => wpAny (MW w) c.A (newFunctionEnv scope c.env.globals (closGo c.env.cells scope.names []) [] c.env.qual none .none (some c.env)) (fun cenv s₄ =>
      codeAny (MW w) c.A (.compStart (.ListComp elt [⟨.Name x px, iter, ifs, 0⟩] scope pos) 0 (.ref s.heap.objs.size) acc { cenv with scope := relabel scope c.env }) (RR acc cenv.locals) s₄) E' s₃) E' { s with heap := s.heap.push o } := by
  have hck0 := hck
  simp only [compOk, Bool.and_eq_true, decide_eq_true_eq] at hck
  obtain ⟨⟨⟨⟨⟨⟨⟨⟨⟨k1, k2⟩, k3⟩, k4⟩, k5⟩, k6⟩, k7⟩, k8⟩, k9⟩, k10⟩ := hck
  have k2' : ∀ p ∈ scope.names, p.2 ≠ .cell := fun p hp => of_decide_eq_true (List.all_eq_true.mp k2 p hp)
  obtain ⟨Inv, hI0, step, fin⟩ := ob
  refine wpAny_newObj_type (wpAny_newFunctionEnv k2' (by intro y hy; simp at hy) (fun h₁ hns₁ hsb₁ => ?_) k1)
  dsimp only at hns₁ hsb₁ ⊢
  generalize eI : s.heap.objs.size = I at *
  generalize hH1 : s.heap.push o = H1 at hns₁ hsb₁ ⊢
  have eD : H1.objs.size = I + 1 := by rw [← hH1, Heap.size_push, eI]
  generalize hH2 : H1.push { cls := .type "list", dict := none, data := .seq ([] : List Value).toArray } = H2 at hns₁ hsb₁ ⊢
  have eC : H2.objs.size = I + 1 + 1 := by rw [← hH2, Heap.size_push, eD]
  rw [eD]
  generalize hD : I + 1 = D at *
  rw [eC] at hns₁ hsb₁ ⊢
  generalize hC : D + 1 = C at *
  have nI : s.heap.get? I = none := eI ▸ get_size _
  have lID : I < D := hD ▸ Nat.lt_succ_self I
  have lDC : D < C := hC ▸ Nat.lt_succ_self D
  have lIC : I < C := Nat.lt_trans lID lDC
  have ge : ∀ a, I ≤ a → s.heap.get? a = none := fun a ha => by
    cases q : s.heap.get? a with
    | none => rfl
    | some o => exact absurd (Heap.lt_size q) (by rw [eI]; exact Nat.not_lt.mpr ha)
  have nD := ge D (Nat.le_of_lt lID)
  have nC := ge C (Nat.le_of_lt lIC)
  have keep2 : ∀ a o', H1.get? a = some o' → h₁.get? a = some o' := fun a o' e => by
    have ha : a < D := by rw [← eD]; exact Heap.lt_size e
    exact hsb₁.extBut a o' (Nat.ne_of_lt (Nat.lt_trans ha lDC)) (Heap.get?_push_of_some _ (hH2 ▸ Heap.get?_push_of_some _ e))
  have keep : ∀ a o', s.heap.get? a = some o' → h₁.get? a = some o' := fun a o' e => keep2 a o' (hH1 ▸ Heap.get?_push_of_some _ e)
  have gI : h₁.get? I = some o := keep2 I o (by rw [← hH1, ← eI]; exact Heap.get?_push_size _ hf)
  have gD : h₁.get? D = some (lObj [] 0) := hsb₁.extBut D _ (Nat.ne_of_lt lDC) (Heap.get?_push_of_some _ (by rw [← hH2, ← eD]; exact Heap.get?_push_size _ rfl))
  have R0 := comp_rep (t₁ := s.toks + ([] : List (Str × Value)).length) hck0 hcn hgn hcs hg R nC keep hns₁
  have hDH : D ∉ keys σ.H := fun z => by
    obtain ⟨p, hp, e⟩ := List.mem_map.mp z
    obtain ⟨_, o', e', _⟩ := R.cr.hot p hp
    rw [e, nD] at e'; cases e'
  have hIH : I ∉ keys σ.H := fun z => by
    obtain ⟨p, hp, e⟩ := List.mem_map.mp z
    obtain ⟨_, o', e', _⟩ := R.cr.hot p hp
    rw [e, nI] at e'; cases e'
  have R1 := (R0.guard1 gD (R.cr.fz_none nD) hDH (by show D ∉ [C]; rw [List.mem_singleton]; exact Nat.ne_of_lt lDC) (fun es k e => by cases e)).guard1 gI (R.cr.fz_none nI) hIH (by show I ∉ [C]; rw [List.mem_singleton]; exact Nat.ne_of_lt lIC) (hit.nd 0 o h0)
  have apD : Apart (compCtx c scope C F σ.H s.heap) D := ⟨nD, fun _ h => (nomatch h)⟩
  have apI : ∀ oD, Apart ((compCtx c scope C F σ.H s.heap).guard (D, oD)) I := fun oD => ⟨nI, fun p hp => by
    rcases List.mem_cons.mp hp with rfl | hp
    · exact Nat.ne_of_gt lID
    · cases hp⟩
  have loop : codeAny (MW w) c.A (.compLoop (.ListComp elt [⟨.Name x px, iter, ifs, 0⟩] scope pos) 0 (.ref I) (.ref D) (compCtx c scope C F σ.H s.heap).env) (RR (.ref D) C) ⟨h₁, s.gens, s.drawn, s.toks + ([] : List (Str × Value)).length, s.os⟩ := by
    refine comp_loop (d := compCtx c scope C F σ.H s.heap) hn hit h0 (Nat.ne_of_lt lID) apD apI R1 hI0 step fun F' ys H' vs ep s' l R7 rl hyl hI => ?_
    obtain ⟨g1, g2, g3, g4, g5⟩ := R7.gd (D, lObj vs ep) (.head _)
    obtain ⟨c1, c2, c3, c4⟩ := R7.own C (.head _)
    have Ro : Rep c F' ⟨σ.loc, H'⟩ s' := R.step R7.pres R7.cr
    obtain ⟨le, Rf⟩ := Ro.freezeAt (R.fresh nD |> fun L => ⟨L.own, L.h0, L.gd, L.fr⟩) g2 g3 g1
    obtain ⟨mC, nC', _⟩ := R7.loc
    refine hRR D C (F'.put D (lObj vs ep)) H' ys _ (l.trans le) Rf ⟨D, vs, ep, rfl, Fz.put_self _ _ _, RelL.mono le _ _ rl⟩ ⟨mC, nC'⟩ (R.fresh nC |> fun L => ⟨L.own, L.h0, L.gd, L.fr⟩) ?_ c2 (fun z => ?_) (fin ys H' hI hyl)
    · unfold Fz.put; rw [if_neg (Nat.ne_of_gt lDC)]; exact c1
    · have := (R.own c.L R.ok.ownL).2.2.2
      rw [← z, nC] at this; cases this
  exact codeAny_compStart_list loop (self _ _ _ gI loop)
end Mine
namespace Mine
variable {w : World} {B : Heap} {c : Ctx w B} {σ : St} {E : QE}
noncomputable def CompW (c : Ctx w B) (σ σ₁ : St) (a : AV) (scope : Scope) (x : Str) (cap : Loc) (ifs : List Expr) (elt : Expr) (K : List AV → HS → Prop) : Prop :=
  σ₁.loc = σ.loc ∧ ∃ (n : Nat) (item : Nat → AV), n ≤ 1000 ∧ ItW c σ₁ a n item ∧ CompOb c σ₁ scope x cap ifs elt n item K
section
variable {elt iter : Expr} {x y : Str} {px py : Pos} {ifs : List Expr} {scope : Scope} {pos spos : Pos} {cn gn : List Str}
theorem comp_names (h : compOk scope x cn gn = true) : scope.kind = .function ∧ ∀ p ∈ scope.names, p.2 = .local → scope.names.lookup p.1 = some .local := by
  simp only [compOk, Bool.and_eq_true, decide_eq_true_eq] at h
  obtain ⟨⟨⟨⟨⟨⟨⟨⟨⟨k1, k2⟩, k3⟩, k4⟩, k5⟩, k6⟩, k7⟩, k8⟩, k9⟩, k10⟩ := h
  refine ⟨k1, fun p hp e => ?_⟩
  have := List.all_eq_true.mp k3 p hp
  rw [e] at this
  simpa using kindIs_ok (by simpa using this)
theorem comp_clos (h : compOk scope x cn gn = true) {cs : List (Str × AV)} (e : cs.map (·.1) = cn) (hcs : ∀ p ∈ cs, (p.1, Slot.cv p.2) ∈ σ.loc) {F : Fz} {s : Shared} (R : Rep c F σ s) : closureFor scope c.env = pure (closGo c.env.cells scope.names []) := by
  simp only [compOk, Bool.and_eq_true, decide_eq_true_eq] at h
  obtain ⟨⟨⟨⟨⟨⟨⟨⟨⟨k1, k2⟩, k3⟩, k4⟩, k5⟩, k6⟩, k7⟩, k8⟩, k9⟩, k10⟩ := h
  refine closure_of fun p hp ep => ?_
  have m := lookup_free k7 p hp ep
  rw [← e] at m
  obtain ⟨q, hq, eq⟩ := List.mem_map.mp m
  obtain ⟨_, _, lo⟩ := R.loc
  obtain ⟨_, ca, v, e1, _⟩ := lo _ (hcs q hq)
  rw [← eq, e1]; rfl
theorem EW_Comp {Q : QA} (cs gs : List (Str × AV)) (hck : compOk scope x cn gn = true) (e1 : cs.map (·.1) = cn) (e2 : gs.map (·.1) = gn) (hcs : ∀ p ∈ cs, (p.1, Slot.cv p.2) ∈ σ.loc) (hg : Wd w B → GS B gs)
    (h : EW c σ (eval iter c.env) (fun a σ₁ => CompW c σ σ₁ a scope x (capOf cs gs) ifs elt (fun ys H' => Q (.lst ys) ⟨σ₁.loc, H'⟩)) E) (hs : ∀ env v, foldedSetIterable iter env v = pure v) :
    EW c σ (eval (.ListComp elt [⟨.Name x px, iter, ifs, 0⟩] scope pos) c.env) Q E := fun F s R => by
  obtain ⟨k1, k3⟩ := comp_names hck
  rw [eval_ListComp]
  refine wpAny_comprehension_free (use := none) rfl (hs _) (comp_clos hck e1 hcs R) k1 k3 (wpAny_mono (h F s R) (fun v s₁ zz => zz.elim fun F₁ σ₁ a l₁ R₁ r₁ ⟨el, n, item, hn, hit, ob⟩ => ?_) fun _ _ e => e)
  refine hit F₁ s₁ v _ _ R₁ r₁ fun o it hI h0 hf self => ?_
  refine comp_core hck e1 e2 (fun p hp => el ▸ hcs p hp) hg hn R₁ hI h0 hf self ob (RR := fun acc C => compPost (MW w) c.A (PostE c F E) none (Post c F Q) acc C) ?_
  intro D C F' H' ys s' le R' rD ⟨m, nC⟩ L fC kC _ hq
  exact ⟨m, nC, fun h' hs => ⟨F', _, .lst ys, l₁.trans le, R'.but L fC kC hs.extBut, rD, hq⟩⟩
theorem Rep.storeL {F : Fz} {s : Shared} {y : Str} {sl : Slot} {a : AV} {loc' : Loc} {v : Value} {h' : Heap} {m : Str → Option Value} (R : Rep c F σ s) (u : LUpd y sl (.lv a) σ.loc loc') (hk : c.env.kindOf y = some .local) (r : Rel F a v)
    (l : ∀ p ∈ σ.loc, SlotOk c F s.heap m p.1 p.2) (hn : h'.Ns c.L (fun z => if z = y then some v else m z)) (hs : Heap.SameBut c.L s.heap h') (d : Drawn) (t : Nat) : Rep c F ⟨loc', σ.H⟩ ⟨h', s.gens, d, t, s.os⟩ := by
  refine R.own1 R.ok.ownL hs (fun o es k e d => let ⟨o', es', k', e', d'⟩ := ns_cls (h := s.heap) hn; ⟨o', es', k', e', d'⟩) (let ⟨o', es', k', e', d'⟩ := ns_cls (h := s.heap) hn; isSome_of e') (u.keys ▸ R.nd)
    (fun p hp => ?_) ⟨_, hn, fun p hp => ?_⟩ _ _
  · rcases u.back R.nd p hp with rfl | ⟨z, _⟩
    · exact (R.dbg (y, sl) u.mem : _)
    · exact R.dbg p z
  · rcases u.back R.nd p hp with rfl | ⟨z, ne⟩
    · exact ⟨hk, v, if_pos rfl, r⟩
    · have := l p z
      obtain ⟨y, sp⟩ := p
      cases sp with
      | un => exact this
      | lv b => obtain ⟨k, v', e, r'⟩ := this; exact ⟨k, v', by rw [← e]; exact if_neg ne, r'⟩
      | cu => obtain ⟨k, ca, v', e, ⟨o, e1, e2⟩⟩ := this; exact ⟨k, ca, v', e, ⟨o, (hs.2 _ (R.ok.cells _ _ e).2).trans e1, e2⟩⟩
      | cv b => obtain ⟨k, ca, v', e, ⟨o, e1, e2⟩, r'⟩ := this; exact ⟨k, ca, v', e, ⟨o, (hs.2 _ (R.ok.cells _ _ e).2).trans e1, e2⟩, r'⟩
      | gv b => exact this
theorem XW_AssignComp {Q : QF} {sl : Slot} (cs gs : List (Str × AV)) (hck : compOk scope x cn gn = true) (e1 : cs.map (·.1) = cn) (e2 : gs.map (·.1) = gn) (hcs : ∀ p ∈ cs, (p.1, Slot.cv p.2) ∈ σ.loc) (hg : Wd w B → GS B gs)
    (hl : sl.isL = true) (hy : (y, sl) ∈ σ.loc)
    (h : EW c σ (eval iter c.env) (fun a σ₁ => CompW c σ σ₁ a scope x (capOf cs gs) ifs elt (fun ys H' => ∃ loc', LUpd y sl (.lv (.lst ys)) σ₁.loc loc' ∧ Q .next ⟨loc', H'⟩)) E) (hs : ∀ env v, foldedSetIterable iter env v = pure v)
    (hst : (py.line == pos.line && !(scope.names.any fun p => p.1 == y && (p.2 == .local || p.2 == .cell))) = true := by decide +kernel) :
    XW c σ (exec (.Assign [.Name y py] (.ListComp elt [⟨.Name x px, iter, ifs, 0⟩] scope pos) spos) c.env) Q E := fun F s R => by
  obtain ⟨k1, k3⟩ := comp_names hck
  have hk : c.env.kindOf y = some .local := by
    obtain ⟨m, n, l⟩ := R.loc
    have := l _ hy
    cases sl with
    | un => exact this
    | lv b => exact this.1
    | _ => cases hl
  have hsw : swapsWith (.ListComp elt [⟨.Name x px, iter, ifs, 0⟩] scope pos) (some (.Name y py)) spos.line c.env = pure true := by
    have hb : (c.env.blockKind == .function) = true := by unfold Env.blockKind; rw [R.ok.kind]; rfl
    rw [Bool.and_eq_true] at hst
    show (pure (c.env.blockKind == .function && c.env.kindOf y == some .local && py.line == pos.line && !(scope.names.any fun p => p.1 == y && (p.2 == .local || p.2 == .cell))) : Sem Bool) = pure true
    rw [hb, hk, hst.1, hst.2]; rfl
  rw [exec_Assign_Name_used _ _ _ _ hsw]
  refine wpAny_bind (wpAny_standAt (wpAny_bind ?_))
  show wpAny _ c.A (do let _ ← comprehension (.ListComp elt [⟨.Name x px, iter, ifs, 0⟩] scope pos) scope c.env _ (newList []) false (eval iter c.env) (some (assign (.Name y py) c.env))) _ _ s
  refine wpAny_bind (wpAny_mono (wpAny_comprehension_free (use := some (assign (.Name y py) c.env)) (Q := fun _ s' => PostF c F Q .next s') (E := PostE c F E) rfl (hs _) (comp_clos hck e1 hcs R) k1 k3
    (wpAny_mono (h F s R) (fun v s₁ zz => zz.elim fun F₁ σ₁ a l₁ R₁ r₁ ⟨el, n, item, hn, hit, ob⟩ => ?_) fun _ _ e => e)) (fun _ s' hq => wpAny_pure (wpAny_pure hq)) fun _ _ e => e)
  refine hit F₁ s₁ v _ _ R₁ r₁ fun o it hI h0 hf self => ?_
  refine comp_core hck e1 e2 (fun p hp => el ▸ hcs p hp) hg hn R₁ hI h0 hf self ob (RR := fun acc C => compPost (MW w) c.A (PostE c F E) (some (assign (.Name y py) c.env)) (fun _ s' => PostF c F Q .next s') acc C) ?_
  intro D C F' H' ys s' le R' rD ⟨mC, nC⟩ L fC kC neL ⟨loc', u, hq⟩
  show wpAny _ c.A (assign (.Name y py) c.env (.ref D)) _ _ _
  obtain ⟨m, n, l⟩ := R'.loc
  refine wpAny_assign_Name (wpAny_storeName_local hk (R'.ok.locals ▸ n) (fun h₂ hn₂ hs₂ => ?_) (by rw [R'.ok.kind]; rfl))
  rw [R'.ok.locals] at hn₂ hs₂
  have R2 := R'.storeL u hk rD l hn₂ hs₂ s'.drawn (s'.toks + 1)
  exact ⟨mC, nC.sameBut hs₂ neL, fun h'' hs3 => ⟨F', _, .next, l₁.trans le, R2.but L fC kC hs3.extBut, rNext, hq⟩⟩
end
end Mine
namespace Mine
variable {w : World} {B : Heap}
noncomputable def mkLocC (ps : List Str) (l : List AV) (us cn : List Str) (gs : List (Str × AV)) : Loc :=
  ((ps.zip l).map fun p => (p.1, Slot.lv p.2)) ++ (us.map fun x => (x, Slot.un)) ++ (cn.map fun x => (x, Slot.cu)) ++ (gs.map fun p => (p.1, Slot.gv p.2))
noncomputable def entryOkC (sc : Scope) (ps us cn gs : List Str) : Bool :=
  (!sc.isCoroutine && !sc.isGenerator && decide (sc.kind = .function)) && ps.all (fun x => kindIs .local (sc.names.lookup x)) && us.all (fun x => kindIs .local (sc.names.lookup x)) && cn.all (fun x => kindIs .cell (sc.names.lookup x))
   && gs.all (fun x => kindIs .globalImplicit (sc.names.lookup x)) && nodupS (ps ++ us ++ cn ++ gs) && (ps ++ us ++ cn ++ gs).all fun x => !(x == ("__debug__" : Str))
theorem bindL_all {k : Str → Option NameKind} : ∀ (binds : List (Str × Value)) (m : Str → Option Value), (∀ p ∈ binds, k p.1 = some .local) → ∀ y, bindL k binds m y = (binds.reverse.lookup y).or (m y)
  | [], m, _, y => rfl
  | (n, v) :: r, m, h, y => by
    unfold bindL
    rw [if_pos (h (n, v) (.head _)), bindL_all r _ (fun p hp => h p (.tail _ hp)), List.reverse_cons, List.lookup_append]
    cases (r.reverse.lookup y) with
    | some u => rfl
    | none =>
      show (if y = n then some v else m y) = (([(n, v)] : List (Str × Value)).lookup y).or (m y)
      rw [List.lookup_cons]
      by_cases z : y = n
      · subst z; simp
      · rw [beq_false_of_ne z, if_neg z]; rfl
theorem cellsFrom_some : ∀ (names : List (Str × NameKind)) (k : Nat) (acc : List (Str × Addr)) (n : Str), ((n, NameKind.cell) ∈ names ∨ (acc.lookup n).isSome = true) → ((cellsFrom k names acc).lookup n).isSome = true
  | [], k, acc, n, h => h.elim (fun z => nomatch z) id
  | (m, kd) :: r, k, acc, n, h => by
    unfold cellsFrom
    by_cases hk : kd = .cell
    · subst hk
      rw [if_pos (by rfl)]
      refine cellsFrom_some r _ _ n ?_
      by_cases z : n = m
      · subst z; right; rw [List.lookup_cons, beq_self_eq_true]; rfl
      · rw [List.lookup_cons, beq_false_of_ne z]
        refine h.imp (fun y => ?_) id
        rcases List.mem_cons.mp y with y | y
        · cases y; exact absurd rfl z
        · exact y
    · have hb : ¬ (kd == NameKind.cell) = true := by simpa using hk
      rw [if_neg hb]
      refine cellsFrom_some r _ _ n (h.imp (fun y => ?_) id)
      rcases List.mem_cons.mp y with y | y
      · cases y; exact absurd rfl hk
      · exact y
set_option backward.match.sparseCases true in
theorem call_binds {A : Around} {s : Shared} {R : Result → Shared → Prop} {a : Addr} {o : Obj} {fd : FuncData} {body : List Stmt} {vals : List Value} {binds : List (Str × Value)} (hr : A.depth < recursionLimit) (ho : s.heap.get? a = some o) (hd : o.data = .func fd) (hl : s.heap.NoLimit) (hc : s.heap.CodeRec fd.code fd.qualname)
    (hbody : fd.body = .stmts body) (hb : BindsTo s fd ⟨vals, []⟩ binds) (hclo : fd.closure = []) (hk : fd.scope.kind = .function) (hkind : ∀ x ∈ binds, fd.scope.names.lookup x.1 = some .local) (hco : fd.scope.isCoroutine = false) (hge : fd.scope.isGenerator = false)
    (h : ∀ s₁, InCallC s (callEnvC fd s.heap.objs.size a).locals (bindL (callEnvC fd s.heap.objs.size a).kindOf binds fun _ => none) (callEnvC fd s.heap.objs.size a).cells (bindC (callEnvC fd s.heap.objs.size a).kindOf binds fun _ => none) s₁ →
      wpAny (MW w) (A.deeper (callEnvC fd s.heap.objs.size a)) (execs body (callEnvC fd s.heap.objs.size a)) (fun f s' => R (.ok (.ret (match f with | .ret v => v | _ => .none))) s')
        (fun e s' => wpAny (MW w) (A.deeper (callEnvC fd s.heap.objs.size a)) (leaving (callEnvC fd s.heap.objs.size a) e) (fun _ s'' => R (.error e) s'') (fun e' s'' => R (.error e') s'') s') s₁) : codeAny (MW w) A (.call (.ref a) ⟨vals, []⟩) R s := by
  refine codeAny_call_function hr ho hd hco hge hbody hc (hb _ _ _ _ ?_)
  rw [hclo]
  refine wpAny_newFunctionEnv_cells hk (fun x hx => .inl (hkind x hx)) fun env e s' x => ?_
  subst e
  exact ⟨hl.keeps x.toInCall.keep, codeAny_func (h s' x)⟩
theorem CW_defC {k : Nat} {H : HS} {fa : Addr} {oc : Value} {od : Option Addr} {osl : Array (Option Value)} {fd : FuncData} {body : List Stmt} {l : List AV} {Q : AV → HS → Prop} {E : AE → HS → Prop}
    (ho : ∀ w : World, (KF w.params).lookup fa = some ⟨oc, od, .func fd, osl⟩) (hcd : ∀ w : World, codeIn (KF w.params) fd.code fd.qualname = true) (hbody : fd.body = .stmts body) (hglob : fd.globals = mainGlobals ∧ fd.builtins = builtinsNs ∧ fd.closure = [])
    (ps us cn : List Str) (gs : List (Str × AV)) (hl : l.length = ps.length) (hb : ∀ (w : World) (s : Shared) (vs : List Value), (∀ a o, (KF w.params).lookup a = some o → s.heap.get? a = some o) → vs.length = ps.length → BindsTo s fd ⟨vs, []⟩ (ps.zip vs)) (hk : entryOkC fd.scope ps us cn (gs.map (·.1)) = true) (hg : Wd w B → GS B gs)
    (h : ∀ c : Ctx w B, c.k = k → c.A.handled = none → c.H0 = H → Top c → (∀ y a, c.env.cells.lookup y = some a → a ∈ c.own) → (∀ y, c.env.kindOf y = fd.scope.names.lookup y) → SW c ⟨mkLocC ps l us cn gs, H⟩ body (RQ Q) (fun ae σ => E ae σ.H)) : CW w B (k + 1) H (.ref fa) l Q E := fun A fs os F s vs W P C r => by
  obtain ⟨hg1, hg2, hg3⟩ := hglob
  simp only [entryOkC, Bool.and_eq_true, Bool.not_eq_true', List.all_eq_true, decide_eq_true_eq] at hk
  obtain ⟨⟨⟨⟨⟨⟨⟨⟨hco, hge⟩, hkind⟩, hps⟩, hus⟩, hcn⟩, hgs⟩, hnd⟩, hdb⟩ := hk
  have hnd := nodupS_ok hnd
  have hpn : ps.Nodup := (List.nodup_append.mp (List.nodup_append.mp (List.nodup_append.mp hnd).1).1).1
  have hvl : vs.length = ps.length := r.length.trans hl
  have stays : ∀ a o, B.get? a = some o → s.heap.get? a = some o := fun a o e => C.fz _ _ (C.base a o e)
  obtain ⟨p, loose, mg, mb, T⟩ := W.T
  have KX : (KF w.params).In s.heap := W.K.keeps stays
  have hbk : ∀ x ∈ ps.zip vs, fd.scope.names.lookup x.1 = some .local := fun x hx => kindIs_ok (hps _ (List.of_mem_zip (a := x.1) (b := x.2) hx).1)
  refine call_binds (fd := fd) (body := body) (binds := ps.zip vs) (Nat.lt_of_le_of_lt (Nat.le_add_right _ _) P.depth) (KX _ _ (ho w)) rfl (T.nolimit.keeps stays) (codeRec_of KX (hcd w)) hbody (hb w s vs (fun a o e => KX a o e) hvl) hg3 hkind hbk hco hge fun s₁ ic => ?_
  let L := s.heap.objs.size
  let env := callEnvC fd L fa
  obtain ⟨⟨⟨h₁, t₁, es₁⟩, hns, hkeep, _⟩, hcell, hap, hab⟩ := ic
  subst es₁
  dsimp only at hns hkeep hcell
  let c : Ctx w B := { A := A.deeper env, env := env, L := L, own := L :: env.cells.filterMap (fun p => env.cells.lookup p.1), fs := env :: fs, os := os, F0 := F, H0 := H, h0 := s.heap, gd := [], k := k }
  have nn : ∀ a, L ≤ a → s.heap.get? a = none := fun a ha => by
    cases q : s.heap.get? a with
    | none => rfl
    | some o => exact absurd (Heap.lt_size q) (Nat.not_lt.mpr ha)
  have hFn : ∀ a, L ≤ a → F a = none := fun a ha => C.fz_none (nn a ha)
  have hLk : ∀ a, L ≤ a → a ∉ keys H := fun a ha z => by
    obtain ⟨p, hp, e⟩ := List.mem_map.mp z
    obtain ⟨_, o, e', _⟩ := C.hot p hp
    rw [e, nn a ha] at e'; cases e'
  obtain ⟨oL, es, ep, hoL, hdL, hrL⟩ := id hns
  let s₀ : Shared := { heap := h₁, gens := s.gens, drawn := s.drawn, toks := t₁, os := s.os }
  have C₀ : CRep w B F H (env :: fs) os s₀ := by
    have := C.grow (new := []) (F' := F) (h' := h₁) hkeep (Fz.le.refl F) (fun _ _ e => .inl e) List.nodup_nil (fun _ h => (nomatch h)) (fun _ h => (nomatch h)) s.drawn t₁
    refine ⟨this.base, this.fz, this.nd, this.hot, ⟨?_, ⟨L, oL, es, ep, rfl, hoL, hdL, hFn L (Nat.le_refl _), hLk L (Nat.le_refl _)⟩, this.fr⟩, this.gens, this.os, this.big⟩
    show fd.scope.kind ≠ .module
    rw [hkind]; decide
  have hlt : ∀ x a, env.cells.lookup x = some a → L < a := fun x a e => hab x a (mem_of_lookup e)
  have hown : ∀ x a, env.cells.lookup x = some a → a ∈ c.own := fun x a e => .tail _ (List.mem_filterMap.mpr ⟨(x, a), mem_of_lookup e, e⟩)
  have hkd : ∀ y, env.kindOf y = fd.scope.names.lookup y := fun y => rfl
  have R : Rep c F ⟨mkLocC ps l us cn gs, H⟩ s₀ := by
    refine ⟨⟨W, hkind, rfl, hg1, hg2, ?_, ?_, ?_, .head _, fun x a e => ?_, fun x y a e e' => ?_⟩, C₀, ?_, fun a ha => ?_, fun _ h => (nomatch h), ?_, ?_, ⟨_, hns, ?_⟩⟩
    · show (A.deeper env).frames = some (env :: fs)
      unfold Around.deeper
      simp only [P.frames]; rfl
    · show (A.deeper env).depth + k < _
      have := P.depth
      unfold Around.deeper
      show A.depth + 1 + k < _
      omega
    · show (A.deeper env).units + 8 * k + 8 < _
      have := P.units
      unfold Around.deeper
      simp only
      omega
    · exact ⟨.inl (hown x a e), Nat.ne_of_gt (hlt x a e)⟩
    · exact name_of_addr hap (mem_of_lookup e) (mem_of_lookup e')
    · exact CPres.grow (new := []) hkeep (Fz.le.refl F) (fun _ _ e => .inl e) (fun _ h => (nomatch h))
    · rcases List.mem_cons.mp ha with rfl | ha
      · exact ⟨hFn L (Nat.le_refl _), hLk L (Nat.le_refl _), nn L (Nat.le_refl _), isSome_of hoL⟩
      · obtain ⟨p, _, e⟩ := List.mem_filterMap.mp ha
        have hla := Nat.le_of_lt (hlt p.1 a e)
        obtain ⟨o, eo, _⟩ := hcell p.1 a e
        exact ⟨hFn a hla, hLk a hla, nn a hla, isSome_of eo⟩
    · show ((mkLocC ps l us cn gs).map (·.1)).Nodup
      have e : (mkLocC ps l us cn gs).map (·.1) = ps ++ us ++ cn ++ gs.map (·.1) := by
        unfold mkLocC
        simp only [List.map_append, List.map_map]
        congr 1
        congr 1
        · congr 1
          · show (ps.zip l).map (fun p => p.1) = ps
            exact List.map_fst_zip (by omega)
          · exact List.map_id _
        · exact List.map_id _
      rw [e]; exact hnd
    · intro p hp
      have : p.1 ∈ ps ++ us ++ cn ++ gs.map (·.1) := by
        unfold mkLocC at hp
        simp only [List.mem_append, List.mem_map] at hp ⊢
        rcases hp with ((⟨q, hq, rfl⟩ | ⟨q, hq, rfl⟩) | ⟨q, hq, rfl⟩) | ⟨q, hq, rfl⟩
        · exact .inl (.inl (.inl (List.of_mem_zip (a := q.1) (b := q.2) hq).1))
        · exact .inl (.inl (.inr hq))
        · exact .inl (.inr hq)
        · exact .inr ⟨q, hq, rfl⟩
      exact hdb _ this
    · intro p hp
      unfold mkLocC at hp
      simp only [List.mem_append, List.mem_map] at hp
      rcases hp with ((⟨q, hq, rfl⟩ | ⟨q, hq, rfl⟩) | ⟨q, hq, rfl⟩) | ⟨q, hq, rfl⟩
      · obtain ⟨v, e, rv⟩ := zip_lookup r hpn q hq
        refine ⟨kindIs_ok (hps _ (List.of_mem_zip (a := q.1) (b := q.2) hq).1), v, ?_, rv⟩
        show bindL env.kindOf (ps.zip vs) (fun _ => none) q.1 = some v
        rw [bindL_all _ _ hbk, zip_mem_lookup hpn _ _ e]; rfl
      · exact kindIs_ok (hus _ hq)
      · have hc := kindIs_ok (hcn _ hq)
        obtain ⟨a, ea⟩ := Option.isSome_iff_exists.mp (cellsFrom_some fd.scope.names (L + 1) [] q (.inl (mem_of_lookup hc)))
        exact ⟨hc, a, _, ea, hcell q a ea⟩
      · obtain ⟨v, g, rv⟩ := (hg W).get q hq
        exact ⟨kindIs_ok (hgs _ (List.mem_map_of_mem (f := (·.1)) hq)), v, g, rv _ C.base⟩
  refine wpAny_mono (h c rfl P.handled rfl ⟨rfl, fs, rfl⟩ hown hkd F s₀ R) (fun f s' zz => zz.elim fun F' σ' a le R' rf q => ?_) (fun e s' zz => zz.elim fun F' σ' ae le R' X q => leave_W (c := c) rfl rfl R' X q)
  have C' : CRep w B F' σ'.H fs os s' := ⟨R'.cr.base, R'.cr.fz, R'.cr.nd, R'.cr.hot, R'.cr.fr.2.2, R'.cr.gens, R'.cr.os, R'.cr.big⟩
  cases a with
  | next => cases rf; obtain ⟨H2, u, q⟩ := q; exact ⟨F', H2, .none, C'.sub u, R'.pres.sub u, rfl, q⟩
  | ret a => obtain ⟨v, rfl, rv⟩ := rf; obtain ⟨H2, u, q⟩ := q; exact ⟨F', H2, a, C'.sub u, R'.pres.sub u, rv, q⟩
  | brk => exact q.elim
  | cont => exact q.elim
theorem StW_cellN {c : Ctx w B} {loc : Loc} {H : HS} {E : QE} {names : List (Str × NameKind)} {x : Str} {a : AV} {sl : Slot} {loc' : Loc} {Q : St → Prop} (hw : ∀ y a, c.env.cells.lookup y = some a → a ∈ c.own) (hk : ∀ y, c.env.kindOf y = names.lookup y) (u : LUpd x sl (.cv a) loc loc') (hl : sl.isC = true) (hx : names.lookup x = some .cell) (q : Q ⟨loc', H⟩) : StW c ⟨loc, H⟩ a (fun v => storeName c.env x v) Q E :=
  StW_cell (σ := ⟨loc, H⟩) hw (fun _ _ _ => (hk x).trans hx) u hl q
end Mine
namespace Mine
variable {w : World} {B : Heap} {c : Ctx w B} {σ : St} {Q : QA} {E : QE}
theorem HUpd.mem' {a : Addr} {ho ho' : HObj} {H H' : HS} (u : HUpd a ho ho' H H') : (a, ho') ∈ H' := by
  induction u with
  | head => exact .head _
  | tail _ ih => exact .tail _ ih
theorem HUpd.keepK {a b : Addr} {ho ho' hb : HObj} {H H' : HS} (u : HUpd a ho ho' H H') (m : (b, hb) ∈ H) (n : b ≠ a) : (b, hb) ∈ H' := by
  induction u with
  | head =>
    rcases List.mem_cons.mp m with e | m
    · cases e; exact absurd rfl n
    · exact .tail _ m
  | tail _ ih =>
    rcases List.mem_cons.mp m with e | m
    · exact e ▸ .head _
    · exact .tail _ (ih m)
theorem XW_nd {t : Sem Flow} {Q : QF} (h : (keys σ.H).Nodup → XW c σ t Q E) : XW c σ t Q E := fun F s R => h R.cr.nd F s R
theorem VW_remove1 {loc : Loc} {H H' : HS} {ad : Addr} {x : Str} (u : HUpd ad (.lst [.str x]) (.lst []) H H') (q : Q .none ⟨loc, H'⟩) : VW c ⟨loc, H⟩ [.val (.ref ad), .str x] (fun vs => call (.builtin "list.remove") vs []) Q E := fun F s _ R zq4 => by
  obtain ⟨v, _, e, ev, v', _, e', ⟨t', ev'⟩, e2⟩ := zq4
  cases e2; subst e'; subst e; cases ev; subst ev'
  obtain ⟨_, o, eo, vs, n, rfl, rl⟩ := R.cr.hot _ u.mem
  obtain ⟨y, _, rfl, ⟨t, rfl⟩, e3⟩ := rl
  cases e3
  have hl : IsL s.heap ad ⟨[.str x t]⟩ n := eo
  let ev : Value → Bool := fun y' => match y' with | .str k _ => k == x | _ => false
  refine call_meets PySem.F.slot_list_remove ⟨_, hl, rfl⟩ PySem.F.entry_list_remove (PySem.F.args_list_remove_2 _ _) (MeetsSeq.list_remove ad ⟨[.str x t]⟩ n (.str x t') ev (fun y hy => ?_) 0 (by simp) (by simp [ev]) (fun m _ h => absurd h (Nat.not_lt_zero _)) (by simp [sizeLine_eq])) ⟨hl, ?_⟩
  · simp only [List.mem_toArray, List.mem_cons, List.not_mem_nil, or_false] at hy
    subst hy
    exact eqGives_str x x t t'
  · have e1 := hl.update (fun xs => xs.eraseIdxIfInBounds 0)
    have ea : (⟨[.str x t]⟩ : Array Value).eraseIdxIfInBounds 0 = ⟨[]⟩ := by
      unfold Array.eraseIdxIfInBounds
      rw [dif_pos (by simp)]
      apply Array.ext'
      simp
    rw [ea] at e1
    show Post c F Q .none _
    exact ⟨F, _, .none, Fz.le.refl F, R.upd (σ := ⟨loc, H⟩) u (Heap.SameBut.update _ _ _) e1 ⟨[], _, rfl, rfl⟩ _ _, rNone, q⟩
theorem BW_inL1 {ad : Addr} {x : Str} (m : (ad, .lst [.str x]) ∈ σ.H) (q : Q (.bool true) σ) : BW c σ (.str x) (.val (.ref ad)) (compareOp .In) Q E := fun F s u v R zq5 e' => by
  obtain ⟨t', e⟩ := zq5
  subst e; cases e'
  obtain ⟨_, o, eo, vs, n, rfl, rl⟩ := R.cr.hot _ m
  obtain ⟨y, _, rfl, ⟨t, rfl⟩, e3⟩ := rl
  cases e3
  have hl : IsL s.heap ad ⟨[.str x t]⟩ n := eo
  let ev : Value → Bool := fun y' => match y' with | .str k _ => k == x | _ => false
  refine SeqAt.in_listAt ev hl.isList (fun y hy => ?_) ?_
  · simp only [List.mem_toArray, List.mem_cons, List.not_mem_nil, or_false] at hy
    subst hy
    exact SeqAt.EqAt.str_str _ _ _ _
  · have : Array.any (⟨[.str x t]⟩ : Array Value) ev = true := by simp [ev]
    rw [this]; exact hand R rBool q
end Mine
namespace Mine
variable {w : World} {B : Heap}
theorem py_tup2 {a b c d : Int} : PyData.eqv (AV.tup [.int a, .int b]).py (AV.tup [.int c, .int d]).py = (a == c && b == d) := by
  show PyData.eqv (.tuple [.int a, .int b]) (.tuple [.int c, .int d]) = _
  simp [PyData.eqv, PyData.eqvAll]
end Mine
namespace Mine
variable {w : World} {B : Heap} {c : Ctx w B} {σ : St} {E : QE}
end Mine
namespace Mine
theorem filter_range {n : Nat} (P : Nat → Bool) (a b : Nat) (h : ∀ p, p < n → P p = (decide (a ≤ p) && decide (p < b))) (hb : b ≤ n) : (List.range n).filter P = List.range' a (b - a) := by
  induction n generalizing b P with
  | zero => have : b = 0 := by omega
            subst this; rw [Nat.zero_sub]; rfl
  | succ n ih =>
    rw [List.range_succ, List.filter_append]
    by_cases hn : b ≤ n
    · rw [ih P b (fun p hp => h p (by omega)) hn]
      have : P n = false := by rw [h n (by omega)]; simp; omega
      simp [this]
    · have hb' : b = n + 1 := by omega
      subst hb'
      have e1 : (List.range n).filter P = (List.range n).filter (fun p => decide (a ≤ p) && decide (p < n)) := List.filter_congr fun p hp => by
        have := List.mem_range.mp hp
        rw [h p (by omega)]
        congr 1
        rw [decide_eq_true this, decide_eq_true (show p < n + 1 by omega)]
      rw [e1, ih _ n (fun p _ => rfl) (Nat.le_refl n)]
      by_cases ha : a ≤ n
      · have : P n = true := by rw [h n (by omega)]; simp; omega
        rw [show n + 1 - a = (n - a) + 1 by omega, List.range'_concat]
        simp [this]; omega
      · have : P n = false := by rw [h n (by omega)]; simp; omega
        rw [show n + 1 - a = 0 by omega, show n - a = 0 by omega]
        simp [this]
theorem map_range' (l : List Nat) (a k : Nat) (h : a + k ≤ l.length) : (List.range' a k).map (fun p => (l[p]?).getD 0) = (l.drop a).take k := by
  apply List.ext_getElem
  · simp; omega
  · intro i h1 h2
    have : i < k := by simpa using h1
    simp [show a + i < l.length by omega]
noncomputable def pickS (x : Str) (P : Nat → Bool) : Str := mkS (((List.range (ls x).length).filter P).map fun p => ((ls x)[p]?).getD 0)
theorem pick_interval (x : Str) (P : Nat → Bool) (a b : Nat) (h : ∀ p, p < (ls x).length → P p = (decide (a ≤ p) && decide (p < b))) (hb : b ≤ (ls x).length) : pickS x P = mkS (((ls x).drop a).take (b - a)) := by
  unfold pickS
  rw [filter_range P a b h hb]
  by_cases hab : a ≤ b
  · rw [map_range' _ _ _ (by omega)]
  · rw [show b - a = 0 by omega]; simp
end Mine
namespace Mine
variable {w : World} {B : Heap} {c : Ctx w B} {σ : St} {E : QE}
theorem stw_cell {loc : Loc} {H : HS} {names : List (Str × NameKind)} {x : Str} {a : AV} {sl : Slot} {loc' : Loc} {Q : St → Prop} (hw : ∀ y a, c.env.cells.lookup y = some a → a ∈ c.own) (hk : ∀ y, c.env.kindOf y = names.lookup y) (u : LUpd x sl (.cv a) loc loc') (hl : sl.isC = true) (hx : kindIs .cell (names.lookup x) = true) (q : Q ⟨loc', H⟩) : StW c ⟨loc, H⟩ a (fun v => storeName c.env x v) Q E :=
  StW_cellN hw hk u hl (kindIs_ok hx) q
theorem strs_map (X : List Nat) : (X.map fun ch => AV.str ⟨#[ch]⟩) = (X.map fun ch => (⟨#[ch]⟩ : Str)).map AV.str := by rw [List.map_map]; rfl
theorem VW_join1 {X : List Nat} {Q : QA} (hX : X.length ≤ 1000) (q : Q (.str (mkS X)) σ) : VW c σ [.str "", .lst (X.map fun ch => AV.str ⟨#[ch]⟩)] (fun vs => call (.builtin "str.join") vs []) Q E := by
  rw [strs_map]
  exact VW_joinL (joinOk_one X hX) (by rw [join_one]; exact q)
end Mine
namespace Mine
noncomputable def pieceAt (x : Str) (p k : Nat) : Str := mkS (((ls x).drop p).take k)
theorem at_iff (x y : Str) (p : Nat) : StrLaws.At x y x.length p ↔ p + y.length ≤ x.length ∧ (pieceAt x p y.length == y) = true := by
  unfold StrLaws.At
  rw [StrLaws.subAt_eq]
  refine and_congr_right fun _ => ?_
  constructor
  · intro h
    rw [beq_iff_eq] at h ⊢
    exact str_ext h
  · intro h
    rw [beq_iff_eq] at h ⊢
    exact congrArg ls h
theorem find3_first (x y : Str) (n : Nat) (P : Nat → Bool) (m : Nat) (hm : m = x.length + 1 - y.length) (hP : ∀ p, p < m → P p = (decide (n ≤ p) && (pieceAt x p y.length == y))) :
    Txt.find3 x y n = match ((List.range m).filter P).head? with | some p => (p : Int) | none => -1 := by
  have hf : PySem.fromIndex x.length (n : Int) = n := by
    unfold PySem.fromIndex
    rw [if_neg (by omega)]; omega
  have key : ∀ p, (n ≤ p ∧ StrLaws.At x y x.length p) ↔ (p < m ∧ P p = true) := fun p => by
    rw [at_iff]
    constructor
    · rintro ⟨h1, h2, h3⟩
      have : p < m := by omega
      exact ⟨this, by rw [hP p this, h3, decide_eq_true h1]; rfl⟩
    · rintro ⟨h1, h2⟩
      rw [hP p h1, Bool.and_eq_true] at h2
      exact ⟨of_decide_eq_true h2.1, by omega, h2.2⟩
  rw [List.head?_filter]
  unfold Txt.find3
  rw [hf]
  rcases StrLaws.occ_head_from x y n 1 (Nat.le_refl 1) with ⟨h0, hn⟩ | ⟨i, r, h0, hlo, hi, hn⟩
  · rw [h0]
    have : (List.range m).find? P = none := by
      rw [List.find?_eq_none]
      intro p hp hPp
      have := (key p).mpr ⟨List.mem_range.mp hp, hPp⟩
      exact hn p this.1 this.2
    rw [this]
  · rw [h0]
    have h1 := (key i).mp ⟨hlo, hi⟩
    have : (List.range m).find? P = some i := by
      rw [List.find?_range_eq_some]
      refine ⟨h1.2, List.mem_range.mpr h1.1, fun j hj => ?_⟩
      by_cases hPj : P j = true
      · exfalso
        have := (key j).mpr ⟨by omega, hPj⟩
        exact hn j this.1 hj this.2
      · simpa using hPj
    rw [this]
end Mine
namespace Mine
variable {w : World} {B : Heap} {c : Ctx w B} {σ : St} {Q : QA} {E : QE}
theorem VW_max {i j : Int} (hh : c.A.handled = none) (q : Q (.int (if j > i then j else i)) σ) : VW c σ [.int i, .int j] (fun vs => call (.builtin "max") vs []) Q E := fun F s _ R zq4 => by
  obtain ⟨v, _, e, ⟨t, ev⟩, v', _, e', ⟨t', ev'⟩, e2⟩ := zq4
  cases e2; subst e'; subst e; subst ev; subst ev'
  refine max_two_ints hh fun h' tk keep => ?_
  have R' := R.junk keep s.drawn tk
  by_cases h : j > i
  · rw [if_pos h] at q ⊢; exact ⟨F, σ, _, Fz.le.refl F, R', rInt, q⟩
  · rw [if_neg h] at q ⊢; exact ⟨F, σ, _, Fz.le.refl F, R', rInt, q⟩
theorem VW_min {i j : Int} (hh : c.A.handled = none) (q : Q (.int (if j < i then j else i)) σ) : VW c σ [.int i, .int j] (fun vs => call (.builtin "min") vs []) Q E := fun F s _ R zq4 => by
  obtain ⟨v, _, e, ⟨t, ev⟩, v', _, e', ⟨t', ev'⟩, e2⟩ := zq4
  cases e2; subst e'; subst e; subst ev; subst ev'
  refine min_two_ints hh fun h' tk keep => ?_
  have R' := R.junk keep s.drawn tk
  by_cases h : j < i
  · rw [if_pos h] at q ⊢; exact ⟨F, σ, _, Fz.le.refl F, R', rInt, q⟩
  · rw [if_neg h] at q ⊢; exact ⟨F, σ, _, Fz.le.refl F, R', rInt, q⟩
theorem ItW_rngI (n : Int) (hh : c.A.handled = none) (hn : -1000 ≤ n ∧ n ≤ 1000) : ItW c σ (.rng n) n.toNat (fun i => .int i) := fun F s v Q E R zq6 k => by
  obtain ⟨a, t, u, z, ev, f⟩ := zq6
  by_cases h0 : 0 ≤ n
  · obtain ⟨m, rfl⟩ : ∃ m : Nat, n = m := ⟨n.toNat, by omega⟩
    rw [Int.toNat_natCast] at k
    exact ItW_rng m hh (by omega) F s v Q E R ⟨a, t, u, z, ev, f⟩ k
  subst ev
  have hz : n.toNat = 0 := by omega
  rw [hz] at k
  have f1 : ∀ i : Int, -1000000 ≤ i → i ≤ 1000000 → Builtin.Range.rangeFitsLong i = true := by
    intro i h1 h2
    unfold Builtin.Range.rangeFitsLong
    simp only [Bool.and_eq_true, decide_eq_true_eq]
    omega
  have hr : Builtin.Range.rangeSize 0 n 1 = 0 := by
    unfold Builtin.Range.rangeSize
    simp; omega
  have hs : Builtin.Range.small 0 n 1 = true := by
    unfold Builtin.Range.small
    rw [hr]
    simp only [Bool.and_eq_true, Bool.or_eq_true]
    refine ⟨⟨⟨⟨f1 _ (by omega) (by omega), f1 _ (by omega) (by omega)⟩, f1 _ (by omega) (by omega)⟩, f1 _ (by omega) (by omega)⟩, ?_⟩
    first
      | exact .inl (by decide)
      | (right; split <;> exact f1 _ (by omega) (by omega))
  refine wpAny_pyIter_range (R.cr.fz _ _ f) hs ?_
  rw [hr]
  refine k { cls := .type "range_iterator", data := .fields #[rawInt 0, rawInt 0, rawInt 1] } (fun i o => o = { cls := .type "range_iterator", data := .fields #[rawInt 0, rawInt 0, rawInt 1] }) ⟨fun i o e es k => by rw [e]; simp, fun i hi => absurd hi (Nat.not_lt_zero _), fun s o Q E fz g e k => ?_⟩ rfl rfl fun s' Q E g q => wpAny_pyIter_rangeiter g q
  subst e
  exact wpAny_pyNext_range_end hh g (by omega) fun h' hs => k h' hs
theorem pyL_ints : ∀ X : List Int, pyL (X.map .int) = X.map .int
  | [] => rfl
  | x :: X => by
    show AV.py (.int x) :: pyL (X.map .int) = _
    rw [pyL_ints X]; rfl
theorem datL_ints : ∀ X : List Int, datL (X.map .int) = true
  | [] => rfl
  | x :: X => by show (true && datL (X.map .int)) = true; rw [datL_ints X]; rfl
theorem lay_ints : ∀ X : List Int, PyData.canLayAll0 (X.map .int) = true
  | [] => rfl
  | x :: X => by
    simp only [List.map_cons, PyData.canLayAll0, PyData.canLay0, lay_ints X, Bool.and_self]
theorem depth_ints : ∀ X : List Int, PyData.depthAll (X.map .int) ≤ 1
  | [] => by simp [PyData.depthAll]
  | x :: X => by
    have := depth_ints X
    simp only [List.map_cons, PyData.depthAll, PyData.depth]
    omega
theorem shaped_ints (X : List Int) : SeqAt.shaped (AV.lst (X.map .int)).py = true := by
  show (PyData.canLay0 (.list (pyL (X.map .int))) && decide (PyData.depth (.list (pyL (X.map .int))) ≤ 64)) = true
  rw [pyL_ints]
  have := depth_ints X
  simp only [PyData.canLay0, lay_ints, PyData.depth, Bool.true_and]
  exact decide_eq_true (by omega)
theorem BW_neL0 {X : List Int} (hk : 8 ≤ c.k) (q : Q (.bool (!X.isEmpty)) σ) : BW c σ (.lst (X.map .int)) (.lst []) (compareOp .NotEq) Q E := by
  refine BW_neD (by simp only [AV.dat, datL_ints]) rfl (shaped_ints X) rfl hk ?_
  have : PyData.eqv (AV.lst (X.map .int)).py (AV.lst []).py = X.isEmpty := by
    show PyData.eqv (.list (pyL (X.map .int))) (.list []) = _
    rw [pyL_ints]
    cases X <;> simp [PyData.eqv, PyData.eqvAll]
  rw [this]; exact q
theorem BW_neNil (hk : 8 ≤ c.k) (q : Q (.bool false) σ) : BW c σ (.lst []) (.lst []) (compareOp .NotEq) Q E := BW_neL0 (X := []) hk q
end Mine
namespace Mine
variable {w : World} {B : Heap} {c : Ctx w B} {σ : St} {Q : QA} {E : QE}
theorem Dct.nin_f {K : Type} [DecidableEq K] {knd : PySem.KeyKind PG w K} {mk : List (K × AV) → HObj} {key : K → AV} {d : Addr} {es : List (K × AV)} {k : K} (T : Dct w K knd mk key) (m : (d, mk es) ∈ σ.H) (n : k ∉ es.map (·.1)) (q : Q (.bool true) σ) : BW c σ (key k) (.val (.ref d)) (compareOp .NotIn) Q E := fun F s u v R ev eu => by
  cases eu
  obtain ⟨kvs, D, r, ne⟩ := T.at R m
  refine wpAny_notIn_of (T.is F k u ev) ne D.mapOf ?_
  rw [valueAt_none (r.keys ▸ n)]
  exact handT R rBool q _ _
theorem BW_ninI {d : Addr} {es : List (Int × AV)} {k : Int} (m : (d, .dctI es) ∈ σ.H) (n : KAbs k es) (q : Q (.bool true) σ) : BW c σ (.int k) (.val (.ref d)) (compareOp .NotIn) Q E := (dctI w).nin_f m n.ok q
theorem HUpd.app {a : Addr} {h h' : HObj} {H H' : HS} : ∀ (A : HS), HUpd a h h' H H' → HUpd a h h' (A ++ H) (A ++ H')
  | [], u => u
  | _ :: A, u => .tail (HUpd.app A u)
end Mine
namespace Mine
variable {w : World} {B : Heap} {c : Ctx w B} {σ : St} {E : QE}
theorem owned_go {elts : List Expr} {x1} {pos : Pos} {I : Addr} {v : Value} {A : Around} {o : Obj} {vs : Array Value} {Q : Unit → Shared → Prop} {E : Value → Shared → Prop} {s : Shared} (g : s.heap.get? I = some o) (hc : o.cls = .type "tuple_iterator") (hd : o.data = .fields vs) (hQ : Q () s) :
    wpAny (MW w) A (letOwnedTupleGo (.Tuple elts x1 pos) (.ref I) v) Q E s := by
  unfold letOwnedTupleGo
  cases v
  case ref a =>
    refine wpAny_bind (wpAny_load g ?_)
    rw [hc, hd]
    show wpAny _ A (if (["enumerate", "zip", "dict_itemiterator", "dict_reverseitemiterator", "odict_iterator", "itertools.zip_longest", "itertools.pairwise"].contains "tuple_iterator" &&
        vs[0]? == some (rawInt a)) = true then _ else _) Q E s
    rw [if_neg (by
      intro h
      rw [show (["enumerate", "zip", "dict_itemiterator", "dict_reverseitemiterator", "odict_iterator", "itertools.zip_longest", "itertools.pairwise"].contains "tuple_iterator") = false from by decide, Bool.false_and] at h
      cases h)]
    exact wpAny_pure hQ
  all_goals exact wpAny_pure hQ
theorem For_coreT {c : Ctx w B} {σ : St} {Q : QF} {target : Expr} {body : List Stmt} {I : Addr} {n : Nat} {item : Nat → AV} {it : Nat → Obj → Prop} {F : Fz} {s : Shared} {o : Obj} {E' : Value → Shared → Prop}
    (hit : Iter w c.A F I n item it) (ap : Apart c I) (R : Rep (c.guard (I, o)) F σ s) (ho : it 0 o) (ob : ForOb c σ n item target body Q)
    (hl : ∀ (s : Shared) (o : Obj) (i : Nat) (v : Value) (Q : Unit → Shared → Prop) (E : Value → Shared → Prop), s.heap.get? I = some o → it i o → Q () s → wpAny (MW w) c.A (letOwnedTupleGo target (.ref I) v) Q E s) :
    codeAny (MW w) c.A (.forLoop target (.ref I) body [] c.env) (fun r s' => match r with | .ok f => PostF c F Q f s' | .error e => E' e s') s := by
  obtain ⟨Inv, h0, step, fin⟩ := ob
  refine codeAny_forLoop_any (fun k s' => ∃ i F' σ' o', i ≤ n ∧ k = n + 1 - i ∧ F.le F' ∧ Rep (c.guard (I, o')) F' σ' s' ∧ it i o' ∧ Inv i σ') (fun k s' ⟨i, F', σ', o', hi, hk, l, R', hit', hI⟩ => ?_) (n + 1) ⟨0, F, σ, o, Nat.zero_le _, rfl, Fz.le.refl F, R, ho, h0⟩
  have fz : ∀ a o, F a = some o → s'.heap.get? a = some o := fun a o e => R'.cr.fz _ _ (l a o e)
  have gI := (R'.gd (I, o') (.head _)).1
  by_cases hlt : i < n
  · refine hit.next i hlt s' o' _ _ fz gI hit' fun v h' tk o2 hs e2 hit2 rv => ?_
    refine hl _ o2 (i + 1) v _ _ e2 hit2 ?_
    have R2 := R'.reguard ap hs e2 (hit.nd _ _ hit2) s'.drawn tk
    have st := step i σ' hlt hI (c.guard (I, o2)) rfl rfl rfl F' _ v R2 (rv F' l)
    refine wpAny_mono st (fun _ s₂ zz => zz.elim fun F₂ σ₂ l₂ R₂ h₂ => ?_) fun _ _ ⟨_, _, _, _, _, _, x⟩ => x.elim
    refine wpAny_mono (h₂ F₂ s₂ R₂) (fun f s₃ zz => zz.elim fun F₃ σ₃ a l₃ R₃ r₃ h₃ => ?_) fun _ _ ⟨_, _, _, _, _, _, x⟩ => x.elim
    have lt := (l.trans l₂).trans l₃
    cases a with
    | next => cases r₃; obtain ⟨σ₄, hw, hI'⟩ := h₃; exact ⟨n + 1 - (i + 1), by omega, i + 1, F₃, σ₄, o2, hlt, rfl, lt, R₃.weak hw, hit2, hI'⟩
    | cont => cases r₃; obtain ⟨σ₄, hw, hI'⟩ := h₃; exact ⟨n + 1 - (i + 1), by omega, i + 1, F₃, σ₄, o2, hlt, rfl, lt, R₃.weak hw, hit2, hI'⟩
    | brk => cases r₃; exact ⟨F₃, σ₃, .next, lt, R₃.unguard, rNext, h₃⟩
    | ret a => obtain ⟨v, rfl, r⟩ := r₃; exact ⟨F₃, σ₃, .ret a, lt, R₃.unguard, rRet r, h₃⟩
  · have hn : i = n := by omega
    subst hn
    refine hit.last s' o' _ _ fz gI hit' fun h' hs => wpAny_execs_nil ?_
    exact ⟨F', σ', .next, l, R'.off ap hs _ _, rNext, fin σ' hI⟩
theorem For_tupT {c : Ctx w B} {σ : St} {Q : QF} {E : QE} {elts : List Expr} {x1} {pos : Pos} {body : List Stmt} {l : List AV} (hh : c.A.handled = none) (ob : ForOb c σ l.length (fun i => (l[i]?).getD .none) (.Tuple elts x1 pos) body Q) : ForW c σ (.tup l) (.Tuple elts x1 pos) body Q E := fun F s v R zq4 => by
  obtain ⟨a, vs, k, ev, f, rl⟩ := zq4
  subst ev
  have ht : ∀ s : Shared, (∀ a o, F a = some o → s.heap.get? a = some o) → s.heap.IsTuple a ⟨vs⟩ := fun s fz => ⟨_, fz _ _ f, rfl, k, rfl⟩
  refine wpAny_pyIter_tuple (ht s R.cr.fz) ?_
  obtain ⟨ap, R'⟩ := R.guardNew { cls := .type "tuple_iterator", data := .fields #[.ref a, .int 0 0] } rfl (fun _ _ e => by cases e) s.drawn s.toks
  refine For_coreT (it := fun i o => o.cls = .type "tuple_iterator" ∧ o.data = .fields #[.ref a, .int i 0]) ⟨fun i o e es k => by rw [e.2]; simp, fun i hi s o Q E fz g e kk => ?_, fun s o Q E fz g e kk => ?_⟩ ap R' ⟨rfl, rfl⟩ ob (fun s o i v Q E g e q => owned_go g e.1 e.2 q)
  · have hi' : i < vs.length := by rw [rl.length]; exact hi
    obtain ⟨y, ey, ry⟩ := rl.get i l[i] (by simp [hi])
    refine wpAny_pyNext_tuple_item ⟨o, g, e.1, e.2⟩ (ht s fz) (toArr_get.trans ey) fun h' ⟨o', g', c', d'⟩ hs => kk _ _ _ o' hs.extBut g' ⟨c', d'⟩ fun G le => ?_
    simp only [List.getElem?_eq_getElem hi, Option.getD_some]
    exact Rel.mono le _ _ ry
  · exact wpAny_pyNext_tuple_end hh ⟨o, g, e.1, e.2⟩ (ht s fz) (by rw [toArr_get]; exact List.getElem?_eq_none (by rw [rl.length]; exact Nat.le_refl _)) fun h' hs => kk h' hs
noncomputable def rowAV (p : Str × Int) : AV := .tup [.str p.1, .int p.2]
noncomputable def textRows : List (Str × Int) := [("charAt", 201), ("indexOf", 202), ("includes", 203), ("slice", 204), ("toUpperCase", 205), ("toLowerCase", 206), ("concat", 207)]
noncomputable def numRows : List (Str × Int) := [("toString", 301)]
theorem base_row {P : Params} {F : Fz} (k : ∀ a o, (KF P).lookup a = some o → F a = some o) {a : Addr} {x : Str} {t : Tok} {i : Int} {u : Tok} (e : (KF P).lookup a = some ⟨.type "tuple", none, .seq #[.str x t, .int i u] 0, #[]⟩) : Rel F (rowAV (x, i)) (.ref a) :=
  ⟨a, _, 0, rfl, k _ _ e, _, _, rfl, ⟨t, rfl⟩, _, _, rfl, ⟨u, rfl⟩, rfl⟩
theorem g_textRows (W : Wd w B) : GI B "TEXT_LIB" (.tup (textRows.map rowAV)) := ⟨_, glob_of W (gGet _ 44 rfl), fun F k => by
  have k' : ∀ a o, (KF w.params).lookup a = some o → F a = some o := fun a o e => k _ _ (W.K _ _ e)
  exact ⟨425, _, 0, rfl, k' 425 _ rfl, _, _, rfl, base_row k' (x := "charAt") rfl, _, _, rfl, base_row k' (x := "indexOf") rfl, _, _, rfl, base_row k' (x := "includes") rfl, _, _, rfl, base_row k' (x := "slice") rfl, _, _, rfl, base_row k' (x := "toUpperCase") rfl, _, _, rfl, base_row k' (x := "toLowerCase") rfl, _, _, rfl, base_row k' (x := "concat") rfl, rfl⟩⟩
theorem g_numRows (W : Wd w B) : GI B "NUMBER_LIB" (.tup (numRows.map rowAV)) := ⟨_, glob_of W (gGet _ 47 rfl), fun F k => by
  have k' : ∀ a o, (KF w.params).lookup a = some o → F a = some o := fun a o e => k _ _ (W.K _ _ e)
  exact ⟨427, _, 0, rfl, k' 427 _ rfl, _, _, rfl, base_row k' (x := "toString") rfl, rfl⟩⟩
theorem StW_tup {elts : List Expr} {k : Nat} {tpos : Pos} {l : List AV} {Q : St → Prop} (hh : c.A.handled = none) (h : ∃ l', AV.tup l = .tup l' ∧ elts.length = l'.length ∧ AW c σ ((assignEach elts c.env).map (·.2)) l' Q E)
    (hn : ∀ env, (assignEach elts env).length = elts.length ∧ List.findIdx? (fun x => x.fst) (assignEach elts env) = none := by intro _; exact ⟨by with_unfolding_all rfl, by with_unfolding_all rfl⟩) : StW c σ (.tup l) (assign (.Tuple elts k tpos) c.env) Q E := fun F s v R r => by
  obtain ⟨l', e, hl, h₁⟩ := h
  cases e
  obtain ⟨ad, vs, n, rfl, f, rl⟩ := r
  show wpAny (MW w) c.A (do standAt tpos; unpack (.ref ad) (assignEach elts c.env)) _ _ _
  refine wpAny_bind (wpAny_standAt ?_)
  have hlen : vs.length = l.length := rl.length
  refine unpack_tuple hh (items := ⟨vs⟩) ⟨_, R.cr.fz _ _ f, rfl, n, rfl⟩ ((hn _).1.trans (hl.trans hlen.symm)) (hn _).2 fun h' he => ?_
  have R₂ := R.junk (h' := h') (fun a o e => he a o (fun z => by rw [z, get_size] at e; cases e) e) s.drawn s.toks
  exact h₁ F _ vs R₂ rl
end Mine
namespace Mine
variable {w : World} {B : Heap} {c : Ctx w B} {σ : St} {E : QE}
noncomputable def RelP (F : Fz) : List (Str × AV) → List (Value × Value) → Prop
  | [], vs => vs = []
  | (x, a) :: l, vs => ∃ kv v vs', vs = (kv, v) :: vs' ∧ Rel F (.str x) kv ∧ Rel F a v ∧ RelP F l vs'
theorem RelP.carry {F : Fz} : ∀ {l : List (Str × AV)} {vs : List (Value × Value)}, RelP F l vs → ∃ kvs : List (Str × Value), Carries (PySem.strKind PG w) vs kvs ∧ RelKV F l kvs ∧ kvs.map (·.1) = l.map (·.1)
  | [], _, e => by cases e; exact ⟨[], trivial, rfl, rfl⟩
  | (x, a) :: l, _, ⟨kv, v, vs', e, r1, r2, r3⟩ => by
    subst e
    obtain ⟨kvs, h1, h2, h3⟩ := RelP.carry r3
    exact ⟨(x, v) :: kvs, ⟨(dctS w).is F x kv r1, rfl, h1⟩, ⟨v, kvs, rfl, r2, h2⟩, by rw [List.map_cons, List.map_cons, h3]⟩
inductive PostP (c : Ctx w B) (F : Fz) (Q : List (Str × AV) → St → Prop) (l : List (Value × Value)) (s : Shared) : Prop
  | mk (F' : Fz) (σ : St) (xs : List (Str × AV)) (le : F.le F') (R : Rep c F' σ s) (r : RelP F' xs l) (q : Q xs σ)
theorem PostP.elim {F : Fz} {Q : List (Str × AV) → St → Prop} {l : List (Value × Value)} {s : Shared} {X : Prop} (h : PostP c F Q l s) (k : ∀ F' σ a, F.le F' → Rep c F' σ s → RelP F' a l → Q a σ → X) : X := by
  cases h; apply k <;> assumption
noncomputable def PaW (c : Ctx w B) (σ : St) (ks : List (Option Expr)) (vs : List Expr) (pos : Pos) (Q : List (Str × AV) → St → Prop) (E : QE) : Prop := ∀ F s, Rep c F σ s →
  wpAny (MW w) c.A (evalPairs (pairTrees ks vs c.env pos)) (PostP c F Q) (PostE c F E) s
theorem PaW_nil {pos : Pos} {Q : List (Str × AV) → St → Prop} (q : Q [] σ) : PaW c σ [] [] pos Q E := fun F s R => pairTrees_nil_walk ⟨F, σ, [], Fz.le.refl F, R, rfl, q⟩
theorem PaW_cons {k v : Expr} {ks : List (Option Expr)} {vs : List Expr} {pos : Pos} {Q : List (Str × AV) → St → Prop}
    (h : EW c σ (eval k c.env) (fun a σ₁ => ∃ x, a = .str x ∧ EW c σ₁ (eval v c.env) (fun b σ₂ => PaW c σ₂ ks vs pos (fun l => Q ((x, b) :: l)) E) E) E) : PaW c σ (some k :: ks) (v :: vs) pos Q E := fun F s R => by
  refine pairTrees_cons_walk (wpAny_mono (h F s R) (fun kv s₁ zz => zz.elim fun F₁ σ₁ a l₁ R₁ r₁ ⟨x, ea, h₁⟩ => ?_) fun _ _ e => e)
  subst ea
  refine wpAny_mono (h₁ F₁ s₁ R₁) (fun v s₂ zz => zz.elim fun F₂ σ₂ b l₂ R₂ r₂ h₂ => ?_) fun _ _ e => e.mono l₁
  refine wpAny_mono (h₂ F₂ s₂ R₂) (fun l s₃ zz => zz.elim fun F₃ σ₃ xs l₃ R₃ r₃ h₃ => ?_) fun _ _ e => e.mono (l₁.trans l₂)
  exact ⟨F₃, σ₃, (x, b) :: xs, (l₁.trans l₂).trans l₃, R₃, ⟨kv, v, l, rfl, Rel.mono (l₂.trans l₃) _ _ r₁, Rel.mono l₃ _ _ r₂, r₃⟩, h₃⟩
theorem EW_DictP {ks : List (Option Expr)} {vs : List Expr} {pos : Pos} {Q : QA} (h : ∀ d, PaW c ⟨σ.loc, (d, .dctS []) :: σ.H⟩ ks vs pos (fun l σ' => ∃ H', HUpd d (.dctS []) (.dctS l) σ'.H H' ∧ (l.map (·.1)).Nodup ∧ l.length ≤ 1000 ∧ Q (.val (.ref d)) ⟨σ'.loc, H'⟩) E)
    (hall : autoParam (ks.all (·.isSome) = true) rr) (hl : autoParam (ks.length = vs.length) rr) (h0 : ks ≠ [] := by simp) (hlen : ks.length ≤ 15 := by decide) : EW c σ (eval (.Dict ks vs pos) c.env) Q E := fun F s R => by
  refine wpAny_Dict_any hall hl h0 hlen ?_
  have R0 := R.alloc (.dctS []) emptyDict ⟨[], 0, rfl, [], (fun e he => by simp at he), .nil, rfl, List.nodup_nil⟩ rfl s.drawn s.toks
  refine wpAny_mono (h s.heap.objs.size F _ R0) (fun l s₁ zz => zz.elim fun F₁ σ₁ xs l₁ R₁ r₁ ⟨H', u, nd, hx, q⟩ => ?_) fun _ _ e => e
  obtain ⟨kvs, D, r, ne⟩ := (dctS w).at R₁ u.mem
  cases r
  obtain ⟨kvs', cr, rk, ek⟩ := r₁.carry (w := w)
  have hkl : kvs'.length = xs.length := by have := congrArg List.length ek; simpa using this
  refine PySem.wpAny_storeAll (knd := PySem.strKind PG w) l kvs' [] s₁ _ cr D (by rw [sizeLine_eq, List.length_nil]; omega) fun h' D' hs => ?_
  rw [merged_nil_of_nodup kvs' (by rw [ek]; exact nd)] at D'
  obtain ⟨ds, n, e, ekk⟩ := EntK.of D' rk
  exact ⟨F₁, _, _, l₁, R₁.upd u hs e (((dctS w).rel F₁ xs _).mpr ⟨ds, n, rfl, ekk⟩) _ _, rVal, q⟩
theorem BW_eqHot {ad : Addr} {l : List AV} {b : AV} {Q : QA} (m : (ad, .lst l) ∈ σ.H) (ha : datL l = true) (hb : b.dat = true) (sa : SeqAt.shaped (AV.lst l).py = true) (sb : SeqAt.shaped b.py = true) (hk : 8 ≤ c.k) (q : Q (.bool (PyData.eqv (AV.lst l).py b.py)) σ) : BW c σ (.val (.ref ad)) b (compareOp .Eq) Q E := fun F s u v R ra rb => by
  cases ra
  obtain ⟨_, o, eo, vs, n, rfl, rl⟩ := R.cr.hot _ m
  obtain ⟨as, x⟩ := RelL.reads R.cr.fz l vs ha rl
  obtain ⟨bs, y⟩ := Rel.reads R.cr.fz b v hb rb
  have := R.ok.units
  exact SeqAt.compareEq_shaped (Reads.list eo rfl rfl x) y sa sb (by omega) (hand R rBool q)
end Mine
namespace Mine
variable {w : World} {B : Heap} {c : Ctx w B} {σ : St} {Q : QA} {E : QE}
theorem EW_AndC {x y z : Expr} {r : List Expr} {pos : Pos} (h : EW c σ (eval x c.env) (fun a σ₁ => TU c σ₁ a (fun b σ₂ => (b = true → EW c σ₂ (eval (.BoolOp .And (y :: z :: r) pos) c.env) Q E) ∧ (b = false → Q a σ₂)) E) E) : EW c σ (eval (.BoolOp .And (x :: y :: z :: r) pos) c.env) Q E := fun F s R => by
  refine BoolOp_and (wpAny_mono (h F s R) (fun v s₁ zz => zz.elim fun F₁ σ₁ a l₁ R₁ r₁ h₁ => ?_) fun _ _ e => e)
  refine wpAny_mono (h₁ F₁ s₁ v R₁ r₁) (fun b s₂ zz => zz.elim fun F₂ σ₂ l₂ R₂ h₂ => ?_) fun _ _ e => e.mono l₁
  cases b with
  | true => exact wkV (l₁.trans l₂) (h₂.1 rfl F₂ s₂ R₂)
  | false => exact ⟨F₂, σ₂, a, l₁.trans l₂, R₂, Rel.mono l₂ _ _ r₁, h₂.2 rfl⟩
end Mine
namespace Mine
variable {w : World} {B : Heap} {c : Ctx w B} {σ : St} {Q : QA} {E : QE} {e l r : Expr} {a b : AV} {i j : Int} {pos : Pos}
noncomputable def notStar : Expr → Bool
  | .Starred .. => false
  | _ => true
theorem star_ok {es : List Expr} {env : Env} (h : notStar e = true) : starEach (e :: es) env = (false, eval e env) :: starEach es env := by
  cases e <;> first | (with_unfolding_all rfl; done) | cases h
noncomputable def subOn : Expr → Bool
  | .Name .. => true
  | .Constant .. => true
  | .BinOp .. => true
  | .Subscript .. => true
  | .Attribute .. => true
  | .Call .. => true
  | .UnaryOp .. => true
  | _ => false
theorem sub_ok {slice : Expr} (h : subOn slice = true) : ∀ o i, subscripted slice false o i = operate [o, i] (getItem o i) := by
  intro o i
  cases slice <;> first | (with_unfolding_all rfl; done) | cases h
variable {Q : QF} {rest : List Stmt}
noncomputable def noComp : Expr → Bool
  | .ListComp .. => false
  | .SetComp .. => false
  | .DictComp .. => false
  | _ => true
theorem swap_ok {value : Expr} {t : Option Expr} {n : Nat} {env : Env} (h : noComp value = true) : swapsWith value t n env = pure false := by
  cases value <;> first | (with_unfolding_all rfl; done) | cases h
end Mine
namespace Mine
variable {w : World} {B : Heap}
noncomputable def fnD (q : Str) (dv : Value) (pm : Str) (pt : Nat) (code : Addr) (n : Str) (a : Arguments) (b : List Stmt) (sc : Scope) : FuncData := { name := n, qualname := q, params := a, body := .stmts b, scope := sc, globals := 3, closure := [], defaults := dv, kwdefaults := .none, pyModule := .str pm pt, code := .ref code }
noncomputable def allN : Nat → (List Value → Prop) → Prop
  | 0, P => P []
  | n + 1, P => ∀ v, allN n fun l => P (v :: l)
theorem allN_ok : ∀ {n : Nat} {P : List Value → Prop}, allN n P → ∀ vs : List Value, vs.length = n → P vs
  | 0, _, h, [], _ => h
  | 0, _, _, _ :: _, e => nomatch e
  | _ + 1, _, _, [], e => nomatch e
  | _ + 1, _, h, v :: vs, e => allN_ok (h v) vs (Nat.succ.inj e)
section
variable {k : Nat} {H : HS} {fa : Addr} {l : List AV} {Q : AV → HS → Prop} {E : AE → HS → Prop} {n : Str} {a : Arguments} {body : List Stmt} {d : List Expr} {r : Option Expr} {tp : List TypeParam} {sc : Scope} {ts : Option Scope} {bi : Str} {p : Pos}
  (s : Stmt) (q : Str) (dv : Value) (pm : Str) (pt : Nat) (code : Addr)
theorem fn_at {s : Stmt} {q : Str} {dv : Value} {pm : Str} {pt : Nat} {code : Addr} (hs : s = .FunctionDef n a body d r tp sc ts bi p) (ho : ∀ w : World, (KF w.params).lookup fa = some (fnO s q dv pm pt code)) :
    ∀ w : World, (KF w.params).lookup fa = some ⟨.type "function", none, .func (fnD q dv pm pt code n a body sc), #[]⟩ := fun w => (ho w).trans (by subst hs; rfl)
end
end Mine
namespace Mine
set_option genCtorIdx false
set_option genInjectivity false
set_option genSizeOfSpec false
set_option genSizeOf false
inductive B2 where
  | bin (op : Operator) | cmp (op : CmpOp) | aug (op : Operator)
noncomputable def B2.f : B2 → Value → Value → Sem Value
  | .bin op => binaryOp op
  | .cmp op => compareOp op
  | .aug op => inplaceOp op
inductive U1 where
  | un (op : UnaryOp) | attr (n : Str)
noncomputable def U1.f : U1 → Value → Sem Value
  | .un op => unaryOp op
  | .attr n => fun v => getAttr v n true
inductive Rt where
  | v (a : AV) | l (l : List AV) | t (b : Bool) | f (f : AF)
inductive Fr where
  | l2 (o : B2) (r : Expr) | r2 (o : B2) (a : AV) | u1 (o : U1) | lc (pos : Pos) (es : List Expr) | la (a : AV) | tup | callP (f : Value) (l : List AV) | meth (pos : Pos) (args : List Expr) (n : Str)
  | subL (s : Expr) | subR (a : AV) | slV (lo hi st : Option Expr) | slL (hi st : Option Expr) (a : AV) | slH (st : Option Expr) (a b : AV) | slS (st : Option Expr) (a b d : AV)
  | tu | notT | andT (es : List Expr) | orT (es : List Expr) | ifx (b o : Expr) | asg (x : Str) | ret | ite (b o : List Stmt) | seq (ss : List Stmt) | expr
  | vA (o : Expr) (n : Str) | oA (n : Str) (b : AV) | vS (o i : Expr) | oS (i : Expr) (b : AV) | iS (a b : AV) | lst (h : Bool) | unp (ts : List Expr)
  | boV (op : BoolOp) (es : List Expr) (p : Pos) | boR (op : BoolOp) (es : List Expr) (p : Pos) (a : AV) | chL (op1 op2 : CmpOp) (r1 r2 : Expr) | chR (op1 op2 : CmpOp) (r2 : Expr) (a : AV) | chT (op2 : CmpOp) (r2 : Expr) (b : AV)
inductive Ctl where
  | e (x : Expr) | pw (x : Option Expr) | ls (pos : Pos) (es : List Expr) | tst (x : Expr) | all (op : BoolOp) (es : List Expr) | ss (l : List Stmt) | x (s : Stmt) | r (v : Rt) | bd (b : Bool)
  | b2 (o : B2) (a b : AV) | u1 (o : U1) (a : AV) | call (f : Value) (l : List AV) | meth (pos : Pos) (args : List Expr) (a : AV) (n : Str)
  | sub (a b : AV) | sl (st : Option Expr) (a b d g : AV) | tu (a : AV) | stn (x : Str) (a : AV)
  | sa (a b : AV) (n : Str) | si (a i b : AV) | lh (l : List AV) | aw (ts : List Expr) (l : List AV)
structure Cf where
  c : Ctl
  K : List Fr
  loc : Loc
  H : HS
noncomputable abbrev Cf.σ (k : Cf) : St := ⟨k.loc, k.H⟩
noncomputable def boRest (op : BoolOp) (p : Pos) : List Expr → Expr
  | [y] => y
  | es => .BoolOp op es p
noncomputable def BoolOp.ex : BoolOp → Bool
  | .And => false
  | .Or => true
section
variable {w : World} {B : Heap}
noncomputable def SubA (c : Ctx w B) (σ : St) (a b : AV) (Q : QA) (E : QE) : Prop := ∀ (v s : Expr), (∀ o i, subscripted s false o i = operate [o, i] (getItem o i)) → BW c σ a b (subscriptTail v s) Q E
noncomputable def SlA (c : Ctx w B) (σ : St) (st : Option Expr) (a b d g : AV) (Q : QA) (E : QE) : Prop := ∀ (v : Expr) (lo hi : Option Expr) (p : Pos), SlW c σ v (.Slice lo hi st p) a b d g Q E
noncomputable def chK (c : Ctx w B) (E : QE) (k : Rt → St → Prop) (op2 : CmpOp) (r2 : Expr) (b : AV) (t : Bool) (ω : St) : Prop :=
  (t = true → EW c ω (eval r2 c.env) (fun d σ₅ => BW c σ₅ b d (compareOp op2) (fun y σ₆ => TU c σ₆ y (fun t ω => k (.t t) ω) E) E) E) ∧ (t = false → k (.t false) ω)
noncomputable def frM (c : Ctx w B) (E : QE) (k : Rt → St → Prop) : Fr → Rt → St → Prop
  | .l2 o r, .v a, σ => EW c σ (eval r c.env) (fun b τ => BW c τ a b o.f (fun d υ => k (.v d) υ) E) E
  | .r2 o a, .v b, σ => BW c σ a b o.f (fun d υ => k (.v d) υ) E
  | .u1 o, .v a, σ => UW c σ a o.f (fun d υ => k (.v d) υ) E
  | .lc pos es, .v a, σ => LW c σ pos es (fun l τ => k (.l (a :: l)) τ) E
  | .la a, .l l, σ => k (.l (a :: l)) σ
  | .tup, .l l, σ => l.length ≤ 1000 ∧ k (.v (.tup l)) σ
  | .meth pos args n, .v a, σ => MethW c σ pos args a n (fun d υ => k (.v d) υ) E
  | .subL s, .v a, σ => EW c σ (eval s c.env) (fun b τ => SubA c τ a b (fun d υ => k (.v d) υ) E) E
  | .subR a, .v b, σ => SubA c σ a b (fun d υ => k (.v d) υ) E
  | .slV lo hi st, .v a, σ => PW c σ lo (fun b τ => PW c τ hi (fun d υ => PW c υ st (fun g ω => SlA c ω st a b d g (fun d υ => k (.v d) υ) E) E) E) E
  | .slL hi st a, .v b, σ => PW c σ hi (fun d υ => PW c υ st (fun g ω => SlA c ω st a b d g (fun d υ => k (.v d) υ) E) E) E
  | .slH st a b, .v d, σ => PW c σ st (fun g ω => SlA c ω st a b d g (fun d υ => k (.v d) υ) E) E
  | .slS st a b d, .v g, σ => SlA c σ st a b d g (fun d υ => k (.v d) υ) E
  | .tu, .v a, σ => TU c σ a (fun t υ => k (.t t) υ) E
  | .notT, .t b, σ => k (.t (!b)) σ
  | .andT es, .t b, σ => (b = true → TW c σ (allTrue .And es c.env) (fun t υ => k (.t t) υ) E) ∧ (b = false → k (.t false) σ)
  | .orT es, .t b, σ => (b = true → k (.t true) σ) ∧ (b = false → TW c σ (allTrue .Or es c.env) (fun t υ => k (.t t) υ) E)
  | .ifx b o, .t t, σ => (t = true → EW c σ (eval b c.env) (fun d υ => k (.v d) υ) E) ∧ (t = false → EW c σ (eval o c.env) (fun d υ => k (.v d) υ) E)
  | .asg x, .v a, σ => StW c σ a (fun v => storeName c.env x v) (fun τ => k (.f .next) τ) E
  | .ret, .v a, σ => k (.f (.ret a)) σ
  | .ite b o, .t t, σ => (t = true → SW c σ b (fun f τ => k (.f f) τ) E) ∧ (t = false → SW c σ o (fun f τ => k (.f f) τ) E)
  | .seq ss, .f f, σ => Kn c ss (fun f τ => k (.f f) τ) E f σ
  | .expr, .v a, σ => a = .none ∧ k (.f .next) σ
  | .callP f fl, .l l, σ => VW c σ (fl ++ l) (fun vs => call f vs []) (fun d υ => k (.v d) υ) E
  | .vA o n, .v b, σ => EW c σ (eval o c.env) (fun a τ => SA c τ a b n (fun υ => k (.f .next) υ) E) E
  | .oA n b, .v a, σ => SA c σ a b n (fun υ => k (.f .next) υ) E
  | .vS o i, .v b, σ => EW c σ (eval o c.env) (fun a τ => EW c τ (eval i c.env) (fun g υ => SI c υ a g b (fun ω => k (.f .next) ω) E) E) E
  | .oS i b, .v a, σ => EW c σ (eval i c.env) (fun g υ => SI c υ a g b (fun ω => k (.f .next) ω) E) E
  | .iS a b, .v g, σ => SI c σ a g b (fun ω => k (.f .next) ω) E
  | .lst false, .l l, σ => l.length ≤ 1000 ∧ k (.v (.lst l)) σ
  | .lst true, .l l, σ => l.length ≤ 1000 ∧ ∀ a, k (.v (.val (.ref a))) ⟨σ.loc, (a, .lst l) :: σ.H⟩
  | .unp ts, .v a, σ => ∃ l, a = .tup l ∧ ts.length = l.length ∧ AW c σ ((assignEach ts c.env).map (·.2)) l (fun τ => k (.f .next) τ) E
  | .boV op es p, .v a, σ => TU c σ a (fun b τ => (b = BoolOp.ex op → k (.v a) τ) ∧ (b = !BoolOp.ex op → EW c τ (eval (boRest op p es) c.env) (fun d υ => k (.v d) υ) E)) E
  | .boR op es p a, .t b, σ => (b = BoolOp.ex op → k (.v a) σ) ∧ (b = !BoolOp.ex op → EW c σ (eval (boRest op p es) c.env) (fun d υ => k (.v d) υ) E)
  | .chL op1 op2 r1 r2, .v a, σ => EW c σ (eval r1 c.env) (fun b τ => BW c τ a b (compareOp op1) (fun x υ => TU c υ x (chK c E k op2 r2 b) E) E) E
  | .chR op1 op2 r2 a, .v b, σ => BW c σ a b (compareOp op1) (fun x υ => TU c υ x (chK c E k op2 r2 b) E) E
  | .chT op2 r2 b, .t t, ω => chK c E k op2 r2 b t ω
  | _, _, _ => False
noncomputable def KM (c : Ctx w B) (E : QE) (Z : Rt → St → Prop) : List Fr → Rt → St → Prop
  | [], r, σ => Z r σ
  | fr :: K, r, σ => frM c E (KM c E Z K) fr r σ
noncomputable def MeC (c : Ctx w B) (E : QE) (k : Rt → St → Prop) (σ : St) : Ctl → Prop
  | .e x => EW c σ (eval x c.env) (fun a τ => k (.v a) τ) E
  | .pw x => PW c σ x (fun a τ => k (.v a) τ) E
  | .ls pos es => LW c σ pos es (fun l τ => k (.l l) τ) E
  | .tst x => TW c σ (isTrue x c.env (eval x c.env)) (fun b τ => k (.t b) τ) E
  | .all op es => TW c σ (allTrue op es c.env) (fun b τ => k (.t b) τ) E
  | .ss l => SW c σ l (fun f τ => k (.f f) τ) E
  | .x s => XW c σ (exec s c.env) (fun f τ => k (.f f) τ) E
  | .r v => k v σ
  | .bd b => k (.t b) σ
  | .b2 o a b => BW c σ a b o.f (fun d υ => k (.v d) υ) E
  | .u1 o a => UW c σ a o.f (fun d υ => k (.v d) υ) E
  | .call f l => VW c σ l (fun vs => call f vs []) (fun d υ => k (.v d) υ) E
  | .meth pos args a n => MethW c σ pos args a n (fun d υ => k (.v d) υ) E
  | .sub a b => SubA c σ a b (fun d υ => k (.v d) υ) E
  | .sl st a b d g => SlA c σ st a b d g (fun d υ => k (.v d) υ) E
  | .tu a => TU c σ a (fun t υ => k (.t t) υ) E
  | .stn x a => StW c σ a (fun v => storeName c.env x v) (fun τ => k (.f .next) τ) E
  | .sa a b n => SA c σ a b n (fun υ => k (.f .next) υ) E
  | .si a g b => SI c σ a g b (fun ω => k (.f .next) ω) E
  | .lh l => ∀ a, k (.v (.val (.ref a))) ⟨σ.loc, (a, .lst l) :: σ.H⟩
  | .aw ts l => AW c σ ((assignEach ts c.env).map (·.2)) l (fun τ => k (.f .next) τ) E
noncomputable def Me (c : Ctx w B) (E : QE) (Z : Rt → St → Prop) (k : Cf) : Prop := MeC c E (KM c E Z k.K) k.σ k.c
end
theorem args_ok {args : List Expr} {env : Env} (h : args.all notStar = true) : ∀ e r, args = e :: r → starEach args env = (false, eval e env) :: starEach r env := by
  rintro e r rfl
  exact star_ok (List.all_eq_true.mp h e (.head _))
theorem stars_ok {pos : Pos} {env : Env} : ∀ {args : List Expr}, args.all notStar = true → ((backTo pos (starEach args env)).any (·.1)) = false := by
  intro args
  induction args with
  | nil => intro _; rfl
  | cons e r ih =>
    intro h
    have k := Bool.and_eq_true_iff.mp (List.all_cons ▸ h)
    rw [star_ok k.1]
    exact ih k.2
theorem stars_ok2 {pos : Pos} {args : List Expr} (h : args.all notStar = true) (env : Env) : ((backTo pos (starEach args env)).any (·.1) || ([] : List (Option Str × Sem Value)).any (·.1.isNone)) = false := by
  rw [stars_ok h]; rfl
noncomputable def valE : Expr → Bool
  | .Name .. => true
  | .Subscript .. => true
  | .Call .. => true
  | .Attribute .. => true
  | _ => false
theorem valE_ok {e : Expr} {env : Env} (h : valE e = true) : isTrue e env (eval e env) = (do let v ← eval e env; standAt e.pos; holding [v] (truthy v)) := by
  cases e <;> first | (with_unfolding_all rfl; done) | cases h
noncomputable def mkOn : Expr → Bool
  | .Set .. => false
  | _ => true
theorem mk_ok {r : Expr} {op : CmpOp} (h : mkOn r = true) : behindInMarks op r = false := by
  cases r <;> first | rfl | cases h
noncomputable def baseOn : Expr → Bool
  | .Name .. => true
  | .Attribute .. => true
  | .Constant .. => true
  | .Subscript .. => true
  | _ => false
noncomputable def methSh (o : Expr) (apos pos : Pos) (args : List Expr) : Bool := args.all notStar && (Nat.blt args.length 30 && ((apos.endLine == pos.line) && baseOn o))
noncomputable def plOf (o : Expr) (env : Env) : Sem Bool := do return (← importBound o env).getD true
theorem form_ok {pos : Pos} {args : List Expr} {env : Env} (hs : args.all notStar = true) (hn : Nat.blt args.length 30 = true) : methodCallForm (args.length + 0) (backTo pos (starEach args env)) [] = true := by
  have h1 := stars_ok (pos := pos) (env := env) hs
  have h2 : (backTo pos (starEach args env)).all (!·.1) = true := by
    rw [List.all_eq_true]
    intro x hx
    have := List.any_eq_false.mp h1 x hx
    simpa using this
  unfold methodCallForm
  rw [h2]
  have : args.length < 30 := by have := Nat.le_of_ble_eq_true hn; omega
  simp [this]
theorem meth_he {o : Expr} {name : Str} {apos pos : Pos} {args : List Expr} {env : Env} (hs : args.all notStar = true) (hn : Nat.blt args.length 30 = true) (hp : (apos.endLine == pos.line) = true) (ho : baseOn o = true) :
    eval (.Call (.Attribute o name apos) args [] pos) env = (do
          let ov ← eval o env
          standAt (Pos.atName apos)
          let x ← holding [ov] (getMethod ov name (plOf o env))
          match x with
            | (f, first) => callWith pos f first (backTo pos (starEach args env)) []) := by
  have base : attributeBase o name env (eval o env) = eval o env := by cases o <;> first | rfl | cases ho
  show (do let ov ← attributeBase o name env (eval o env); standAt apos.atName; methodCall o name apos pos env ov (args.length + 0) (backTo pos (starEach args env)) []) = _
  rw [base]
  unfold methodCall calleeOf methodCallPos
  rw [form_ok hs hn, hp]
  rfl
noncomputable def findS (x : Str) : Loc → Option Slot
  | [] => none
  | (y, s) :: r => if x = y then some s else findS x r
theorem findS_mem {x : Str} {s : Slot} : ∀ {l : Loc}, findS x l = some s → (x, s) ∈ l
  | [], h => nomatch h
  | (y, t) :: r, h => by
    unfold findS at h
    split at h
    · rename_i e; cases e; cases h; exact .head _
    · exact .tail _ (findS_mem h)
noncomputable def setL (x : Str) (a : AV) : Loc → Option Loc
  | [] => none
  | (y, s) :: r => if x = y then (if s.isL then some ((y, .lv a) :: r) else none) else (setL x a r).map ((y, s) :: ·)
theorem setL_upd {x : Str} {a : AV} : ∀ {l l' : Loc}, setL x a l = some l' → ∃ s : Slot, s.isL = true ∧ LUpd x s (.lv a) l l'
  | [], _, h => nomatch h
  | (y, t) :: r, l', h => by
    unfold setL at h
    split at h
    · rename_i e
      cases e
      split at h
      · rename_i e; cases h; exact ⟨t, e, .head⟩
      · cases h
    · obtain ⟨r', h1, rfl⟩ := Option.map_eq_some_iff.mp h
      obtain ⟨s, e, u⟩ := setL_upd h1
      exact ⟨s, e, .tail u⟩
structure Go (k : Cf) where
  k' : Cf
  ok : ∀ {w : World} {B : Heap} (c : Ctx w B) (E : QE) (Z : Rt → St → Prop), Me c E Z k' → Me c E Z k
noncomputable abbrev Nx (k : Cf) : Type := Option (Go k)
noncomputable def nIf {k : Cf} (b : Bool) (n : b = true → Nx k) : Nx k := match b, n with
  | true, n => n rfl
  | false, _ => none
section
variable (loc : Loc) (H : HS) (K : List Fr)
noncomputable def nV {x : Str} {p : Pos} {s : Slot} (h : (x, s) ∈ loc) : (o : Option AV) → s.val? = o → Nx ⟨.e (.Name x p), K, loc, H⟩
  | some a, e => some ⟨⟨.r (.v a), K, loc, H⟩, fun c E Z m => EW_Name (σ := ⟨loc, H⟩) h e m⟩
  | none, _ => none
noncomputable def nName {x : Str} {p : Pos} : (o : Option Slot) → findS x loc = o → Nx ⟨.e (.Name x p), K, loc, H⟩
  | some s, e => nV loc H K (findS_mem e) s.val? rfl
  | none, _ => none
noncomputable def nConst {n : Nat} {p : Pos} : (k : Const) → Nx ⟨.e (.Constant k n p), K, loc, H⟩
  | .int i => some ⟨⟨.r (.v (.int i)), K, loc, H⟩, fun c E Z m => EW_int m⟩
  | .str i => some ⟨⟨.r (.v (.str i)), K, loc, H⟩, fun c E Z m => EW_str m⟩
  | .bool i => some ⟨⟨.r (.v (.bool i)), K, loc, H⟩, fun c E Z m => EW_bool m⟩
  | .none => some ⟨⟨.r (.v .none), K, loc, H⟩, fun c E Z m => EW_none m⟩
  | _ => none
noncomputable def nCmp {l : Expr} {p : Pos} : (ops : List CmpOp) → (cs : List Expr) → Nx ⟨.e (.Compare l ops cs p), K, loc, H⟩
  | [op], [r] => nIf (mkOn r) fun h => some ⟨⟨.e l, .l2 (.cmp op) r :: K, loc, H⟩, fun c E Z m => EW_Compare m (mk_ok h)⟩
  | _, _ => none
noncomputable def nTC {l : Expr} {p : Pos} : (ops : List CmpOp) → (cs : List Expr) → Nx ⟨.tst (.Compare l ops cs p), K, loc, H⟩
  | [op], [r] => nIf (mkOn r) fun h => some ⟨⟨.e l, .l2 (.cmp op) r :: .tu :: K, loc, H⟩, fun c E Z m => TW_Compare m (mk_ok h)⟩
  | [op1, op2], [r1, r2] => nIf (mkOn r2) fun h => some ⟨⟨.e l, .chL op1 op2 r1 r2 :: K, loc, H⟩, fun c E Z m => TW_Compare2 m (mk_ok h)⟩
  | _, _ => none
theorem TU_swap {w : World} {B : Heap} {c : Ctx w B} {a : AV} {σ : St} {Q1 Q2 : St → Prop} {E : QE} (h : TU c σ a (fun b τ => (b = false → Q2 τ) ∧ (b = true → Q1 τ)) E) : TU c σ a (fun b τ => (b = true → Q1 τ) ∧ (b = false → Q2 τ)) E :=
  fun F s v R r => wpAny_mono (h F s v R r) (fun _ _ zz => zz.elim fun F' σ' l R' q => ⟨F', σ', l, R', q.2, q.1⟩) fun _ _ z => z
theorem EW_monoQ {w : World} {B : Heap} {c : Ctx w B} {E : QE} {σ : St} {t : Sem Value} {Q Q' : QA} (h : EW c σ t Q E) (q : ∀ a σ, Q a σ → Q' a σ) : EW c σ t Q' E := h.mono q fun _ _ z => z
noncomputable def nBool {p : Pos} : (op : BoolOp) → (es : List Expr) → Nx ⟨.e (.BoolOp op es p), K, loc, H⟩
  | .And, [x, y] => some ⟨⟨.e x, .boV .And [y] p :: K, loc, H⟩, fun c E Z m => EW_And (EW_monoQ m fun a σ h => TU_swap h)⟩
  | .And, x :: y :: z :: r => some ⟨⟨.e x, .boV .And (y :: z :: r) p :: K, loc, H⟩, fun c E Z m => EW_AndC (EW_monoQ m fun a σ h => TU_swap h)⟩
  | .Or, [x, y] => some ⟨⟨.e x, .boV .Or [y] p :: K, loc, H⟩, fun c E Z m => EW_Or m⟩
  | .Or, [x, y, z] => some ⟨⟨.e x, .boV .Or [y, z] p :: K, loc, H⟩, fun c E Z m => EW_Or3 m⟩
  | _, _ => none
noncomputable def nSub {v : Expr} {p : Pos} : (s : Expr) → Nx ⟨.e (.Subscript v s p), K, loc, H⟩
  | .Slice lo hi st q => some ⟨⟨.e v, .slV lo hi st :: K, loc, H⟩, fun c E Z m => EW_Slice (EW_monoQ m fun _ _ h => EW_monoQ h fun _ _ h => EW_monoQ h fun _ _ h => EW_monoQ h fun _ _ h => h v lo hi q)⟩
  | s => nIf (subOn s) fun e => some ⟨⟨.e v, .subL s :: K, loc, H⟩, fun c E Z m => EW_Sub (EW_monoQ m fun _ _ h => EW_monoQ h fun _ _ h => h v s (sub_ok e))⟩
noncomputable def nAtC {a : Str} {p cp : Pos} {kw : List Keyword} : (f : Expr) → (args : List Expr) → Nx ⟨.e (.Attribute (.Call f args kw cp) a p), K, loc, H⟩
  | .Name n q, x :: r => some ⟨⟨.e (.Call (.Name n q) (x :: r) kw cp), .u1 (.attr a) :: K, loc, H⟩, fun c E Z m => EW_Attr m (by with_unfolding_all rfl)⟩
  | _, _ => none
noncomputable def nAttr {a : Str} {p : Pos} : (v : Expr) → Nx ⟨.e (.Attribute v a p), K, loc, H⟩
  | .Name n q => some ⟨⟨.e (.Name n q), .u1 (.attr a) :: K, loc, H⟩, fun c E Z m => EW_AttrN m⟩
  | .Subscript v s q => some ⟨⟨.e (.Subscript v s q), .u1 (.attr a) :: K, loc, H⟩, fun c E Z m => EW_Attr m (by with_unfolding_all rfl)⟩
  | .Attribute v b q => some ⟨⟨.e (.Attribute v b q), .u1 (.attr a) :: K, loc, H⟩, fun c E Z m => EW_Attr m (by with_unfolding_all rfl)⟩
  | .Call f args kw cp => nAtC loc H K f args
  | _ => none
noncomputable def nGv {f : Str} {np p : Pos} {args : List Expr} (ha : args.all notStar = true) : (o : Option Slot) → findS f loc = o → Nx ⟨.e (.Call (.Name f np) args [] p), K, loc, H⟩
  | some (.gv (.val (.ref a))), ho => nIf (kTab.contains a) fun h => some ⟨⟨.ls p args, .callP (.ref a) [] :: K, loc, H⟩, fun c E Z m => EW_CallR (σ := ⟨loc, H⟩) (findS_mem ho) h m (stars_ok2 ha) (args_ok ha)⟩
  | some (.gv (.val (.builtin id))), ho => some ⟨⟨.ls p args, .callP (.builtin id) [] :: K, loc, H⟩, fun c E Z m => EW_CallB (σ := ⟨loc, H⟩) (findS_mem ho) m (stars_ok2 ha) (args_ok ha)⟩
  | some (.gv (.val (.type id))), ho => some ⟨⟨.ls p args, .callP (.type id) [] :: K, loc, H⟩, fun c E Z m => EW_CallT (σ := ⟨loc, H⟩) (findS_mem ho) m (stars_ok2 ha) (args_ok ha)⟩
  | _, _ => none
theorem EW_Mh {w : World} {B : Heap} {c : Ctx w B} {E : QE} {o : Expr} {n : Str} {apos pos : Pos} {args : List Expr} {σ : St} {Q : QA} (h : methSh o apos pos args = true) (m : EW c σ (eval o c.env) (fun a σ₁ => MethW c σ₁ pos args a n Q E) E) : EW c σ (eval (.Call (.Attribute o n apos) args [] pos) c.env) Q E := by
  have h1 := Bool.and_eq_true_iff.mp h
  have h2 := Bool.and_eq_true_iff.mp h1.2
  have h3 := Bool.and_eq_true_iff.mp h2.2
  exact EW_M m (meth_he h1.1 h2.1 h3.1 h3.2) (stars_ok2 h1.1) (args_ok h1.1)
noncomputable def nCall {p : Pos} {args : List Expr} : (f : Expr) → (kw : List Keyword) → Nx ⟨.e (.Call f args kw p), K, loc, H⟩
  | .Name f np, [] => nIf (args.all notStar) fun h => nGv loc H K h (findS f loc) rfl
  | .Attribute o n apos, [] => nIf (methSh o apos p args) fun h => some ⟨⟨.e o, .meth p args n :: K, loc, H⟩, fun c E Z m => EW_Mh h m⟩
  | _, _ => none
noncomputable def stepE : (x : Expr) → Nx ⟨.e x, K, loc, H⟩
  | .Name x p => nName loc H K (findS x loc) rfl
  | .Constant k _ _ => nConst loc H K k
  | .BinOp l op r _ => some ⟨⟨.e l, .l2 (.bin op) r :: K, loc, H⟩, fun c E Z m => EW_BinOp m⟩
  | .Compare l ops cs _ => nCmp loc H K ops cs
  | .UnaryOp op x _ => some ⟨⟨.e x, .u1 (.un op) :: K, loc, H⟩, fun c E Z m => EW_Unary m⟩
  | .Tuple es _ pos => some ⟨⟨.ls pos es, .tup :: K, loc, H⟩, fun c E Z m => EW_Tuple m⟩
  | .IfExp t b o _ => some ⟨⟨.tst t, .ifx b o :: K, loc, H⟩, fun c E Z m => EW_IfExp m⟩
  | .Subscript v s _ => nSub loc H K s
  | .Attribute v a _ => nAttr loc H K v
  | .Call f args kw pos => nCall loc H K f kw
  | .BoolOp op vs p => nBool loc H K op vs
  | _ => none
noncomputable def stepT : (x : Expr) → Nx ⟨.tst x, K, loc, H⟩
  | .Compare l ops cs _ => nTC loc H K ops cs
  | .UnaryOp .Not x _ => some ⟨⟨.tst x, .notT :: K, loc, H⟩, fun c E Z m => TW_Not m⟩
  | .BoolOp op vs _ => some ⟨⟨.all op vs, K, loc, H⟩, fun c E Z m => TW_BoolOp m⟩
  | e => nIf (valE e) fun h => some ⟨⟨.e e, .tu :: K, loc, H⟩, fun c E Z m => TW_value m (valE_ok h)⟩
noncomputable def stepA : (op : BoolOp) → (es : List Expr) → Nx ⟨.all op es, K, loc, H⟩
  | .And, [] => some ⟨⟨.bd true, K, loc, H⟩, fun c E Z m => TW_and_nil m⟩
  | .Or, [] => some ⟨⟨.bd false, K, loc, H⟩, fun c E Z m => TW_or_nil m⟩
  | .And, x :: es => some ⟨⟨.tst x, .andT es :: K, loc, H⟩, fun c E Z m => TW_and m⟩
  | .Or, x :: es => some ⟨⟨.tst x, .orT es :: K, loc, H⟩, fun c E Z m => TW_or m⟩
noncomputable def nAsg {v : Expr} {p : Pos} (h : noComp v = true) : (ts : List Expr) → Nx ⟨.x (.Assign ts v p), K, loc, H⟩
  | [.Name x _] => some ⟨⟨.e v, .asg x :: K, loc, H⟩, fun c E Z m => XW_Assign m (swap_ok h)⟩
  | [.Attribute o n _] => some ⟨⟨.e v, .vA o n :: K, loc, H⟩, fun c E Z m => XW_AssignAttr m (fun _ => swap_ok h)⟩
  | [.Subscript o i _] => some ⟨⟨.e v, .vS o i :: K, loc, H⟩, fun c E Z m => XW_AssignSub m (fun _ => swap_ok h)⟩
  | _ => none
noncomputable def nAug {x : Str} {q p : Pos} {op : Operator} {v : Expr} : (o : Option Slot) → findS x loc = o → Nx ⟨.x (.AugAssign (.Name x q) op v p), K, loc, H⟩
  | some (.lv a), ho => some ⟨⟨.e v, .r2 (.aug op) a :: .asg x :: K, loc, H⟩, fun c E Z m => XW_Aug (σ := ⟨loc, H⟩) (findS_mem ho) rfl m rfl⟩
  | _, _ => none
noncomputable def stepX : (s : Stmt) → Nx ⟨.x s, K, loc, H⟩
  | .If t b o _ => some ⟨⟨.tst t, .ite b o :: K, loc, H⟩, fun c E Z m => XW_If m⟩
  | .Return (some e) _ => some ⟨⟨.e e, .ret :: K, loc, H⟩, fun c E Z m => XW_Return m⟩
  | .Return none _ => some ⟨⟨.r (.f (.ret .none)), K, loc, H⟩, fun c E Z m => XW_Return0 m⟩
  | .Assign ts v _ => nIf (noComp v) fun h => nAsg loc H K h ts
  | .AugAssign (.Name x _) op v _ => nAug loc H K (findS x loc) rfl
  | .Expr e _ => nIf (noComp e) fun h => some ⟨⟨.e e, .expr :: K, loc, H⟩, fun c E Z m => XW_Expr m (fun _ _ R => not_interactive R) (swap_ok h)⟩
  | _ => none
noncomputable def stepR : (fr : Fr) → (v : Rt) → Nx ⟨.r v, fr :: K, loc, H⟩
  | .l2 o r, .v a => some ⟨⟨.e r, .r2 o a :: K, loc, H⟩, fun _ _ _ m => m⟩
  | .r2 o a, .v b => some ⟨⟨.b2 o a b, K, loc, H⟩, fun _ _ _ m => m⟩
  | .u1 o, .v a => some ⟨⟨.u1 o a, K, loc, H⟩, fun _ _ _ m => m⟩
  | .lc pos es, .v a => some ⟨⟨.ls pos es, .la a :: K, loc, H⟩, fun _ _ _ m => m⟩
  | .la a, .l l => some ⟨⟨.r (.l (a :: l)), K, loc, H⟩, fun _ _ _ m => m⟩
  | .tup, .l l => nIf (Nat.ble l.length 1000) fun e => some ⟨⟨.r (.v (.tup l)), K, loc, H⟩, fun _ _ _ m => ⟨Nat.le_of_ble_eq_true e, m⟩⟩
  | .lst false, .l l => nIf (Nat.ble l.length 1000) fun e => some ⟨⟨.r (.v (.lst l)), K, loc, H⟩, fun _ _ _ m => ⟨Nat.le_of_ble_eq_true e, m⟩⟩
  | .lst true, .l l => nIf (Nat.ble l.length 1000) fun e => some ⟨⟨.lh l, K, loc, H⟩, fun _ _ _ m => ⟨Nat.le_of_ble_eq_true e, m⟩⟩
  | .meth pos args n, .v a => some ⟨⟨.meth pos args a n, K, loc, H⟩, fun _ _ _ m => m⟩
  | .subL s, .v a => some ⟨⟨.e s, .subR a :: K, loc, H⟩, fun _ _ _ m => m⟩
  | .subR a, .v b => some ⟨⟨.sub a b, K, loc, H⟩, fun _ _ _ m => m⟩
  | .slV lo hi st, .v a => some ⟨⟨.pw lo, .slL hi st a :: K, loc, H⟩, fun _ _ _ m => m⟩
  | .slL hi st a, .v b => some ⟨⟨.pw hi, .slH st a b :: K, loc, H⟩, fun _ _ _ m => m⟩
  | .slH st a b, .v d => some ⟨⟨.pw st, .slS st a b d :: K, loc, H⟩, fun _ _ _ m => m⟩
  | .slS st a b d, .v g => some ⟨⟨.sl st a b d g, K, loc, H⟩, fun _ _ _ m => m⟩
  | .tu, .v a => some ⟨⟨.tu a, K, loc, H⟩, fun _ _ _ m => m⟩
  | .asg x, .v a => some ⟨⟨.stn x a, K, loc, H⟩, fun _ _ _ m => m⟩
  | .ret, .v a => some ⟨⟨.r (.f (.ret a)), K, loc, H⟩, fun _ _ _ m => m⟩
  | .expr, .v .none => some ⟨⟨.r (.f .next), K, loc, H⟩, fun _ _ _ m => ⟨rfl, m⟩⟩
  | .callP f fl, .l l => some ⟨⟨.call f (fl ++ l), K, loc, H⟩, fun _ _ _ m => m⟩
  | .vA o n, .v b => some ⟨⟨.e o, .oA n b :: K, loc, H⟩, fun _ _ _ m => m⟩
  | .oA n b, .v a => some ⟨⟨.sa a b n, K, loc, H⟩, fun _ _ _ m => m⟩
  | .vS o i, .v b => some ⟨⟨.e o, .oS i b :: K, loc, H⟩, fun _ _ _ m => m⟩
  | .oS i b, .v a => some ⟨⟨.e i, .iS a b :: K, loc, H⟩, fun _ _ _ m => m⟩
  | .iS a b, .v g => some ⟨⟨.si a g b, K, loc, H⟩, fun _ _ _ m => m⟩
  | .unp ts, .v (.tup l) => nIf (Nat.beq ts.length l.length) fun h => some ⟨⟨.aw ts l, K, loc, H⟩, fun _ _ _ m => ⟨l, rfl, Nat.eq_of_beq_eq_true h, m⟩⟩
  | .boV op es p, .v a => some ⟨⟨.tu a, .boR op es p a :: K, loc, H⟩, fun _ _ _ m => m⟩
  | .chL op1 op2 r1 r2, .v a => some ⟨⟨.e r1, .chR op1 op2 r2 a :: K, loc, H⟩, fun _ _ _ m => m⟩
  | .chR op1 op2 r2 a, .v b => some ⟨⟨.b2 (.cmp op1) a b, .tu :: .chT op2 r2 b :: K, loc, H⟩, fun _ _ _ m => m⟩
  | .notT, .t b => some ⟨⟨.r (.t (!b)), K, loc, H⟩, fun _ _ _ m => m⟩
  | .seq ss, .f .next => some ⟨⟨.ss ss, K, loc, H⟩, fun _ _ _ m => m⟩
  | .seq _, .f .brk => some ⟨⟨.r (.f .brk), K, loc, H⟩, fun _ _ _ m => m⟩
  | .seq _, .f .cont => some ⟨⟨.r (.f .cont), K, loc, H⟩, fun _ _ _ m => m⟩
  | .seq _, .f (.ret a) => some ⟨⟨.r (.f (.ret a)), K, loc, H⟩, fun _ _ _ m => m⟩
  | _, _ => none
theorem bth_t {x y : Prop} (m : x) : (true = true → x) ∧ (true = false → y) := ⟨fun _ => m, fun z => (nomatch z)⟩
theorem bth_f {x y : Prop} (m : y) : (false = true → x) ∧ (false = false → y) := ⟨fun z => (nomatch z), fun _ => m⟩
theorem bth_t' {x y : Prop} (m : y) : (true = false → x) ∧ (true = true → y) := ⟨fun z => (nomatch z), fun _ => m⟩
theorem bth_f' {x y : Prop} (m : x) : (false = false → x) ∧ (false = true → y) := ⟨fun _ => m, fun z => (nomatch z)⟩
noncomputable def stepB : (b : Bool) → (fr : Fr) → Nx ⟨.bd b, fr :: K, loc, H⟩
  | true, .boR .And es p a => some ⟨⟨.e (boRest .And p es), K, loc, H⟩, fun _ _ _ m => bth_t' m⟩
  | false, .boR .And es p a => some ⟨⟨.r (.v a), K, loc, H⟩, fun _ _ _ m => bth_f' m⟩
  | true, .boR .Or es p a => some ⟨⟨.r (.v a), K, loc, H⟩, fun _ _ _ m => bth_t m⟩
  | false, .boR .Or es p a => some ⟨⟨.e (boRest .Or p es), K, loc, H⟩, fun _ _ _ m => bth_f m⟩
  | true, .chT op2 r2 x => some ⟨⟨.e r2, .r2 (.cmp op2) x :: .tu :: K, loc, H⟩, fun _ _ _ m => bth_t m⟩
  | false, .chT op2 r2 x => some ⟨⟨.bd false, K, loc, H⟩, fun _ _ _ m => bth_f m⟩
  | true, .andT es => some ⟨⟨.all .And es, K, loc, H⟩, fun _ _ _ m => bth_t m⟩
  | false, .andT es => some ⟨⟨.bd false, K, loc, H⟩, fun _ _ _ m => bth_f m⟩
  | true, .orT es => some ⟨⟨.bd true, K, loc, H⟩, fun _ _ _ m => bth_t m⟩
  | false, .orT es => some ⟨⟨.all .Or es, K, loc, H⟩, fun _ _ _ m => bth_f m⟩
  | true, .ifx x y => some ⟨⟨.e x, K, loc, H⟩, fun _ _ _ m => bth_t m⟩
  | false, .ifx x y => some ⟨⟨.e y, K, loc, H⟩, fun _ _ _ m => bth_f m⟩
  | true, .ite x y => some ⟨⟨.ss x, K, loc, H⟩, fun _ _ _ m => bth_t m⟩
  | false, .ite x y => some ⟨⟨.ss y, K, loc, H⟩, fun _ _ _ m => bth_f m⟩
  | b, .notT => some ⟨⟨.bd (!b), K, loc, H⟩, fun _ _ _ m => m⟩
  | _, _ => none
noncomputable def step2 : (o : B2) → (a b : AV) → Nx ⟨.b2 o a b, K, loc, H⟩
  | .cmp .Lt, .int i, .int j => some ⟨⟨.r (.v (.bool (decide (i < j)))), K, loc, H⟩, fun _ _ _ m => BW_lt m⟩
  | .cmp .Gt, .int i, .int j => some ⟨⟨.r (.v (.bool (decide (i > j)))), K, loc, H⟩, fun _ _ _ m => BW_gt m⟩
  | .cmp .LtE, .int i, .int j => some ⟨⟨.r (.v (.bool (decide (i ≤ j)))), K, loc, H⟩, fun _ _ _ m => BW_le m⟩
  | .cmp .GtE, .int i, .int j => some ⟨⟨.r (.v (.bool (decide (i ≥ j)))), K, loc, H⟩, fun _ _ _ m => BW_ge m⟩
  | .cmp .Eq, .int i, .int j => some ⟨⟨.r (.v (.bool (i == j))), K, loc, H⟩, fun _ _ _ m => BW_eqI m⟩
  | .cmp .NotEq, .int i, .int j => some ⟨⟨.r (.v (.bool (i != j))), K, loc, H⟩, fun _ _ _ m => BW_neI m⟩
  | .cmp .Eq, .str i, .str j => some ⟨⟨.r (.v (.bool (i == j))), K, loc, H⟩, fun _ _ _ m => BW_eqS m⟩
  | .cmp .NotEq, .str i, .str j => some ⟨⟨.r (.v (.bool (i != j))), K, loc, H⟩, fun _ _ _ m => BW_neS m⟩
  | .bin .Add, .int i, .int j => some ⟨⟨.r (.v (.int (i + j))), K, loc, H⟩, fun _ _ _ m => BW_add m⟩
  | .bin .Sub, .int i, .int j => some ⟨⟨.r (.v (.int (i - j))), K, loc, H⟩, fun _ _ _ m => BW_sub m⟩
  | .aug .Add, .int i, .int j => some ⟨⟨.r (.v (.int (i + j))), K, loc, H⟩, fun _ _ _ m => BW_iadd m⟩
  | .aug .Sub, .int i, .int j => some ⟨⟨.r (.v (.int (i - j))), K, loc, H⟩, fun _ _ _ m => BW_isub m⟩
  | _, _, _ => none
noncomputable def step1 : (o : U1) → (a : AV) → Nx ⟨.u1 o a, K, loc, H⟩
  | .un .USub, .int i => some ⟨⟨.r (.v (.int (-i))), K, loc, H⟩, fun _ _ _ m => UW_neg m⟩
  | .un .Not, .bool b => some ⟨⟨.r (.v (.bool (!b))), K, loc, H⟩, fun _ _ _ m => UW_not (TU_bool m)⟩
  | _, _ => none
noncomputable def nTu : (a : AV) → Nx ⟨.tu a, K, loc, H⟩
  | .bool b => some ⟨⟨.r (.t b), K, loc, H⟩, fun _ _ _ m => TU_bool m⟩
  | .int i => some ⟨⟨.r (.t (i != 0)), K, loc, H⟩, fun _ _ _ m => TU_int m⟩
  | .none => some ⟨⟨.bd false, K, loc, H⟩, fun _ _ _ m => TU_none m⟩
  | _ => none
noncomputable def nStn {x : Str} {a : AV} : (o : Option Loc) → setL x a loc = o → Nx ⟨.stn x a, K, loc, H⟩
  | some l, e => some ⟨⟨.r (.f .next), K, l, H⟩, fun _ _ _ m => (setL_upd e).elim fun _ h => stw_loc h.2 h.1 m⟩
  | none, _ => none
noncomputable def nAw {x : Str} {p : Pos} {a : AV} {ts : List Expr} {l : List AV} : (o : Option Loc) → setL x a loc = o → Nx ⟨.aw (.Name x p :: ts) (a :: l), K, loc, H⟩
  | some l', e => some ⟨⟨.aw ts l, K, l', H⟩, fun _ _ _ m => (setL_upd e).elim fun _ h => AW_cons (StW_name (stw_loc h.2 h.1 m))⟩
  | none, _ => none
noncomputable def stepAw : (ts : List Expr) → (l : List AV) → Nx ⟨.aw ts l, K, loc, H⟩
  | [], [] => some ⟨⟨.r (.f .next), K, loc, H⟩, fun _ _ _ m => AW_nil m⟩
  | .Name x _ :: ts, a :: l => nAw loc H K (setL x a loc) rfl
  | _, _ => none
end
noncomputable def stepC (loc : Loc) (H : HS) : (C : Ctl) → (K : List Fr) → Nx ⟨C, K, loc, H⟩
  | .e x, K => stepE loc H K x
  | .pw none, K => some ⟨⟨.r (.v .none), K, loc, H⟩, fun _ _ _ m => PW_none m⟩
  | .pw (some e), K => some ⟨⟨.e e, K, loc, H⟩, fun _ _ _ m => PW_some m⟩
  | .ls _ [], K => some ⟨⟨.r (.l []), K, loc, H⟩, fun _ _ _ m => LW_nil m⟩
  | .ls pos (e :: es), K => nIf (notStar e) fun h => some ⟨⟨.e e, .lc pos es :: K, loc, H⟩, fun _ _ _ m => LW_cons m (star_ok h)⟩
  | .tst x, K => stepT loc H K x
  | .all op es, K => stepA loc H K op es
  | .ss [], K => some ⟨⟨.r (.f .next), K, loc, H⟩, fun _ _ _ m => SW_nil m⟩
  | .ss (s :: ss), K => some ⟨⟨.x s, .seq ss :: K, loc, H⟩, fun _ _ _ m => SW_cons m⟩
  | .x s, K => stepX loc H K s
  | .r v, fr :: K => stepR loc H K fr v
  | .bd b, fr :: K => stepB loc H K b fr
  | .bd b, [] => some ⟨⟨.r (.t b), [], loc, H⟩, fun _ _ _ m => m⟩
  | .b2 o a b, K => step2 loc H K o a b
  | .u1 o a, K => step1 loc H K o a
  | .tu a, K => nTu loc H K a
  | .stn x a, K => nStn loc H K (setL x a loc) rfl
  | .aw ts l, K => stepAw loc H K ts l
  | _, _ => none
noncomputable def steps : Nat → (C : Ctl) → (K : List Fr) → (loc : Loc) → (H : HS) → Go ⟨C, K, loc, H⟩
  | 0, _, _, _, _ => ⟨_, fun _ _ _ m => m⟩
  | n + 1, C, K, loc, H => match stepC loc H C K with
    | none => ⟨_, fun _ _ _ m => m⟩
    | some ⟨⟨C', K', loc', H'⟩, ok⟩ => ⟨(steps n C' K' loc' H').k', fun c E Z m => ok c E Z ((steps n C' K' loc' H').ok c E Z m)⟩
end Mine
namespace Mine
variable {w : World} {B : Heap} {c : Ctx w B} {E : QE} {Z : Rt → St → Prop} {k : Cf}
@[irreducible] noncomputable def go (k : Cf) : Cf := (steps 2000 k.c k.K k.loc k.H).k'
theorem go_ok (m : Me c E Z (go k)) : Me c E Z k := by
  unfold go at m
  exact (steps 2000 k.c k.K k.loc k.H).ok c E Z m
noncomputable def Cf.rv (k : Cf) (a : AV) (σ : St) : Cf := ⟨.r (.v a), k.K, σ.loc, σ.H⟩
noncomputable def Cf.rt (k : Cf) (t : Bool) (σ : St) : Cf := ⟨.r (.t t), k.K, σ.loc, σ.H⟩
noncomputable def Cf.rn (k : Cf) (σ : St) : Cf := ⟨.r (.f .next), k.K, σ.loc, σ.H⟩
noncomputable def Cf.ret (k : Cf) (a : AV) : Cf := ⟨.r (.v a), k.K, k.loc, k.H⟩
noncomputable def Cf.retH (k : Cf) (a : AV) (H : HS) : Cf := ⟨.r (.v a), k.K, k.loc, H⟩
noncomputable def Cf.nxt (k : Cf) (H : HS) : Cf := ⟨.r (.f .next), k.K, k.loc, H⟩
noncomputable def Cf.bd (k : Cf) (b : Bool) : Cf := ⟨.bd b, k.K, k.loc, k.H⟩
noncomputable def Cf.flow (k : Cf) (f : AF) (σ : St) : Cf := ⟨.r (.f f), k.K, σ.loc, σ.H⟩
@[reducible] noncomputable def Kv (c : Ctx w B) (E : QE) (Z : Rt → St → Prop) (k : Cf) : QA := fun d υ => Me c E Z (go (k.rv d υ))
@[reducible] noncomputable def Kr (c : Ctx w B) (E : QE) (Z : Rt → St → Prop) (k : Cf) : AV → HS → Prop := fun a H' => Me c E Z (go (k.retH a H'))
@[reducible] noncomputable def Ke (E : QE) (l : Loc) : AE → HS → Prop := fun ae H' => E ae ⟨l, H'⟩
@[reducible] noncomputable def Kt (c : Ctx w B) (E : QE) (Z : Rt → St → Prop) (k : Cf) : Bool → St → Prop := fun t υ => Me c E Z (go (k.rt t υ))
@[reducible] noncomputable def Kn' (c : Ctx w B) (E : QE) (Z : Rt → St → Prop) (k : Cf) : St → Prop := fun υ => Me c E Z (go (k.rn υ))
@[reducible] noncomputable def Kf (c : Ctx w B) (E : QE) (Z : Rt → St → Prop) (k : Cf) : QF := fun f υ => Me c E Z (go (k.flow f υ))
noncomputable def ZF (Q : QF) : Rt → St → Prop
  | .f f, σ => Q f σ
  | _, _ => False
noncomputable def ZV (Q : QA) : Rt → St → Prop
  | .v a, σ => Q a σ
  | _, _ => False
theorem Me_of {C : Ctl} (e : k.c = C) (h : MeC c E (KM c E Z k.K) k.σ C) : Me c E Z k := by
  unfold Me; rw [e]; exact h
theorem Post.q {F : Fz} {Q Q' : QA} {v : Value} {s : Shared} (h : Post c F Q v s) (q : ∀ a σ, Q a σ → Q' a σ) : Post c F Q' v s := h.elim fun F' σ a l R r x => ⟨F', σ, a, l, R, r, q _ _ x⟩
theorem PostB.q {F : Fz} {Q Q' : Bool → St → Prop} {v : Bool} {s : Shared} (h : PostB c F Q v s) (q : ∀ a σ, Q a σ → Q' a σ) : PostB c F Q' v s := h.elim fun F' σ l R x => ⟨F', σ, l, R, q _ _ x⟩
theorem PostU.q {F : Fz} {Q Q' : St → Prop} {v : Unit} {s : Shared} (h : PostU c F Q v s) (q : ∀ σ, Q σ → Q' σ) : PostU c F Q' v s := h.elim fun F' σ l R x => ⟨F', σ, l, R, q _ x⟩
theorem wm {α : Type} {A : Around} {m : Sem α} {P P' : α → Shared → Prop} {X : Value → Shared → Prop} {s : Shared} (h : wpAny (MW w) A m P X s) (q : ∀ a s, P a s → P' a s) : wpAny (MW w) A m P' X s := wpAny_mono h q fun _ _ z => z
section
variable {σ : St} {a b d g : AV} {Q Q' : QA}
theorem BW.q {f : Value → Value → Sem Value} (h : BW c σ a b f Q E) (q : ∀ a σ, Q a σ → Q' a σ) : BW c σ a b f Q' E := fun F s u v R r1 r2 => wm (h F s u v R r1 r2) fun _ _ z => z.q q
theorem UW.q {f : Value → Sem Value} (h : UW c σ a f Q E) (q : ∀ a σ, Q a σ → Q' a σ) : UW c σ a f Q' E := fun F s v R r => wm (h F s v R r) fun _ _ z => z.q q
theorem VW.q {l : List AV} {f : List Value → Sem Value} (h : VW c σ l f Q E) (q : ∀ a σ, Q a σ → Q' a σ) : VW c σ l f Q' E := fun F s v R r => wm (h F s v R r) fun _ _ z => z.q q
theorem TU.q {T T' : Bool → St → Prop} (h : TU c σ a T E) (q : ∀ a σ, T a σ → T' a σ) : TU c σ a T' E := fun F s v R r => wm (h F s v R r) fun _ _ z => z.q q
theorem StW.q {f : Value → Sem Unit} {T T' : St → Prop} (h : StW c σ a f T E) (q : ∀ σ, T σ → T' σ) : StW c σ a f T' E := fun F s v R r => wm (h F s v R r) fun _ _ z => z.q q
theorem SA.q {n : Str} {T T' : St → Prop} (h : SA c σ a b n T E) (q : ∀ σ, T σ → T' σ) : SA c σ a b n T' E := fun F s u v R r1 r2 => wm (h F s u v R r1 r2) fun _ _ z => z.q q
theorem SI.q {T T' : St → Prop} (h : SI c σ a g b T E) (q : ∀ σ, T σ → T' σ) : SI c σ a g b T' E := fun F s u x v R r1 r2 r3 => wm (h F s u x v R r1 r2 r3) fun _ _ z => z.q q
theorem SubA.q (h : SubA c σ a b Q E) (q : ∀ a σ, Q a σ → Q' a σ) : SubA c σ a b Q' E := fun v s hs => (h v s hs).q q
theorem SlA.q {st : Option Expr} (h : SlA c σ st a b d g Q E) (q : ∀ a σ, Q a σ → Q' a σ) : SlA c σ st a b d g Q' E := fun v lo hi p F s x1 x2 x3 x4 R r1 r2 r3 r4 => wm (h v lo hi p F s x1 x2 x3 x4 R r1 r2 r3 r4) fun _ _ z => z.q q
end
section
variable {a b d g : AV}
theorem q_bin (op : Operator) (a b : AV) (e : autoParam (k.c = .b2 (.bin op) a b) kr) (h : BW c k.σ a b (binaryOp op) (Kv c E Z k) E) : Me c E Z k := Me_of e (h.q fun _ _ m => go_ok m)
theorem q_cmp (op : CmpOp) (a b : AV) (e : autoParam (k.c = .b2 (.cmp op) a b) kr) (h : BW c k.σ a b (compareOp op) (Kv c E Z k) E) : Me c E Z k := Me_of e (h.q fun _ _ m => go_ok m)
theorem q_cmpH (op : CmpOp) (a b : AV) (H0 : HS) (e : autoParam ((k.c, k.H) = (.b2 (.cmp op) a b, H0)) kr) (h : BW c ⟨k.loc, H0⟩ a b (compareOp op) (Kv c E Z k) E) : Me c E Z k := by
  cases (Prod.mk.inj e).2; exact Me_of (Prod.mk.inj e).1 (h.q fun _ _ m => go_ok m)
theorem q_aug (op : Operator) (a b : AV) (e : autoParam (k.c = .b2 (.aug op) a b) kr) (h : BW c k.σ a b (inplaceOp op) (Kv c E Z k) E) : Me c E Z k := Me_of e (h.q fun _ _ m => go_ok m)
theorem q_attr (n : Str) (a : AV) (H0 : HS) (e : autoParam ((k.c, k.H) = (.u1 (.attr n) a, H0)) kr) (h : UW c ⟨k.loc, H0⟩ a (fun v => getAttr v n true) (Kv c E Z k) E) : Me c E Z k := by
  cases (Prod.mk.inj e).2; exact Me_of (Prod.mk.inj e).1 (h.q fun _ _ m => go_ok m)
theorem q_sub (a b : AV) (H0 : HS) (e : autoParam ((k.c, k.H) = (.sub a b, H0)) kr) (h : SubA c ⟨k.loc, H0⟩ a b (Kv c E Z k) E) : Me c E Z k := by
  cases (Prod.mk.inj e).2; exact Me_of (Prod.mk.inj e).1 (h.q fun _ _ m => go_ok m)
theorem q_sl (a b d : AV) (e : autoParam (k.c = .sl none a b d .none) kr) (h : SlA c k.σ none a b d .none (Kv c E Z k) E) : Me c E Z k := Me_of e (h.q fun _ _ m => go_ok m)
theorem q_tu (a : AV) (H0 : HS) (e : autoParam ((k.c, k.H) = (.tu a, H0)) kr) (h : TU c ⟨k.loc, H0⟩ a (Kt c E Z k) E) : Me c E Z k := by
  cases (Prod.mk.inj e).2; exact Me_of (Prod.mk.inj e).1 (h.q fun _ _ m => go_ok m)
theorem q_call (f : Value) (l : List AV) (H0 : HS) (e : autoParam ((k.c, k.H) = (.call f l, H0)) kr) (h : VW c ⟨k.loc, H0⟩ l (fun vs => call f vs []) (Kv c E Z k) E) : Me c E Z k := by
  cases (Prod.mk.inj e).2; exact Me_of (Prod.mk.inj e).1 (h.q fun _ _ m => go_ok m)
theorem q_sa (a b : AV) (n : Str) (H0 : HS) (e : autoParam ((k.c, k.H) = (.sa a b n, H0)) kr) (h : SA c ⟨k.loc, H0⟩ a b n (Kn' c E Z k) E) : Me c E Z k := by
  cases (Prod.mk.inj e).2; exact Me_of (Prod.mk.inj e).1 (h.q fun _ m => go_ok m)
theorem q_si (a g b : AV) (H0 : HS) (e : autoParam ((k.c, k.H) = (.si a g b, H0)) kr) (h : SI c ⟨k.loc, H0⟩ a g b (Kn' c E Z k) E) : Me c E Z k := by
  cases (Prod.mk.inj e).2; exact Me_of (Prod.mk.inj e).1 (h.q fun _ m => go_ok m)
theorem q_stn (x : Str) (a : AV) (e : autoParam (k.c = .stn x a) kr) (h : StW c k.σ a (fun v => storeName c.env x v) (Kn' c E Z k) E) : Me c E Z k := Me_of e (h.q fun _ m => go_ok m)
end
theorem run_z (r : Rt) (H0 : HS) (e : autoParam ((k.c, k.K, k.H) = (.r r, [], H0)) kr) (h : Z r ⟨k.loc, H0⟩) : Me c E Z k := by
  obtain ⟨C, K, loc, H⟩ := k
  cases e
  exact h
theorem run_ret {Q : AV → HS → Prop} (a : AV) (H0 : HS) (e : autoParam ((k.c, k.K, k.H) = (.r (.f (.ret a)), [], H0)) kr) (h : Q a H0) : Me c E (ZF (RQ Q)) k := run_z _ _ e (RQ_ret (σ := ⟨k.loc, H0⟩) h)
theorem run_retD {Q : AV → HS → Prop} (a : AV) (H0 H1 : HS) (u : H1.Sublist H0) (e : autoParam ((k.c, k.K, k.H) = (.r (.f (.ret a)), [], H0)) kr) (h : Q a H1) : Me c E (ZF (RQ Q)) k := run_z _ _ e (RQ_drop (σ := ⟨k.loc, H0⟩) H1 u h)
theorem run_fin {Q : AV → HS → Prop} (H0 : HS) (e : autoParam ((k.c, k.K, k.H) = (.r (.f .next), [], H0)) kr) (h : Q .none H0) : Me c E (ZF (RQ Q)) k := run_z _ _ e (RQ_next (σ := ⟨k.loc, H0⟩) h)
theorem run_t (t : Bool) (e : autoParam (k.c = .r (.t t)) kr) (h1 : t = true → Me c E Z (go (k.bd true))) (h2 : t = false → Me c E Z (go (k.bd false))) : Me c E Z k := by
  refine Me_of e (go_ok (k := k.bd t) ?_)
  cases t with
  | true => exact h1 rfl
  | false => exact h2 rfl
theorem run_tn (t : Bool) (e : autoParam (k.c = .r (.t (!t))) kr) (h1 : t = true → Me c E Z (go (k.bd false))) (h2 : t = false → Me c E Z (go (k.bd true))) : Me c E Z k :=
  run_t _ e (fun h => h2 (by cases t <;> first | rfl | cases h)) fun h => h1 (by cases t <;> first | rfl | cases h)
theorem run_if (p : Prop) [Decidable p] (e : autoParam (k.c = .r (.t (decide p))) kr) (h1 : p → Me c E Z (go (k.bd true))) (h2 : ¬ p → Me c E Z (go (k.bd false))) : Me c E Z k :=
  run_t _ e (fun h => h1 (of_decide_eq_true h)) fun h => h2 (of_decide_eq_false h)
theorem run_d (b : Bool) (t : Bool) (h : t = b) (e : autoParam (k.c = .r (.t t)) kr) (m : Me c E Z (go (k.bd b))) : Me c E Z k := by subst h; exact Me_of e (go_ok (k := k.bd t) m)
theorem run_b (b : Bool) (e : autoParam (k.c = .r (.t b)) kr) (m : Me c E Z (go (k.bd b))) : Me c E Z k := Me_of e (go_ok (k := k.bd b) m)
theorem run_call (f : Value) (l : List AV) (H0 : HS) {j : Nat} {P : AV → HS → Prop} {P' : AE → HS → Prop} (hc : CW w B j H0 f l P P') (hh : c.A.handled = none) (hj : j ≤ c.k) (e : autoParam ((k.c, k.H) = (.call f l, H0)) kr)
    (q : ∀ a H', P a H' → Kr c E Z k a H') (qe : ∀ ae H', P' ae H' → Ke E k.loc ae H') : Me c E Z k :=
  q_call f l H0 e (VW_use hc hh hj q qe)
theorem run_val (f : Value) (l : List AV) (r : AV) (H0 : HS) {H1 : HS} {j : Nat} (hc : CW w B j H0 f l (fun a H' => a = r ∧ H' = H1) fun _ _ => False) (hh : c.A.handled = none) (hj : j ≤ c.k) (e : autoParam ((k.c, k.H) = (.call f l, H0)) kr) (m : Me c E Z (go (k.retH r H1))) : Me c E Z k :=
  run_call f l H0 hc hh hj e (fun a H' h => by rw [h.1, h.2]; exact m) fun _ _ z => z.elim
noncomputable def RetF {X : Type} (P : X → Prop) (g : X → AV) (H : HS) : AV → HS → Prop := fun a H' => ∃ p, P p ∧ a = g p ∧ H' = H
theorem RetF.mk' {X : Type} {P : X → Prop} {g : X → AV} {H : HS} (p : X) (h : P p) : RetF P g H (g p) H := ⟨p, h, rfl, rfl⟩
theorem RetF.use {X : Type} {P : X → Prop} {g : X → AV} {H : HS} {R : AV → HS → Prop} (q : ∀ p, P p → R (g p) H) (a : AV) (H' : HS) (h : RetF P g H a H') : R a H' := h.elim fun p h => h.2.1 ▸ h.2.2 ▸ q p h.1
theorem run_fn (f : Value) (l : List AV) (H0 : HS) {j : Nat} {X : Type} {P : X → Prop} {g : X → AV} {P' : AE → HS → Prop} (hc : CW w B j H0 f l (RetF P g H0) P') (hh : c.A.handled = none) (hj : j ≤ c.k) (e : autoParam ((k.c, k.H) = (.call f l, H0)) kr)
    (q : ∀ p, P p → Me c E Z (go (k.retH (g p) H0))) (qe : ∀ ae H', P' ae H' → Ke E k.loc ae H') : Me c E Z k :=
  run_call f l H0 hc hh hj e (RetF.use q) qe
theorem le_n {n a : Nat} (h : n ≤ a) (b : Nat) (e : autoParam (Nat.ble a b = true) rr) : n ≤ b := Nat.le_trans h (Nat.le_of_ble_eq_true e)
theorem le_k {n m : Nat} (h : n = m) (j i : Nat) (e : autoParam (Nat.ble j i = true) rr) (q : autoParam (m = k' + i) rr) : j ≤ n := by subst h; subst q; exact Nat.le_trans (Nat.le_of_ble_eq_true e) (Nat.le_add_left _ _)
noncomputable def hN : HS → Nat → Addr × HObj
  | [], _ => (0, .lst [])
  | p :: _, 0 => p
  | _ :: r, n + 1 => hN r n
noncomputable def hOk : HS → Nat → Bool
  | [], _ => false
  | _ :: _, 0 => true
  | _ :: r, n + 1 => hOk r n
theorem hN_mem : ∀ {H : HS} {i : Nat}, hOk H i = true → hN H i ∈ H
  | _ :: _, 0, _ => .head _
  | _ :: r, n + 1, h => .tail _ (hN_mem (H := r) (i := n) h)
noncomputable def hSet (o : HObj) : HS → Nat → HS
  | [], _ => []
  | p :: r, 0 => (p.1, o) :: r
  | p :: r, n + 1 => p :: hSet o r n
theorem hSet_upd {o : HObj} : ∀ {H : HS} {i : Nat}, hOk H i = true → HUpd (hN H i).1 (hN H i).2 o H (hSet o H i)
  | _ :: _, 0, _ => .head
  | _ :: r, n + 1, h => .tail (hSet_upd (H := r) (i := n) h)
noncomputable def HObj.cls : HObj → Addr
  | .ins C _ => C
  | _ => 0
noncomputable def HObj.es : HObj → List (Str × AV)
  | .dctS es => es
  | _ => []
noncomputable def HObj.l : HObj → List AV
  | .lst l => l
  | _ => []
noncomputable def luK {K : Type} [DecidableEq K] (x : K) : List (K × AV) → Option AV
  | [] => none
  | (y, a) :: r => match decide (y = x) with
    | true => some a
    | false => luK x r
theorem luK_mem {K : Type} [DecidableEq K] {x : K} {a : AV} : ∀ {l : List (K × AV)}, luK x l = some a → (x, a) ∈ l
  | (y, b) :: r, h => by
    unfold luK at h
    cases e : decide (y = x) with
    | true => rw [e] at h; cases of_decide_eq_true e; cases h; exact .head _
    | false => rw [e] at h; exact .tail _ (luK_mem h)
noncomputable def absK {K : Type} [DecidableEq K] (x : K) : List (K × AV) → Bool
  | [] => true
  | (y, _) :: r => match decide (y = x) with
    | true => false
    | false => absK x r
theorem absK_ok {K : Type} [DecidableEq K] {x : K} : ∀ {l : List (K × AV)}, absK x l = true → KAbs x l
  | [], _ => .nil
  | (y, b) :: r, h => by
    unfold absK at h
    cases e : decide (y = x) with
    | true => rw [e] at h; cases h
    | false => rw [e] at h; exact .cons e (absK_ok h)
noncomputable def putK {K : Type} [DecidableEq K] (x : K) (a : AV) : List (K × AV) → List (K × AV)
  | [] => [(x, a)]
  | (y, b) :: r => match decide (y = x) with
    | true => (y, a) :: r
    | false => (y, b) :: putK x a r
theorem putK_st {K : Type} [DecidableEq K] {x : K} {a : AV} : ∀ {l : List (K × AV)}, KUpd x a l (putK x a l) ∨ KNew x a l (putK x a l)
  | [] => .inr .nil
  | (y, b) :: r => by
    unfold putK
    cases e : decide (y = x) with
    | true => cases of_decide_eq_true e; exact .inl .head
    | false => exact (putK_st (l := r)).elim (fun h => .inl (.tail h)) fun h => .inr (.cons e h)
noncomputable def Ctl.nm : Ctl → Str
  | .u1 (.attr n) _ => n
  | .sa _ _ n => n
  | .meth _ _ _ n => n
  | .si _ (.str n) _ => n
  | .sub _ (.str n) => n
  | _ => ""
noncomputable def Ctl.v2 : Ctl → AV
  | .sa _ b _ => b
  | .si _ _ b => b
  | .call _ (_ :: b :: _) => b
  | _ => .none
noncomputable def oA : Option AV → AV
  | some a => a
  | none => .none
theorem oA_ok {o : Option AV} (h : o.isSome = true) : o = some (oA o) := by cases o <;> first | rfl | cases h
noncomputable def atV (k : Cf) (j : Nat) : Option AV := luK k.c.nm (hN k.H j).2.es
noncomputable def insL (k : Cf) (i j : Nat) : HObj × HObj := ((hN k.H i).2, (hN k.H j).2)
noncomputable def insR (k : Cf) (i j : Nat) : HObj × HObj := (.ins (hN k.H i).2.cls (hN k.H j).1, .dctS (hN k.H j).2.es)
noncomputable def atB (k : Cf) (i j : Nat) : Bool := Bool.and (Bool.and (hOk k.H i) (hOk k.H j)) (Bool.and (atV k j).isSome (Bool.and (noBuiltin (oA (atV k j))) (attrTab.contains ((hN k.H i).2.cls, k.c.nm))))
theorem andt {a b : Bool} (h : Bool.and a b = true) : a = true ∧ b = true := Bool.and_eq_true_iff.mp h
theorem q_at (i j : Nat) (e : autoParam ((k.c, insL k i j) = (.u1 (.attr k.c.nm) (.val (.ref (hN k.H i).1)), insR k i j)) kr) (h : autoParam (atB k i j = true) kr) (m : Me c E Z (go (k.ret (oA (atV k j))))) : Me c E Z k := by
  have h1 := andt h
  have h2 := andt h1.1
  have h3 := andt h1.2
  have h4 := andt h3.2
  have e2 := Prod.mk.inj (Prod.mk.inj e).2
  have mx := hN_mem h2.1
  have md := hN_mem h2.2
  rw [← Prod.eta (hN k.H i), e2.1] at mx
  rw [← Prod.eta (hN k.H j), e2.2] at md
  exact Me_of (Prod.mk.inj e).1 (UW_at (σ := k.σ) mx md (luK_mem (oA_ok h3.1)) (List.contains_iff_mem.mp h4.2) h4.1 (go_ok m))
end Mine
namespace Mine
variable {w : World} {B : Heap}
noncomputable def sBody : Stmt → List Stmt
  | .FunctionDef _ _ b .. => b
  | _ => []
noncomputable def sArgs : Stmt → Arguments
  | .FunctionDef _ a .. => a
  | _ => ⟨[], [], none, [], [], none, []⟩
noncomputable def sName : Stmt → Str
  | .FunctionDef n .. => n
  | _ => ""
noncomputable def sScope : Stmt → Scope
  | .FunctionDef _ _ _ _ _ _ s .. => s
  | _ => { kind := .module, names := [], isGenerator := false, isCoroutine := false }
noncomputable def sPt : (s : Stmt) → Option {q : (Str × Arguments × List Stmt × List Expr × Option Expr) × (List TypeParam × Scope × Option Scope × Str × Pos) // s = .FunctionDef q.1.1 q.1.2.1 q.1.2.2.1 q.1.2.2.2.1 q.1.2.2.2.2 q.2.1 q.2.2.1 q.2.2.2.1 q.2.2.2.2.1 q.2.2.2.2.2}
  | .FunctionDef n a b d r tp sc ts bi p => some ⟨((n, a, b, d, r), (tp, sc, ts, bi, p)), rfl⟩
  | _ => none
noncomputable def isFn (s : Stmt) : Bool := (sPt s).isSome
theorem isFn_ok {s : Stmt} : isFn s = true → ∃ n a b d r tp sc ts bi p, s = .FunctionDef n a b d r tp sc ts bi p := by
  unfold isFn
  cases sPt s with
  | some q => exact fun _ => ⟨_, _, _, _, _, _, _, _, _, _, q.2⟩
  | none => exact fun h => nomatch h
noncomputable def avT : Value → AV
  | .int i _ => .int i
  | .str s _ => .str s
  | v => .val v
theorem avT_ok {F : Fz} {v : Value} : Rel F (avT v) v := by
  cases v <;> first | exact ⟨_, rfl⟩ | exact rVal
theorem lk_mem {x : Str} {v : Value} : ∀ {l : List (Str × Value)}, l.lookup x = some v → ∃ n : Nat, l[n]? = some (x, v)
  | (y, u) :: r, h => by
    rw [List.lookup_cons] at h
    split at h
    · rename_i e; cases h; exact ⟨0, by rw [eq_of_beq e]; rfl⟩
    · obtain ⟨n, e⟩ := lk_mem h; exact ⟨n + 1, e⟩
noncomputable def gAv (x : Str) : Option AV := match decide (x = "TEXT_LIB") with
  | true => some (.tup (textRows.map rowAV))
  | false => match decide (x = "NUMBER_LIB") with
    | true => some (.tup (numRows.map rowAV))
    | false => match gTab.lookup x with
      | some v => some (avT v)
      | none => (bTab.lookup x).map .val
theorem gAv_ok (W : Wd w B) {x : Str} {a : AV} (h : gAv x = some a) : GI B x a := by
  unfold gAv at h
  split at h
  · rename_i e; cases of_decide_eq_true e; cases h; exact g_textRows W
  · split at h
    · rename_i e; cases of_decide_eq_true e; cases h; exact g_numRows W
    · split at h
      · rename_i e; cases h; obtain ⟨n, e⟩ := lk_mem e; exact ⟨_, glob_of W (gGet _ n e), fun _ _ => avT_ok⟩
      · obtain ⟨v, e, rfl⟩ := Option.map_eq_some_iff.mp h; obtain ⟨n, e⟩ := lk_mem e; exact giB W n e
noncomputable def gKind : NameKind → Bool
  | .globalImplicit => true
  | _ => false
noncomputable def lKind : NameKind → Bool
  | .local => true
  | _ => false
noncomputable def gsC (x : Str) : Option AV → List (Str × AV) → List (Str × AV)
  | some a, r => (x, a) :: r
  | none, r => r
noncomputable def gsOf : List (Str × NameKind) → List (Str × AV)
  | [] => []
  | (x, k) :: r => match gKind k with
    | true => gsC x (gAv x) (gsOf r)
    | false => gsOf r
theorem gs_ok (W : Wd w B) : ∀ l, GS B (gsOf l)
  | [] => trivial
  | (x, k) :: r => by
    unfold gsOf
    cases gKind k with
    | false => exact gs_ok W r
    | true =>
      cases e : gAv x with
      | none => exact gs_ok W r
      | some a => exact ⟨gAv_ok W e, gs_ok W r⟩
noncomputable def psOf (s : Stmt) : List Str := (sArgs s).args.map (·.arg)
noncomputable def usOf (s : Stmt) : List Str := ((sScope s).names.filter fun p => Bool.and (lKind p.2) (!(psOf s).contains p.1)).map (·.1)
noncomputable def cKind : NameKind → Bool
  | .cell => true
  | _ => false
noncomputable def cnOf (s : Stmt) : List Str := ((sScope s).names.filter fun p => cKind p.2).map (·.1)
noncomputable def locOf (s : Stmt) (l : List AV) : Loc := mkLocC (psOf s) l (usOf s) (cnOf s) (gsOf (sScope s).names)
noncomputable def Eh (E : AE → HS → Prop) : QE := fun ae σ => E ae σ.H
section
variable {kk : Nat} {H : HS} {fa : Addr} {l : List AV} {Q : AV → HS → Prop} {E : AE → HS → Prop} (s : Stmt) (q : Str) (dv : Value) (pm : Str) (pt : Nat) (code : Addr)
noncomputable abbrev sD : FuncData := fnD q dv pm pt code (sName s) (sArgs s) (sBody s) (sScope s)
noncomputable def cwB (n : Nat) : Bool := Bool.and (isFn s) (Bool.and (Nat.beq n (psOf s).length) (entryOkC (sScope s) (psOf s) (usOf s) (cnOf s) ((gsOf (sScope s).names).map (·.1))))
theorem allN_mono : ∀ {n : Nat} {P Q : List Value → Prop}, (∀ vs, P vs → Q vs) → allN n P → allN n Q
  | 0, _, _, h, x => h _ x
  | _ + 1, _, _, h, x => fun v => allN_mono (fun vs => h (v :: vs)) (x v)
structure AtC (kk : Nat) (H : HS) (s : Stmt) (c : Ctx w B) : Prop where
  k : c.k = kk
  hh : c.A.handled = none
  H0 : c.H0 = H
  top : Top c
  cl : ∀ y a, c.env.cells.lookup y = some a → a ∈ c.own
  kd : ∀ y, c.env.kindOf y = (sScope s).names.lookup y
theorem CW_goB (ho : ∀ w : World, (KF w.params).lookup fa = some (fnO s q dv pm pt code) := by intro w; kernel_rfl) (hcd : ∀ w : World, codeIn (KF w.params) (.ref code) q = true := by intro w; kernel_rfl) (hk : autoParam (cwB s l.length = true) kr)
    (hb : ∀ (w : World) (s' : Shared), (∀ a o, (KF w.params).lookup a = some o → s'.heap.get? a = some o) → allN (psOf s).length fun vs => BindsTo s' (sD s q dv pm pt code) ⟨vs, []⟩ ((psOf s).zip vs))
    (h : ∀ c : Ctx w B, AtC kk H s c → Me c (Eh E) (ZF (RQ Q)) (go ⟨.ss (sBody s), [], locOf s l, H⟩)) : CW w B (kk + 1) H (.ref fa) l Q E := by
  have h1 := andt hk
  have h2 := andt h1.2
  obtain ⟨n, a, b, d, r, tp, sc, ts, bi, p, rfl⟩ := isFn_ok h1.1
  exact CW_defC (fn_at rfl ho) hcd rfl ⟨rfl, rfl, rfl⟩ _ _ _ _ (Nat.eq_of_beq_eq_true h2.1) (fun w s' vs hK hv => allN_ok (hb w s' hK) vs hv) h2.2 (fun W => gs_ok W _) fun c h1 h2 h3 h4 h5 h6 => go_ok (h c ⟨h1, h2, h3, h4, h5, h6⟩)
theorem CW_go (ho : ∀ w : World, (KF w.params).lookup fa = some (fnO s q dv pm pt code) := by intro w; kernel_rfl) (hcd : ∀ w : World, codeIn (KF w.params) (.ref code) q = true := by intro w; kernel_rfl) (hk : autoParam (cwB s l.length = true) kr)
    (hb : allN (psOf s).length fun vs => bindArgs (sD s q dv pm pt code) ⟨vs, []⟩ = pure ((psOf s).zip vs) := by (repeat intro _); show _ = _; kernel_rfl)
    (h : ∀ c : Ctx w B, AtC kk H s c → Me c (Eh E) (ZF (RQ Q)) (go ⟨.ss (sBody s), [], locOf s l, H⟩)) : CW w B (kk + 1) H (.ref fa) l Q E :=
  CW_goB s q dv pm pt code ho hcd hk (fun _ s _ => allN_mono (fun vs h => .of_eq h) hb) h
end
end Mine
namespace Mine
variable {w : World} {B : Heap} {c : Ctx w B} {E : QE} {Z : Rt → St → Prop} {k : Cf}
theorem Me_x {s : Stmt} (e : k.c = .x s) (h : XW c k.σ (exec s c.env) (Kf c E Z k) E) : Me c E Z k := Me_of e (XW.mono h (fun _ _ m => go_ok m) fun _ _ z => z)
theorem Me_e {x : Expr} (e : k.c = .e x) (h : EW c k.σ (eval x c.env) (Kv c E Z k) E) : Me c E Z k := Me_of e (EW.mono h (fun _ _ m => go_ok m) fun _ _ z => z)
noncomputable def No : QE := fun _ _ => False
theorem TW_mono {σ : St} {t : Sem Bool} {Q Q' : Bool → St → Prop} {E' : QE} (h : TW c σ t Q E) (q : ∀ a σ, Q a σ → Q' a σ) (e : ∀ a σ, E a σ → E' a σ) : TW c σ t Q' E' := fun F s R =>
  wpAny_mono (h F s R) (fun _ _ zz => zz.q q) fun _ _ zz => zz.elim fun F' σ' ae l R' x h => ⟨F', σ', ae, l, R', x, e _ _ h⟩
noncomputable def updL : List (Str × AV) → Loc → Loc
  | [], l => l
  | (x, a) :: r, l => updL r (match setL x a l with
    | some l' => l'
    | none => l)
noncomputable def Cf.lp (k : Cf) (C : Ctl) (us : List (Str × AV)) : Cf := ⟨C, [], updL us k.loc, k.H⟩
noncomputable def dE : Expr := .Constant .none 0 ⟨0, 0, 0, 0⟩
noncomputable def Ctl.wh : (C : Ctl) → Option {q : (Expr × List Stmt) × Pos // C = .x (.While q.1.1 q.1.2 [] q.2)}
  | .x (.While t b [] p) => some ⟨((t, b), p), rfl⟩
  | _ => none
noncomputable def Ctl.wT (C : Ctl) : Expr := match C.wh with
  | some q => q.1.1.1
  | none => dE
noncomputable def Ctl.wB (C : Ctl) : List Stmt := match C.wh with
  | some q => q.1.1.2
  | none => []
theorem isW_ok {C : Ctl} (h : C.wh.isSome = true) : ∃ p, C = .x (.While C.wT C.wB [] p) := by
  unfold Ctl.wT Ctl.wB
  revert h
  cases C.wh with
  | some q => exact fun _ => ⟨_, q.2⟩
  | none => exact fun h => nomatch h
noncomputable def Zb (c : Ctx w B) (E : QE) (Z : Rt → St → Prop) (k : Cf) (Again X : St → Prop) : Rt → St → Prop
  | .f f, σ => match f with
    | .next => Again σ
    | .cont => Again σ
    | .brk => X σ
    | .ret a => Me c E Z (go (k.flow (.ret a) σ))
  | _, _ => False
noncomputable def Zx (c : Ctx w B) (E : QE) (Z : Rt → St → Prop) (k : Cf) (Again X : St → Prop) : Rt → St → Prop
  | .t b, σ => (b = true → Me c No (Zb c E Z k Again X) (go ⟨.ss k.c.wB, [], σ.loc, σ.H⟩)) ∧ (b = false → X σ)
  | _, _ => False
noncomputable def dropS (xs : List Str) (x : Str) : Slot → Slot
  | .lv a => match xs.contains x with
    | true => .un
    | false => .lv a
  | s => s
noncomputable def dropL (xs : List Str) : Loc → Loc
  | [] => []
  | (x, s) :: r => (x, dropS xs x s) :: dropL xs r
theorem dropL_weak (xs : List Str) : ∀ l : Loc, LWeak l (dropL xs l)
  | [] => .nil
  | (x, s) :: r => by
    have q := dropL_weak xs r
    show LWeak ((x, s) :: r) ((x, dropS xs x s) :: dropL xs r)
    cases s with
    | lv a =>
      have g : ∀ b, LWeak ((x, .lv a) :: r) ((x, match b with | true => Slot.un | false => .lv a) :: dropL xs r) := fun b => by
        cases b with
        | true => exact .drop q
        | false => exact .same q
      exact g _
    | _ => exact .same q
noncomputable def Ag {α : Type} (xs : List Str) (stf : α → St) (ok : α → Prop) (ms : α → Nat) (n : Nat) (σ : St) : Prop := ∃ b, (ms b < n ∧ ok b) ∧ (dropL xs σ.loc, σ.H) = ((stf b).loc, (stf b).H)
theorem run_wG {α : Type} (xs : List Str) (stf : α → St) (ok : α → Prop) (ms : α → Nat) (a0 : α) (X : St → Prop) (e : autoParam (k.c.wh.isSome = true) kr) (h0 : autoParam (k.σ = stf a0) kr) (o0 : ok a0)
    (h : ∀ a, ok a → Me c No (Zx c E Z k (Ag xs stf ok ms (ms a)) X) (go ⟨.tst k.c.wT, [], (stf a).loc, (stf a).H⟩)) (hx : ∀ σ, X σ → Me c E Z (go (k.flow .next σ))) : Me c E Z k := by
  obtain ⟨p, e'⟩ := isW_ok e
  refine Me_x e' (XW_While (fun n σ => ∃ a, n = ms a ∧ ok a ∧ σ = stf a) (ms a0) ⟨a0, rfl, o0, h0⟩ fun n σ hi => hi.elim fun a ha => ?_)
  rw [ha.1, ha.2.2]
  have ag : ∀ τ, Ag xs stf ok ms (ms a) τ → ∃ σ', Weak τ σ' ∧ ∃ m, m < ms a ∧ ∃ b', m = ms b' ∧ ok b' ∧ σ' = stf b' := fun τ hb => hb.elim fun b hb => by
    have e1 : dropL xs τ.loc = (stf b).loc := congrArg Prod.fst hb.2
    exact ⟨stf b, ⟨e1 ▸ dropL_weak xs τ.loc, (congrArg Prod.snd hb.2).symm⟩, ms b, hb.1.1, b, rfl, hb.1.2, rfl⟩
  refine TW_mono (go_ok (h a ha.2.1)) (fun tb τ hz => ⟨fun ht => XW.mono (go_ok (hz.1 ht)) (fun f τ y => ?_) fun _ _ z => z.elim, fun ht => hx _ (hz.2 ht)⟩) fun _ _ z => z.elim
  cases f with
  | next => exact ag τ y
  | cont => exact ag τ y
  | brk => exact hx _ y
  | ret a => exact y
noncomputable def Cf.us (k : Cf) {α : Type} (us : α → List (Str × AV)) (a : α) : St := ⟨updL (us a) k.loc, k.H⟩
noncomputable def Cf.uH (k : Cf) {α : Type} (us : α → List (Str × AV)) (Hs : α → HS) (a : α) : St := ⟨updL (us a) k.loc, Hs a⟩
theorem run_wx {α β : Type} (us : α → List (Str × AV)) (ok : α → Prop) (ms : α → Nat) (a0 : α) (vs : β → List (Str × AV)) (xo : β → Prop) (e : autoParam (k.c.wh.isSome = true) kr) (h0 : autoParam (k.σ = k.us us a0) kr) (o0 : ok a0)
    (h : ∀ a, ok a → Me c No (Zx c E Z k (Ag [] (k.us us) ok ms (ms a)) fun σ => ∃ b, xo b ∧ σ = k.us vs b) (go (k.lp (.tst k.c.wT) (us a))))
    (hx : ∀ b, xo b → Me c E Z (go ⟨.r (.f .next), k.K, updL (vs b) k.loc, k.H⟩)) : Me c E Z k :=
  run_wG [] (k.us us) ok ms a0 _ e h0 o0 h fun σ hb => hb.elim fun b hb => hb.2 ▸ hx b hb.1
theorem run_wl {α : Type} (us : α → List (Str × AV)) (ok : α → Prop) (ms : α → Nat) (a0 : α) (e : autoParam (k.c.wh.isSome = true) kr) (h0 : autoParam (k.σ = k.us us a0) kr) (o0 : ok a0)
    (h : ∀ a, ok a → Me c No (Zx c E Z k (Ag [] (k.us us) ok ms (ms a)) fun σ => Me c E Z (go (k.flow .next σ))) (go (k.lp (.tst k.c.wT) (us a)))) : Me c E Z k :=
  run_wG [] (k.us us) ok ms a0 _ e h0 o0 h fun _ h => h
theorem run_wH {α : Type} (xs : List Str) (us : α → List (Str × AV)) (Hs : α → HS) (ok : α → Prop) (ms : α → Nat) (a0 : α) (xo : α → Prop) (e : autoParam (k.c.wh.isSome = true) kr) (h0 : autoParam (k.σ = k.uH us Hs a0) kr) (o0 : ok a0)
    (h : ∀ a, ok a → Me c No (Zx c E Z k (Ag xs (k.uH us Hs) ok ms (ms a)) fun σ => ∃ b, xo b ∧ σ = k.uH us Hs b) (go ⟨.tst k.c.wT, [], (k.uH us Hs a).loc, (k.uH us Hs a).H⟩))
    (hx : ∀ b, xo b → Me c E Z (go ⟨.r (.f .next), k.K, updL (us b) k.loc, Hs b⟩)) : Me c E Z k :=
  run_wG xs (k.uH us Hs) ok ms a0 _ e h0 o0 h fun σ hb => hb.elim fun b hb => hb.2 ▸ hx b hb.1
theorem wx_t {Again X : St → Prop} {σ : St} (h : Me c No (Zb c E Z k Again X) (go ⟨.ss k.c.wB, [], σ.loc, σ.H⟩)) : Zx c E Z k Again X (.t true) σ := ⟨fun _ => h, fun z => (nomatch z)⟩
theorem wx_f {Again X : St → Prop} {σ : St} (h : X σ) : Zx c E Z k Again X (.t false) σ := ⟨fun z => (nomatch z), fun _ => h⟩
theorem ag_of {α : Type} {xs : List Str} {stf : α → St} {ok : α → Prop} {ms : α → Nat} {n : Nat} {σ : St} (b : α) (hm : ms b < n) (ho : ok b) (e : autoParam ((dropL xs σ.loc, σ.H) = ((stf b).loc, (stf b).H)) kr) : Ag xs stf ok ms n σ := ⟨b, ⟨hm, ho⟩, e⟩
noncomputable def put1 (x : Str) (a : Slot) : Loc → Loc
  | [] => []
  | (y, s) :: r => if x = y then (y, a) :: r else (y, s) :: put1 x a r
noncomputable def putS : List (Str × Slot) → Loc → Loc
  | [], l => l
  | (x, a) :: r, l => putS r (put1 x a l)
theorem run_tc {T : Type} (us : T → List (Str × Slot)) (ok : T → Prop) (t : Bool) (e : autoParam (k.c = .r (.t t)) kr)
    (tail : ∀ a, ok a → Me c E Z (go ⟨.bd false, k.K, putS (us a) k.loc, k.H⟩))
    (h1 : t = true → (∀ a, ok a → ∀ k', go ⟨.bd false, k.K, putS (us a) k.loc, k.H⟩ = k' → Me c E Z k') → Me c E Z (go (k.bd true)))
    (h2 : t = false → ∃ a, ok a ∧ k.loc = putS (us a) k.loc) : Me c E Z k := by
  refine run_t t e (fun h => h1 h fun a ha k' ek => ek ▸ tail a ha) fun h => ?_
  obtain ⟨a, ha, es⟩ := h2 h
  have := tail a ha
  rw [← es] at this
  exact this
theorem run_join {T : Type} (n : Nat) (us : T → List (Str × Slot)) (ok : T → Prop) (tail : ∀ a, ok a → Me c E Z (go ⟨.r (.f .next), k.K.drop n, putS (us a) k.loc, k.H⟩))
    (h : (∀ a, ok a → ∀ k', go ⟨.r (.f .next), k.K.drop n, putS (us a) k.loc, k.H⟩ = k' → Me c E Z k') → Me c E Z k) : Me c E Z k := h fun a ha k' e => e ▸ tail a ha
theorem run_joinH {T : Type} (n : Nat) (us : T → List (Str × Slot)) (Hs : T → HS) (ok : T → Prop) (tail : ∀ a, ok a → Me c E Z (go ⟨.r (.f .next), k.K.drop n, putS (us a) k.loc, Hs a⟩))
    (h : (∀ a, ok a → ∀ k', go ⟨.r (.f .next), k.K.drop n, putS (us a) k.loc, Hs a⟩ = k' → Me c E Z k') → Me c E Z k) : Me c E Z k := h fun a ha k' e => e ▸ tail a ha
theorem run_joinC {T : Type} (C : Ctl) (n : Nat) (ok : T → Prop) (tail : ∀ a, ok a → Me c E Z (go ⟨C, k.K.drop n, k.loc, k.H⟩))
    (h : (∀ a, ok a → ∀ k', go ⟨C, k.K.drop n, k.loc, k.H⟩ = k' → Me c E Z k') → Me c E Z k) : Me c E Z k := h fun a ha k' e => e ▸ tail a ha
theorem run_joinA {T : Type} (kf : T → Cf) (ok : T → Prop) (tail : ∀ a, ok a → Me c E Z (go (kf a))) (h : (∀ a, ok a → ∀ k', go (kf a) = k' → Me c E Z k') → Me c E Z k) : Me c E Z k := h fun a ha k' e => e ▸ tail a ha
theorem run_joinL {T : Type} (ss : List Stmt) (us : T → List (Str × Slot)) (ok : T → Prop) (tail : ∀ a, ok a → Me c E Z (go ⟨.ss ss, [], putS (us a) k.loc, k.H⟩)) (h : (∀ a, ok a → ∀ k', go ⟨.ss ss, [], putS (us a) k.loc, k.H⟩ = k' → Me c E Z k') → Me c E Z k) : Me c E Z k := h fun a ha k' e => e ▸ tail a ha
theorem run_cut (k2 : Cf) (e : autoParam (k = go k2) kr) (m : Me c E Z (go k2)) : Me c E Z k := e ▸ m
noncomputable def foE : Expr → Bool
  | .Name .. => true
  | .Subscript .. => true
  | .Call .. => true
  | .Attribute .. => true
  | .Tuple .. => true
  | _ => false
noncomputable def Ctl.fo : (C : Ctl) → Option {q : (Expr × Expr) × (List Stmt × Pos) // foE q.1.2 = true ∧ C = .x (.For q.1.1 q.1.2 q.2.1 [] q.2.2)}
  | .x (.For t i b [] p) => match h : foE i with
    | true => some ⟨((t, i), (b, p)), h, rfl⟩
    | false => none
  | _ => none
noncomputable def Ctl.fT (C : Ctl) : Expr := match C.fo with
  | some q => q.1.1.1
  | none => dE
noncomputable def Ctl.fI (C : Ctl) : Expr := match C.fo with
  | some q => q.1.1.2
  | none => dE
noncomputable def Ctl.fB (C : Ctl) : List Stmt := match C.fo with
  | some q => q.1.2.1
  | none => []
theorem isF_ok {C : Ctl} (h : C.fo.isSome = true) : foE C.fI = true ∧ ∃ p, C = .x (.For C.fT C.fI C.fB [] p) := by
  unfold Ctl.fT Ctl.fI Ctl.fB
  revert h
  cases C.fo with
  | some q => exact fun _ => ⟨q.2.1, _, q.2.2⟩
  | none => exact fun h => nomatch h
theorem fold_ok {i : Expr} (h : foE i = true) : ∀ x env, foldedSetIterable i env x = pure x := by
  intro x env
  cases i <;> first | (with_unfolding_all rfl; done) | cases h
noncomputable def Zfor (c : Ctx w B) (E : QE) (Z : Rt → St → Prop) (k : Cf) : Rt → St → Prop
  | .v a, σ => ForW c σ a k.c.fT k.c.fB (Kf c E Z k) E
  | _, _ => False
theorem q_for (e : autoParam (k.c.fo.isSome = true) kr) (m : Me c E (Zfor c E Z k) (go ⟨.e k.c.fI, [], k.loc, k.H⟩)) : Me c E Z k := by
  obtain ⟨hv, p, e'⟩ := isF_ok e
  exact Me_x e' (XW_For (go_ok m) (fold_ok hv))
noncomputable def exPos : Expr → Pos
  | .Name _ p => p
  | _ => ⟨0, 0, 0, 0⟩
noncomputable def Nx1 {α : Type} (xs : List Str) (stf : α → St) (ok : α → Prop) (σ : St) : Prop := ∃ a, ok a ∧ (dropL xs σ.loc, σ.H) = ((stf a).loc, (stf a).H)
noncomputable def Zg {α : Type} (xs : List Str) (stf : α → St) (ok : α → Prop) (Q : QF) : Rt → St → Prop
  | .f f, σ => match f with
    | .next => Nx1 xs stf ok σ
    | .cont => Nx1 xs stf ok σ
    | .brk => Q .next σ
    | .ret a => Q (.ret a) σ
  | _, _ => False
theorem nx_of {α : Type} {xs : List Str} {stf : α → St} {ok : α → Prop} {σ : St} (a : α) (h : ok a) (e : autoParam ((dropL xs σ.loc, σ.H) = ((stf a).loc, (stf a).H)) kr) : Nx1 xs stf ok σ := ⟨a, h, e⟩
theorem loop_end {α : Type} {xs : List Str} {stf : α → St} {ok : α → Prop} {Q : QF} {f : AF} {υ : St} (y : Zg xs stf ok Q (.f f) υ) : LoopQ (fun σ => ∃ a, ok a ∧ σ = stf a) Q f υ := by
  have g : ∀ (υ : St), Nx1 xs stf ok υ → ∃ σ', Weak υ σ' ∧ ∃ a, ok a ∧ σ' = stf a := fun υ h => h.elim fun a h => by
    have e1 : dropL xs υ.loc = (stf a).loc := congrArg Prod.fst h.2
    have e2 : υ.H = (stf a).H := congrArg Prod.snd h.2
    exact ⟨stf a, ⟨e1 ▸ dropL_weak xs υ.loc, e2.symm⟩, a, h.1, rfl⟩
  cases f with
  | next => exact g _ y
  | cont => exact g _ y
  | brk => exact y
  | ret a => exact y
theorem ob_g {α : Type} {σ : St} {n : Nat} {item : Nat → AV} {t : Expr} {body : List Stmt} {Q : QF} (x : Str) (et : t = .Name x (exPos t)) (xs : List Str) (stf : α → St) (ok : Nat → α → Prop) (a0 : α) (h0 : σ = stf a0) (o0 : ok 0 a0)
    (st : ∀ i a, i < n → ok i a → ∀ c' : Ctx w B, c'.A.handled = c.A.handled → c'.k = c.k → Me c' No (Zg xs stf (ok (i + 1)) Q) (go ⟨.stn x (item i), [.seq body], (stf a).loc, (stf a).H⟩)) (fin : ∀ a, ok n a → Q .next (stf a)) : ForOb c σ n item t body Q := by
  refine ⟨fun i σ => ∃ a, ok i a ∧ σ = stf a, ⟨a0, o0, h0⟩, fun i σ' hi hI c' e1 e2 e3 => hI.elim fun a ha => ?_, fun σ' h => h.elim fun a ha => ha.2 ▸ fin a ha.1⟩
  rw [ha.2, et]
  exact StW_name (StW.q (go_ok (st i a hi ha.1 c' (by rw [e1]) e3)) fun τ z => XW.mono z (fun f υ y => loop_end y) fun _ _ z => z)
theorem for_hl {t : Expr} {x : Str} (et : t = .Name x (exPos t)) : ∀ it v, letOwnedTupleGo t it v = pure () := by
  intro it v
  rw [et]
  with_unfolding_all rfl
noncomputable def St.up (σ : St) (us : List (Str × AV)) : St := ⟨updL us σ.loc, σ.H⟩
section
variable {α : Type} {σ : St} {t : Expr} {body : List Stmt} {Q : QF} (hh : c.A.handled = none) (x : Str) (et : t = .Name x (exPos t)) (xs : List Str) (stf : α → St) (ok : Nat → α → Prop) (a0 : α) (h0 : σ = stf a0) (o0 : ok 0 a0)
include hh et h0 o0
theorem for_str {y : Str} (st : ∀ i a, i < y.cps.size → ok i a → ∀ c' : Ctx w B, c'.A.handled = none → c'.k = c.k → Me c' No (Zg xs stf (ok (i + 1)) Q) (go ⟨.stn x (.str ⟨#[(y.cps[i]?).getD 0]⟩), [.seq body], (stf a).loc, (stf a).H⟩)) (fin : ∀ a, ok y.cps.size a → Q .next (stf a)) : ForW c σ (.str y) t body Q E :=
  For_str hh (ob_g x et xs stf ok a0 h0 o0 (fun i a hi oa c' e1 e2 => st i a hi oa c' (e1.trans hh) e2) fin) (for_hl et)
theorem for_rng {n : Nat} (hn : n ≤ 100000) (st : ∀ i a, i < n → ok i a → ∀ c' : Ctx w B, c'.A.handled = none → c'.k = c.k → Me c' No (Zg xs stf (ok (i + 1)) Q) (go ⟨.stn x (.int i), [.seq body], (stf a).loc, (stf a).H⟩)) (fin : ∀ a, ok n a → Q .next (stf a)) : ForW c σ (.rng n) t body Q E :=
  For_rng n hh hn (ob_g x et xs stf ok a0 h0 o0 (fun i a hi oa c' e1 e2 => st i a hi oa c' (e1.trans hh) e2) fin) (for_hl et)
theorem for_tup {l : List AV} (st : ∀ i a, i < l.length → ok i a → ∀ c' : Ctx w B, c'.A.handled = none → c'.k = c.k → Me c' No (Zg xs stf (ok (i + 1)) Q) (go ⟨.stn x ((l[i]?).getD .none), [.seq body], (stf a).loc, (stf a).H⟩)) (fin : ∀ a, ok l.length a → Q .next (stf a)) : ForW c σ (.tup l) t body Q E :=
  For_tup hh (ob_g x et xs stf ok a0 h0 o0 (fun i a hi oa c' e1 e2 => st i a hi oa c' (e1.trans hh) e2) fin) (for_hl et)
end
section
variable {α : Type} {σ : St} {t : Expr} {body : List Stmt} {Q : QF} (hh : c.A.handled = none) (x : Str) (xs : List Str) (us : α → List (Str × AV)) (ok : Nat → α → Prop) (a0 : α) (et : autoParam (t = .Name x (exPos t)) kr) (h0 : autoParam (σ = σ.up (us a0)) kr) (o0 : ok 0 a0)
noncomputable def Us {α : Type} (σ : St) (us : α → List (Str × AV)) (a : α) : St := σ.up (us a)
include hh et h0 o0
theorem for_strU {y : Str} (st : ∀ i a, i < y.cps.size → ok i a → ∀ c' : Ctx w B, c'.A.handled = none → c'.k = c.k → Me c' No (Zg xs (Us σ us) (ok (i + 1)) Q) (go ⟨.stn x (.str ⟨#[(y.cps[i]?).getD 0]⟩), [.seq body], (Us σ us a).loc, (Us σ us a).H⟩)) (fin : ∀ a, ok y.cps.size a → Q .next (Us σ us a)) : ForW c σ (.str y) t body Q E :=
  for_str hh x et xs (Us σ us) ok a0 h0 o0 st fin
theorem for_rngU {n : Nat} (hn : n ≤ 100000) (st : ∀ i a, i < n → ok i a → ∀ c' : Ctx w B, c'.A.handled = none → c'.k = c.k → Me c' No (Zg xs (Us σ us) (ok (i + 1)) Q) (go ⟨.stn x (.int i), [.seq body], (Us σ us a).loc, (Us σ us a).H⟩)) (fin : ∀ a, ok n a → Q .next (Us σ us a)) : ForW c σ (.rng n) t body Q E :=
  for_rng hh x et xs (Us σ us) ok a0 h0 o0 hn st fin
end
theorem VW_findE {x y : Str} {d : Int} {σ : St} {Q : QA} (h : Txt.find x y = d) (q : Q (.int d) σ) : VW c σ [.str x, .str y] (fun vs => call (.builtin "str.find") vs []) Q E := VW_find (h ▸ q)
noncomputable def Ctl.ra : (C : Ctl) → Option {q : Expr × Pos // C = .x (.Raise (some q.1) none q.2)}
  | .x (.Raise (some y) none p) => some ⟨(y, p), rfl⟩
  | _ => none
noncomputable def Ctl.rE (C : Ctl) : Expr := match C.ra with
  | some q => q.1.1
  | none => dE
theorem isR_ok {C : Ctl} (h : C.ra.isSome = true) : ∃ p, C = .x (.Raise (some C.rE) none p) := by
  unfold Ctl.rE
  revert h
  cases C.ra with
  | some q => exact fun _ => ⟨_, q.2⟩
  | none => exact fun h => nomatch h
theorem q_raiseD {C fI : Addr} (hx : ∀ w : World, ExcK w C fI) (hh : c.A.handled = none) (e : autoParam (k.c.ra.isSome = true) kr) (m : Me c E (ZV (RaiseD c C E)) (go ⟨.e k.c.rE, [], k.loc, k.H⟩)) : Me c E Z k :=
  (isR_ok e).elim fun p e' => Me_x e' (XW_RaiseD hx hh (go_ok m))
theorem q_raiseK {C fI : Addr} (hx : ∀ w : World, ExcK w C fI) (hh : c.A.handled = none) (e : autoParam (k.c.ra.isSome = true) kr) (m : Me c E (ZV (RaiseK c C E)) (go ⟨.e k.c.rE, [], k.loc, k.H⟩)) : Me c E Z k :=
  (isR_ok e).elim fun p e' => Me_x e' (XW_RaiseK hx hh (go_ok m))
structure Nms (es : List Expr) : Prop where
  ok : ∀ env, (assignEach es env).length = es.length ∧ List.findIdx? (fun x => x.fst) (assignEach es env) = none
noncomputable def names : (es : List Expr) → Option (PLift (Nms es))
  | [] => some ⟨⟨fun _ => ⟨rfl, rfl⟩⟩⟩
  | .Name x p :: r => match names r with
    | some q => some ⟨⟨fun env => ⟨congrArg (· + 1) (q.1.1 env).1, by
        show (List.findIdx? (fun x => x.fst) ((false, _) :: assignEach r env)) = none
        rw [List.findIdx?_cons, (q.1.1 env).2]; rfl⟩⟩⟩
    | none => none
  | _ => none
noncomputable def uvE : Expr → Bool
  | .Name .. => true
  | .Subscript .. => true
  | .Call .. => true
  | .IfExp .. => true
  | _ => false
noncomputable def Ctl.un : (C : Ctl) → Option {q : (List Expr × Expr) × (Nat × Pos × Pos) // (Nms q.1.1 ∧ uvE q.1.2 = true) ∧ C = .x (.Assign [.Tuple q.1.1 q.2.1 q.2.2.1] q.1.2 q.2.2.2)}
  | .x (.Assign [.Tuple es n tp] v p) => match names es, h : uvE v with
    | some q, true => some ⟨((es, v), (n, tp, p)), ⟨q.1, h⟩, rfl⟩
    | _, _ => none
  | _ => none
noncomputable def Ctl.uT (C : Ctl) : List Expr := match C.un with
  | some q => q.1.1.1
  | none => []
noncomputable def Ctl.uV (C : Ctl) : Expr := match C.un with
  | some q => q.1.1.2
  | none => dE
theorem isU_ok {C : Ctl} (h : C.un.isSome = true) : (Nms C.uT ∧ uvE C.uV = true) ∧ ∃ n tp p, C = .x (.Assign [.Tuple C.uT n tp] C.uV p) := by
  unfold Ctl.uT Ctl.uV
  revert h
  cases C.un with
  | some q => exact fun _ => ⟨q.2.1, _, _, _, q.2.2⟩
  | none => exact fun h => nomatch h
theorem val_sw {v : Expr} {es : List Expr} {n : Nat} {tp p : Pos} {env : Env} (h : uvE v = true) : swapsWithSole [.Tuple es n tp] v p.line env = pure false ∧ swappedStores [.Tuple es n tp] v env = pure none := by
  cases v <;> first | exact ⟨by with_unfolding_all rfl, by with_unfolding_all rfl⟩ | cases h
theorem q_unp (hh : c.A.handled = none) (e : autoParam (k.c.un.isSome = true) kr) (m : Me c E Z (go ⟨.e k.c.uV, .unp k.c.uT :: k.K, k.loc, k.H⟩)) : Me c E Z k := by
  obtain ⟨h, n, tp, p, e'⟩ := isU_ok e
  exact Me_of e' (XW_Unpack hh (go_ok m) h.1.ok (val_sw (p := p) h.2).1 (val_sw (p := p) h.2).2)
noncomputable def Cf.mt (k : Cf) (f : Value) (fl : List AV) : Cf := match k.c with
  | .meth p as _ _ => ⟨.ls p as, .callP f fl :: k.K, k.loc, k.H⟩
  | _ => k
noncomputable def Ctl.mQ : (C : Ctl) → Option {q : (Pos × List Expr) × (AV × Str) // C = .meth q.1.1 q.1.2 q.2.1 q.2.2}
  | .meth p as a n => some ⟨((p, as), (a, n)), rfl⟩
  | _ => none
noncomputable def Ctl.mA (C : Ctl) : Option (AV × Str) := match C.mQ with
  | some q => some q.1.2
  | none => none
theorem mA_ok {C : Ctl} {a : AV} {n : Str} : C.mA = some (a, n) → ∃ p as, C = .meth p as a n := by
  unfold Ctl.mA
  cases C.mQ with
  | some q => exact fun h => ⟨_, _, by have h := Option.some.inj h; have e := q.2; rw [h] at e; exact e⟩
  | none => exact fun h => nomatch h
theorem q_meth (a : AV) (n : Str) (H0 : HS) (f : Value) (fl : List AV) (hk : Wd w B → KeepOk w B f) (hm : MB c ⟨k.loc, H0⟩ a n f fl) (e : autoParam ((k.c.mA, k.H) = (some (a, n), H0)) kr) (m : Me c E Z (go (k.mt f fl))) : Me c E Z k := by
  obtain ⟨p, as, e'⟩ := mA_ok (Prod.mk.inj e).1
  cases (Prod.mk.inj e).2
  unfold Cf.mt at m
  rw [e'] at m
  exact Me_of e' ⟨f, fl, hk, hm, go_ok m⟩
noncomputable def Cf.li (k : Cf) (h : Bool) : Cf := match k.c with
  | .e (.List es p) => ⟨.ls p es, .lst h :: k.K, k.loc, k.H⟩
  | _ => k
noncomputable def Ctl.isL : (C : Ctl) → Option {q : List Expr × Pos // C = .e (.List q.1 q.2)}
  | .e (.List es p) => some ⟨(es, p), rfl⟩
  | _ => none
theorem isL_ok {C : Ctl} (h : C.isL.isSome = true) : ∃ es p, C = .e (.List es p) := by
  cases e : C.isL with
  | some q => exact ⟨_, _, q.2⟩
  | none => rw [e] at h; cases h
theorem q_list (h : Bool) (e : autoParam (k.c.isL.isSome = true) kr) (m : Me c E Z (go (k.li h))) : Me c E Z k := by
  obtain ⟨es, p, e'⟩ := isL_ok e
  unfold Cf.li at m
  rw [e'] at m
  cases h with
  | false => exact Me_of e' (EW_ListF (go_ok m))
  | true => exact Me_of e' (EW_ListH (go_ok m))
theorem q_lh (l : List AV) (e : autoParam (k.c = .lh l) kr) (h : ∀ a, Me c E Z (go (k.retH (.val (.ref a)) ((a, .lst l) :: k.H)))) : Me c E Z k := Me_of e fun a => go_ok (h a)
noncomputable def Ctl.isD : (C : Ctl) → Option {p : Pos // C = .e (.Dict [] [] p)}
  | .e (.Dict [] [] p) => some ⟨p, rfl⟩
  | _ => none
theorem isD_ok {C : Ctl} (h : C.isD.isSome = true) : ∃ p, C = .e (.Dict [] [] p) := by
  cases e : C.isD with
  | some q => exact ⟨_, q.2⟩
  | none => rw [e] at h; cases h
theorem q_dictS (e : autoParam (k.c.isD.isSome = true) kr) (h : ∀ a, Me c E Z (go (k.retH (.val (.ref a)) ((a, .dctS []) :: k.H)))) : Me c E Z k := (isD_ok e).elim fun p e' => Me_e e' (EW_DictS h)
theorem q_dictI (e : autoParam (k.c.isD.isSome = true) kr) (h : ∀ a, Me c E Z (go (k.retH (.val (.ref a)) ((a, .dctI []) :: k.H)))) : Me c E Z k := (isD_ok e).elim fun p e' => Me_e e' (EW_DictI h)
end Mine
namespace Mine
variable {w : World} {B : Heap} {c : Ctx w B} {E : QE} {Z : Rt → St → Prop} {k : Cf}
theorem mem_at {H : HS} {i : Nat} {o : HObj} (h : hOk H i = true) (e : (hN H i).2 = o) : ((hN H i).1, o) ∈ H := by
  have := hN_mem h
  rw [← Prod.eta (hN H i), e] at this
  exact this
theorem upd_at {H : HS} {i : Nat} {o o' : HObj} (h : hOk H i = true) (e : (hN H i).2 = o) : HUpd (hN H i).1 o o' H (hSet o' H i) := e ▸ hSet_upd h
noncomputable def saB (k : Cf) (i j : Nat) : Bool := Bool.and (Bool.and (hOk k.H i) (hOk k.H j)) (Bool.and (Nat.ble (hN k.H j).2.es.length 900) (storeTab.contains ((hN k.H i).2.cls, k.c.nm)))
noncomputable def esP (k : Cf) (j : Nat) : HObj := .dctS (putK k.c.nm k.c.v2 (hN k.H j).2.es)
theorem q_sA (i j : Nat) (e : autoParam ((k.c, insL k i j) = (.sa (.val (.ref (hN k.H i).1)) k.c.v2 k.c.nm, insR k i j)) kr) (h : autoParam (saB k i j = true) kr) (m : Me c E Z (go (k.nxt (hSet (esP k j) k.H j)))) : Me c E Z k := by
  have h1 := andt h
  have h2 := andt h1.1
  have h3 := andt h1.2
  have e2 := Prod.mk.inj (Prod.mk.inj e).2
  have mx := mem_at h2.1 e2.1
  have u := upd_at (o' := esP k j) h2.2 e2.2
  have m' : Kn' c E Z k ⟨k.loc, hSet (esP k j) k.H j⟩ := m
  exact q_sa _ _ _ k.H (by rw [← (Prod.mk.inj e).1]) (putK_st.elim (fun st => SA_upd mx u (List.contains_iff_mem.mp h3.2) st (len_le h3.1) m') fun st => SA_new mx u (List.contains_iff_mem.mp h3.2) st (len_le h3.1) m')
noncomputable def dsB (k : Cf) (j : Nat) : Bool := Bool.and (hOk k.H j) (Nat.ble (hN k.H j).2.es.length 900)
noncomputable def dS (H : HS) (j : Nat) : HObj := .dctS (hN H j).2.es
noncomputable def dL (H : HS) (j : Nat) : HObj := .lst (hN H j).2.l
theorem q_sS (j : Nat) (e : autoParam ((k.c, (hN k.H j).2) = (.si (.val (.ref (hN k.H j).1)) (.str k.c.nm) k.c.v2, dS k.H j)) kr) (h : autoParam (dsB k j = true) kr) (m : Me c E Z (go (k.nxt (hSet (esP k j) k.H j)))) : Me c E Z k := by
  have h1 := andt h
  have u := upd_at (o' := esP k j) h1.1 (Prod.mk.inj e).2
  have m' : Kn' c E Z k ⟨k.loc, hSet (esP k j) k.H j⟩ := m
  exact q_si _ _ _ k.H (by rw [← (Prod.mk.inj e).1]) (putK_st.elim (fun st => SIS_upd u st (len_le h1.2) m') fun st => SIS_new u st (len_le h1.2) m')
noncomputable def Ctl.s1 : Ctl → List AV
  | .sub (.tup l) _ => l
  | .sub (.lst l) _ => l
  | _ => []
noncomputable def itB (l : List AV) (n : Nat) : Bool := Bool.and (l[n]?).isSome (Nat.blt n 1000000)
theorem itB_ok {l : List AV} {n : Nat} (h : itB l n = true) : 0 ≤ (n : Int) ∧ (n : Int) < 2 ^ 62 ∧ l[(n : Int).toNat]? = some (oA l[n]?) := by
  have h1 := andt h
  have := Nat.le_of_ble_eq_true h1.2
  exact ⟨by omega, by omega, oA_ok h1.1⟩
theorem q_it (n : Nat) (e : autoParam (k.c = .sub (.tup k.c.s1) (.int n)) kr) (h : autoParam (itB k.c.s1 n = true) kr) (m : Me c E Z (go (k.ret (oA k.c.s1[n]?)))) : Me c E Z k :=
  Me_of e fun v s hs => BW_itemT (σ := k.σ) (itB_ok h).1 (itB_ok h).2.1 (itB_ok h).2.2 (go_ok m) hs
theorem q_itL (n : Nat) (e : autoParam (k.c = .sub (.lst k.c.s1) (.int n)) kr) (h : autoParam (itB k.c.s1 n = true) kr) (m : Me c E Z (go (k.ret (oA k.c.s1[n]?)))) : Me c E Z k :=
  Me_of e fun v s hs => BW_itemL (σ := k.σ) (itB_ok h).1 (itB_ok h).2.1 (itB_ok h).2.2 (go_ok m) hs
noncomputable def lM : Str → Option String := fun n => match decide (n = "append") with
  | true => some "list.append"
  | false => match decide (n = "pop") with
    | true => some "list.pop"
    | false => match decide (n = "reverse") with
      | true => some "list.reverse"
      | false => none
theorem lM_ok {σ : St} {ad : Addr} {l : List AV} {n : Str} {f : String} {pos : Pos} {args : List Expr} {Q : QA} (e : lM n = some f) (m : (ad, .lst l) ∈ σ.H) (h : LW c σ pos args (fun l σ₂ => VW c σ₂ (.val (.ref ad) :: l) (fun vs => call (.builtin f) vs []) Q E) E) : MethW c σ pos args (.val (.ref ad)) n Q E := by
  unfold lM at e
  split at e
  · rename_i q; cases of_decide_eq_true q; cases e; exact meth_append m h
  · split at e
    · rename_i q; cases of_decide_eq_true q; cases e; exact meth_pop m h
    · split at e
      · rename_i q; cases of_decide_eq_true q; cases e; exact meth_reverse m h
      · cases e
theorem mt_of {a : AV} {n : Str} {f : Value} {fl : List AV} (e : k.c.mA = some (a, n)) (m : Me c E Z (go (k.mt f fl))) (g : ∀ p as, LW c k.σ p as (fun l τ => VW c τ (fl ++ l) (fun vs => call f vs []) (fun d υ => KM c E Z k.K (.v d) υ) E) E → MethW c k.σ p as a n (fun d υ => KM c E Z k.K (.v d) υ) E) : Me c E Z k := by
  obtain ⟨p, as, e'⟩ := mA_ok e
  unfold Cf.mt at m
  rw [e'] at m
  exact Me_of e' (g p as (go_ok m))
theorem q_mL (j : Nat) (f : String) (e : autoParam ((k.c.mA, (hN k.H j).2) = (some (AV.val (.ref (hN k.H j).1), k.c.nm), dL k.H j)) kr) (h : autoParam ((hOk k.H j, lM k.c.nm) = (true, some f)) kr) (m : Me c E Z (go (k.mt (.builtin f) [.val (.ref (hN k.H j).1)]))) : Me c E Z k :=
  mt_of (Prod.mk.inj e).1 m fun p as q => lM_ok (Prod.mk.inj h).2 (mem_at (Prod.mk.inj h).1 (Prod.mk.inj e).2) q
theorem q_find (x : Str) (e : autoParam (k.c.mA = some (AV.str x, ("find" : Str))) kr) (m : Me c E Z (go (k.mt (.builtin "str.find") [.str x]))) : Me c E Z k := mt_of e m fun p as q => meth_find q
theorem q_lower (x : Str) (e : autoParam (k.c.mA = some (AV.str x, ("lower" : Str))) kr) (m : Me c E Z (go (k.mt (.builtin "str.lower") [.str x]))) : Me c E Z k := mt_of e m fun p as q => meth_lower q
theorem q_join (x : Str) (e : autoParam (k.c.mA = some (AV.str x, ("join" : Str))) kr) (m : Me c E Z (go (k.mt (.builtin "str.join") [.str x]))) : Me c E Z k := mt_of e m fun p as q => meth_join q
theorem q_pref (e : autoParam (k.c.mA = some (AV.val (.ref 123), ("get" : Str))) kr) (m : Me c E Z (go (k.mt (.builtin "dict.get") [.val (.ref 123)]))) : Me c E Z k := mt_of e m fun p as q => meth_pref q
theorem run_len (x : Str) (hx : x.length ≤ 100000) (e : autoParam (k.c = .call (.builtin "len") [.str x]) kr) (m : Me c E Z (go (k.ret (.int x.length)))) : Me c E Z k := q_call _ _ k.H (by rw [← e]) (VW_len_str hx m)
theorem run_lenL (l : List AV) (hx : l.length ≤ 100000) (e : autoParam (k.c = .call (.builtin "len") [.lst l]) kr) (m : Me c E Z (go (k.ret (.int l.length)))) : Me c E Z k := q_call _ _ k.H (by rw [← e]) (VW_len_L hx m)
theorem q_rng (n : Int) (e : autoParam (k.c = .call (.type "range") [.int n]) kr) (m : Me c E Z (go (k.ret (.rng n)))) : Me c E Z k := q_call _ _ k.H (by rw [← e]) (VW_range m)
theorem q_atF {x C dx : Addr} {es : List (Str × AV)} {a : AV} (H0 : HS) (n : Str) (mx : (x, .ins C dx) ∈ H0) (md : (dx, .dctS es) ∈ H0) (mk : (n, a) ∈ es) (e : autoParam ((k.c, k.H) = (.u1 (.attr n) (.val (.ref x)), H0)) kr) (ok : autoParam (Bool.and (noBuiltin a) (attrTab.contains (C, n)) = true) kr) (m : Me c E Z (go (k.ret a))) : Me c E Z k := by
  cases (Prod.mk.inj e).2
  exact q_attr n _ k.H (by rw [← (Prod.mk.inj e).1]) (UW_at (σ := k.σ) mx md mk (List.contains_iff_mem.mp (andt ok).2) (andt ok).1 m)
theorem q_gSF {d : Addr} {es : List (Str × AV)} {a : AV} (H0 : HS) (n : Str) (md : (d, .dctS es) ∈ H0) (mk : (n, a) ∈ es) (e : autoParam ((k.c, k.H) = (.sub (.val (.ref d)) (.str n), H0)) kr) (m : Me c E Z (go (k.ret a))) : Me c E Z k :=
  q_sub _ _ H0 e fun v s hs => BW_getS (σ := ⟨k.loc, H0⟩) md mk (by cases (Prod.mk.inj e).2; exact m) hs
theorem q_gIF {d : Addr} {es : List (Int × AV)} {a : AV} (H0 : HS) (n : Int) (md : (d, .dctI es) ∈ H0) (mk : (n, a) ∈ es) (e : autoParam ((k.c, k.H) = (.sub (.val (.ref d)) (.int n), H0)) kr) (m : Me c E Z (go (k.ret a))) : Me c E Z k :=
  q_sub _ _ H0 e fun v s hs => BW_getI (σ := ⟨k.loc, H0⟩) md mk (by cases (Prod.mk.inj e).2; exact m) hs
theorem q_mOF {x C dx : Addr} {es : List (Str × AV)} (H0 : HS) (n : Str) (f : Addr) (mx : (x, .ins C dx) ∈ H0) (md : (dx, .dctS es) ∈ H0) (ab : KAbs n es) (e : autoParam ((k.c.mA, k.H) = (some (AV.val (.ref x), n), H0)) kr) (ok : autoParam (methTab.contains (C, n, f) = true) kr) (m : Me c E Z (go (k.mt (.ref f) [.val (.ref x)]))) : Me c E Z k := by
  cases (Prod.mk.inj e).2
  exact mt_of (Prod.mk.inj e).1 m fun p as q => meth_own mx md (List.contains_iff_mem.mp ok) ab q
theorem q_mIF {d : Addr} {es : List (Int × AV)} (H0 : HS) (md : (d, .dctI es) ∈ H0) (e : autoParam ((k.c.mA, k.H) = (some (AV.val (.ref d), ("get" : Str)), H0)) kr) (m : Me c E Z (go (k.mt (.builtin "dict.get") [.val (.ref d)]))) : Me c E Z k := by
  cases (Prod.mk.inj e).2
  exact mt_of (Prod.mk.inj e).1 m fun p as q => meth_get (dctI w) md q
theorem q_mLF {d : Addr} {l : List AV} (H0 : HS) (n : Str) (f : String) (md : (d, .lst l) ∈ H0) (e : autoParam ((k.c.mA, k.H) = (some (AV.val (.ref d), n), H0)) kr) (h : autoParam (lM n = some f) kr) (m : Me c E Z (go (k.mt (.builtin f) [.val (.ref d)]))) : Me c E Z k := by
  cases (Prod.mk.inj e).2
  exact mt_of (Prod.mk.inj e).1 m fun p as q => lM_ok h md q
end Mine
namespace Mine
variable {w : World} {B : Heap} {c : Ctx w B} {E : QE} {Z : Rt → St → Prop} {k : Cf}
structure CoP where
  (elt iter : Expr) (x : Str) (px : Pos) (ifs : List Expr) (scope : Scope) (pos : Pos)
noncomputable def CoP.ex (q : CoP) : Expr := .ListComp q.elt [⟨.Name q.x q.px, q.iter, q.ifs, 0⟩] q.scope q.pos
noncomputable def itE : Expr → Bool
  | .Name .. => true
  | .Call .. => true
  | .Tuple .. => true
  | .Attribute .. => true
  | _ => false
theorem itE_ok {i : Expr} (h : itE i = true) : ∀ env x, foldedSetIterable i env x = pure x := by
  intro env x
  cases i <;> first | (with_unfolding_all rfl; done) | cases h
noncomputable def csOf (loc : Loc) : List (Str × NameKind) → List (Str × AV)
  | [] => []
  | (x, .free) :: r => match findS x loc with
    | some (.cv a) => (x, a) :: csOf loc r
    | _ => csOf loc r
  | _ :: r => csOf loc r
theorem csOf_ok {loc : Loc} : ∀ (l : List (Str × NameKind)), ∀ p ∈ csOf loc l, (p.1, Slot.cv p.2) ∈ loc
  | [], p, h => nomatch h
  | (x, k) :: r, p, h => by
    have ih := csOf_ok (loc := loc) r p
    unfold csOf at h
    cases k with
    | free =>
      cases e : findS x loc with
      | none => simp only [e] at h; exact ih h
      | some s =>
        cases s with
        | cv a =>
          simp only [e] at h
          rcases List.mem_cons.mp h with rfl | h
          · exact findS_mem e
          · exact ih h
        | _ => simp only [e] at h; exact ih h
    | _ => exact ih h
noncomputable def CoP.cap (q : CoP) (loc : Loc) : Loc := capOf (csOf loc q.scope.names) (gsOf q.scope.names)
noncomputable def CoP.ok (q : CoP) (loc : Loc) : Bool := Bool.and (itE q.iter) (compOk q.scope q.x ((csOf loc q.scope.names).map (·.1)) ((gsOf q.scope.names).map (·.1)))
noncomputable def Ctl.co : (C : Ctl) → Option {q : CoP // C = .e q.ex}
  | .e (.ListComp elt [⟨.Name z px, iter, ifs, 0⟩] scope pos) => some ⟨⟨elt, iter, z, px, ifs, scope, pos⟩, rfl⟩
  | _ => none
noncomputable def dP : CoP := ⟨dE, dE, "", ⟨0, 0, 0, 0⟩, [], { kind := .module, names := [], isGenerator := false, isCoroutine := false }, ⟨0, 0, 0, 0⟩⟩
noncomputable def Ctl.cq (C : Ctl) : CoP := match C.co with
  | some q => q.1
  | none => dP
theorem cq_ok {C : Ctl} (h : C.co.isSome = true) : C = .e C.cq.ex := by
  unfold Ctl.cq
  revert h
  cases C.co with
  | some q => exact fun _ => q.2
  | none => exact fun h => nomatch h
noncomputable def Zc (c : Ctx w B) (E : QE) (Z : Rt → St → Prop) (k : Cf) : Rt → St → Prop
  | .v a, σ₁ => CompW c k.σ σ₁ a k.c.cq.scope k.c.cq.x (k.c.cq.cap k.loc) k.c.cq.ifs k.c.cq.elt fun ys H' => Me c E Z (go ⟨.r (.v (.lst ys)), k.K, σ₁.loc, H'⟩)
  | _, _ => False
theorem q_comp (e : autoParam (k.c.co.isSome = true) kr) (h : autoParam (k.c.cq.ok k.loc = true) kr) (m : Me c E (Zc c E Z k) (go ⟨.e k.c.cq.iter, [], k.loc, k.H⟩)) : Me c E Z k :=
  Me_e (cq_ok e) (EW_Comp (σ := k.σ) _ _ (andt h).2 rfl rfl (csOf_ok _) (fun W => gs_ok W _) (go_ok m) (itE_ok (andt h).1))
structure CaP where
  (q : CoP) (y : Str) (py spos : Pos)
noncomputable def Ctl.ca : (C : Ctl) → Option {q : CaP // C = .x (.Assign [.Name q.y q.py] q.q.ex q.spos)}
  | .x (.Assign [.Name y py] (.ListComp elt [⟨.Name z px, iter, ifs, 0⟩] scope pos) spos) => some ⟨⟨⟨elt, iter, z, px, ifs, scope, pos⟩, y, py, spos⟩, rfl⟩
  | _ => none
noncomputable def Ctl.cy (C : Ctl) : CaP := match C.ca with
  | some q => q.1
  | none => ⟨dP, "", ⟨0, 0, 0, 0⟩, ⟨0, 0, 0, 0⟩⟩
theorem cy_ok {C : Ctl} (h : C.ca.isSome = true) : C = .x (.Assign [.Name C.cy.y C.cy.py] C.cy.q.ex C.cy.spos) := by
  unfold Ctl.cy
  revert h
  cases C.ca with
  | some q => exact fun _ => q.2
  | none => exact fun h => nomatch h
noncomputable def slOk (x : Str) (l : Loc) : Bool := match findS x l with
  | some s => s.isL
  | none => false
theorem slOk_ok {x : Str} {l : Loc} (h : slOk x l = true) : ∃ s : Slot, findS x l = some s ∧ s.isL = true := by
  unfold slOk at h
  split at h
  · exact ⟨_, ‹_›, h⟩
  · cases h
theorem setL_of {x : Str} {s : Slot} {a : AV} : ∀ {l : Loc}, findS x l = some s → s.isL = true → ∃ l', setL x a l = some l' ∧ LUpd x s (.lv a) l l'
  | (y, t) :: r, e, h => by
    unfold findS at e
    unfold setL
    by_cases z : x = y
    · rw [if_pos z] at e ⊢
      cases e; subst z
      rw [if_pos h]
      exact ⟨_, rfl, .head⟩
    · rw [if_neg z] at e ⊢
      obtain ⟨l', e1, u⟩ := setL_of e h
      rw [e1]
      exact ⟨_, rfl, .tail u⟩
noncomputable def CaP.ok (q : CaP) (loc : Loc) : Bool := Bool.and (Bool.and (q.q.ok loc) (slOk q.y loc)) (q.py.line == q.q.pos.line && !(q.q.scope.names.any fun p => p.1 == q.y && (p.2 == .local || p.2 == .cell)))
noncomputable def Zca (c : Ctx w B) (E : QE) (Z : Rt → St → Prop) (k : Cf) : Rt → St → Prop
  | .v a, σ₁ => CompW c k.σ σ₁ a k.c.cy.q.scope k.c.cy.q.x (k.c.cy.q.cap k.loc) k.c.cy.q.ifs k.c.cy.q.elt fun ys H' => Me c E Z (go ⟨.r (.f .next), k.K, updL [(k.c.cy.y, .lst ys)] σ₁.loc, H'⟩)
  | _, _ => False
theorem CompW.q {σ σ₁ : St} {a : AV} {sc : Scope} {x : Str} {cap : Loc} {ifs : List Expr} {elt : Expr} {K K' : List AV → HS → Prop} (h : CompW c σ σ₁ a sc x cap ifs elt K) (q : ∀ ys H, K ys H → K' ys H) : CompW c σ σ₁ a sc x cap ifs elt K' := by
  obtain ⟨e, n, item, hn, it, Inv, h0, h1, h2⟩ := h
  exact ⟨e, n, item, hn, it, Inv, h0, h1, fun ys H a b => q _ _ (h2 ys H a b)⟩
theorem q_acomp (e : autoParam (k.c.ca.isSome = true) kr) (h : autoParam (k.c.cy.ok k.loc = true) kr) (m : Me c E (Zca c E Z k) (go ⟨.e k.c.cy.q.iter, [], k.loc, k.H⟩)) : Me c E Z k := by
  have h1 := andt h
  have h2 := andt h1.1
  have h3 := andt h2.1
  obtain ⟨s, ef, hl⟩ := slOk_ok h2.2
  refine Me_x (cy_ok e) (XW_AssignComp (σ := k.σ) _ _ h3.2 rfl rfl (csOf_ok _) (fun W => gs_ok W _) hl (findS_mem ef) (EW.mono (go_ok m) (fun a σ₁ hz => ?_) fun _ _ z => z) (itE_ok h3.1) h1.2)
  refine CompW.q hz fun ys H' hm => ?_
  have el : σ₁.loc = k.loc := hz.1
  obtain ⟨l', e1, u⟩ := setL_of (a := .lst ys) ef hl
  rw [el] at hm
  refine ⟨l', el ▸ u, ?_⟩
  have : updL [(k.c.cy.y, .lst ys)] k.loc = l' := by unfold updL updL; rw [e1]
  rw [this] at hm
  exact hm
noncomputable def tsC : List Expr → Ctl
  | [] => .bd true
  | t :: _ => .tst t
noncomputable def tsB : List Expr → Bool
  | [] => true
  | _ :: r => r.isEmpty
theorem CompI.q {x : Str} {cap : Loc} {P P' : HS → Prop} {σ : St} (h : CompI x cap P σ) (q : ∀ H, P H → P' H) : CompI x cap P' σ := by cases h with | mk H h1 h2 => exact ⟨H, h1, q H h2⟩
noncomputable def Zel (x : Str) (cap : Loc) (H0 : HS) (L1 L0 : List AV) : Rt → St → Prop
  | .v a, σ => CompI x cap (fun H3 => L1 = L0 ++ [a] ∧ H3 = H0) σ
  | _, _ => False
noncomputable def Zts (c : Ctx w B) (elt : Expr) (x : Str) (cap : Loc) (H0 : HS) (L1 L0 : List AV) : Rt → St → Prop
  | .t b, σ => (b = true → Me c No (Zel x cap H0 L1 L0) (go ⟨.e elt, [], σ.loc, σ.H⟩)) ∧ (b = false → CompI x cap (fun H3 => L1 = L0 ∧ H3 = H0) σ)
  | _, _ => False
theorem ci_of {x : Str} {cap : Loc} {H0 : HS} {P : Prop} {σ : St} (e : (dropL [x] σ.loc, σ.H) = ((x, .un) :: cap, H0)) (h : P) : CompI x cap (fun H3 => P ∧ H3 = H0) σ := by
  have e1 : dropL [x] σ.loc = (x, .un) :: cap := congrArg Prod.fst e
  exact ⟨σ.H, ⟨e1 ▸ dropL_weak [x] σ.loc, rfl⟩, h, congrArg Prod.snd e⟩
section
variable {elt : Expr} {x : Str} {cap : Loc} {H0 : HS} {L1 L0 : List AV} {σ : St}
theorem cz_v {a : AV} (h : L1 = L0 ++ [a]) (e : autoParam ((dropL [x] σ.loc, σ.H) = ((x, .un) :: cap, H0)) kr) : Zel x cap H0 L1 L0 (.v a) σ := ci_of e h
theorem cz_f (h : L1 = L0) (e : autoParam ((dropL [x] σ.loc, σ.H) = ((x, .un) :: cap, H0)) kr) : Zts c elt x cap H0 L1 L0 (.t false) σ := ⟨fun z => (nomatch z), fun _ => ci_of e h⟩
theorem cz_t (m : Me c No (Zel x cap H0 L1 L0) (go ⟨.e elt, [], σ.loc, σ.H⟩)) : Zts c elt x cap H0 L1 L0 (.t true) σ := ⟨fun _ => m, fun z => (nomatch z)⟩
end
theorem comp_p {σ σ₁ : St} {a : AV} {sc : Scope} {x : Str} {cap : Loc} {ifs : List Expr} {elt : Expr} {K : List AV → HS → Prop} (n : Nat) (item : Nat → AV) (Ls : Nat → List AV) (hn : n ≤ 1000) (it : ItW c σ₁ a n item) (h0 : Ls 0 = []) (e : autoParam (σ₁.loc = σ.loc) kr) (hb : autoParam (tsB ifs = true) kr)
    (st : ∀ i, i < n → ∀ c' : Ctx w B, c'.A.handled = c.A.handled → c'.k = c.k → Me c' No (Zts c' elt x cap σ₁.H (Ls (i + 1)) (Ls i)) (go ⟨tsC ifs, [], (x, .lv (item i)) :: cap, σ₁.H⟩)) (fin : K (Ls n) σ₁.H) : CompW c σ σ₁ a sc x cap ifs elt K := by
  refine ⟨e, n, item, hn, it, fun i ys H' => ys = Ls i ∧ H' = σ₁.H, ⟨h0.symm, rfl⟩, fun i ys H' hi hI _ c' e1 e2 => ?_, fun ys H' hI _ => hI.1 ▸ hI.2 ▸ fin⟩
  rw [hI.1, hI.2]
  have m := go_ok (st i hi c' (by rw [e1]) e2)
  have tr : ∀ {b : Bool} {τ : St}, Zts c' elt x cap σ₁.H (Ls (i + 1)) (Ls i) (.t b) τ → (b = true → EW c' τ (eval elt c'.env) (fun a σ₃ => CompI x cap (fun H' => Ls i ++ [a] = Ls (i + 1) ∧ H' = σ₁.H) σ₃) (fun _ _ => False)) ∧ (b = false → CompI x cap (fun H' => Ls i = Ls (i + 1) ∧ H' = σ₁.H) τ) := fun h =>
    ⟨fun hb => EW.mono (go_ok (h.1 hb)) (fun a σ z => CompI.q z fun H h => ⟨h.1.symm, h.2⟩) fun _ _ z => z, fun hb => (h.2 hb).q fun H h => ⟨h.1.symm, h.2⟩⟩
  cases ifs with
  | nil => exact TsW_nil (tr m)
  | cons t r => cases r with
    | nil => exact TsW_one (TW_mono m (fun b τ z => tr z) fun _ _ z => z)
    | cons _ _ => cases hb
noncomputable def Ctl.ty : (C : Ctl) → Option {q : (List Stmt × ExceptHandler) × (List ExceptHandler × Pos) // C = .x (.Try q.1.1 (q.1.2 :: q.2.1) [] [] q.2.2)}
  | .x (.Try b (h :: hs) [] [] p) => some ⟨((b, h), (hs, p)), rfl⟩
  | _ => none
noncomputable def Ctl.tB (C : Ctl) : List Stmt := match C.ty with
  | some q => q.1.1.1
  | none => []
noncomputable def Ctl.tH (C : Ctl) : List ExceptHandler := match C.ty with
  | some q => q.1.1.2 :: q.1.2.1
  | none => []
noncomputable def HE (c : Ctx w B) (E : QE) (Z : Rt → St → Prop) (k : Cf) : QE := fun ae σ' => HB c σ' ae k.c.tH (Kf c E Z k) E
theorem q_try (tp : Top c) (e : autoParam (k.c.ty.isSome = true) kr) (m : Me c (HE c E Z k) (ZF (Kf c E Z k)) (go ⟨.ss k.c.tB, [], k.loc, k.H⟩)) : Me c E Z k := by
  have m := go_ok m
  have g : ∀ {o : Option {q : (List Stmt × ExceptHandler) × (List ExceptHandler × Pos) // k.c = .x (.Try q.1.1 (q.1.2 :: q.2.1) [] [] q.2.2)}}, k.c.ty = o → Me c E Z k := by
    intro o ho
    cases o with
    | none => rw [ho] at e; cases e
    | some q =>
      refine Me_x q.2 (XW_Try tp ?_)
      unfold HE Ctl.tH Ctl.tB at m
      rw [ho] at m
      exact m
  exact g rfl
noncomputable def hd1 : (hs : List ExceptHandler) → Option {q : ((Str × Pos) × Option Str) × ((Stmt × List Stmt) × (Pos × List ExceptHandler)) // hs = .ExceptHandler (some (.Name q.1.1.1 q.1.1.2)) q.1.2 (q.2.1.1 :: q.2.1.2) q.2.2.1 :: q.2.2.2}
  | .ExceptHandler (some (.Name n np)) nm (b :: bs) p :: r => some ⟨(((n, np), nm), ((b, bs), (p, r))), rfl⟩
  | _ => none
noncomputable def hNm (hs : List ExceptHandler) : Str × Option Str := match hd1 hs with
  | some q => (q.1.1.1.1, q.1.1.2)
  | none => ("", none)
noncomputable def hBd (hs : List ExceptHandler) : List Stmt := match hd1 hs with
  | some q => q.1.2.1.1 :: q.1.2.1.2
  | none => []
noncomputable def hRs (hs : List ExceptHandler) : List ExceptHandler := match hd1 hs with
  | some q => q.1.2.2.2
  | none => []
theorem hd_ok {hs : List ExceptHandler} : (hd1 hs).isSome = true → ∃ np b bs p, hs = .ExceptHandler (some (.Name (hNm hs).1 np)) (hNm hs).2 (b :: bs) p :: hRs hs ∧ hBd hs = b :: bs := by
  unfold hNm hRs hBd
  cases hd1 hs with
  | some q => exact fun _ => ⟨_, _, _, _, q.2, rfl⟩
  | none => exact fun h => nomatch h
section
variable {σ : St} {ae : AE} {Q : QF} {hs : List ExceptHandler} (K : Addr)
theorem h_miss (hx : ∀ w : World, exmOne (KF w.params) (.ref ae.C) (.ref K) = some false) (e : autoParam ((hd1 hs).isSome = true) kr) (hm : autoParam (findS (hNm hs).1 σ.loc = some (.gv (.val (.ref K)))) kr) (h : HB c σ ae (hRs hs) Q E) : HB c σ ae hs Q E := by
  obtain ⟨np, b, bs, p, e1, _⟩ := hd_ok e
  rw [e1]
  exact HB_miss (findS_mem hm) hx h
theorem h_hit (hx : ∀ w : World, exmOne (KF w.params) (.ref ae.C) (.ref K) = some true) (e : autoParam ((hd1 hs).isSome = true) kr) (hn : autoParam ((hNm hs).2 = none) kr) (hm : autoParam (findS (hNm hs).1 σ.loc = some (.gv (.val (.ref K)))) kr)
    (h : ∀ oe, Me (c.caught ae.e oe) No (ZF Q) (go ⟨.ss (hBd hs), [], σ.loc, σ.H⟩)) : HB c σ ae hs Q E := by
  obtain ⟨np, b, bs, p, e1, e2⟩ := hd_ok e
  rw [e1, hn]
  exact HB_hit (findS_mem hm) hx fun oe => e2 ▸ go_ok (h oe)
noncomputable def ZFe (Q : QF) : QF := fun a σ' => Q a ⟨[], σ'.H⟩
theorem h_as (x : Str) (hx : ∀ w : World, exmOne (KF w.params) (.ref ae.C) (.ref K) = some true) (e : autoParam ((hd1 hs).isSome = true) kr) (hn : autoParam ((hNm hs).2 = some x) kr) (hm : autoParam (findS (hNm hs).1 σ.loc = some (.gv (.val (.ref K)))) kr) (hl : autoParam (slOk x σ.loc = true) kr)
    (h : ∀ oe, (∃ vs sl, oe = ⟨.ref ae.C, some ae.dx, .fields vs, sl⟩) → Me (c.caught ae.e oe) No (ZF (ZFe Q)) (go ⟨.ss (hBd hs), [], updL [(x, .val (.ref ae.e))] σ.loc, σ.H⟩)) : HB c σ ae hs Q E := by
  obtain ⟨np, b, bs, p, e1, e2⟩ := hd_ok e
  obtain ⟨s, ef, h1⟩ := slOk_ok hl
  obtain ⟨l', e3, u⟩ := setL_of (a := .val (.ref ae.e)) ef h1
  have e4 : updL [(x, .val (.ref ae.e))] σ.loc = l' := by unfold updL updL; rw [e3]
  rw [e1, hn]
  refine HB_hitAs (findS_mem hm) hx u h1 fun oe ho => ?_
  have m := go_ok (h oe ho)
  rw [e4, e2] at m
  exact m
end
theorem EW_eq {x : Expr} {loc loc' : Loc} {H H' : HS} {a : AV} {Q : QA} (e : go ⟨.e x, [], loc, H⟩ = ⟨.r (.v a), [], loc', H'⟩) (q : Q a ⟨loc', H'⟩) : EW c ⟨loc, H⟩ (eval x c.env) Q E := by
  have m : Me c E (ZV Q) (go ⟨.e x, [], loc, H⟩) := by rw [e]; exact q
  exact go_ok m
noncomputable def AuS (i : Expr) : Prop := ∀ ov iv new, augStore i ov iv new = (do holding [new, ov, iv] (setItem ov iv new); release [new, ov, iv] []; pure Flow.next)
noncomputable def Ctl.au : (C : Ctl) → Option {q : (Expr × Expr × Expr) × (Operator × Pos × Pos) // C = .x (.AugAssign (.Subscript q.1.1 q.1.2.1 q.2.2.1) q.2.1 q.1.2.2 q.2.2.2) ∧ AuS q.1.2.1}
  | .x (.AugAssign (.Subscript o (.Constant z n q) tp) op v p) => some ⟨((o, .Constant z n q, v), (op, tp, p)), rfl, by intro _ _ _; with_unfolding_all rfl⟩
  | _ => none
noncomputable def Ctl.aO (C : Ctl) : Expr × Expr × Expr := match C.au with
  | some q => q.1.1
  | none => (dE, dE, dE)
noncomputable def Ctl.aOp (C : Ctl) : Option Operator := match C.au with
  | some q => some q.1.2.1
  | none => none
theorem au_ok {C : Ctl} {op : Operator} : C.aOp = some op → AuS C.aO.2.1 ∧ ∃ tp p, C = .x (.AugAssign (.Subscript C.aO.1 C.aO.2.1 tp) op C.aO.2.2 p) := by
  unfold Ctl.aOp Ctl.aO
  cases C.au with
  | some q => intro h; cases h; exact ⟨q.2.2, _, _, q.2.1⟩
  | none => exact fun h => nomatch h
theorem q_augS {d : Addr} {es es' : List (Str × AV)} {H1 : HS} (H0 : HS) (n : Str) (x y : Int) (md : (d, .dctS es) ∈ H0) (mk : (n, .int x) ∈ es) (u : HUpd d (.dctS es) (.dctS es') H0 H1) (st : KUpd n (.int (x + y)) es es') (hl : es.length ≤ 900) (e : autoParam ((k.c.aOp, k.H) = (some .Add, H0)) kr)
    (e1 : autoParam (go ⟨.e k.c.aO.1, [], k.loc, H0⟩ = ⟨.r (.v (.val (.ref d))), [], k.loc, H0⟩) kr) (e2 : autoParam (go ⟨.e k.c.aO.2.1, [], k.loc, H0⟩ = ⟨.r (.v (.str n)), [], k.loc, H0⟩) kr) (e3 : autoParam (go ⟨.e k.c.aO.2.2, [], k.loc, H0⟩ = ⟨.r (.v (.int y)), [], k.loc, H0⟩) kr) (m : Me c E Z (go (k.nxt H1))) : Me c E Z k := by
  obtain ⟨hs, tp, p, e'⟩ := au_ok (Prod.mk.inj e).1
  cases (Prod.mk.inj e).2
  exact Me_x e' (XW_AugSub (σ := ⟨k.loc, k.H⟩) (EW_eq e1 (EW_eq e2 (GItS md mk (EW_eq e3 (BW_iadd (SIS_upd u st hl m)))))) hs)
noncomputable def ceOk (x : Str) (l : Loc) : Bool := match findS x l with
  | some s => s.isC
  | none => false
noncomputable def setC (x : Str) (a : AV) : Loc → Loc
  | [] => []
  | (y, s) :: r => if x = y then (y, .cv a) :: r else (y, s) :: setC x a r
theorem setC_of {x : Str} {s : Slot} {a : AV} : ∀ {l : Loc}, findS x l = some s → LUpd x s (.cv a) l (setC x a l)
  | (y, t) :: r, e => by
    unfold findS at e
    unfold setC
    by_cases z : x = y
    · rw [if_pos z] at e ⊢
      cases e; subst z
      exact .head
    · rw [if_neg z] at e ⊢
      exact .tail (setC_of e)
theorem q_stc {kk : Nat} {H : HS} {s : Stmt} (W : AtC kk H s c) (x : Str) (a : AV) (e : autoParam (k.c = .stn x a) kr) (h : autoParam (Bool.and (ceOk x k.loc) (kindIs .cell ((sScope s).names.lookup x)) = true) kr) (m : Me c E Z (go ⟨.r (.f .next), k.K, setC x a k.loc, k.H⟩)) : Me c E Z k := by
  have h1 := (andt h).1
  unfold ceOk at h1
  split at h1
  · exact q_stn x a e (stw_cell W.cl W.kd (setC_of ‹_›) h1 (andt h).2 m)
  · cases h1
noncomputable def Ctl.aw1 : (C : Ctl) → Option {q : ((Str × Pos) × AV) × (List Expr × List AV) // C = .aw (.Name q.1.1.1 q.1.1.2 :: q.2.1) (q.1.2 :: q.2.2)}
  | .aw (.Name z p :: ts) (a :: l) => some ⟨(((z, p), a), (ts, l)), rfl⟩
  | _ => none
noncomputable def Ctl.awA (C : Ctl) : Option (Str × AV) := match C.aw1 with
  | some q => some (q.1.1.1.1, q.1.1.2)
  | none => none
noncomputable def Ctl.awR (C : Ctl) : Ctl := match C.aw1 with
  | some q => .aw q.1.2.1 q.1.2.2
  | none => C
theorem aw_ok {C : Ctl} {x : Str} {a : AV} : C.awA = some (x, a) → ∃ p ts l, C = .aw (.Name x p :: ts) (a :: l) ∧ C.awR = .aw ts l := by
  unfold Ctl.awA Ctl.awR
  cases C.aw1 with
  | some q => intro h; cases h; exact ⟨_, _, _, q.2, rfl⟩
  | none => exact fun h => nomatch h
theorem q_awc {kk : Nat} {H : HS} {s : Stmt} (W : AtC kk H s c) (x : Str) (a : AV) (e : autoParam (k.c.awA = some (x, a)) kr) (h : autoParam (Bool.and (ceOk x k.loc) (kindIs .cell ((sScope s).names.lookup x)) = true) kr) (m : Me c E Z (go ⟨k.c.awR, k.K, setC x a k.loc, k.H⟩)) : Me c E Z k := by
  have h1 := (andt h).1
  obtain ⟨p, ts, l, e1, e2⟩ := aw_ok e
  rw [e2] at m
  unfold ceOk at h1
  split at h1
  · exact Me_of e1 (AW_cons (StW_name (stw_cell W.cl W.kd (setC_of ‹_›) h1 (andt h).2 (go_ok m))))
  · cases h1
end Mine
namespace Mine
variable {w : World} {B : Heap}
noncomputable def isDig (ch : Nat) : Bool := decide (48 ≤ ch) && decide (ch ≤ 57)
noncomputable def runD (l : List Nat) (i : Nat) : Nat := i + ((l.drop i).takeWhile isDig).length
theorem runD_end {l : List Nat} {i : Nat} (h : l.length ≤ i) : runD l i = i := by unfold runD; rw [List.drop_of_length_le h]; rfl
theorem runD_no {l : List Nat} {i ch : Nat} (h : l[i]? = some ch) (n : isDig ch = false) : runD l i = i := by
  unfold runD
  rw [List.drop_eq_getElem_cons (lt_of_get h), List.takeWhile_cons, show l[i]'(lt_of_get h) = ch from by simpa [List.getElem?_eq_getElem (lt_of_get h)] using h, n]; rfl
theorem runD_yes {l : List Nat} {i ch : Nat} (h : l[i]? = some ch) (n : isDig ch = true) : runD l i = runD l (i + 1) := by
  unfold runD
  rw [List.drop_eq_getElem_cons (lt_of_get h), List.takeWhile_cons, show l[i]'(lt_of_get h) = ch from by simpa [List.getElem?_eq_getElem (lt_of_get h)] using h, n]
  simp; omega
theorem in_digits (ch : Nat) : (!List.isEmpty (Builtin.Str.occurrences "0123456789" ⟨#[ch]⟩ 0 (Str.length "0123456789") 1)) = isDig ch := by
  rw [StrLaws.found_one, isDig, ← Bool.decide_and]
  have e : (Str.ofString "0123456789").cps.toList = List.range' 48 10 := by decide +kernel
  refine decide_eq_decide.mpr ?_
  rw [e]
  exact List.mem_range'_1.trans ⟨fun h => ⟨h.1, Nat.le_of_lt_succ h.2⟩, fun h => ⟨h.1, Nat.lt_succ_of_le h.2⟩⟩
theorem run_of_digits_W {k : Nat} {H : HS} {x : Str} {i : Nat} (hx : x.length ≤ 100000) : CW w B (k + 1) H (.ref 242) [.str x, .int i] (fun a H' => a = .int (runD x.cps.toList i) ∧ H' = H) (fun _ _ => False) := by
  refine CW_go (st 49) "run_of_digits" .none "kindkeep.values" 335 241 (h := fun c W => ?_)
  refine run_wl (fun j : Nat => [("at", .int j)]) (fun j => runD x.cps.toList j = runD x.cps.toList i) (fun j => x.length - j) i (o0 := rfl) (h := fun j hj => ?_)
  refine run_len x hx (m := ?_)
  refine run_if ((↑j : Int) < (↑(Str.length x) : Int)) (h1 := fun hlt => ?_) (h2 := fun hlt => ?_)
  · obtain ⟨ch, hc⟩ : ∃ ch, x.cps.toList[j]? = some ch := ⟨_, List.getElem?_eq_getElem (by simpa [Str.length] using Int.ofNat_lt.mp hlt)⟩
    refine q_sub (.str x) (.int j) H (h := fun v s hs => BW_itemS (ch := ch) (by omega) (by omega) (by simpa using hc) ?_ hs)
    refine q_cmp .In (.str ⟨#[ch]⟩) (.str "0123456789") (h := BW_inS ?_)
    rw [in_digits]
    refine run_t (isDig ch) (h1 := fun hb => ?_) (h2 := fun hb => ?_)
    · refine run_z (.t true) H (h := wx_t ?_)
      refine run_z (.f .next) H (h := ag_of (j + 1) (by omega) ((runD_yes hc hb).symm.trans hj))
    · refine run_z (.t false) H (h := wx_f ?_)
      exact run_ret (.int j) H (h := ⟨by rw [← hj, runD_no hc hb], rfl⟩)
  · refine run_z (.t false) H (h := wx_f ?_)
    exact run_ret (.int j) H (h := ⟨by rw [← hj, runD_end (by simp [Str.length] at hlt; simpa using hlt)], rfl⟩)
end Mine
namespace Mine
variable {w : World} {B : Heap}
theorem numOut_init {k : Nat} {H : HS} {x : Addr} {t : Str} : CW w B (k + 1) ((x, .exc 100 none) :: H) (.ref 97) [.val (.ref x), .str t] (fun a H' => a = .none ∧ ∃ d es, H' = (d, .dctS es) :: (x, .exc 100 (some d)) :: H) (fun _ _ => False) := by
  refine CW_goB (sm 5 0) "NumberOut.__init__" (.ref 90) "kindkeep.diags" 194 96 (hb := by intro w s hK _ _; exact BindsTo.of_defaults rfl (hK _ _ rfl) rfl rfl rfl) (h := fun c W => ?_)
  refine q_sa (.val (.ref x)) (.int 0) "number" ((x, .exc 100 none) :: H) (h := SA_exc0 (excC100a w) (fun d => .head) fun d => ?_)
  refine q_sa (.val (.ref x)) (.str t) "text" ((d, .dctS [("number", .int 0)]) :: (x, .exc 100 (some d)) :: H) (h := SA_exc1 (excC100b w) (.tail _ (.head _)) .head (by simp) (by decide +kernel) rfl ?_)
  exact run_fin ((d, .dctS [("number", .int 0), ("text", .str t)]) :: (x, .exc 100 (some d)) :: H) (h := ⟨rfl, d, _, rfl⟩)
theorem new_numOut {k : Nat} {H : HS} {t : Str} : CW w B (k + 2) H (.ref 100) [.str t] (fun a H' => ∃ x d es, a = .val (.ref x) ∧ H' = (d, .dctS es) :: (x, .exc 100 (some d)) :: H) (fun _ _ => False) :=
  CW_newE excK100 (by simp) fun x => numOut_init.mono (fun a H' ⟨e, d, es, e'⟩ => ⟨e, x, d, es, rfl, e'⟩) fun _ _ z => z
noncomputable def isNO (ae : AE) : Prop := ae.C = 100
theorem VW_NO {c : Ctx w B} {loc : Loc} {H : HS} {t : Str} {E : QE} (hh : c.A.handled = none) (hj : 2 ≤ c.k) (hH : c.H0 = H) (q : ∀ d x, E ⟨100, d, x⟩ ⟨loc, H⟩) : VW c ⟨loc, H⟩ [.str t] (fun vs => call (.ref 100) vs []) (RaiseD c 100 E) E :=
  VW_use (σ := ⟨loc, H⟩) (new_numOut (k := 0)) hh hj (fun a H' h => h.elim fun x h => h.elim fun d h => h.elim fun es h => ⟨loc, H, x, d, es, h.1, by rw [h.2], fun a h => hH ▸ h, q d x⟩) fun _ _ z => z.elim
theorem run_NO {kk : Nat} {H : HS} {c : Ctx w B} {Ex : AE → HS → Prop} {Z : Rt → St → Prop} {k : Cf} (t : Str) {s0 : Stmt} (W : AtC kk H s0 c) (hj : 2 ≤ c.k) (e : autoParam (k.c.ra.isSome = true) kr)
    (e2 : autoParam (((go ⟨.e k.c.rE, [], k.loc, k.H⟩).c, (go ⟨.e k.c.rE, [], k.loc, k.H⟩).K, (go ⟨.e k.c.rE, [], k.loc, k.H⟩).H) = (.call (.ref 100) [.str t], [], H)) kr) (q : ∀ d x, Ex ⟨100, d, x⟩ H) : Me c (Eh Ex) Z k := by
  refine q_raiseD excK100 W.hh e ?_
  generalize go ⟨.e k.c.rE, [], k.loc, k.H⟩ = g at e2 ⊢
  obtain ⟨C, K, loc, H'⟩ := g
  cases e2
  exact VW_NO W.hh hj W.H0 q
end Mine
namespace Mine
variable {w : World} {B : Heap}
theorem num_value_W {k : Nat} {H : HS} {n : Int} : CW w B (k + 3) H (.ref 228) [.int n] (fun a H' => a = .tup [.int 3, .int n] ∧ H' = H ∧ ¬ (n > 9007199254740991 ∨ n < 0 - 9007199254740991)) (fun ae H' => isNO ae ∧ H' = H ∧ (n > 9007199254740991 ∨ n < 0 - 9007199254740991)) := by
  refine CW_go (st 47) "num_value" .none "kindkeep.values" 335 227 (h := fun c W => ?_)
  refine run_if (n > (9007199254740991 : Int)) (h1 := fun h1 => ?_) (h2 := fun h1 => ?_)
  · exact run_NO "the number is too large" W (le_k W.k 2 2) (q := fun d x => ⟨rfl, rfl, .inl h1⟩)
  · refine run_if (n < (0 : Int) - (9007199254740991 : Int)) (h1 := fun h2 => ?_) (h2 := fun h2 => ?_)
    · exact run_NO "the number is too large" W (le_k W.k 2 2) (q := fun d x => ⟨rfl, rfl, .inr h2⟩)
    · exact run_ret (.tup [.int 3, .int n]) H (h := ⟨rfl, rfl, fun z => z.elim h1 h2⟩)
end Mine
namespace Mine
variable {w : World} {B : Heap}
noncomputable def trimS (x : Str) : Str := mkS (trimL (ls x))
theorem ls_get {x : Str} {j : Nat} (h : j < x.length) : ∃ ch, x.cps.toList[j]? = some ch := ⟨_, List.getElem?_eq_getElem (by rw [← len_ls]; exact h)⟩
theorem trim_end (l : List Nat) {lo hi : Nat} (h1 : l.drop lo = l.dropWhile isBl) (hlo : lo ≤ hi) (h2 : ((l.drop lo).take (hi - lo)).reverse.dropWhile isBl = (l.drop lo).reverse.dropWhile isBl) (h3 : ((l.drop lo).take (hi - lo)).reverse.dropWhile isBl = ((l.drop lo).take (hi - lo)).reverse) : (l.drop lo).take (hi - lo) = trimL l := by
  unfold trimL
  rw [← h1, ← h2, h3, List.reverse_reverse]
theorem SlW_tl {c : Ctx w B} {E : QE} {σ : St} {b : Str} {n : Nat} {Q : QA} (hx : b.length ≤ 100000) (q : Q (.str (mkS ((ls b).drop n))) σ) : SlA c σ none (.str b) (.int n) .none .none Q E := fun v lo hi p => SlW_sn hx (slice_from b n ▸ q)
theorem tl_len {b : Str} {n m : Nat} (h : b.length ≤ m) : (mkS ((ls b).drop n)).length ≤ m := by rw [len_ls, ls_mkS, List.length_drop, ← len_ls]; exact Nat.le_trans (Nat.sub_le _ _) h
theorem SubA_ch {c : Ctx w B} {E : QE} {σ : St} {x : Str} {j ch : Nat} {Q : QA} (hx : x.length ≤ 100000) (e : (ls x)[j]? = some ch) (q : Q (.str ⟨#[ch]⟩) σ) : SubA c σ (.str x) (.int j) Q E := fun v s hs => by
  have h := Nat.lt_of_lt_of_le (lt_of_get e) (len_ls x ▸ hx)
  exact BW_itemS (ch := ch) (by omega) (by omega) e q hs
theorem drop_no {l : List Nat} {j ch : Nat} {p : Nat → Bool} (hc : l[j]? = some ch) (hb : p ch = false) : (l.drop j).dropWhile p = l.drop j := dropWhile_no fun c' e => by rw [List.getElem?_drop, Nat.add_zero, hc] at e; cases e; exact hb
theorem take_snoc {l : List Nat} {i j ch : Nat} (h : j ≤ i) (hc : l[i]? = some ch) : (l.drop j).take (i + 1 - j) = (l.drop j).take (i - j) ++ [ch] := by
  rw [Nat.succ_sub h, List.take_add_one, List.getElem?_drop, Nat.add_sub_cancel' h, hc]; rfl
theorem rev_snoc {l : List Nat} {ch : Nat} {p : Nat → Bool} (hb : p ch = true) : (l ++ [ch]).reverse.dropWhile p = l.reverse.dropWhile p := by
  rw [List.reverse_append]
  show List.dropWhile p (ch :: _) = _
  rw [List.dropWhile_cons, hb]; rfl
theorem rev_no {l : List Nat} {ch : Nat} {p : Nat → Bool} (hb : p ch = false) : (l ++ [ch]).reverse.dropWhile p = (l ++ [ch]).reverse := by
  rw [List.reverse_append]
  show List.dropWhile p (ch :: _) = (ch :: _)
  rw [List.dropWhile_cons, hb]; rfl
theorem trimmed_W {k : Nat} {H : HS} {x : Str} (hx : x.length ≤ 100000) : CW w B (k + 1) H (.ref 368) [.str x] (fun a H' => a = .str (trimS x) ∧ H' = H) (fun _ _ => False) := by
  refine CW_go (st 67) "trimmed" .none "kindkeep.values" 335 367 (h := fun c W => ?_)
  have hn := len_ls x
  refine run_len x hx (m := ?_)
  refine run_wx (fun j : Nat => [("low", .int j)]) (fun j => j ≤ x.length ∧ ((ls x).drop j).dropWhile isBl = (ls x).dropWhile isBl) (fun j => x.length - j) 0 (fun j : Nat => [("low", .int j)]) (fun j => j ≤ x.length ∧ (ls x).drop j = (ls x).dropWhile isBl)
    (o0 := ⟨Nat.zero_le _, rfl⟩) (h := fun j hj => ?_) (hx := fun j hj => ?_)
  · refine run_if ((↑j : Int) < (↑(Str.length x) : Int)) (h1 := fun hlt => ?_) (h2 := fun hlt => ?_)
    · have hlt := Int.ofNat_lt.mp hlt
      obtain ⟨ch, hc⟩ := ls_get hlt
      refine q_sub (.str x) (.int j) H (h := SubA_ch hx hc ?_)
      refine q_cmp .In (.str ⟨#[ch]⟩) (.str BLANK) (h := BW_inS ?_)
      rw [in_blanks]
      refine run_t (isBl ch) (h1 := fun hb => ?_) (h2 := fun hb => ?_)
      · refine run_z (.t true) H (h := wx_t ?_)
        exact run_z (.f .next) H (h := ag_of (j + 1) (Nat.sub_succ_lt_self _ _ hlt) ⟨hlt, (dropWhile_yes hc hb).symm.trans hj.2⟩)
      · exact run_z (.t false) H (h := wx_f ⟨j, ⟨hj.1, (drop_no hc hb).symm.trans hj.2⟩, by kernel_rfl⟩)
    · exact run_z (.t false) H (h := wx_f ⟨j, ⟨hj.1, by rw [← hj.2, List.drop_of_length_le (hn ▸ Nat.le_of_not_lt fun z => hlt (Int.ofNat_lt.mpr z))]; rfl⟩, by kernel_rfl⟩)
  · have hd := hj.2
    refine run_wx (fun i : Nat => [("high", .int i)]) (fun i => j ≤ i ∧ i ≤ x.length ∧ (((ls x).drop j).take (i - j)).reverse.dropWhile isBl = ((ls x).drop j).reverse.dropWhile isBl) (fun i => i) x.length (fun i : Nat => [("high", .int i)]) (fun i => j ≤ i ∧ ((ls x).drop j).take (i - j) = trimL (ls x))
      (o0 := ⟨hj.1, Nat.le_refl _, by rw [List.take_of_length_le (by rw [List.length_drop, hn]; exact Nat.le_refl _)]⟩) (h := fun i hi => ?_) (hx := fun i hi => ?_)
    · refine run_if ((↑j : Int) < (↑i : Int)) (h1 := fun hlt => ?_) (h2 := fun hlt => ?_)
      · obtain ⟨m, rfl⟩ := Nat.exists_eq_add_one_of_ne_zero (Nat.ne_of_gt (Nat.lt_of_le_of_lt (Nat.zero_le j) (Int.ofNat_lt.mp hlt)))
        have hjm : j ≤ m := Nat.le_of_lt_succ (Int.ofNat_lt.mp hlt)
        obtain ⟨ch, hc⟩ := ls_get (x := x) (j := m) hi.2.1
        have hl := take_snoc hjm hc
        have em : ((m + 1 : Nat) : Int) - 1 = m := Int.add_sub_cancel m 1
        refine q_sub (.str x) (.int (((m + 1 : Nat) : Int) - 1)) H (h := ?_)
        rw [em]
        refine SubA_ch hx hc ?_
        refine q_cmp .In (.str ⟨#[ch]⟩) (.str BLANK) (h := BW_inS ?_)
        rw [in_blanks]
        refine run_t (isBl ch) (h1 := fun hb => ?_) (h2 := fun hb => ?_)
        · refine run_z (.t true) H (h := wx_t ?_)
          refine run_z (.f .next) H (h := ag_of m (Nat.lt_succ_self m) ⟨hjm, Nat.le_of_succ_le hi.2.1, by rw [← hi.2.2, hl, rev_snoc hb]⟩ ?_)
          delta Cf.us; dsimp only; rw [← em]; kernel_rfl
        · exact run_z (.t false) H (h := wx_f ⟨m + 1, ⟨hi.1, trim_end _ hd hi.1 hi.2.2 (by rw [hl]; exact rev_no hb)⟩, by kernel_rfl⟩)
      · obtain rfl : i = j := Nat.le_antisymm (Nat.le_of_not_lt fun z => hlt (Int.ofNat_lt.mpr z)) hi.1
        exact run_z (.t false) H (h := wx_f ⟨i, ⟨hi.1, trim_end _ hd hi.1 hi.2.2 (by rw [Nat.sub_self, List.take_zero]; rfl)⟩, by kernel_rfl⟩)
    · refine q_sl (.str x) (.int j) (.int i) (h := fun v lo hi' p => SlW_ss hx ?_)
      exact run_ret (.str (Txt.slice x (some (j : Int)) (some (i : Int)))) H (h := ⟨by rw [slice_le x hi.1, hi.2]; rfl, rfl⟩)
end Mine
namespace Mine
variable {w : World} {B : Heap}
noncomputable def DIGS : Str := "0123456789abcdef"
noncomputable def dv (ch : Nat) : Int := if ch ∈ ls DIGS then (((ls DIGS).findIdx (· == ch) : Nat) : Int) else -1
noncomputable def digGo (base : Int) : List Nat → Int → Int
  | [], t => t
  | ch :: r, t => if dv ch < 0 ∨ dv ch ≥ base then -1 else digGo base r (if t * base + dv ch > 9007199254740991 then 9007199254740992 else t * base + dv ch)
noncomputable def digV (x : Str) (base : Int) : Int := if ls x = [] then -1 else digGo base (ls (Txt.lower x)) 0
theorem digits_value_W {k : Nat} {H : HS} {x : Str} {base : Int} (hx : x.length ≤ 10000) (hb : 0 < base ∧ base ≤ 100) : CW w B (k + 1) H (.ref 375) [.str x, .int base] (fun a H' => a = .int (digV x base) ∧ H' = H) (fun _ _ => False) := by
  refine CW_go (st 68) "digits_value" .none "kindkeep.values" 335 374 (h := fun c W => ?_)
  refine run_t (x == "") (by kernel_rfl) (fun h => ?_) (fun h => ?_)
  · exact run_ret (.int (-1)) H (by kernel_rfl) ⟨by rw [digV, if_pos (by rw [eq_of_beq h]; rfl)], rfl⟩
  · have hx0 : ls x ≠ [] := fun z => by rw [show x = "" from str_ext (z.trans rfl)] at h; exact absurd h (by decide)
    refine q_for (m := ?_)
    refine q_lower x (m := ?_)
    refine q_call (.builtin "str.lower") [.str x] H (h := VW_lower (by have := len_lower x; omega) ?_)
    refine run_z (.v (.str (Txt.lower x))) H (by kernel_rfl) ?_
    refine for_strU W.hh "letter" ["letter", "digit"] (fun t : Int => [("total", .int t)]) (fun i t => digGo base ((ls (Txt.lower x)).drop i) t = digGo base (ls (Txt.lower x)) 0) 0 (o0 := rfl) (st := fun i t hi ht c' e1 e3 => ?_) (fin := fun t ht => ?_)
    · have hch : (ls (Txt.lower x))[i]? = some ((Txt.lower x).cps[i]?.getD 0) := by simp [hi]
      generalize (Txt.lower x).cps[i]?.getD 0 = ch at hch
      have hf : Txt.find DIGS ⟨#[ch]⟩ = dv ch := find_one _ _
      have hd : digGo base ((ls (Txt.lower x)).drop i) t = if dv ch < 0 ∨ dv ch ≥ base then -1 else digGo base ((ls (Txt.lower x)).drop (i + 1)) (if t * base + dv ch > 9007199254740991 then 9007199254740992 else t * base + dv ch) := by
        have hlt := lt_of_get hch
        rw [List.drop_eq_getElem_cons hlt, show (ls (Txt.lower x))[i] = ch by simpa [List.getElem?_eq_getElem hlt] using hch]; rfl
      refine q_find DIGS (m := ?_)
      refine q_call (.builtin "str.find") [.str DIGS, .str ⟨#[ch]⟩] H (h := VW_findE hf ?_)
      refine run_if (dv ch < 0) (by kernel_rfl) (fun h1 => ?_) (fun h1 => ?_)
      · refine run_z (.f (.ret (.int (-1)))) H (by kernel_rfl) ?_
        exact run_ret (.int (-1)) H (by kernel_rfl) ⟨by rw [digV, if_neg hx0, ← ht, hd, if_pos (.inl h1)], rfl⟩
      · refine run_if (dv ch ≥ base) (by kernel_rfl) (fun h2 => ?_) (fun h2 => ?_)
        · refine run_z (.f (.ret (.int (-1)))) H (by kernel_rfl) ?_
          exact run_ret (.int (-1)) H (by kernel_rfl) ⟨by rw [digV, if_neg hx0, ← ht, hd, if_pos (.inr h2)], rfl⟩
        · have hd' := hd.symm.trans ht
          rw [if_neg (fun z => z.elim h1 h2)] at hd'
          refine q_bin .Mult (.int t) (.int base) (h := BW_mul ⟨by omega, by omega⟩ ?_)
          · refine run_if (t * base + dv ch > 9007199254740991) (by kernel_rfl) (fun h3 => ?_) (fun h3 => ?_)
            · rw [if_pos h3] at hd'
              exact run_z (.f .next) H (by kernel_rfl) (nx_of 9007199254740992 hd')
            · rw [if_neg h3] at hd'
              exact run_z (.f .next) H (by kernel_rfl) (nx_of (t * base + dv ch) hd')
    · exact run_ret (.int t) H (by kernel_rfl) ⟨by rw [digV, if_neg hx0, ← ht, List.drop_of_length_le (by simp)]; rfl, rfl⟩
end Mine
namespace Mine
variable {w : World} {B : Heap}
noncomputable def pre2 (x : Str) : Int := prefB (Txt.lower (mkS ((ls x).take 2)))
theorem base_of_prefix_W {k : Nat} {H : HS} {x : Str} (hx : x.length ≤ 10000) : CW w B (k + 1) H (.ref 382) [.str x] (fun a H' => a = .int (pre2 x) ∧ H' = H) (fun _ _ => False) := by
  refine CW_go (st 69) "base_of_prefix" .none "kindkeep.values" 335 381 (h := fun c W => ?_)
  have e : Txt.slice x (some 0) (some 2) = mkS ((ls x).take 2) := slice_le x (a := 0) (b := 2) (by decide)
  have hl := Txt.slice_le x (some 0) (some 2)
  rw [e] at hl
  refine q_pref (m := ?_)
  refine q_sl (.str x) (.int 0) (.int 2) (h := fun v lo hi p => SlW_ss (le_n hx _) ?_)
  rw [e]
  refine q_lower (mkS ((ls x).take 2)) (m := ?_)
  refine q_call (.builtin "str.lower") [.str (mkS ((ls x).take 2))] H (h := VW_lower (by have := len_lower (mkS ((ls x).take 2)); omega) ?_)
  refine q_call (.builtin "dict.get") [.val (.ref 123), .str (Txt.lower (mkS ((ls x).take 2))), .int 10] H (h := VW_pref ?_)
  exact run_ret (.int (pre2 x)) H (h := ⟨rfl, rfl⟩)
noncomputable def oneAt (l : List Nat) (i : Nat) : Str := mkS ((l.drop i).take 1)
theorem slice_one (x : Str) (i : Nat) : Txt.slice x (some (i : Int)) (some ((i : Int) + 1)) = oneAt (ls x) i := by
  have := slice_le x (a := i) (b := i + 1) (by lia)
  rw [show i + 1 - i = 1 by lia] at this
  exact this
theorem slice_one' (x : Str) {j : Int} {i : Nat} (h : j = i) : Txt.slice x (some j) (some (j + 1)) = oneAt (ls x) i := by subst h; exact slice_one x i
theorem nat_beq (a b : Nat) : ((a : Int) == (b : Int)) = decide (a = b) := by
  by_cases h : a = b
  · subst h; simp
  · rw [decide_eq_false h]; exact beq_false_of_ne (by lia)
theorem or_str {x y z : Str} (h : (y == x || z == x) = true) : x = y ∨ x = z := by
  rw [Bool.or_eq_true] at h
  exact h.imp (fun e => (eq_of_beq e).symm) fun e => (eq_of_beq e).symm
theorem nor_str {x y z : Str} (h : (y == x || z == x) = false) : ¬ (x = y ∨ x = z) := by
  rw [Bool.or_eq_false_iff] at h
  rintro (e | e)
  · rw [e] at h; simp at h
  · rw [e] at h; simp at h
noncomputable def expEnd (l : List Nat) (i : Nat) : Bool :=
  let st := if (oneAt l (i + 1) = "+" ∨ oneAt l (i + 1) = "-") then i + 2 else i + 1
  if runD l st = st then false else decide (runD l st = l.length)
noncomputable def tailOk (l : List Nat) (i : Nat) : Bool := if oneAt l i = "e" ∨ oneAt l i = "E" then expEnd l i else decide (i = l.length)
noncomputable def otherN (x : Str) : Bool :=
  let l := ls x
  if x = "Infinity" then true else
  let a := runD l 0
  if oneAt l a = "." then (if a + (runD l (a + 1) - a - 1) = 0 then false else tailOk l (runD l (a + 1)))
  else if a = 0 then false else tailOk l a
theorem runD_ge (l : List Nat) (i : Nat) : i ≤ runD l i := Nat.le_add_right _ _
theorem runD_le (l : List Nat) (i : Nat) (h : i ≤ l.length) : runD l i ≤ l.length := by
  unfold runD
  have : ((l.drop i).takeWhile isDig).length ≤ (l.drop i).length := (List.takeWhile_sublist _).length_le
  rw [List.length_drop] at this
  lia
theorem ite_prop {α : Type} {p q : Prop} [Decidable p] [Decidable q] {a b : α} (h : p ↔ q) : (if p then a else b) = if q then a else b := by
  by_cases x : p
  · rw [if_pos x, if_pos (h.mp x)]
  · rw [if_neg x, if_neg fun z => x (h.mpr z)]
theorem is_other_number_W {k : Nat} {H : HS} {x : Str} (hx : x.length ≤ 10000) : CW w B (k + 2) H (.ref 389) [.str x] (fun a H' => a = .bool (otherN x) ∧ H' = H) (fun _ _ => False) := by
  refine CW_go (st 70) "is_other_number" .none "kindkeep.values" 335 388 (h := fun c W => ?_)
  have rd : ∀ {k : Cf} {i : Nat} {i' : Int} {E : QE} {Z : Rt → St → Prop}, i' = i → (k.c, k.H) = (.call (.ref 242) [.str x, .int i'], H) → Me c E Z (go (k.retH (.int (runD (ls x) i)) H)) → Me c E Z k := fun e e' m => by
    subst e; exact run_val _ _ _ H (run_of_digits_W (k := 0) (le_n hx _)) W.hh (le_k W.k 1 1) e' m
  refine run_t (x == Str.ofString "Infinity") (h1 := fun h => ?_) (h2 := fun h => ?_)
  · exact run_ret (.bool true) H (h := ⟨by rw [otherN, if_pos (eq_of_beq h)], rfl⟩)
  have hx0 : ¬ x = "Infinity" := fun z => by rw [z] at h; exact absurd h (by decide)
  refine rd (i := 0) rfl (by kernel_rfl) ?_
  have ha0 := runD_le (ls x) 0 (Nat.zero_le _)
  generalize hA : runD (ls x) 0 = A at ha0 ⊢
  have hn := len_ls x
  refine q_sl (.str x) (.int A) (.int (A + 1)) (h := fun v lo hi p => SlW_ss (le_n hx _) ?_)
  rw [slice_one]
  refine run_tc (fun p : Nat × Int × Slot => [("at", .lv (.int p.1)), ("digits", .lv (.int p.2.1)), ("behind", p.2.2)]) (fun p => p.1 ≤ (ls x).length ∧ otherN x = (if p.2.1 = 0 then false else tailOk (ls x) p.1)) (oneAt (ls x) A == ".") (tail := ?_) (h1 := fun h1 hj => ?_) (h2 := fun h1 => ⟨(A, A, .un), ⟨ha0, ?_⟩, by kernel_rfl⟩)
  · rintro ⟨a, d, sl⟩ ⟨ha, ho⟩
    dsimp only at ha ho
    refine run_t (d == (0 : Int)) (h1 := fun h1 => ?_) (h2 := fun h1 => ?_)
    · exact run_ret (.bool false) H (h := ⟨by rw [ho, if_pos (eq_of_beq h1)], rfl⟩)
    rw [if_neg (fun z => by rw [z] at h1; exact absurd h1 (by decide))] at ho
    refine q_sl (.str x) (.int a) (.int (a + 1)) (h := fun v lo hi p => SlW_ss (le_n hx _) ?_)
    rw [slice_one]
    refine q_cmp .In (.str (oneAt (ls x) a)) (.tup [.str "e", .str "E"]) (h := BW_in2 ?_)
    have fin : ∀ {k : Cf} {i : Nat} {E : QE}, k.c = .call (.builtin "len") [.str x] → otherN x = decide (i = (ls x).length) → ((go (k.ret (.int x.length))).c, (go (k.ret (.int x.length))).K, (go (k.ret (.int x.length))).H) = (.r (.f (.ret (.bool ((i : Int) == x.length)))), [], H) → Me c E (ZF (RQ fun a H' => a = .bool (otherN x) ∧ H' = H)) k := fun e q e' => run_len x (le_n hx _) e (run_ret _ H e' ⟨by rw [nat_beq, hn, q], rfl⟩)
    refine run_t (Str.ofString "e" == oneAt (ls x) a || Str.ofString "E" == oneAt (ls x) a) (h1 := fun h2 => ?_) (h2 := fun h2 => ?_)
    · have h2 := or_str h2
      rw [tailOk, if_pos h2, expEnd] at ho
      refine q_sl (.str x) (.int ((a : Int) + 1)) (.int ((a : Int) + 1 + 1)) (h := fun v lo hi p => SlW_ss (le_n hx _) ?_)
      rw [slice_one' x (j := (a : Int) + 1) (i := a + 1) rfl]
      refine q_cmp .In (.str (oneAt (ls x) (a + 1))) (.tup [.str "+", .str "-"]) (h := BW_in2 ?_)
      refine run_t (Str.ofString "+" == oneAt (ls x) (a + (1 : Nat)) || Str.ofString "-" == oneAt (ls x) (a + (1 : Nat))) (h1 := fun h3 => ?_) (h2 := fun h3 => ?_)
      · rw [if_pos (or_str h3)] at ho
        refine rd (i := a + 2) (i' := (a : Int) + 1 + 1) rfl (by kernel_rfl) ?_
        refine run_t ((↑(runD (ls x) (a + (2 : Nat))) : Int) == (↑a : Int) + (1 : Int) + (1 : Int)) (h1 := fun h4 => ?_) (h2 := fun h4 => ?_)
        · have h4 : runD (ls x) (a + 2) = a + 2 := Int.ofNat_inj.mp (eq_of_beq h4)
          simp only [h4, if_true] at ho
          exact run_ret (.bool false) H (h := ⟨by rw [ho], rfl⟩)
        · have h4 : ¬ runD (ls x) (a + 2) = a + 2 := fun z => ne_of_beq_false h4 (by rw [z]; rfl)
          simp only [h4, if_false] at ho
          exact fin (i := runD (ls x) (a + 2)) (by kernel_rfl) ho (by kernel_rfl)
      · rw [if_neg (nor_str h3)] at ho
        refine rd (i := a + 1) (i' := (a : Int) + 1) rfl (by kernel_rfl) ?_
        refine run_t ((↑(runD (ls x) (a + (1 : Nat))) : Int) == (↑a : Int) + (1 : Int)) (h1 := fun h4 => ?_) (h2 := fun h4 => ?_)
        · have h4 : runD (ls x) (a + 1) = a + 1 := Int.ofNat_inj.mp (eq_of_beq h4)
          simp only [h4, if_true] at ho
          exact run_ret (.bool false) H (h := ⟨by rw [ho], rfl⟩)
        · have h4 : ¬ runD (ls x) (a + 1) = a + 1 := fun z => ne_of_beq_false h4 (by rw [z]; rfl)
          simp only [h4, if_false] at ho
          exact fin (i := runD (ls x) (a + 1)) (by kernel_rfl) ho (by kernel_rfl)
    · rw [tailOk, if_neg (nor_str h2)] at ho
      exact fin (i := a) (by kernel_rfl) ho (by kernel_rfl)
  · have h1 := eq_of_beq h1
    have hlt : A < (ls x).length := by
      by_cases z : A < (ls x).length
      · exact z
      · exfalso
        have : oneAt (ls x) A = "" := by unfold oneAt; rw [List.drop_of_length_le (Nat.le_of_not_lt z)]; rfl
        rw [this] at h1; exact absurd h1 (by decide)
    have hg := runD_ge (ls x) (A + 1)
    refine rd (i := A + 1) (i' := (A : Int) + 1) rfl (by kernel_rfl) ?_
    refine hj (runD (ls x) (A + 1), A + ((runD (ls x) (A + 1)) - A - 1), .lv (.int (runD (ls x) (A + 1)))) ⟨runD_le _ _ hlt, ?_⟩ _ (by kernel_rfl)
    rw [otherN]; simp only; rw [if_neg hx0, hA, if_pos h1]
    exact ite_prop ⟨by omega, by omega⟩
  · rw [otherN]; simp only
    rw [if_neg hx0, hA, if_neg (fun z => by rw [z] at h1; exact absurd h1 (by decide))]
    exact ite_prop ⟨by omega, by omega⟩
end Mine
namespace Mine
variable {w : World} {B : Heap}
noncomputable abbrev big (n : Int) : Prop := n > 9007199254740991 ∨ n < 0 - 9007199254740991
noncomputable def numV (n : Int) : Option (Int × Int) := if big n then none else some (3, n)
noncomputable def tnum2 (b : Str) (minus : Bool) : Option (Int × Int) := if digV b 10 < 0 then (if otherN b = true then none else some (4, 0)) else numV (if minus = true then 0 - digV b 10 else digV b 10)
noncomputable def tnum (x : Str) : Option (Int × Int) :=
  if trimS x = "" then some (3, 0) else
  if pre2 (trimS x) ≠ 10 then (if digV (mkS ((ls (trimS x)).drop 2)) (pre2 (trimS x)) ≥ 0 then numV (digV (mkS ((ls (trimS x)).drop 2)) (pre2 (trimS x))) else some (4, 0))
  else if (ls (trimS x))[0]? = some 45 then tnum2 (mkS ((ls (trimS x)).drop 1)) true
  else if (ls (trimS x))[0]? = some 43 then tnum2 (mkS ((ls (trimS x)).drop 1)) false
  else tnum2 (trimS x) false
theorem trim_len (x : Str) : (trimS x).length ≤ x.length := by
  rw [len_ls, len_ls, trimS, ls_mkS, trimL, List.length_reverse]
  have h1 : ((ls x).dropWhile isBl).reverse.dropWhile isBl |>.length |> (· ≤ ((ls x).dropWhile isBl).reverse.length) := (List.dropWhile_sublist _).length_le
  have h2 : ((ls x).dropWhile isBl).length ≤ (ls x).length := (List.dropWhile_sublist _).length_le
  rw [List.length_reverse] at h1
  exact Nat.le_trans h1 h2
theorem pre2_cases (x : Str) : pre2 x = 16 ∨ pre2 x = 8 ∨ pre2 x = 2 ∨ pre2 x = 10 := by
  unfold pre2 prefB
  repeat' split
  all_goals simp
@[reducible] noncomputable def pairV (p : Int × Int) : AV := .tup [.int p.1, .int p.2]
noncomputable def TN (x : Str) (H : HS) : AV → HS → Prop := RetF (fun p => tnum x = some p) pairV H
noncomputable def TNE (x : Str) (H : HS) : AE → HS → Prop := fun ae H' => isNO ae ∧ H' = H ∧ tnum x = none
theorem str_ne {x y : Str} (h : (x == y) = false) : ¬ x = y := fun z => by rw [z, beq_self_eq_true] at h; exact absurd h (by decide)
theorem ch_eq {ch n : Nat} {b : Bool} (h : ((⟨#[ch]⟩ : Str) == mkS [n]) = b) : decide (ch = n) = b := by
  rw [← h]
  by_cases z : ch = n
  · subst z; simp
  · rw [decide_eq_false z]; exact (beq_false_of_ne (fun e => z (by simpa using e))).symm
theorem tnum_c {x b : Str} {ch : Nat} (hb : trimS x = b) (h1 : ¬ b = "") (h2 : pre2 b = 10) (h0 : (ls b)[0]? = some ch) : tnum x = (if ch = 45 then tnum2 (mkS ((ls b).drop 1)) true else if ch = 43 then tnum2 (mkS ((ls b).drop 1)) false else tnum2 b false) := by
  rw [tnum, hb, if_neg h1, if_neg (fun z => z h2), h0]; simp only [Option.some.injEq]
theorem pre2_in (x : Str) : 0 < pre2 x ∧ pre2 x ≤ 100 := by
  rcases pre2_cases x with h | h | h | h <;> rw [h] <;> decide
theorem len_pos {b : Str} (h1 : ¬ b = "") : 0 < b.length := by
  rw [len_ls]
  rcases h : ls b with _ | ⟨a, r⟩
  · exact absurd (str_ext h) h1
  · exact Nat.succ_pos _
theorem text_number_W {k : Nat} {H : HS} {x : Str} (hx : x.length ≤ 10000) : CW w B (k + 4) H (.ref 396) [.str x] (TN x H) (TNE x H) := by
  refine CW_go (st 71) "text_number" .none "kindkeep.values" 335 395 (h := fun c W => ?_)
  have nv : ∀ {k : Cf} {n : Int}, (k.c, k.H) = (.call (.ref 228) [.int n], H) → ((go (k.retH (.tup [.int 3, .int n]) H)).c, (go (k.retH (.tup [.int 3, .int n]) H)).K, (go (k.retH (.tup [.int 3, .int n]) H)).H) = (.r (.f (.ret (.tup [.int 3, .int n]))), [], H) → tnum x = numV n → Me c (Eh (TNE x H)) (ZF (RQ (TN x H))) k := fun e e' ht =>
    run_call _ _ H (num_value_W (k := 0)) W.hh (le_k W.k 3 3) e (fun a H' h => by rw [h.1, h.2.1]; exact run_ret _ _ e' ⟨(3, _), by rw [ht, numV, if_neg (show ¬ big _ from h.2.2)], rfl, rfl⟩) fun ae H' h => ⟨h.1, h.2.1, by rw [ht, numV, if_pos (show big _ from h.2.2)]⟩
  have hl := trim_len x
  refine run_val (.ref 368) [.str x] (.str (trimS x)) H (trimmed_W (k := 0) (le_n hx _)) W.hh (le_k W.k 1 3) (m := ?_)
  generalize hb : trimS x = b at hl ⊢
  have hbl : b.length ≤ 10000 := Nat.le_trans hl hx
  refine run_t (b == Str.ofString "") (h1 := fun h1 => ?_) (h2 := fun h1 => ?_)
  · exact run_ret (.tup [.int 3, .int 0]) H (h := ⟨(3, 0), by rw [tnum, hb, if_pos (eq_of_beq h1)], rfl, rfl⟩)
  have h1 := str_ne h1
  refine run_val (.ref 382) [.str b] (.int (pre2 b)) H (base_of_prefix_W (k := 0) hbl) W.hh (le_k W.k 1 3) (m := ?_)
  refine run_t (pre2 b != (10 : Int)) (h1 := fun h2 => ?_) (h2 := fun h2 => ?_)
  · have h2 : pre2 b ≠ 10 := bne_iff_ne.mp h2
    have ht : tnum x = if digV (mkS ((ls b).drop 2)) (pre2 b) ≥ 0 then numV (digV (mkS ((ls b).drop 2)) (pre2 b)) else some (4, 0) := by rw [tnum, hb, if_neg h1, if_pos h2]
    refine q_sl (.str b) (.int 2) .none (h := SlW_tl (le_n hbl _) ?_)
    refine run_val (.ref 375) [.str (mkS ((ls b).drop 2)), .int (pre2 b)] (.int (digV (mkS ((ls b).drop 2)) (pre2 b))) H (digits_value_W (k := 0) (tl_len hbl) (pre2_in b)) W.hh (le_k W.k 1 3) (m := ?_)
    refine run_if (digV (mkS (List.drop (2 : Nat) (ls b))) (pre2 b) ≥ (0 : Int)) (h1 := fun h3 => ?_) (h2 := fun h3 => ?_)
    · exact nv (n := digV (mkS ((ls b).drop 2)) (pre2 b)) (by kernel_rfl) (by kernel_rfl) (by rw [ht, if_pos h3])
    · exact run_ret (.tup [.int 4, .int 0]) H (h := ⟨(4, 0), by rw [ht, if_neg h3], rfl, rfl⟩)
  · obtain ⟨ch, hc⟩ := ls_get (len_pos h1)
    have ht := tnum_c hb h1 (by simpa using h2) hc
    refine q_sub (.str b) (.int 0) H (h := SubA_ch (j := 0) (le_n hbl _) hc ?_)
    refine run_join 2 (fun b2 : Str => [("body", .lv (.str b2))]) (fun b2 => tnum x = tnum2 b2 ((⟨#[ch]⟩ : Str) == "-") ∧ b2.length ≤ 10000) (fun b2 h => ?_) fun hj => ?_
    · refine run_val (.ref 375) [.str b2, .int 10] (.int (digV b2 10)) H (digits_value_W (k := 0) h.2 (by decide)) W.hh (le_k W.k 1 3) (m := ?_)
      have ht2 := h.1
      refine run_if (digV b2 (10 : Int) < (0 : Int)) (h1 := fun h3 => ?_) (h2 := fun h3 => ?_)
      · refine run_val (.ref 389) [.str b2] (.bool (otherN b2)) H (is_other_number_W (k := 0) h.2) W.hh (le_k W.k 2 3) (m := ?_)
        rw [tnum2, if_pos h3] at ht2
        refine run_t (otherN b2) (h1 := fun h4 => ?_) (h2 := fun h4 => ?_)
        · exact run_NO "no whole number" W (le_k W.k 2 3) (q := fun d x => ⟨rfl, rfl, by rw [ht2, if_pos h4]⟩)
        · exact run_ret (.tup [.int 4, .int 0]) H (h := ⟨(4, 0), by rw [ht2, if_neg (by rw [h4]; decide)], rfl, rfl⟩)
      · rw [tnum2, if_neg h3] at ht2
        refine run_t (Str.mk #[ch] == Str.ofString "-") (h1 := fun h4 => ?_) (h2 := fun h4 => ?_)
        · exact nv (n := 0 - digV b2 10) (by kernel_rfl) (by kernel_rfl) (by rw [ht2, if_pos h4])
        · exact nv (n := digV b2 10) (by kernel_rfl) (by kernel_rfl) (by rw [ht2, if_neg (by rw [h4]; decide)])
    · refine run_t (Str.mk #[ch] == Str.ofString "-") (h1 := fun h3 => ?_) (h2 := fun h3 => ?_)
      · refine q_sl (.str b) (.int 1) .none (h := SlW_tl (le_n hbl _) ?_)
        exact hj (mkS ((ls b).drop 1)) ⟨by rw [ht, if_pos (of_decide_eq_true (ch_eq (n := 45) h3)), h3], tl_len hbl⟩ _ (by kernel_rfl)
      · have n3 := of_decide_eq_false (ch_eq (n := 45) h3)
        refine q_sub (.str b) (.int 0) H (h := SubA_ch (j := 0) (le_n hbl _) hc ?_)
        refine run_t (Str.mk #[ch] == Str.ofString "+") (h1 := fun h4 => ?_) (h2 := fun h4 => ?_)
        · refine q_sl (.str b) (.int 1) .none (h := SlW_tl (le_n hbl _) ?_)
          exact hj (mkS ((ls b).drop 1)) ⟨by rw [ht, if_neg n3, if_pos (of_decide_eq_true (ch_eq (n := 43) h4)), h3], tl_len hbl⟩ _ (by kernel_rfl)
        · exact hj b ⟨by rw [ht, if_neg n3, if_neg (of_decide_eq_false (ch_eq (n := 43) h4)), h3], hbl⟩ _ (by kernel_rfl)
end Mine
namespace Mine
variable {w : World} {B : Heap}
inductive JV where
  | und | nul | boo (b : Int) | num (n : Int) | nan | str (s : Str) | obj (i : Int)
noncomputable def JV.tag : JV → Int | .und => 0 | .nul => 1 | .boo _ => 2 | .num _ => 3 | .nan => 4 | .str _ => 5 | .obj _ => 6
noncomputable def JV.pay : JV → AV | .boo b => .int b | .num n => .int n | .str s => .str s | .obj i => .int i | _ => .int 0
@[reducible] noncomputable def JV.av (v : JV) : AV := .tup [.int v.tag, v.pay]
noncomputable def JV.ok : JV → Prop | .str s => s.length ≤ 10000 | _ => True
noncomputable def toN : JV → Option (Int × Int)
  | .num n => some (3, n) | .boo b => some (3, b) | .str s => tnum s | .nul => some (3, 0) | _ => some (4, 0)
theorem tag3 {v : JV} (h : (v.tag == 3) = true) : ∃ n, v = .num n := by cases v <;> first | exact ⟨_, rfl⟩ | exact Bool.noConfusion h
theorem tag2 {v : JV} (h : (v.tag == 2) = true) : ∃ n, v = .boo n := by cases v <;> first | exact ⟨_, rfl⟩ | exact Bool.noConfusion h
theorem tag5 {v : JV} (h : (v.tag == 5) = true) : ∃ n, v = .str n := by cases v <;> first | exact ⟨_, rfl⟩ | exact Bool.noConfusion h
theorem tag1 {v : JV} (h : (v.tag == 1) = true) : v = .nul := by cases v <;> first | rfl | exact Bool.noConfusion h
theorem tag0 {v : JV} (h : (v.tag == 0) = true) : v = .und := by cases v <;> first | rfl | exact Bool.noConfusion h
theorem tagX {v : JV} (h3 : (v.tag == 3) = false) (h2 : (v.tag == 2) = false) (h5 : (v.tag == 5) = false) (h1 : (v.tag == 1) = false) : toN v = some (4, 0) := by
  cases v <;> first | rfl | exact Bool.noConfusion h3 | exact Bool.noConfusion h2 | exact Bool.noConfusion h5 | exact Bool.noConfusion h1
noncomputable def TNo (v : JV) (H : HS) : AV → HS → Prop := RetF (fun p => toN v = some p) pairV H
noncomputable def TNoE (v : JV) (H : HS) : AE → HS → Prop := fun ae H' => isNO ae ∧ H' = H ∧ toN v = none
theorem to_number_W {k : Nat} {H : HS} {v : JV} (hv : v.ok) : CW w B (k + 5) H (.ref 403) [v.av] (TNo v H) (TNoE v H) := by
  refine CW_go (st 72) "to_number" .none "kindkeep.values" 335 402 (h := fun c W => ?_)
  refine q_it 0 (m := ?_)
  refine run_t (JV.tag v == (3 : Int)) (h1 := fun h3 => ?_) (h2 := fun h3 => ?_)
  · obtain ⟨n, rfl⟩ := tag3 h3
    exact run_ret (JV.num n).av H (h := ⟨(3, n), rfl, rfl, rfl⟩)
  refine run_t (JV.tag v == (2 : Int)) (h1 := fun h2 => ?_) (h2 := fun h2 => ?_)
  · obtain ⟨n, rfl⟩ := tag2 h2
    refine q_it 1 (m := ?_)
    exact run_ret (.tup [.int 3, .int n]) H (h := ⟨(3, n), rfl, rfl, rfl⟩)
  refine run_t (JV.tag v == (5 : Int)) (h1 := fun h5 => ?_) (h2 := fun h5 => ?_)
  · obtain ⟨s, rfl⟩ := tag5 h5
    refine q_it 1 (m := ?_)
    exact run_fn (.ref 396) [.str s] H (text_number_W (k := 0) hv) W.hh (le_k W.k 4 4) (q := fun p h => run_ret (pairV p) H (h := RetF.mk' p h)) (qe := fun ae H' h => h)
  refine run_t (JV.tag v == (1 : Int)) (h1 := fun h1 => ?_) (h2 := fun h1 => ?_)
  · exact run_ret (.tup [.int 3, .int 0]) H (h := ⟨(3, 0), by rw [tag1 h1]; rfl, rfl, rfl⟩)
  · exact run_ret (.tup [.int 4, .int 0]) H (h := ⟨(4, 0), tagX h3 h2 h5 h1, rfl, rfl⟩)
noncomputable def wholeN (v : JV) (other : Int) : Option Int := if v.tag = 0 then some other else (toN v).map fun p => if p.1 = 3 then p.2 else 0
noncomputable def WO (v : JV) (other : Int) (H : HS) : AV → HS → Prop := RetF (fun n => wholeN v other = some n) .int H
theorem whole_1 {v : JV} {other : Int} {p : Int × Int} (h0 : ¬ v.tag = 0) (h : toN v = some p) : wholeN v other = some (if p.1 = 3 then p.2 else 0) := by rw [wholeN, if_neg h0, h]; rfl
noncomputable def WOE (v : JV) (other : Int) (H : HS) : AE → HS → Prop := fun ae H' => isNO ae ∧ H' = H ∧ wholeN v other = none
theorem whole_of_W {k : Nat} {H : HS} {v : JV} {other : Int} (hv : v.ok) : CW w B (k + 6) H (.ref 448) [v.av, .int other] (WO v other H) (WOE v other H) := by
  refine CW_go (st 82) "runlib_whole_of" .none "kindkeep.runlib" 821 447 (h := fun c W => ?_)
  refine q_it 0 (m := ?_)
  refine run_t (JV.tag v == (0 : Int)) (h1 := fun h => ?_) (h2 := fun h => ?_)
  · exact run_ret (.int other) H (h := ⟨_, by rw [wholeN, if_pos (eq_of_beq h)], rfl, rfl⟩)
  · have h0 := ne_of_beq_false h
    refine run_fn (.ref 403) [v.av] H (to_number_W (k := 0) hv) W.hh (le_k W.k 5 5) (q := fun p h => ?_) (qe := fun ae H' h => ⟨h.1, h.2.1, by rw [wholeN, if_neg h0, h.2.2]; rfl⟩)
    have e := whole_1 (other := other) h0 h
    refine q_it 0 (m := ?_)
    refine run_t (p.fst == (3 : Int)) (h1 := fun z => ?_) (h2 := fun z => ?_)
    · refine q_it 1 (m := ?_)
      exact run_ret (.int p.2) H (h := RetF.mk' p.2 (by rw [e, if_pos (eq_of_beq z)]))
    · exact run_ret (.int 0) H (h := RetF.mk' 0 (by rw [e, if_neg (ne_of_beq_false z)]))
theorem place_in_W {k : Nat} {H : HS} {n size : Int} : CW w B (k + 1) H (.ref 455) [.int n, .int size] (fun a H' => a = .int (if n < 0 then (if size + n < 0 then 0 else size + n) else if n > size then size else n) ∧ H' = H) (fun _ _ => False) := by
  refine CW_go (st 83) "runlib_place_in" .none "kindkeep.runlib" 821 454 (h := fun c W => ?_)
  refine run_if (n < (0 : Int)) (h1 := fun h => ?_) (h2 := fun h => ?_)
  · refine run_if (size + n < (0 : Int)) (h1 := fun h2 => ?_) (h2 := fun h2 => ?_)
    · exact run_ret (.int 0) H (h := ⟨by rw [if_pos h, if_pos h2], rfl⟩)
    · exact run_ret (.int (size + n)) H (h := ⟨by rw [if_pos h, if_neg h2], rfl⟩)
  · refine run_if (n > size) (h1 := fun h2 => ?_) (h2 := fun h2 => ?_)
    · exact run_ret (.int size) H (h := ⟨by rw [if_neg h, if_pos h2], rfl⟩)
    · exact run_ret (.int n) H (h := ⟨by rw [if_neg h, if_neg h2], rfl⟩)
theorem front_place_W {k : Nat} {H : HS} {n size : Int} : CW w B (k + 1) H (.ref 462) [.int n, .int size] (fun a H' => a = .int (if n < 0 then 0 else if n > size then size else n) ∧ H' = H) (fun _ _ => False) := by
  refine CW_go (st 84) "front_place" .none "kindkeep.runlib" 821 461 (h := fun c W => ?_)
  refine run_if (n < (0 : Int)) (h1 := fun h => ?_) (h2 := fun h => ?_)
  · exact run_ret (.int 0) H (h := ⟨by rw [if_pos h], rfl⟩)
  · refine run_if (n > size) (h1 := fun h2 => ?_) (h2 := fun h2 => ?_)
    · exact run_ret (.int size) H (h := ⟨by rw [if_neg h, if_pos h2], rfl⟩)
    · exact run_ret (.int n) H (h := ⟨by rw [if_neg h, if_neg h2], rfl⟩)
theorem bool_value_W {k : Nat} {H : HS} {b : Bool} : CW w B (k + 1) H (.ref 221) [.bool b] (fun a H' => a = JV.av (.boo (if b then 1 else 0)) ∧ H' = H) (fun _ _ => False) := by
  refine CW_go (st 46) "bool_value" .none "kindkeep.values" 335 220 (h := fun c W => ?_)
  refine run_t (b) (h1 := fun h => ?_) (h2 := fun h => ?_)
  · exact run_ret (.tup [.int 2, .int 1]) H (h := ⟨by subst h; rfl, rfl⟩)
  · exact run_ret (.tup [.int 2, .int 0]) H (h := ⟨by subst h; rfl, rfl⟩)
noncomputable def argAt (l : List JV) (i : Nat) : JV := (l[i]?).getD .und
theorem arg_at_W {k : Nat} {H : HS} {l : List JV} {i : Nat} (hl : l.length ≤ 1000) : CW w B (k + 1) H (.ref 441) [.lst (l.map JV.av), .int i] (fun a H' => a = (argAt l i).av ∧ H' = H) (fun _ _ => False) := by
  refine CW_go (st 81) "arg_at" .none "kindkeep.runlib" 821 440 (h := fun c W => ?_)
  have el : (l.map JV.av).length = l.length := List.length_map ..
  refine run_lenL (l.map JV.av) (el ▸ le_n hl _) (m := ?_)
  refine run_if ((↑i : Int) < (↑(List.length (List.map JV.av l)) : Int)) (h1 := fun h => ?_) (h2 := fun h => ?_)
  · have h : i < l.length := el ▸ Int.ofNat_lt.mp h
    refine q_sub (.lst (l.map JV.av)) (.int i) H (h := fun v s hs => BW_itemL (a := (argAt l i).av) (Int.natCast_nonneg i) (by omega) (by rw [show ((i : Int)).toNat = i from rfl, List.getElem?_map, argAt, List.getElem?_eq_getElem h]; rfl) ?_ hs)
    exact run_ret (argAt l i).av H (h := ⟨rfl, rfl⟩)
  · exact run_ret (.tup [.int 0, .int 0]) H (h := ⟨by rw [argAt, List.getElem?_eq_none (by omega)]; rfl, rfl⟩)
end Mine
namespace Mine
theorem dropWhile_all {p : Nat → Bool} : ∀ (a b : List Nat), (∀ ch ∈ a, p ch = true) → (a ++ b).dropWhile p = b.dropWhile p
  | [], _, _ => rfl
  | x :: a, b, h => by rw [List.cons_append, List.dropWhile_cons, h x (.head _), if_pos rfl]; exact dropWhile_all a b fun ch m => h ch (.tail _ m)
theorem dropWhile_head {p : Nat → Bool} : ∀ (a b : List Nat), a ≠ [] → (∀ ch ∈ a, p ch = false) → (a ++ b).dropWhile p = a ++ b
  | [], _, n, _ => absurd rfl n
  | x :: a, b, _, h => by rw [List.cons_append, List.dropWhile_cons, h x (.head _)]; rfl
theorem trimL_core {bl core br : List Nat} (h1 : ∀ ch ∈ bl, isBl ch = true) (h2 : ∀ ch ∈ core, isBl ch = false) (h3 : ∀ ch ∈ br, isBl ch = true) : trimL (bl ++ core ++ br) = core := by
  unfold trimL
  rw [List.append_assoc, dropWhile_all bl _ h1]
  rcases core with _ | ⟨c, r⟩
  · rw [List.nil_append]
    have := dropWhile_all br [] h3
    rw [List.append_nil] at this
    rw [this]; rfl
  · rw [dropWhile_head (c :: r) br (by simp) h2, List.reverse_append, dropWhile_all br.reverse _ fun ch m => h3 ch (List.mem_reverse.mp m)]
    have := dropWhile_head (c :: r).reverse [] (by simp) fun ch m => h2 ch (List.mem_reverse.mp m)
    rw [List.append_nil] at this
    rw [this, List.reverse_reverse]
theorem lower_mk {l : List Nat} (h : ∀ ch ∈ l, ch < 128) : Txt.lower (mkS l) = mkS (l.map lo1) := by
  rw [lower_ascii (x := mkS l) h]
  simp
noncomputable def notPre (ch : Nat) : Bool := !(ch == 66 || ch == 98 || ch == 79 || ch == 111 || ch == 88 || ch == 120)
theorem pre2_ten {l : List Nat} (h : ∀ ch ∈ l, ch < 128 ∧ notPre ch = true) : pre2 (mkS l) = 10 := by
  have key : ∀ a, a < 128 → notPre a = true → lo1 a ≠ 120 ∧ lo1 a ≠ 111 ∧ lo1 a ≠ 98 := by decide +kernel
  unfold pre2
  rw [show ls (mkS l) = l from rfl, lower_mk fun ch m => (h ch (List.mem_of_mem_take m)).1]
  rcases l with _ | ⟨a, _ | ⟨b, r⟩⟩
  · decide +kernel
  · unfold prefB
    rw [if_neg, if_neg, if_neg] <;> (intro e; have := congrArg (fun x : Str => (ls x).length) e; revert this; show ¬ (1 = _); decide +kernel)
  · have hb := h b (by simp)
    obtain ⟨k1, k2, k3⟩ := key b hb.1 hb.2
    have e : ∀ s : Str, mkS ([lo1 a, lo1 b]) = s → (ls s)[1]? = some (lo1 b) := fun s e => by rw [← e]; rfl
    unfold prefB
    show (if mkS [lo1 a, lo1 b] = "0x" then (16 : Int) else if mkS [lo1 a, lo1 b] = "0o" then 8 else if mkS [lo1 a, lo1 b] = "0b" then 2 else 10) = 10
    have e1 : (ls ("0x" : Str))[1]? = some 120 := by decide +kernel
    have e2 : (ls ("0o" : Str))[1]? = some 111 := by decide +kernel
    have e3 : (ls ("0b" : Str))[1]? = some 98 := by decide +kernel
    rw [if_neg, if_neg, if_neg]
    · intro z; have := e _ z; rw [e3] at this; exact k3 (Option.some.inj this).symm
    · intro z; have := e _ z; rw [e2] at this; exact k2 (Option.some.inj this).symm
    · intro z; have := e _ z; rw [e1] at this; exact k1 (Option.some.inj this).symm
noncomputable def capN (n : Int) : Int := if n > 9007199254740991 then 9007199254740992 else n
noncomputable def valF (base : Nat) (ds : List Nat) (t : Nat) : Nat := ds.foldl (fun n d => n * base + d) t
theorem digGo_val {base : Nat} (hb : 2 ≤ base) (f : Nat → Nat) : ∀ (ds : List Nat) (t : Nat), (∀ d ∈ ds, d < base ∧ dv (f d) = d) → digGo base (ds.map f) (capN t) = capN (valF base ds t)
  | [], t, _ => rfl
  | d :: r, t, h => by
    obtain ⟨h1, h2⟩ := h d (.head _)
    rw [List.map_cons]
    show (if dv (f d) < 0 ∨ dv (f d) ≥ base then -1 else digGo base (r.map f) (if capN t * base + dv (f d) > 9007199254740991 then 9007199254740992 else capN t * base + dv (f d))) = _
    rw [h2, if_neg (by omega)]
    have e : (if capN t * base + (d : Int) > 9007199254740991 then 9007199254740992 else capN t * base + (d : Int)) = capN ((t * base + d : Nat) : Int) := by
      unfold capN
      by_cases ht : (t : Int) > 9007199254740991
      · rw [if_pos ht]
        have h3 : (9007199254740992 : Int) * 2 ≤ 9007199254740992 * base := Int.mul_le_mul_of_nonneg_left (by omega) (by decide)
        have h4 : (t : Int) * 2 ≤ t * base := Int.mul_le_mul_of_nonneg_left (by omega) (by omega)
        rw [if_pos (by omega), if_pos (by push_cast; omega)]
      · rw [if_neg ht]
        push_cast
        rfl
    rw [e]
    exact digGo_val hb f r _ fun d m => h d (.tail _ m)
theorem digGo_bad {base : Int} : ∀ (l : List Nat) (t : Int), (∃ ch ∈ l, dv ch < 0 ∨ dv ch ≥ base) → digGo base l t = -1
  | [], _, h => by obtain ⟨_, m, _⟩ := h; cases m
  | ch :: r, t, h => by
    show (if dv ch < 0 ∨ dv ch ≥ base then -1 else digGo base r _) = -1
    by_cases hc : dv ch < 0 ∨ dv ch ≥ base
    · rw [if_pos hc]
    · rw [if_neg hc]
      obtain ⟨x, m, hx⟩ := h
      rcases List.mem_cons.mp m with rfl | m
      · exact absurd hx hc
      · exact digGo_bad r _ ⟨x, m, hx⟩
theorem digV_bad {l : List Nat} {base : Int} (ha : ∀ ch ∈ l, ch < 128) (h : ∃ ch ∈ l, dv (lo1 ch) < 0 ∨ dv (lo1 ch) ≥ base) : digV (mkS l) base = -1 := by
  unfold digV
  by_cases e : ls (mkS l) = []
  · rw [if_pos e]
  · rw [if_neg e, lower_mk ha, ls_mkS]
    obtain ⟨ch, m, hc⟩ := h
    exact digGo_bad _ _ ⟨lo1 ch, List.mem_map.mpr ⟨ch, m, rfl⟩, hc⟩
noncomputable def letD (wide : Bool) (d : Nat) : Nat := ((ls (if wide then "0123456789ABCDEF" else "0123456789abcdef" : Str))[d]?).getD 0
theorem letD_facts (wide : Bool) : ∀ d, d < 16 → dv (lo1 (letD wide d)) = d ∧ letD wide d < 128 ∧ isBl (letD wide d) = false ∧ (d < 10 → isDig (letD wide d) = true ∧ notPre (letD wide d) = true ∧ letD wide d ≠ 43 ∧ letD wide d ≠ 45) := by
  cases wide <;> decide +kernel
theorem digV_val {base : Nat} {wide : Bool} {ds : List Nat} (hb : 2 ≤ base) (hb2 : base ≤ 16) (hd : ∀ d ∈ ds, d < base) (hn : ds ≠ []) : digV (mkS (ds.map (letD wide))) base = capN (valF base ds 0) := by
  unfold digV
  rw [if_neg (by rw [ls_mkS]; intro e; exact hn (List.map_eq_nil_iff.mp e)), lower_mk (fun ch m => by
    obtain ⟨d, hm, rfl⟩ := List.mem_map.mp m
    exact (letD_facts wide d (by have := hd d hm; omega)).2.1), ls_mkS, List.map_map]
  exact digGo_val hb (lo1 ∘ letD wide) ds 0 fun d m => ⟨hd d m, (letD_facts wide d (by have := hd d m; omega)).1⟩
end Mine
namespace Mine
theorem runD_at {p ds rest : List Nat} (h1 : ∀ ch ∈ ds, isDig ch = true) (h2 : ∀ ch, rest.head? = some ch → isDig ch = false) : runD (p ++ (ds ++ rest)) p.length = p.length + ds.length := by
  unfold runD
  rw [List.drop_left]
  congr 1
  induction ds with
  | nil =>
    rw [List.nil_append]
    cases rest with
    | nil => rfl
    | cons c r => rw [List.takeWhile_cons, h2 c rfl]; rfl
  | cons d ds ih =>
    rw [List.cons_append, List.takeWhile_cons, h1 d (.head _), if_pos rfl, List.length_cons, ih fun ch m => h1 ch (.tail _ m)]; rfl
theorem runD_0 {ds rest : List Nat} (h1 : ∀ ch ∈ ds, isDig ch = true) (h2 : ∀ ch, rest.head? = some ch → isDig ch = false) : runD (ds ++ rest) 0 = ds.length := by
  have := runD_at (p := []) h1 h2
  simpa using this
theorem oneAt_at {p rest : List Nat} {ch : Nat} : oneAt (p ++ ch :: rest) p.length = mkS [ch] := by
  unfold oneAt; rw [List.drop_left]; rfl
theorem oneAt_at' {p rest : List Nat} {ch : Nat} {i : Nat} (h : i = p.length) : oneAt (p ++ ch :: rest) i = mkS [ch] := h ▸ oneAt_at
theorem e_dot : ("." : Str) = mkS [46] := by decide +kernel
theorem e_e : ("e" : Str) = mkS [101] := by decide +kernel
theorem e_E : ("E" : Str) = mkS [69] := by decide +kernel
theorem mk1_ne {a b : Nat} (h : a ≠ b) : mkS [a] ≠ mkS [b] := fun e => h (by have := congrArg ls e; simpa using this)
theorem not_inf {ds rest : List Nat} (h1 : ∀ ch ∈ ds, isDig ch = true) (h : ds ≠ [] ∨ rest.head? ≠ some 73) : mkS (ds ++ rest) ≠ "Infinity" := fun e => by
  have e1 := congrArg (fun x : Str => (ls x).head?) e
  have e2 : (ls ("Infinity" : Str)).head? = some 73 := by decide +kernel
  simp only [ls_mkS, e2] at e1
  rcases ds with _ | ⟨d, r⟩
  · exact h.elim (fun n => n rfl) fun n => n e1
  · have : d = 73 := by simpa using e1
    have := h1 d (.head _)
    subst_vars
    exact absurd this (by decide)
theorem other_stop {ds rest : List Nat} {ch : Nat} (h1 : ∀ ch ∈ ds, isDig ch = true) (h2 : isDig ch = false) (h3 : ch ≠ 46 ∧ ch ≠ 101 ∧ ch ≠ 69) (h4 : ds ≠ [] ∨ ch ≠ 73) : otherN (mkS (ds ++ ch :: rest)) = false := by
  have hr := runD_0 (rest := ch :: rest) h1 (by intro c e; cases e; exact h2)
  unfold otherN
  simp only
  rw [if_neg (not_inf (rest := ch :: rest) h1 (h4.imp id fun n e => n (Option.some.inj (show some ch = some 73 from e)))), ls_mkS, hr, oneAt_at, e_dot, if_neg (mk1_ne h3.1)]
  split
  · rfl
  · unfold tailOk
    rw [oneAt_at, e_e, e_E, if_neg (by rintro (z | z); exact mk1_ne h3.2.1 z; exact mk1_ne h3.2.2 z)]
    rw [decide_eq_false_iff_not, List.length_append, List.length_cons]; omega
theorem oneAt_end {l : List Nat} {i : Nat} (h : l.length ≤ i) : oneAt l i = "" := by
  unfold oneAt; rw [List.drop_of_length_le h]; rfl
theorem tail_end {l : List Nat} {i : Nat} (h : i = l.length) : tailOk l i = true := by
  unfold tailOk
  rw [oneAt_end (by omega), if_neg (by decide), decide_eq_true h]
theorem other_dot {ds : List Nat} (h1 : ∀ ch ∈ ds, isDig ch = true) : otherN (mkS (ds ++ [46])) = decide (ds ≠ []) := by
  have hr := runD_0 (rest := [46]) h1 (by intro c e; cases e; rfl)
  have hr2 : runD (ds ++ [46]) (ds.length + 1) = ds.length + 1 := runD_end (by simp)
  unfold otherN
  simp only
  rw [if_neg (not_inf h1 (.inr (by decide))), ls_mkS, hr, oneAt_at, if_pos (show mkS [46] = "." from by decide +kernel), hr2]
  rcases ds with _ | ⟨d, r⟩
  · rfl
  · rw [if_neg (by simp), tail_end (by simp)]; simp
theorem other_dot5 {ds : List Nat} (h1 : ∀ ch ∈ ds, isDig ch = true) : otherN (mkS (ds ++ [46, 53])) = true := by
  have hr := runD_0 (rest := [46, 53]) h1 (by intro c e; cases e; rfl)
  have hr2 : runD (ds ++ [46, 53]) (ds.length + 1) = ds.length + 2 := by
    have := runD_at (p := ds ++ [46]) (ds := [53]) (rest := []) (by decide) (by simp)
    simpa using this
  unfold otherN
  simp only
  rw [if_neg (not_inf h1 (.inr (by decide))), ls_mkS, hr, oneAt_at, if_pos (show mkS [46] = "." from by decide +kernel), hr2, if_neg (by omega), tail_end (by simp)]
theorem other_exp {ds : List Nat} {a b : Nat} (h1 : ∀ ch ∈ ds, isDig ch = true) (ha : a = 101 ∨ a = 69) (hb : b = 43 ∨ b = 45) : otherN (mkS (ds ++ [a, b, 49])) = decide (ds ≠ []) := by
  have hr := runD_0 (rest := [a, b, 49]) h1 (by intro c e; cases e; rcases ha with rfl | rfl <;> rfl)
  have hr2 : runD (ds ++ [a, b, 49]) (ds.length + 2) = ds.length + 3 := by
    have := runD_at (p := ds ++ [a, b]) (ds := [49]) (rest := []) (by decide) (by simp)
    simpa using this
  have ho : oneAt (ds ++ [a, b, 49]) (ds.length + 1) = mkS [b] := by
    have := oneAt_at' (p := ds ++ [a]) (rest := [49]) (ch := b) (i := ds.length + 1) (by simp)
    simpa using this
  unfold otherN
  simp only
  rw [if_neg (not_inf h1 (.inr (by rcases ha with rfl | rfl <;> simp))), ls_mkS, hr, oneAt_at, if_neg (show mkS [a] ≠ "." from by rcases ha with rfl | rfl <;> decide +kernel)]
  rcases ds with _ | ⟨d, r⟩
  · rfl
  · rw [if_neg (by simp)]
    unfold tailOk expEnd
    simp only
    rw [oneAt_at, if_pos (show mkS [a] = "e" ∨ mkS [a] = "E" from by rcases ha with rfl | rfl <;> decide +kernel), ho, if_pos (show mkS [b] = "+" ∨ mkS [b] = "-" from by rcases hb with rfl | rfl <;> decide +kernel), hr2, if_neg (by omega)]
    simp
inductive Row : List Nat → Nat → Nat → Prop
  | plain : Row [] 10 97
  | pre {x base wrong : Nat} (h : (x, base, wrong) ∈ [(66, 2, 50), (79, 8, 56), (120, 16, 103), (98, 2, 51), (111, 8, 57), (88, 16, 71)]) : Row [48, x] base wrong
noncomputable def FitsG (o : Option (Int × Int)) (g : Int × Int) : Prop := o = some g ∨ (o = none ∧ g = (-1, 0))
theorem trim_text {bl core br : List Nat} (h1 : ∀ ch ∈ bl, isBl ch = true) (h2 : ∀ ch ∈ core, isBl ch = false) (h3 : ∀ ch ∈ br, isBl ch = true) : trimS (mkS (bl ++ core ++ br)) = mkS core := by
  unfold trimS; rw [ls_mkS, trimL_core h1 h2 h3]
theorem tnum_pre {bl br b : List Nat} {x base wrong : Nat} (hr : (x, base, wrong) ∈ [(66, 2, 50), (79, 8, 56), (120, 16, 103), (98, 2, 51), (111, 8, 57), (88, 16, 71)]) (h1 : ∀ ch ∈ bl, isBl ch = true) (h2 : ∀ ch ∈ b, isBl ch = false) (h3 : ∀ ch ∈ br, isBl ch = true) :
    tnum (mkS (bl ++ ([48, x] ++ b) ++ br)) = if digV (mkS b) base ≥ 0 then numV (digV (mkS b) base) else some (4, 0) := by
  have hx : isBl 48 = false ∧ isBl x = false ∧ prefB (Txt.lower (mkS [48, x])) = base ∧ (base : Int) ≠ 10 := by
    simp only [List.mem_cons, Prod.mk.injEq, List.not_mem_nil, or_false] at hr
    rcases hr with ⟨rfl, rfl, rfl⟩ | ⟨rfl, rfl, rfl⟩ | ⟨rfl, rfl, rfl⟩ | ⟨rfl, rfl, rfl⟩ | ⟨rfl, rfl, rfl⟩ | ⟨rfl, rfl, rfl⟩ <;> decide +kernel
  obtain ⟨x1, x2, x3, x4⟩ := hx
  have ht := trim_text (core := [48, x] ++ b) h1 (fun ch m => by
    rcases List.mem_append.mp m with m | m
    · simp only [List.mem_cons, List.not_mem_nil, or_false] at m
      rcases m with rfl | rfl
      · exact x1
      · exact x2
    · exact h2 ch m) h3
  have hp : pre2 (mkS ([48, x] ++ b)) = base := x3
  unfold tnum
  rw [ht, if_neg (fun e => by have := congrArg (fun s : Str => (ls s).length) e; revert this; show ¬ (([48, x] ++ b).length = (ls ("" : Str)).length); simp; exact fun h => nomatch h), hp, if_pos x4]
  rfl
theorem tnum_plain {bl br sg b : List Nat} (hs : sg = [] ∨ sg = [45] ∨ sg = [43]) (h1 : ∀ ch ∈ bl, isBl ch = true) (h2 : ∀ ch ∈ b, isBl ch = false) (h3 : ∀ ch ∈ br, isBl ch = true) (hp : pre2 (mkS (sg ++ b)) = 10) (hb : sg = [] → b.head? ≠ some 45 ∧ b.head? ≠ some 43) :
    tnum (mkS (bl ++ (sg ++ b) ++ br)) = if sg ++ b = [] then some (3, 0) else tnum2 (mkS b) (decide (sg = [45])) := by
  have ht := trim_text (core := sg ++ b) h1 (fun ch m => by
    rcases List.mem_append.mp m with m | m
    · rcases hs with rfl | rfl | rfl
      · cases m
      · rw [List.mem_singleton] at m; subst m; decide +kernel
      · rw [List.mem_singleton] at m; subst m; decide +kernel
    · exact h2 ch m) h3
  unfold tnum
  rw [ht, hp, ls_mkS]
  by_cases he : sg ++ b = []
  · rw [if_pos he, if_pos (by rw [he]; rfl)]
  · rw [if_neg he, if_neg (fun e => he (by have := congrArg ls e; rw [ls_mkS] at this; rw [this]; rfl)), if_neg (by simp)]
    rcases hs with rfl | rfl | rfl
    · obtain ⟨b1, b2⟩ := hb rfl
      rw [List.nil_append, ← List.head?_eq_getElem?, if_neg b1, if_neg b2]; rfl
    · rfl
    · rfl
end Mine
namespace Mine
theorem pre2_sign {s : Nat} {r : List Nat} (hs : s = 43 ∨ s = 45) (h : ∀ ch ∈ r, ch < 128) : pre2 (mkS (s :: r)) = 10 := by
  unfold pre2
  have h2 : ∀ ch ∈ (s :: r).take 2, ch < 128 := fun ch m => by
    rcases List.mem_cons.mp (List.mem_of_mem_take m) with rfl | m
    · rcases hs with rfl | rfl <;> decide
    · exact h ch m
  have e0 : lo1 s ≠ 48 := by rcases hs with rfl | rfl <;> decide
  rw [show ls (mkS (s :: r)) = s :: r from rfl, lower_mk h2, List.take_succ_cons, List.map_cons]
  have e : ∀ (X : List Nat) (t : Str), (ls t).head? = some 48 → mkS (lo1 s :: X) ≠ t := fun X t ht z => by
    rw [← z] at ht; exact e0 (Option.some.inj ht)
  unfold prefB
  rw [if_neg (e _ _ (by decide +kernel)), if_neg (e _ _ (by decide +kernel)), if_neg (e _ _ (by decide +kernel))]
noncomputable def saidB (bad wr : Nat) (L : List Nat) : List Nat := if bad = 4 then wr :: L else if bad = 5 then L ++ [wr] else L
noncomputable def worthV (pre sg trail : List Nat) (count bad : Nat) (n : Int) : Int × Int :=
  if bad > 3 ∨ trail = [95, 49] then (4, 0) else if pre ≠ [] then (if sg = [] ∧ trail = [] ∧ count > 0 then (3, n) else (4, 0))
    else if trail ≠ [] then (if trail = [46, 53] ∨ count > 0 then (-1, 0) else (4, 0)) else if count = 0 then (if sg = [] then (3, 0) else (4, 0)) else (3, if sg = [45] then 0 - n else n)
noncomputable def capW (n : Int) (v : Int × Int) : Int × Int := if n > 9007199254740991 ∧ v.1 = 3 then (-1, 0) else v
noncomputable def worthW (pre sg trail : List Nat) (count bad : Nat) (n : Int) : Int × Int := capW n (worthV pre sg trail count bad n)
theorem capW_4 {n k : Int} : capW n (4, k) = (4, k) := by unfold capW; rw [if_neg (fun z => by have := z.2; simp at this)]
theorem capW_m {n k : Int} : capW n (-1, k) = (-1, k) := by unfold capW; rw [if_neg (fun z => by have := z.2; simp at this)]
theorem capW_3 {n k : Int} : capW n (3, k) = if n > 9007199254740991 then (-1, 0) else (3, k) := by
  unfold capW
  by_cases h : n > 9007199254740991
  · rw [if_pos ⟨h, rfl⟩, if_pos h]
  · rw [if_neg (fun z => h z.1), if_neg h]
theorem tn_bad {b : List Nat} {m : Bool} (h1 : digV (mkS b) 10 = -1) (h2 : otherN (mkS b) = false) : FitsG (tnum2 (mkS b) m) (4, 0) := by
  unfold tnum2; rw [h1, if_pos (by decide), h2, if_neg (by decide)]; exact .inl rfl
theorem tn_out {b : List Nat} {m : Bool} (h1 : digV (mkS b) 10 = -1) (h2 : otherN (mkS b) = true) : FitsG (tnum2 (mkS b) m) (-1, 0) := by
  unfold tnum2; rw [h1, if_pos (by decide), h2, if_pos rfl]; exact .inr ⟨rfl, rfl⟩
theorem numV_cap {v : Nat} {neg : Bool} : FitsG (numV (if neg = true then 0 - capN v else capN v)) (if (v : Int) > 9007199254740991 then (-1, 0) else (3, if neg = true then 0 - (v : Int) else v)) := by
  have key : ∀ k : Int, (big k ↔ (v : Int) > 9007199254740991) → ∀ r : Int, ((v : Int) ≤ 9007199254740991 → k = r) → FitsG (numV k) (if (v : Int) > 9007199254740991 then (-1, 0) else (3, r)) := fun k hk r hr => by
    unfold numV
    by_cases h : (v : Int) > 9007199254740991
    · rw [if_pos (hk.mpr h), if_pos h]; exact .inr ⟨rfl, rfl⟩
    · rw [if_neg (fun z => h (hk.mp z)), if_neg h, hr (by omega)]; exact .inl rfl
  unfold capN
  cases neg with
  | false =>
    refine key _ ?_ _ ?_
    · show (_ ∨ _) ↔ _
      simp only [Bool.false_eq_true, if_false]
      split <;> omega
    · intro h; simp only [Bool.false_eq_true, if_false]; rw [if_neg (by omega)]
  | true =>
    refine key _ ?_ _ ?_
    · show (_ ∨ _) ↔ _
      simp only [if_true]
      split <;> omega
    · intro h; simp only [if_true]; rw [if_neg (by omega)]
theorem capN_nn {v : Nat} : 0 ≤ capN v := by unfold capN; split <;> omega
theorem worth_bad {pre sg trail : List Nat} {count bad : Nat} {n : Int} (h : bad > 3 ∨ trail = [95, 49]) : worthW pre sg trail count bad n = (4, 0) := by
  unfold worthW worthV; rw [if_pos h, capW_4]
theorem worth_pre {pre sg trail : List Nat} {count bad : Nat} {n : Int} (hp : pre ≠ []) (h : ¬ (sg = [] ∧ trail = [] ∧ count > 0)) : worthW pre sg trail count bad n = (4, 0) := by
  unfold worthW worthV
  by_cases hb : bad > 3 ∨ trail = [95, 49]
  · rw [if_pos hb, capW_4]
  · rw [if_neg hb, if_pos hp, if_neg h, capW_4]
theorem worth_pre3 {pre : List Nat} {count bad : Nat} {n : Int} (hp : pre ≠ []) (hb : ¬ bad > 3) (h : count > 0) : worthW pre [] [] count bad n = if n > 9007199254740991 then (-1, 0) else (3, n) := by
  unfold worthW worthV
  rw [if_neg (fun z => z.elim hb (by simp)), if_pos hp, if_pos ⟨rfl, rfl, h⟩, capW_3]
theorem worth_trail {sg trail : List Nat} {count bad : Nat} {n : Int} (hb : ¬ bad > 3) (h1 : trail ≠ []) (h2 : trail ≠ [95, 49]) : worthW [] sg trail count bad n = if trail = [46, 53] ∨ count > 0 then (-1, 0) else (4, 0) := by
  unfold worthW worthV
  rw [if_neg (fun z => z.elim hb h2), if_neg (by simp), if_pos h1]
  split
  · rw [capW_m]
  · rw [capW_4]
theorem worth_none {sg : List Nat} {bad : Nat} (hb : ¬ bad > 3) : worthW [] sg [] 0 bad 0 = if sg = [] then (3, 0) else (4, 0) := by
  unfold worthW worthV
  rw [if_neg (fun z => z.elim hb (by simp)), if_neg (by simp), if_neg (by simp), if_pos rfl]
  split
  · rw [capW_3, if_neg (by decide)]
  · rw [capW_4]
theorem worth_some {sg : List Nat} {count bad : Nat} {n : Int} (hb : ¬ bad > 3) (h : count ≠ 0) : worthW [] sg [] count bad n = if n > 9007199254740991 then (-1, 0) else (3, if sg = [45] then 0 - n else n) := by
  unfold worthW worthV
  rw [if_neg (fun z => z.elim hb (by simp)), if_neg (by simp), if_neg (by simp), if_neg h, capW_3]
end Mine
namespace Mine
noncomputable def trailsL : List (List Nat) := [[], [46], [46, 53], [101, 43, 49], [69, 45, 49], [95, 49]]
theorem trail_facts : ∀ t ∈ trailsL, ∀ ch ∈ t, ch < 128 ∧ isBl ch = false ∧ notPre ch = true := by decide +kernel
theorem trail_invalid : ∀ t ∈ trailsL, t ≠ [] → ∀ base ∈ [2, 8, 10, 16], ∃ ch ∈ t, dv (lo1 ch) < 0 ∨ dv (lo1 ch) ≥ ((base : Nat) : Int) := by decide +kernel
theorem trail_head : ∀ t ∈ trailsL, t.head? ≠ some 45 ∧ t.head? ≠ some 43 := by decide +kernel
theorem row_wrong {pre : List Nat} {base wr : Nat} (h : Row pre base wr) : wr < 128 ∧ isBl wr = false ∧ (dv (lo1 wr) < 0 ∨ dv (lo1 wr) ≥ base) ∧ base ∈ [2, 8, 10, 16] := by
  cases h with
  | plain => decide +kernel
  | pre h =>
    simp only [List.mem_cons, Prod.mk.injEq, List.not_mem_nil, or_false] at h
    rcases h with ⟨rfl, rfl, rfl⟩ | ⟨rfl, rfl, rfl⟩ | ⟨rfl, rfl, rfl⟩ | ⟨rfl, rfl, rfl⟩ | ⟨rfl, rfl, rfl⟩ | ⟨rfl, rfl, rfl⟩ <;> decide +kernel
theorem digV_nil {base : Int} : digV (mkS []) base = -1 := by unfold digV; rw [if_pos (by rfl)]
theorem mem_saidB {bad wr : Nat} {L : List Nat} {ch : Nat} (h : ch ∈ saidB bad wr L) : ch ∈ L ∨ (ch = wr ∧ (bad = 4 ∨ bad = 5)) := by
  unfold saidB at h
  split at h
  · rcases List.mem_cons.mp h with h | h
    · exact .inr ⟨h, .inl ‹_›⟩
    · exact .inl h
  · split at h
    · rcases List.mem_append.mp h with h | h
      · exact .inl h
      · rw [List.mem_singleton] at h; exact .inr ⟨h, .inr ‹_›⟩
    · exact .inl h
theorem saidB_wr {bad wr : Nat} {L : List Nat} (h : bad = 4 ∨ bad = 5) : wr ∈ saidB bad wr L := by
  unfold saidB
  rcases h with rfl | rfl <;> simp
theorem saidB_no {bad wr : Nat} {L : List Nat} (h : ¬ (bad = 4 ∨ bad = 5)) : saidB bad wr L = L := by
  unfold saidB; rw [if_neg (fun z => h (.inl z)), if_neg (fun z => h (.inr z))]
theorem word_fits {bl br sg pre trail ds : List Nat} {base wr bad : Nat} {wide : Bool} (hr : Row pre base wr) (hs : sg = [] ∨ sg = [45] ∨ sg = [43]) (ht : trail ∈ trailsL) (hbad : bad < 6) (hd : ∀ d ∈ ds, d < base) (h1 : ∀ ch ∈ bl, isBl ch = true) (h3 : ∀ ch ∈ br, isBl ch = true) :
    FitsG (tnum (mkS (bl ++ (sg ++ (pre ++ (saidB bad wr (ds.map (letD wide)) ++ trail))) ++ br))) (worthW pre sg trail ds.length bad (valF base ds 0)) := by
  obtain ⟨w1, w2, w3, w4⟩ := row_wrong hr
  have hb2 : 2 ≤ base ∧ base ≤ 16 := by
    simp only [List.mem_cons, List.not_mem_nil, or_false] at w4
    omega
  have hL : ∀ ch ∈ ds.map (letD wide), ∃ d, d < base ∧ ch = letD wide d := fun ch m => by
    obtain ⟨d, hm, rfl⟩ := List.mem_map.mp m
    exact ⟨d, hd d hm, rfl⟩
  have hb : ∀ ch ∈ saidB bad wr (ds.map (letD wide)) ++ trail, ch < 128 ∧ isBl ch = false := fun ch m => by
    rcases List.mem_append.mp m with m | m
    · rcases mem_saidB m with m | ⟨rfl, _⟩
      · obtain ⟨d, hd', rfl⟩ := hL ch m
        have := letD_facts wide d (by omega)
        exact ⟨this.2.1, this.2.2.1⟩
      · exact ⟨w1, w2⟩
    · have := trail_facts trail ht ch m
      exact ⟨this.1, this.2.1⟩
  -- no value where a letter is none of the base's
  have bad1 : ∀ base' : Int, (bad = 4 ∨ bad = 5) → (dv (lo1 wr) < 0 ∨ dv (lo1 wr) ≥ base') → digV (mkS (saidB bad wr (ds.map (letD wide)) ++ trail)) base' = -1 := fun base' h hw =>
    digV_bad (fun ch m => (hb ch m).1) ⟨wr, List.mem_append_left _ (saidB_wr h), hw⟩
  have bad2 : ∀ base' : Nat, base' ∈ [2, 8, 10, 16] → trail ≠ [] → digV (mkS (saidB bad wr (ds.map (letD wide)) ++ trail)) base' = -1 := fun base' hm hn => by
    obtain ⟨ch, m, hc⟩ := trail_invalid trail ht hn base' hm
    exact digV_bad (fun ch m => (hb ch m).1) ⟨ch, List.mem_append_right _ m, hc⟩
  cases hr with
  | @pre x base wr h =>
    rcases hs with rfl | hs
    · rw [List.nil_append, tnum_pre h h1 (fun ch m => (hb ch m).2) h3]
      by_cases hB : bad = 4 ∨ bad = 5
      · rw [bad1 base hB w3, if_neg (by decide), worth_bad (.inl (by omega))]
        exact .inl rfl
      · have hb3 : ¬ bad > 3 := by omega
        by_cases hT : trail = []
        · subst hT
          rw [saidB_no hB, List.append_nil]
          rcases ds with _ | ⟨d, r⟩
          · rw [show digV (mkS (List.map (letD wide) [])) (base : Int) = -1 from digV_nil, if_neg (by decide), worth_pre (by simp) (fun z => absurd z.2.2 (by simp))]
            exact .inl rfl
          · rw [digV_val hb2.1 hb2.2 hd (by simp), if_pos capN_nn]
            have := numV_cap (v := valF base (d :: r) 0) (neg := false)
            simp only [Bool.false_eq_true, if_false] at this
            rw [worth_pre3 (by simp) hb3 (by simp)]; exact this
        · rw [bad2 base w4 hT, if_neg (by decide)]
          rw [worth_pre (by simp) (fun z => hT z.2.1)]; exact .inl rfl
    · have hx : x < 128 ∧ isBl x = false ∧ (dv (lo1 x) < 0 ∨ dv (lo1 x) ≥ 10) ∧ isDig x = false ∧ x ≠ 46 ∧ x ≠ 101 ∧ x ≠ 69 := by
        simp only [List.mem_cons, Prod.mk.injEq, List.not_mem_nil, or_false] at h
        rcases h with ⟨rfl, _⟩ | ⟨rfl, _⟩ | ⟨rfl, _⟩ | ⟨rfl, _⟩ | ⟨rfl, _⟩ | ⟨rfl, _⟩ <;> decide +kernel
      obtain ⟨x1, x2, x3, x4, x5, x6, x7⟩ := hx
      have hb' : ∀ ch ∈ [48, x] ++ (saidB bad wr (ds.map (letD wide)) ++ trail), ch < 128 ∧ isBl ch = false := fun ch m => by
        rcases List.mem_append.mp m with m | m
        · simp only [List.mem_cons, List.not_mem_nil, or_false] at m
          rcases m with rfl | rfl
          · decide +kernel
          · exact ⟨x1, x2⟩
        · exact hb ch m
      have hsn : sg ≠ [] := by rcases hs with rfl | rfl <;> simp
      rw [tnum_plain (.inr hs) h1 (fun ch m => (hb' ch m).2) h3 (by
        rcases hs with rfl | rfl
        · exact pre2_sign (.inr rfl) fun ch m => (hb' ch m).1
        · exact pre2_sign (.inl rfl) fun ch m => (hb' ch m).1) (fun e => absurd e hsn), if_neg (by simp [hsn])]
      rw [worth_pre (by simp) (fun z => hsn z.1)]
      exact tn_bad (digV_bad (fun ch m => (hb' ch m).1) ⟨x, by simp, x3⟩) (other_stop (ds := [48]) (by decide) x4 ⟨x5, x6, x7⟩ (.inl (by simp)))
  | plain =>
    have hLd : ∀ ch ∈ ds.map (letD wide), isDig ch = true ∧ notPre ch = true ∧ ch ≠ 43 ∧ ch ≠ 45 := fun ch m => by
      obtain ⟨d, hd', rfl⟩ := hL ch m
      exact (letD_facts wide d (by omega)).2.2.2 hd'
    have hLd1 : ∀ ch ∈ ds.map (letD wide), isDig ch = true := fun ch m => (hLd ch m).1
    rw [List.nil_append]
    have hnp : ∀ ch ∈ sg ++ (saidB bad 97 (ds.map (letD wide)) ++ trail), ch < 128 ∧ notPre ch = true := fun ch m => by
      rcases List.mem_append.mp m with m | m
      · rcases hs with rfl | rfl | rfl
        · cases m
        · rw [List.mem_singleton] at m; subst m; decide
        · rw [List.mem_singleton] at m; subst m; decide
      · refine ⟨(hb ch m).1, ?_⟩
        rcases List.mem_append.mp m with m | m
        · rcases mem_saidB m with m | ⟨rfl, _⟩
          · exact (hLd ch m).2.1
          · decide
        · exact (trail_facts trail ht ch m).2.2
    have hhead : (saidB bad 97 (ds.map (letD wide)) ++ trail).head? ≠ some 45 ∧ (saidB bad 97 (ds.map (letD wide)) ++ trail).head? ≠ some 43 := by
      have hh := trail_head trail ht
      unfold saidB
      split
      · exact ⟨by simp, by simp⟩
      · rcases e : ds.map (letD wide) with _ | ⟨c, r⟩
        · split
          · exact ⟨by simp, by simp⟩
          · simpa using hh
        · have := hLd c (by rw [e]; exact .head _)
          split
          · exact ⟨by simpa using this.2.2.2, by simpa using this.2.2.1⟩
          · exact ⟨by simpa using this.2.2.2, by simpa using this.2.2.1⟩
    rw [tnum_plain hs h1 (fun ch m => (hb ch m).2) h3 (pre2_ten hnp) (fun _ => hhead)]
    have d10 : ((10 : Nat) : Int) = 10 := rfl
    by_cases hB : bad = 4 ∨ bad = 5
    · have hne : sg ++ (saidB bad 97 (ds.map (letD wide)) ++ trail) ≠ [] := fun e => by
        have : 97 ∈ sg ++ (saidB bad 97 (ds.map (letD wide)) ++ trail) := List.mem_append_right _ (List.mem_append_left _ (saidB_wr hB))
        rw [e] at this; cases this
      rw [if_neg hne, worth_bad (.inl (by omega))]
      refine tn_bad (bad1 10 hB (by rw [← d10]; exact w3)) ?_
      rcases hB with rfl | rfl
      · exact other_stop (ds := []) (rest := ds.map (letD wide) ++ trail) (ch := 97) (fun _ m => nomatch m) (by decide) (by decide) (.inr (by decide))
      · have e : saidB 5 97 (ds.map (letD wide)) ++ trail = ds.map (letD wide) ++ 97 :: trail := by unfold saidB; simp
        rw [e]
        exact other_stop hLd1 (by decide) (by decide) (.inr (by decide))
    · have hb3 : ¬ bad > 3 := by omega
      rw [saidB_no hB] at bad2 ⊢
      have bad3 : trail ≠ [] → digV (mkS (ds.map (letD wide) ++ trail)) 10 = -1 := fun hn => bad2 10 (by decide) hn
      have hln : (ds.map (letD wide) ≠ []) ↔ ds.length > 0 := by
        cases ds <;> simp
      have out : trail ≠ [] → trail ≠ [95, 49] → otherN (mkS (ds.map (letD wide) ++ trail)) = decide (trail = [46, 53] ∨ ds.length > 0) → FitsG (if sg ++ (ds.map (letD wide) ++ trail) = [] then some (3, 0) else tnum2 (mkS (ds.map (letD wide) ++ trail)) (decide (sg = [45]))) (worthW [] sg trail ds.length bad (valF 10 ds 0)) := fun n1 n2 ho => by
        rw [if_neg (by simp [n1]), worth_trail hb3 n1 n2]
        by_cases hc : trail = [46, 53] ∨ ds.length > 0
        · rw [if_pos hc]
          rw [decide_eq_true hc] at ho
          exact tn_out (bad3 n1) ho
        · rw [if_neg hc]
          rw [decide_eq_false hc] at ho
          exact tn_bad (bad3 n1) ho
      simp only [trailsL, List.mem_cons, List.not_mem_nil, or_false] at ht
      rcases ht with rfl | rfl | rfl | rfl | rfl | rfl
      · rw [List.append_nil]
        rcases ds with _ | ⟨d, r⟩
        · show FitsG (if sg ++ [] = [] then some (3, 0) else tnum2 (mkS []) (decide (sg = [45]))) (worthW [] sg [] 0 bad 0)
          rw [List.append_nil, worth_none hb3]
          by_cases hsg : sg = []
          · rw [if_pos hsg, if_pos hsg]; exact .inl rfl
          · rw [if_neg hsg, if_neg hsg]
            exact tn_bad digV_nil (by decide +kernel)
        · rw [if_neg (by simp), worth_some hb3 (by simp)]
          unfold tnum2
          have hv := digV_val (base := 10) (wide := wide) hb2.1 hb2.2 hd (by simp)
          rw [d10] at hv
          rw [hv, if_neg (by have := capN_nn (v := valF 10 (d :: r) 0); omega)]
          have := numV_cap (v := valF 10 (d :: r) 0) (neg := decide (sg = [45]))
          simp only [decide_eq_true_eq] at this ⊢
          exact this
      · refine out (by simp) (by simp) ?_
        rw [other_dot hLd1]
        exact decide_eq_decide.mpr (hln.trans ⟨.inr, fun z => z.elim (fun e => by simp at e) id⟩)
      · refine out (by simp) (by simp) ?_
        rw [other_dot5 hLd1]; simp
      · refine out (by simp) (by simp) ?_
        rw [other_exp hLd1 (.inl rfl) (.inl rfl)]
        exact decide_eq_decide.mpr (hln.trans ⟨.inr, fun z => z.elim (fun e => by simp at e) id⟩)
      · refine out (by simp) (by simp) ?_
        rw [other_exp hLd1 (.inr rfl) (.inr rfl)]
        exact decide_eq_decide.mpr (hln.trans ⟨.inr, fun z => z.elim (fun e => by simp at e) id⟩)
      · rw [if_neg (by simp), worth_bad (.inr rfl)]
        exact tn_bad (bad3 (by simp)) (other_stop (rest := [49]) hLd1 (by decide) (by decide) (.inr (by decide)))
end Mine
namespace Mine
variable {w : World} {B : Heap}
theorem heap_init {k : Nat} {H : HS} {x dx : Addr} : CW w B (k + 1) ((x, .ins 182 dx) :: (dx, .dctS []) :: H) (.ref 179) [.val (.ref x)] (fun a H' => a = .none ∧ ∃ t n, H' = (n, .dctI []) :: (t, .lst []) :: (x, .ins 182 dx) :: (dx, .dctS [("things", .val (.ref t)), ("natives", .val (.ref n))]) :: H) (fun _ _ => False) := by
  refine CW_go (sm 43 0) "Heap.__init__" .none "kindkeep.values" 335 178 (h := fun c W => ?_)
  refine q_list true (m := ?_)
  refine q_lh [] (h := fun t => ?_)
  refine q_sA 1 2 (m := ?_)
  refine q_dictI (h := fun n => ?_)
  refine q_sA 2 3 (m := ?_)
  exact run_fin ((n, .dctI []) :: (t, .lst []) :: (x, .ins 182 dx) :: (dx, .dctS [("things", .val (.ref t)), ("natives", .val (.ref n))]) :: H) (h := ⟨rfl, t, n, rfl⟩)
noncomputable abbrev thingE (number sort proto : Int) (nm sl ge se it : Addr) : List (Str × AV) := [("number", .int number), ("sort", .int sort), ("names", .val (.ref nm)), ("slots", .val (.ref sl)), ("getters", .val (.ref ge)), ("setters", .val (.ref se)), ("proto", .int proto), ("items", .val (.ref it)), ("code", .none), ("native", .int 0), ("home", .int (-1))]
noncomputable abbrev thingH (x dx nm sl ge se it : Addr) (number sort proto : Int) (H : HS) : HS := (it, .lst []) :: (se, .dctS []) :: (ge, .dctS []) :: (sl, .dctS []) :: (nm, .lst []) :: (x, .ins 140 dx) :: (dx, .dctS (thingE number sort proto nm sl ge se it)) :: H
theorem thing_init {k : Nat} {H : HS} {x dx : Addr} {number sort proto : Int} : CW w B (k + 1) ((x, .ins 140 dx) :: (dx, .dctS []) :: H) (.ref 137) [.val (.ref x), .int number, .int sort, .int proto] (fun a H' => a = .none ∧ ∃ nm sl ge se it, H' = thingH x dx nm sl ge se it number sort proto H) (fun _ _ => False) := by
  refine CW_go (sm 41 0) "Thing.__init__" .none "kindkeep.values" 335 136 (h := fun c W => ?_)
  refine q_sA 0 1 (m := ?_)
  refine q_sA 0 1 (m := ?_)
  refine q_list true (m := ?_)
  refine q_lh [] (h := fun nm => ?_)
  refine q_sA 1 2 (m := ?_)
  refine q_dictS (h := fun sl => ?_)
  refine q_sA 2 3 (m := ?_)
  refine q_dictS (h := fun ge => ?_)
  refine q_sA 3 4 (m := ?_)
  refine q_dictS (h := fun se => ?_)
  refine q_sA 4 5 (m := ?_)
  refine q_sA 4 5 (m := ?_)
  refine q_list true (m := ?_)
  refine q_lh [] (h := fun it => ?_)
  refine q_sA 5 6 (m := ?_)
  refine q_sA 5 6 (m := ?_)
  refine q_sA 5 6 (m := ?_)
  refine q_sA 5 6 (m := ?_)
  exact run_fin (thingH x dx nm sl ge se it number sort proto H) (h := ⟨rfl, nm, sl, ge, se, it, rfl⟩)
noncomputable def NewT (number sort proto : Int) (H : HS) : AV → HS → Prop := fun a H' => ∃ x dx nm sl ge se it, a = .val (.ref x) ∧ H' = thingH x dx nm sl ge se it number sort proto H
theorem NewT.use {number sort proto : Int} {H : HS} {R : AV → HS → Prop} (q : ∀ x dx nm sl ge se it, R (.val (.ref x)) (thingH x dx nm sl ge se it number sort proto H)) (a : AV) (H' : HS) (h : NewT number sort proto H a H') : R a H' := by
  obtain ⟨x, dx, nm, sl, ge, se, it, rfl, rfl⟩ := h
  exact q x dx nm sl ge se it
theorem new_Thing_W {k : Nat} {H : HS} {number sort proto : Int} : CW w B (k + 2) H (.ref 140) [.int number, .int sort, .int proto] (NewT number sort proto H) (fun _ _ => False) :=
  CW_cls (by decide +kernel) fun x dx => thing_init.mono (fun a H' h => ⟨h.1, h.2.elim fun nm h => h.elim fun sl h => h.elim fun ge h => h.elim fun se h => h.elim fun it h => ⟨x, dx, nm, sl, ge, se, it, rfl, h⟩⟩) fun _ _ z => z
theorem HUpd.get {a : Addr} {ho ho' : HObj} : ∀ {H : HS}, (a, ho) ∈ H → ∃ H', HUpd a ho ho' H H'
  | [], h => nomatch h
  | p :: r, h => by
    by_cases e : p = (a, ho)
    · subst e; exact ⟨_, .head⟩
    · obtain ⟨H', u⟩ := HUpd.get (ho' := ho') ((List.mem_cons.mp h).resolve_left (Ne.symm e))
      exact ⟨_, .tail u⟩
noncomputable def NewR (th : Addr) (tl : List AV) (sort proto : Int) (H : HS) : AV → HS → Prop := fun a H' => ∃ x dx nm sl ge se it H1, a = .val (.ref x) ∧ HUpd th (.lst tl) (.lst (tl ++ [.val (.ref x)])) H H1 ∧ H' = thingH x dx nm sl ge se it tl.length sort proto H1
theorem NewR.use {th : Addr} {tl : List AV} {sort proto : Int} {H : HS} {R : AV → HS → Prop} (q : ∀ x dx nm sl ge se it H1, HUpd th (.lst tl) (.lst (tl ++ [.val (.ref x)])) H H1 → R (.val (.ref x)) (thingH x dx nm sl ge se it tl.length sort proto H1)) (a : AV) (H' : HS) (h : NewR th tl sort proto H a H') : R a H' := by
  obtain ⟨x, dx, nm, sl, ge, se, it, H1, rfl, u, rfl⟩ := h
  exact q x dx nm sl ge se it H1 u
theorem new_thing_W {k : Nat} {H : HS} {hp hd th : Addr} {hes : List (Str × AV)} {tl : List AV} {sort proto : Int} (h1 : (hp, .ins 182 hd) ∈ H) (h2 : (hd, .dctS hes) ∈ H) (h3 : (("things" : Str), AV.val (.ref th)) ∈ hes) (h4 : (th, .lst tl) ∈ H) (hl : tl.length ≤ 1000) :
    CW w B (k + 3) H (.ref 235) [.val (.ref hp), .int sort, .int proto] (NewR th tl sort proto H) (fun _ _ => False) := by
  refine CW_go (st 48) "new_thing" .none "kindkeep.values" 335 234 (h := fun c W => ?_)
  refine q_atF H "things" h1 h2 h3 (m := ?_)
  refine q_call (.builtin "len") [.val (.ref th)] H (h := VW_len_H h4 (le_n hl _) ?_)
  refine run_call (.ref 140) [.int tl.length, .int sort, .int proto] H (new_Thing_W (k := 0)) W.hh (le_k W.k 2 2) (q := NewT.use fun x dx nm sl ge se it => ?_) (qe := fun _ _ z => z.elim)
  refine (HUpd.get (ho' := .lst (tl ++ [.val (.ref x)])) h4).elim fun H1 u => ?_
  have nt := fun {ad : Addr} {o : HObj} (m : (ad, o) ∈ H) => (.tail _ (.tail _ (.tail _ (.tail _ (.tail _ (.tail _ (.tail _ m)))))) : (ad, o) ∈ thingH x dx nm sl ge se it tl.length sort proto H)
  refine q_atF (thingH x dx nm sl ge se it tl.length sort proto H) "things" (nt h1) (nt h2) h3 (m := ?_)
  refine q_meth (.val (.ref th)) "append" (thingH x dx nm sl ge se it tl.length sort proto H) (.builtin "list.append") [.val (.ref th)] (fun _ => keep_builtin) (MB_list (nt h4) PySem.F.slot_list_append rfl) (m := ?_)
  refine q_call (.builtin "list.append") [.val (.ref th), .val (.ref x)] (thingH x dx nm sl ge se it tl.length sort proto H) (h := VW_append (H' := thingH x dx nm sl ge se it tl.length sort proto H1) (.tail (.tail (.tail (.tail (.tail (.tail (.tail u))))))) (le_n hl _) ?_)
  exact run_ret (.val (.ref x)) (thingH x dx nm sl ge se it tl.length sort proto H1) (h := ⟨x, dx, nm, sl, ge, se, it, H1, rfl, u, rfl⟩)
end Mine
namespace Mine
variable {w : World} {B : Heap}
noncomputable def JV.txt : JV → Str
  | .und => "undefined" | .nul => "null" | .boo b => if b = 0 then "false" else "true" | .num n => toString n | .nan => "NaN" | .str s => s | .obj _ => ""
theorem tag4 {v : JV} (h : (v.tag == 4) = true) : v = .nan := by cases v <;> first | rfl | exact Bool.noConfusion h
theorem tag6 {v : JV} (h0 : (v.tag == 0) = false) (h1 : (v.tag == 1) = false) (h2 : (v.tag == 2) = false) (h3 : (v.tag == 3) = false) (h4 : (v.tag == 4) = false) (h5 : (v.tag == 5) = false) : v.tag = 6 := by
  cases v <;> first | rfl | exact Bool.noConfusion h3 | exact Bool.noConfusion h2 | exact Bool.noConfusion h5 | exact Bool.noConfusion h1 | exact Bool.noConfusion h0 | exact Bool.noConfusion h4
theorem to_text_in_W {k : Nat} {H : HS} {v : JV} {hp : Addr} (hv : v.tag ≠ 6) (hn : ∀ n, v = .num n → n.natAbs < 2 ^ 64) : CW w B (k + 1) H (.ref 354) [.val (.ref hp), v.av, .lst []] (fun a H' => a = .str v.txt ∧ H' = H) (fun _ _ => False) := by
  refine CW_go (st 65) "to_text_in" .none "kindkeep.values" 335 353 (h := fun c W => ?_)
  refine q_it 0 (m := ?_)
  refine run_t (JV.tag v == (0 : Int)) (h1 := fun h0 => ?_) (h2 := fun h0 => ?_)
  · exact run_ret (.str "undefined") H (h := ⟨by rw [tag0 h0]; rfl, rfl⟩)
  refine run_t (JV.tag v == (1 : Int)) (h1 := fun h1 => ?_) (h2 := fun h1 => ?_)
  · exact run_ret (.str "null") H (h := ⟨by rw [tag1 h1]; rfl, rfl⟩)
  refine run_t (JV.tag v == (2 : Int)) (h1 := fun h2 => ?_) (h2 := fun h2 => ?_)
  · obtain ⟨b, rfl⟩ := tag2 h2
    refine q_it 1 (m := ?_)
    refine run_t (b != (0 : Int)) (h1 := fun h => ?_) (h2 := fun h => ?_)
    · exact run_ret (.str "true") H (h := ⟨by rw [JV.txt, if_neg (bne_iff_ne.mp h)], rfl⟩)
    · exact run_ret (.str "false") H (h := ⟨by rw [JV.txt, if_pos (by simpa using h)], rfl⟩)
  refine run_t (JV.tag v == (3 : Int)) (h1 := fun h3 => ?_) (h2 := fun h3 => ?_)
  · obtain ⟨n, rfl⟩ := tag3 h3
    refine q_it 1 (m := ?_)
    refine q_call (.type "str") [.int n] H (h := VW_strI (hn n rfl) ?_)
    exact run_ret (.str (toString n)) H (h := ⟨rfl, rfl⟩)
  refine run_t (JV.tag v == (4 : Int)) (h1 := fun h4 => ?_) (h2 := fun h4 => ?_)
  · exact run_ret (.str "NaN") H (h := ⟨by rw [tag4 h4]; rfl, rfl⟩)
  refine run_t (JV.tag v == (5 : Int)) (h1 := fun h5 => ?_) (h2 := fun h5 => ?_)
  · obtain ⟨s, rfl⟩ := tag5 h5
    refine q_it 1 (m := ?_)
    exact run_ret (.str s) H (h := ⟨rfl, rfl⟩)
  · exact absurd (tag6 h0 h1 h2 h3 h4 h5) hv
theorem to_text_W {k : Nat} {H : HS} {v : JV} {hp : Addr} (hv : v.tag ≠ 6) (hn : ∀ n, v = .num n → n.natAbs < 2 ^ 64) : CW w B (k + 2) H (.ref 361) [.val (.ref hp), v.av] (fun a H' => a = .str v.txt ∧ H' = H) (fun _ _ => False) := by
  refine CW_go (st 66) "to_text" .none "kindkeep.values" 335 360 (h := fun c W => ?_)
  refine q_list false (m := ?_)
  refine run_val (.ref 354) [.val (.ref hp), v.av, .lst []] (.str v.txt) H (to_text_in_W (k := 0) hv hn) W.hh (le_k W.k 1 1) (m := ?_)
  exact run_ret (.str v.txt) H (h := ⟨rfl, rfl⟩)
structure MRd (m hp : Addr) (md : Addr) (mes : List (Str × AV)) (H : HS) : Prop where
  m : (m, .ins 796 md) ∈ H
  d : (md, .dctS mes) ∈ H
  hp : (("heap" : Str), AV.val (.ref hp)) ∈ mes
theorem text_of_this_W {k : Nat} {H : HS} {m hp md : Addr} {mes : List (Str × AV)} {t : Str} (M : MRd m hp md mes H) : CW w B (k + 3) H (.ref 469) [.val (.ref m), (JV.str t).av] (fun a H' => a = .str t ∧ H' = H) (fun _ _ => False) := by
  refine CW_go (st 85) "text_of_this" .none "kindkeep.runlib" 821 468 (h := fun c W => ?_)
  refine q_it 0 (m := ?_)
  refine run_b false (m := ?_)
  refine q_atF H "heap" M.m M.d M.hp (m := ?_)
  refine run_val (.ref 361) [.val (.ref hp), (JV.str t).av] (.str t) H (to_text_W (k := 0) (v := .str t) (by show (5 : Int) ≠ 6; decide) (fun _ z => nomatch z)) W.hh (le_k W.k 2 2) (m := ?_)
  exact run_ret (.str t) H (h := ⟨rfl, rfl⟩)
end Mine
namespace Mine
variable {w : World} {B : Heap}
noncomputable def RO (o : Option AV) (H : HS) : AV → HS → Prop := fun a H' => o = some a ∧ H' = H
noncomputable def REo (o : Option AV) (H : HS) : AE → HS → Prop := fun ae H' => isNO ae ∧ H' = H ∧ o = none
theorem run_whole {c : Ctx w B} {E : QE} {Z : Rt → St → Prop} {k : Cf} {i : Nat} {kk : Nat} {H : HS} (v : JV) (other : Int) {s0 : Stmt} (W : AtC (kk + i) H s0 c) (hv : v.ok) (hi : autoParam (Nat.ble 6 i = true) rr) (e : autoParam ((k.c, k.H) = (.call (.ref 448) [v.av, .int other], H)) kr) (q : ∀ n, wholeN v other = some n → Me c E Z (go (k.retH (.int n) H))) (qe : ∀ ae, isNO ae → wholeN v other = none → E ae ⟨k.loc, H⟩) : Me c E Z k :=
  run_fn (.ref 448) [v.av, .int other] H (whole_of_W (k := 0) hv) W.hh (le_k W.k 6 i hi) e q fun ae H' h => by rw [h.2.1]; exact qe ae h.1 h.2.2
theorem run_arg {c : Ctx w B} {E : QE} {Z : Rt → St → Prop} {k : Cf} {i : Nat} {kk : Nat} {H : HS} (l : List JV) (n : Nat) {s0 : Stmt} (W : AtC (kk + i) H s0 c) (hl : l.length ≤ 1000) (hi : autoParam (Nat.ble 1 i = true) rr) (e : autoParam ((k.c, k.H) = (.call (.ref 441) [.lst (l.map JV.av), .int n], H)) kr) (m : Me c E Z (go (k.retH (argAt l n).av H))) : Me c E Z k :=
  run_val (.ref 441) [.lst (l.map JV.av), .int n] (argAt l n).av H (arg_at_W (k := 0) hl) W.hh (le_k W.k 1 i hi) e m
noncomputable def charS (x : Str) (n : Int) : Str := if 0 ≤ n ∧ n < x.length then mkS (((ls x).drop n.toNat).take 1) else ""
noncomputable def chO (t : Str) (l : List JV) : Option AV := (wholeN (argAt l 0) 0).map fun n => (JV.str (charS t n)).av
theorem char_yes {t : Str} {n : Int} (h1 : 0 ≤ n) (h2 : n < t.length) : ∃ j ch : Nat, n = j ∧ (ls t)[j]? = some ch ∧ charS t n = ⟨#[ch]⟩ := by
  obtain ⟨j, rfl⟩ := Int.eq_ofNat_of_zero_le h1
  obtain ⟨ch, hc⟩ := ls_get (Int.ofNat_lt.mp h2)
  have hc : (ls t)[j]? = some ch := hc
  refine ⟨j, ch, rfl, hc, ?_⟩
  have hlt := lt_of_get hc
  rw [List.getElem?_eq_getElem hlt] at hc
  rw [charS, if_pos ⟨h1, h2⟩, show ((j : Nat) : Int).toNat = j from rfl, List.drop_eq_getElem_cons hlt]
  show mkS [(ls t)[j]] = _
  rw [Option.some.inj hc]
theorem text_char_at_W {k : Nat} {H : HS} {m : Addr} {t : Str} {l : List JV} (ht : t.length ≤ 1000) (hl : l.length ≤ 1000) (h0 : (argAt l 0).ok) : CW w B (k + 7) H (.ref 483) [.val (.ref m), .str t, .lst (l.map JV.av)] (RO (chO t l) H) (REo (chO t l) H) := by
  refine CW_go (st 87) "text_char_at" .none "kindkeep.runlib" 821 482 (h := fun c W => ?_)
  refine run_arg l 0 W hl (m := ?_)
  refine run_whole (argAt l 0) 0 W h0 (q := fun n en => ?_) (qe := fun ae h e => ⟨h, rfl, by rw [chO, e]; rfl⟩)
  have er : ∀ s, charS t n = s → chO t l = some (JV.str s).av := fun s e => by rw [chO, en, ← e]; rfl
  refine run_if ((0 : Int) ≤ n) (h1 := fun h1 => ?_) (h2 := fun h1 => ?_)
  · refine run_len t (le_n ht _) (m := ?_)
    refine run_if (n < (↑(Str.length t) : Int)) (h1 := fun h2 => ?_) (h2 := fun h2 => ?_)
    · obtain ⟨j, ch, rfl, hc, ec⟩ := char_yes h1 h2
      refine q_sub (.str t) (.int j) H (h := SubA_ch (j := j) (le_n ht _) hc ?_)
      exact run_ret (.tup [.int 5, .str ⟨#[ch]⟩]) H (h := ⟨er _ ec, rfl⟩)
    · exact run_ret (.tup [.int 5, .str ""]) H (h := ⟨er _ (by rw [charS, if_neg (fun z => h2 z.2)]), rfl⟩)
  · exact run_ret (.tup [.int 5, .str ""]) H (h := ⟨er _ (by rw [charS, if_neg (fun z => h1 z.1)]), rfl⟩)
noncomputable def placeIn (n size : Int) : Int := if n < 0 then (if size + n < 0 then 0 else size + n) else if n > size then size else n
noncomputable def frontP (n size : Int) : Int := if n < 0 then 0 else if n > size then size else n
noncomputable def sliceS (t : Str) (lo hi : Int) : Str := if hi < lo then "" else mkS (((ls t).drop lo.toNat).take (hi.toNat - lo.toNat))
noncomputable def slO (t : Str) (l : List JV) : Option AV := (wholeN (argAt l 0) 0).bind fun a => (wholeN (argAt l 1) t.length).map fun b => (JV.str (sliceS t (placeIn a t.length) (placeIn b t.length))).av
theorem placeIn_nn {n : Int} {s : Nat} : 0 ≤ placeIn n s := by
  unfold placeIn
  split
  · split
    · exact Int.le_refl 0
    · exact Int.not_lt.mp ‹_›
  · split
    · exact Int.natCast_nonneg s
    · exact Int.not_lt.mp ‹_›
theorem slice_yes {t : Str} {a b : Int} (h : ¬ b < a) (ha : 0 ≤ a) : sliceS t a b = Txt.slice t (some a) (some b) := by
  obtain ⟨i, rfl⟩ := Int.eq_ofNat_of_zero_le ha
  obtain ⟨j, rfl⟩ := Int.eq_ofNat_of_zero_le (Int.le_trans ha (Int.not_lt.mp h))
  rw [sliceS, if_neg h]
  exact (slice_le t (Int.ofNat_le.mp (Int.not_lt.mp h))).symm
theorem text_slice_W {k : Nat} {H : HS} {m : Addr} {t : Str} {l : List JV} (ht : t.length ≤ 1000) (hl : l.length ≤ 1000) (h0 : (argAt l 0).ok) (h1 : (argAt l 1).ok) : CW w B (k + 7) H (.ref 504) [.val (.ref m), .str t, .lst (l.map JV.av)] (RO (slO t l) H) (REo (slO t l) H) := by
  refine CW_go (st 90) "text_slice" .none "kindkeep.runlib" 821 503 (h := fun c W => ?_)
  refine run_arg l 0 W hl (m := ?_)
  refine run_whole (argAt l 0) 0 W h0 (q := fun a ea => ?_) (qe := fun ae h e => ⟨h, rfl, by rw [slO, e]; rfl⟩)
  refine run_len t (le_n ht _) (m := ?_)
  refine run_val (.ref 455) [.int a, .int t.length] (.int (placeIn a t.length)) H (place_in_W (k := 0)) W.hh (le_k W.k 1 6) (m := ?_)
  refine run_arg l 1 W hl (m := ?_)
  refine run_len t (le_n ht _) (m := ?_)
  refine run_whole (argAt l 1) t.length W h1 (q := fun b eb => ?_) (qe := fun ae h e => ⟨h, rfl, by rw [slO, ea, Option.bind_some, e]; rfl⟩)
  refine run_len t (le_n ht _) (m := ?_)
  refine run_val (.ref 455) [.int b, .int t.length] (.int (placeIn b t.length)) H (place_in_W (k := 0)) W.hh (le_k W.k 1 6) (m := ?_)
  have er : ∀ s, sliceS t (placeIn a t.length) (placeIn b t.length) = s → slO t l = some (JV.str s).av := fun s e => by rw [slO, ea, Option.bind_some, eb, ← e]; rfl
  refine run_if (placeIn b (↑(Str.length t) : Int) < placeIn a (↑(Str.length t) : Int)) (h1 := fun h => ?_) (h2 := fun h => ?_)
  · exact run_ret (.tup [.int 5, .str ""]) H (h := ⟨er _ (by rw [sliceS, if_pos h]), rfl⟩)
  · refine q_sl (.str t) (.int (placeIn a t.length)) (.int (placeIn b t.length)) (h := fun v lo hi p => SlW_ss (le_n ht _) ?_)
    exact run_ret (.tup [.int 5, .str (Txt.slice t (some (placeIn a t.length)) (some (placeIn b t.length)))]) H (h := ⟨er _ (slice_yes h placeIn_nn), rfl⟩)
noncomputable def idx (t : Str) (l : List JV) (n : Int) : Int := Txt.find3 t (argAt l 0).txt (frontP n t.length)
noncomputable def idxO (t : Str) (l : List JV) : Option AV := (wholeN (argAt l 1) 0).map fun n => (JV.num (idx t l n)).av
theorem text_index_of_W {k : Nat} {H : HS} {m hp md : Addr} {mes : List (Str × AV)} {t : Str} {l : List JV} (M : MRd m hp md mes H) (ht : t.length ≤ 1000) (hl : l.length ≤ 1000) (h0 : (argAt l 0).tag ≠ 6) (h0n : ∀ n, argAt l 0 = .num n → n.natAbs < 2 ^ 64) (h1 : (argAt l 1).ok) : CW w B (k + 7) H (.ref 490) [.val (.ref m), .str t, .lst (l.map JV.av)] (RO (idxO t l) H) (REo (idxO t l) H) := by
  refine CW_go (st 88) "text_index_of" .none "kindkeep.runlib" 821 489 (h := fun c W => ?_)
  refine q_atF H "heap" M.m M.d M.hp (m := ?_)
  refine run_arg l 0 W hl (m := ?_)
  refine run_val (.ref 361) [.val (.ref hp), (argAt l 0).av] (.str (argAt l 0).txt) H (to_text_W (k := 0) h0 h0n) W.hh (le_k W.k 2 6) (m := ?_)
  refine run_arg l 1 W hl (m := ?_)
  refine run_whole (argAt l 1) 0 W h1 (q := fun b eb => ?_) (qe := fun ae h e => ⟨h, rfl, by rw [idxO, e]; rfl⟩)
  refine run_len t (le_n ht _) (m := ?_)
  refine run_val (.ref 462) [.int b, .int t.length] (.int (frontP b t.length)) H (front_place_W (k := 0)) W.hh (le_k W.k 1 6) (m := ?_)
  refine q_find t (m := ?_)
  refine q_call (.builtin "str.find") [.str t, .str (argAt l 0).txt, .int (frontP b t.length)] H (h := VW_find3 ?_)
  exact run_ret (.tup [.int 3, .int (Txt.find3 t (argAt l 0).txt (frontP b t.length))]) H (h := ⟨by rw [idxO, eb]; rfl, rfl⟩)
noncomputable def incO (t : Str) (l : List JV) : Option AV := (wholeN (argAt l 1) 0).map fun n => (JV.boo (if idx t l n ≥ 0 then 1 else 0)).av
theorem text_includes_W {k : Nat} {H : HS} {m hp md : Addr} {mes : List (Str × AV)} {t : Str} {l : List JV} (M : MRd m hp md mes H) (ht : t.length ≤ 1000) (hl : l.length ≤ 1000) (h0 : (argAt l 0).tag ≠ 6) (h0n : ∀ n, argAt l 0 = .num n → n.natAbs < 2 ^ 64) (h1 : (argAt l 1).ok) : CW w B (k + 8) H (.ref 497) [.val (.ref m), .str t, .lst (l.map JV.av)] (RO (incO t l) H) (REo (incO t l) H) := by
  refine CW_go (st 89) "text_includes" .none "kindkeep.runlib" 821 496 (h := fun c W => ?_)
  refine run_call (.ref 490) [.val (.ref m), .str t, .lst (l.map JV.av)] H (text_index_of_W (k := 0) M ht hl h0 h0n h1) W.hh (le_k W.k 7 7) (q := fun a H' h => (Option.map_eq_some_iff.mp h.1).elim fun n en => ?_) (qe := fun ae H' h => ⟨h.1, h.2.1, by rw [incO, Option.map_eq_none_iff.mp h.2.2]; rfl⟩)
  rw [← en.2, h.2]
  refine q_it 1 (m := ?_)
  refine run_val (.ref 221) [.bool (decide (idx t l n ≥ 0))] (JV.boo (if idx t l n ≥ 0 then 1 else 0)).av H ((bool_value_W (k := 0)).mono (fun a H' h => ⟨h.1.trans (by simp only [decide_eq_true_eq]), h.2⟩) fun _ _ z => z) W.hh (le_k W.k 1 7) (m := ?_)
  exact run_ret (JV.boo (if idx t l n ≥ 0 then 1 else 0)).av H (h := ⟨by rw [incO, en.1]; rfl, rfl⟩)
end Mine
namespace Mine
variable {w : World} {B : Heap}
noncomputable def textO (number : Int) (t : Str) (l : List JV) : Option AV := if number = 201 then chO t l else if number = 202 then idxO t l else if number = 203 then incO t l else slO t l
structure Fit (t : Str) (l : List JV) : Prop where
  ht : t.length ≤ 1000
  hl : l.length ≤ 1000
  ok0 : (argAt l 0).ok
  ok1 : (argAt l 1).ok
structure Fit0 (l : List JV) : Prop where
  tag : (argAt l 0).tag ≠ 6
  num : ∀ n, argAt l 0 = .num n → n.natAbs < 2 ^ 64
theorem textlib_W {k : Nat} {H : HS} {g m hp md : Addr} {mes : List (Str × AV)} {number : Int} {t : Str} {l : List JV} (M : MRd m hp md mes H) (hn : number = 201 ∨ number = 202 ∨ number = 203 ∨ number = 204) (f : Fit t l) (f0 : number = 202 ∨ number = 203 → Fit0 l) :
    CW w B (k + 9) H (.ref 525) [.val (.ref g), .val (.ref m), .int number, (JV.str t).av, .lst (l.map JV.av)] (RO (textO number t l) H) (REo (textO number t l) H) := by
  refine CW_go (sm 92 0) "TextLib.call" .none "kindkeep.runlib" 821 524 (h := fun c W => ?_)
  refine run_val (.ref 469) [.val (.ref m), (JV.str t).av] (.str t) H (text_of_this_W (k := 0) M) W.hh (le_k W.k 3 8) (m := ?_)
  have en : ∀ {k : Cf} (f : Addr) {j : Nat} {o : Option AV}, CW w B j H (.ref f) [.val (.ref m), .str t, .lst (l.map JV.av)] (RO o H) (REo o H) → j ≤ c.k → (k.c, k.H) = (.call (.ref f) [.val (.ref m), .str t, .lst (l.map JV.av)], H) → (∀ a, ((go (k.retH a H)).c, (go (k.retH a H)).K, (go (k.retH a H)).H) = (.r (.f (.ret a)), [], H)) → o = textO number t l → Me c (Eh (REo (textO number t l) H)) (ZF (RQ (RO (textO number t l) H))) k := fun f j o hc hj e e' h => h ▸ run_call _ _ H hc W.hh hj e (fun a H' q => by rw [q.2]; exact run_ret a H (e' a) ⟨q.1, rfl⟩) fun ae H' q => q
  rcases hn with rfl | rfl | rfl | rfl
  · refine run_b true (m := ?_)
    exact en 483 (text_char_at_W (k := 0) f.ht f.hl f.ok0) (le_k W.k 7 8) (by kernel_rfl) (fun a => by kernel_rfl) rfl
  · refine run_b false (m := ?_)
    refine run_b true (m := ?_)
    exact en 490 (text_index_of_W (k := 0) M f.ht f.hl (f0 (.inl rfl)).tag (f0 (.inl rfl)).num f.ok1) (le_k W.k 7 8) (by kernel_rfl) (fun a => by kernel_rfl) rfl
  · refine run_b false (m := ?_)
    refine run_b false (m := ?_)
    refine run_b true (m := ?_)
    exact en 497 (text_includes_W (k := 0) M f.ht f.hl (f0 (.inr rfl)).tag (f0 (.inr rfl)).num f.ok1) (le_k W.k 8 8) (by kernel_rfl) (fun a => by kernel_rfl) rfl
  · refine run_b false (m := ?_)
    refine run_b false (m := ?_)
    refine run_b false (m := ?_)
    refine run_b true (m := ?_)
    exact en 504 (text_slice_W (k := 0) f.ht f.hl f.ok0 f.ok1) (le_k W.k 7 8) (by kernel_rfl) (fun a => by kernel_rfl) rfl
end Mine
namespace Mine
variable {w : World} {B : Heap}
noncomputable def SIGNS : Str := "0123456789abcdefghijklmnopqrstuvwxyz"
noncomputable def sg (d : Nat) : Nat := ((ls SIGNS)[d]?).getD 0
noncomputable def dgo (b : Nat) : Nat → Nat → List Nat
  | 0, _ => []
  | f + 1, r => if r = 0 then [] else sg (r % b) :: dgo b f (r / b)
theorem dgo_fuel {b : Nat} (hb : 2 ≤ b) : ∀ (f g r : Nat), r ≤ f → r ≤ g → dgo b f r = dgo b g r
  | 0, g, r, h1, h2 => by
    obtain rfl := Nat.le_zero.mp h1
    cases g <;> rfl
  | f + 1, 0, r, h1, h2 => by
    obtain rfl := Nat.le_zero.mp h2
    rfl
  | f + 1, g + 1, r, h1, h2 => by
    unfold dgo
    by_cases h : r = 0
    · rw [if_pos h, if_pos h]
    · rw [if_neg h, if_neg h]
      have hl : r / b < r := Nat.div_lt_self (Nat.pos_of_ne_zero h) hb
      rw [dgo_fuel hb f g (r / b) (Nat.le_of_lt_succ (Nat.lt_of_lt_of_le hl h1)) (Nat.le_of_lt_succ (Nat.lt_of_lt_of_le hl h2))]
noncomputable def dgs (b r : Nat) : List Nat := dgo b r r
theorem dgs_step {b r : Nat} (hb : 2 ≤ b) (h : r ≠ 0) : dgs b r = sg (r % b) :: dgs b (r / b) := by
  have hlt : r / b < r := Nat.div_lt_self (Nat.pos_of_ne_zero h) hb
  unfold dgs
  cases r with
  | zero => exact absurd rfl h
  | succ f =>
    show (if f + 1 = 0 then [] else sg ((f + 1) % b) :: dgo b f ((f + 1) / b)) = _
    rw [if_neg (Nat.succ_ne_zero f), dgo_fuel hb f _ _ (Nat.le_of_lt_succ hlt) (Nat.le_refl _)]
noncomputable def digS (n : Int) (b : Nat) : Str := if n = 0 then "0" else mkS ((if n < 0 then [45] else []) ++ (dgs b n.natAbs).reverse)
theorem sg_get {d : Nat} (h : d < 36) : SIGNS.cps.toList[d]? = some (sg d) := by
  have : (ls SIGNS).length = 36 := by decide +kernel
  show (ls SIGNS)[d]? = some (((ls SIGNS)[d]?).getD 0)
  rw [List.getElem?_eq_getElem (this ▸ h)]; rfl
theorem dgo_len {b : Nat} (hb : 2 ≤ b) : ∀ (f k r : Nat), r < 2 ^ k → (dgo b f r).length ≤ k
  | 0, _, _, _ => Nat.zero_le _
  | f + 1, 0, r, h => by
    obtain rfl := Nat.lt_one_iff.mp h
    exact Nat.le_refl 0
  | f + 1, k + 1, r, h => by
    unfold dgo
    split
    · exact Nat.zero_le _
    · have : r / b < 2 ^ k := by
        refine Nat.div_lt_of_lt_mul ?_
        have : 2 ^ (k + 1) = 2 * 2 ^ k := by rw [Nat.pow_succ, Nat.mul_comm]
        exact Nat.lt_of_lt_of_le h (by rw [this]; exact Nat.mul_le_mul_right _ hb)
      exact Nat.succ_le_succ (dgo_len hb f k (r / b) this)
theorem dgs_len {b r : Nat} (hb : 2 ≤ b) (hn : r < 2 ^ 64) : (dgs b r).length ≤ 64 := dgo_len hb r 64 r hn
@[reducible] noncomputable def chL (l : List Nat) : List AV := l.map fun ch => .str ⟨#[ch]⟩
theorem chL_snoc {l : List Nat} {x : Nat} : chL (l ++ [x]) = chL l ++ [.str ⟨#[x]⟩] := List.map_append
theorem VW_joinC {c : Ctx w B} {E : QE} {loc : Loc} {H : HS} {o : Addr} {X : List Nat} {Q : QA} (hX : X.length ≤ 100) (q : Q (.str (mkS X)) ⟨loc, (o, .lst (chL X)) :: H⟩) : VW c ⟨loc, (o, .lst (chL X)) :: H⟩ [.str "", .val (.ref o)] (fun vs => call (.builtin "str.join") vs []) Q E := by
  have em : chL X = (X.map fun ch => (⟨#[ch]⟩ : Str)).map AV.str := by rw [List.map_map]; rfl
  refine VW_joinH (ts := X.map fun ch => (⟨#[ch]⟩ : Str)) (by rw [← em]; exact .head _) (joinOk_one X (Nat.le_trans hX (by decide))) ?_
  rw [join_one]; exact q
theorem fdiv_nn (a : Nat) {b : Nat} : Int.fdiv (a : Int) (b : Int) = ((a / b : Nat) : Int) := (Int.fdiv_eq_ediv_of_nonneg _ (Int.natCast_nonneg b)).trans rfl
theorem fmod_nn (a : Nat) {b : Nat} : Int.fmod (a : Int) (b : Int) = ((a % b : Nat) : Int) := (Int.fmod_eq_emod_of_nonneg _ (Int.natCast_nonneg b)).trans rfl
theorem BW_modN {c : Ctx w B} {E : QE} {σ : St} {Q : QA} {a b : Nat} (h : 0 < b) (hb : b < 2 ^ 64) (q : Q (.int ((a % b : Nat) : Int)) σ) : BW c σ (.int a) (.int b) (binaryOp .Mod) Q E := BW_mod (by omega) (fmod_nn a ▸ q)
theorem BW_divN {c : Ctx w B} {E : QE} {σ : St} {Q : QA} {a b : Nat} (h : 0 < b) (hb : b < 2 ^ 64) (q : Q (.int ((a / b : Nat) : Int)) σ) : BW c σ (.int a) (.int b) (binaryOp .FloorDiv) Q E := BW_div (by omega) (fdiv_nn a ▸ q)
theorem digits_in_W {k : Nat} {H : HS} {n : Int} {b : Nat} (hb : 2 ≤ b ∧ b ≤ 36) (hn : n.natAbs < 2 ^ 64) : CW w B (k + 1) H (.ref 537) [.int n, .int b] (fun a H' => a = .str (digS n b) ∧ H' = H) (fun _ _ => False) := by
  have hb0 : 0 < b := Nat.lt_of_lt_of_le Nat.two_pos hb.1
  have hb64 : b < 2 ^ 64 := Nat.lt_of_le_of_lt hb.2 (by decide)
  have hlen := dgs_len hb.1 hn
  refine CW_go (st 93) "digits_in" .none "kindkeep.runlib" 821 536 (h := fun c W => ?_)
  refine run_t (n == (0 : Int)) (h1 := fun h0 => ?_) (h2 := fun h0 => ?_)
  · exact run_ret (.str "0") H (h := ⟨by rw [digS, if_pos (eq_of_beq h0)], rfl⟩)
  have hz := ne_of_beq_false h0
  refine run_join 2 (fun r : Int => [("rest", .lv (.int r))]) (fun r => r = n.natAbs) (fun r hr => ?_) fun hj => ?_
  · subst hr
    refine q_list true (m := ?_)
    refine q_lh [] (h := fun o => ?_)
    refine run_wH [] (fun p : Nat × List Nat => [("rest", .int p.1)]) (fun p => (o, .lst (chL p.2)) :: H) (fun p => p.2 ++ dgs b p.1 = dgs b n.natAbs) (fun p => p.1) (n.natAbs, []) (fun p => p = (0, dgs b n.natAbs)) (o0 := rfl) (h := fun p hp => ?_) (hx := fun p hp => ?_)
    · obtain ⟨r, l⟩ := p
      refine run_if ((↑r : Int) > (0 : Int)) (h1 := fun hr => ?_) (h2 := fun hr => ?_)
      · have hr : r ≠ 0 := fun z => by subst z; exact absurd hr (by decide)
        have hm := Nat.mod_lt r hb0
        have hp : l ++ dgs b r = dgs b n.natAbs := hp
        have hl : l.length ≤ 64 := by rw [← hp, List.length_append] at hlen; exact Nat.le_trans (Nat.le_add_right _ _) hlen
        rw [dgs_step hb.1 hr] at hp
        refine run_z (.t true) ((o, .lst (chL l)) :: H) (h := wx_t ?_)
        refine q_mL 0 "list.append" (m := ?_)
        refine q_bin .Mod (.int r) (.int b) (h := BW_modN hb0 hb64 ?_)
        refine q_sub (.str SIGNS) (.int ((r % b : Nat) : Int)) ((o, .lst (chL l)) :: H) (h := SubA_ch (by decide +kernel) (sg_get (Nat.lt_of_lt_of_le hm hb.2)) ?_)
        refine q_call (.builtin "list.append") [.val (.ref o), .str ⟨#[sg (r % b)]⟩] ((o, .lst (chL l)) :: H) (h := VW_append .head (by rw [List.length_map]; exact le_n hl _) ?_)
        refine q_bin .FloorDiv (.int r) (.int b) (h := BW_divN hb0 hb64 ?_)
        refine run_z (.f .next) ((o, .lst (chL l ++ [.str ⟨#[sg (r % b)]⟩])) :: H) (h := ag_of (r / b, l ++ [sg (r % b)]) (Nat.div_lt_self (Nat.pos_of_ne_zero hr) hb.1) (by rw [List.append_assoc]; exact hp) ?_)
        delta Cf.uH; dsimp only; rw [chL_snoc]; kernel_rfl
      · obtain rfl : r = 0 := Nat.le_zero.mp (Int.ofNat_le.mp (Int.not_lt.mp hr))
        have hp : l ++ [] = dgs b n.natAbs := hp
        exact run_z (.t false) ((o, .lst (chL l)) :: H) (h := wx_f ⟨(0, l), by rw [← hp, List.append_nil], by kernel_rfl⟩)
    · subst hp
      refine run_joinH 1 (fun _ : List Nat => []) (fun X => (o, .lst (chL X)) :: H) (fun X => digS n b = mkS X.reverse ∧ X.length ≤ 100) (fun X hX => ?_) fun hk => ?_
      · have er : (chL X).reverse = chL X.reverse := List.map_reverse.symm
        refine q_mL 0 "list.reverse" (m := ?_)
        refine q_call (.builtin "list.reverse") [.val (.ref o)] ((o, .lst (chL X)) :: H) (h := VW_reverse (H' := (o, .lst (chL X.reverse)) :: H) (by rw [er]; exact .head) (by rw [List.length_map]; exact le_n hX.2 _) ?_)
        refine q_join (Str.ofString "") (m := ?_)
        refine q_call (.builtin "str.join") [.str "", .val (.ref o)] ((o, .lst (chL X.reverse)) :: H) (h := VW_joinC (by rw [List.length_reverse]; exact hX.2) ?_)
        exact run_retD (.str (mkS X.reverse)) ((o, .lst (chL X.reverse)) :: H) H (.cons _ (List.Sublist.refl _)) (h := ⟨by rw [hX.1], rfl⟩)
      refine run_if (n < (0 : Int)) (h1 := fun hg => ?_) (h2 := fun hg => ?_)
      · refine q_mL 0 "list.append" (m := ?_)
        refine q_call (.builtin "list.append") [.val (.ref o), .str "-"] ((o, .lst (chL (dgs b n.natAbs))) :: H) (h := VW_append (H' := (o, .lst (chL ((dgs b n.natAbs) ++ [45]))) :: H) (by rw [chL_snoc]; exact .head) (by rw [List.length_map]; exact le_n hlen _) ?_)
        exact hk (dgs b n.natAbs ++ [45]) ⟨by rw [digS, if_neg hz, if_pos hg, List.reverse_append]; rfl, by rw [List.length_append]; exact Nat.le_trans (Nat.add_le_add_right hlen 1) (by decide)⟩ _ (by kernel_rfl)
      · exact hk (dgs b n.natAbs) ⟨by rw [digS, if_neg hz, if_neg hg]; rfl, le_n hlen _⟩ _ (by kernel_rfl)
  · refine run_if (n < (0 : Int)) (h1 := fun hg => ?_) (h2 := fun hg => ?_)
    · exact hj (0 - n) (by omega) _ (by kernel_rfl)
    · exact hj n (by omega) _ (by kernel_rfl)
end Mine
namespace Mine
variable {w : World} {B : Heap}
structure ThIn (x : Addr) (number sort proto : Int) (nm sl ge se it dx : Addr) (H : HS) : Prop where
  x : (x, .ins 140 dx) ∈ H
  d : (dx, .dctS (thingE number sort proto nm sl ge se it)) ∈ H
  ge : (ge, .dctS []) ∈ H
  se : (se, .dctS []) ∈ H
theorem has_name_W {k : Nat} {H : HS} {x nm sl ge se it dx : Addr} {number sort proto : Int} {name : Str} {sles : List (Str × AV)} (T : ThIn x number sort proto nm sl ge se it dx H) (hs : (sl, .dctS sles) ∈ H) (n : KAbs name sles) : CW w B (k + 1) H (.ref 270) [.val (.ref x), .str name] (fun a H' => a = .bool false ∧ H' = H) (fun _ _ => False) := by
  refine CW_go (st 53) "has_name" .none "kindkeep.values" 335 269 (h := fun c W => ?_)
  refine q_atF H "slots" T.x T.d (.tail _ (.tail _ (.tail _ (.head _)))) (m := ?_)
  refine q_cmpH .In (.str name) (.val (.ref sl)) H (h := BW_inS_f hs n ?_)
  refine run_b false (m := ?_)
  refine q_atF H "getters" T.x T.d (.tail _ (.tail _ (.tail _ (.tail _ (.head _))))) (m := ?_)
  refine q_cmpH .In (.str name) (.val (.ref ge)) H (h := BW_inS_f T.ge .nil ?_)
  refine run_b false (m := ?_)
  refine q_atF H "setters" T.x T.d (.tail _ (.tail _ (.tail _ (.tail _ (.tail _ (.head _)))))) (m := ?_)
  refine q_cmpH .In (.str name) (.val (.ref se)) H (h := BW_inS_f T.se .nil ?_)
  exact run_ret (.bool false) H (h := ⟨rfl, rfl⟩)
end Mine
namespace Mine
variable {w : World} {B : Heap}
theorem HUpd.keep {a b : Addr} {ho ho' hb : HObj} {H H' : HS} (u : HUpd a ho ho' H H') (m : (b, hb) ∈ H) (n : hb ≠ ho) : (b, hb) ∈ H' := by
  induction u with
  | head =>
    rcases List.mem_cons.mp m with e | m
    · cases e; exact absurd rfl n
    · exact .tail _ m
  | tail _ ih =>
    rcases List.mem_cons.mp m with e | m
    · exact e ▸ .head _
    · exact .tail _ (ih m)
theorem KAbs.new {K : Type} [DecidableEq K] {k : K} {es : List (K × AV)} (h : KAbs k es) (a : AV) : KNew k a es (es ++ [(k, a)]) := by
  induction h with
  | nil => exact .nil
  | cons h _ ih => exact .cons h ih
structure HpIn (hp hd : Addr) (hes : List (Str × AV)) (th : Addr) (tl : List AV) (H : HS) : Prop where
  x : (hp, .ins 182 hd) ∈ H
  d : (hd, .dctS hes) ∈ H
  things : (("things" : Str), AV.val (.ref th)) ∈ hes
  list : (th, .lst tl) ∈ H
theorem set_own_W {k : Nat} {H : HS} {hp hd th x nm sl ge se it dx : Addr} {hes : List (Str × AV)} {tl nl : List AV} {number sort proto i : Int} {name : Str} {v : AV} {sles : List (Str × AV)} (P : HpIn hp hd hes th tl H) (hi : 0 ≤ i ∧ i < 10000) (ht : tl[i.toNat]? = some (.val (.ref x)))
    (T : ThIn x number sort proto nm sl ge se it dx H) (h1 : (sort == 1) = false) (hs : (sl, .dctS sles) ∈ H) (hn : (nm, .lst nl) ∈ H) (hl : nl.length ≤ 1000) (hl2 : sles.length ≤ 900) (n : KAbs name sles) {H1 H2 : HS} (u1 : HUpd nm (.lst nl) (.lst (nl ++ [.str name])) H H1) (u2 : HUpd sl (.dctS sles) (.dctS (sles ++ [(name, v)])) H1 H2) :
    CW w B (k + 2) H (.ref 305) [.val (.ref hp), .int i, .str name, v] (fun a H' => a = .none ∧ H' = H2) (fun _ _ => False) := by
  have t1 : ThIn x number sort proto nm sl ge se it dx H1 := ⟨u1.keep T.x (by simp), u1.keep T.d (by simp), u1.keep T.ge (by simp), u1.keep T.se (by simp)⟩
  have s1 := u1.keep hs (by simp)
  refine CW_go (st 58) "set_own" .none "kindkeep.values" 335 304 (h := fun c W => ?_)
  refine q_atF H "things" P.x P.d P.things (m := ?_)
  refine q_sub (.val (.ref th)) (.int i) H (h := fun _ _ hs2 => BW_itemH P.list hi.1 (Int.lt_trans hi.2 (by decide)) ht ?_ hs2)
  refine q_atF H "sort" T.x T.d (.tail _ (.head _)) (m := ?_)
  refine run_d false (sort == 1) h1 (m := ?_)
  refine run_val (.ref 270) [.val (.ref x), .str name] (.bool false) H (has_name_W (k := 0) T hs n) W.hh (le_k W.k 1 1) (m := ?_)
  refine run_b true (m := ?_)
  refine q_atF H "names" T.x T.d (.tail _ (.tail _ (.head _))) (m := ?_)
  refine q_meth (.val (.ref nm)) "append" H (.builtin "list.append") [.val (.ref nm)] (fun _ => keep_builtin) (MB_list hn PySem.F.slot_list_append rfl) (m := ?_)
  refine q_call (.builtin "list.append") [.val (.ref nm), .str name] H (h := VW_append u1 (le_n hl _) ?_)
  refine q_atF H1 "getters" t1.x t1.d (.tail _ (.tail _ (.tail _ (.tail _ (.head _))))) (m := ?_)
  refine q_cmpH .In (.str name) (.val (.ref ge)) H1 (h := BW_inS_f t1.ge .nil ?_)
  refine run_b false (m := ?_)
  refine q_atF H1 "setters" t1.x t1.d (.tail _ (.tail _ (.tail _ (.tail _ (.tail _ (.head _)))))) (m := ?_)
  refine q_cmpH .In (.str name) (.val (.ref se)) H1 (h := BW_inS_f t1.se .nil ?_)
  refine run_b false (m := ?_)
  refine q_atF H1 "slots" t1.x t1.d (.tail _ (.tail _ (.tail _ (.head _)))) (m := ?_)
  refine q_si (.val (.ref sl)) (.str name) v H1 (h := SIS_new u2 (n.new v) hl2 ?_)
  exact run_fin H2 (h := ⟨rfl, rfl⟩)
end Mine
namespace Mine
variable {w : World} {B : Heap}
theorem mem7 {α : Type} {a b c d e f g x : α} {l : List α} (h : x ∈ l) : x ∈ a :: b :: c :: d :: e :: f :: g :: l := .tail _ (.tail _ (.tail _ (.tail _ (.tail _ (.tail _ (.tail _ h))))))
theorem mem_nth {α : Type} {x : α} {l : List α} (n : Nat) (h : l[n]? = some x) : x ∈ l := List.mem_of_getElem? h
theorem hide_name_W {k : Nat} {H H2 : HS} {hp hd th x dx nm : Addr} {hes es : List (Str × AV)} {tl : List AV} {i : Int} {name : Str} (P : HpIn hp hd hes th tl H) (hi : 0 ≤ i ∧ i < 10000) (ht : tl[i.toNat]? = some (.val (.ref x)))
    (hx : (x, .ins 140 dx) ∈ H) (hdx : (dx, .dctS es) ∈ H) (hnm : (("names" : Str), AV.val (.ref nm)) ∈ es) (u : HUpd nm (.lst [.str name]) (.lst []) H H2) :
    CW w B (k + 1) H (.ref 312) [.val (.ref hp), .int i, .str name] (fun a H' => a = .none ∧ H' = H2) (fun _ _ => False) := by
  refine CW_go (st 59) "hide_name" .none "kindkeep.values" 335 311 (h := fun c W => ?_)
  refine q_atF H "things" P.x P.d P.things (m := ?_)
  refine q_sub (.val (.ref th)) (.int i) H (h := fun _ _ hs => BW_itemH P.list hi.1 (Int.lt_trans hi.2 (by decide)) ht ?_ hs)
  refine q_atF H "names" hx hdx hnm (m := ?_)
  refine q_cmpH .In (.str name) (.val (.ref nm)) H (h := BW_inL1 u.mem ?_)
  refine run_b true (m := ?_)
  refine q_atF H "names" hx hdx hnm (m := ?_)
  refine q_meth (.val (.ref nm)) "remove" H (.builtin "list.remove") [.val (.ref nm)] (fun _ => keep_builtin) (MB_list u.mem PySem.F.slot_list_remove rfl) (m := ?_)
  refine q_call (.builtin "list.remove") [.val (.ref nm), .str name] H (h := VW_remove1 u ?_)
  exact run_fin H2 (h := ⟨rfl, rfl⟩)
noncomputable abbrev errH (x dx nm sl ge se it : Addr) (number proto : Int) (msg : Str) (H : HS) : HS := (it, .lst []) :: (se, .dctS []) :: (ge, .dctS []) :: (sl, .dctS [("message", .tup [.int 5, .str msg])]) :: (nm, .lst []) :: (x, .ins 140 dx) :: (dx, .dctS (thingE number 3 proto nm sl ge se it)) :: H
noncomputable def ErrR (th : Addr) (tl : List AV) (proto : Int) (msg : Str) (H : HS) : AV → HS → Prop := fun a H' => ∃ x dx nm sl ge se it H1, a = .tup [.int 6, .int tl.length] ∧ HUpd th (.lst tl) (.lst (tl ++ [.val (.ref x)])) H H1 ∧ H' = errH x dx nm sl ge se it tl.length proto msg H1
theorem ErrR.use {th : Addr} {tl : List AV} {proto : Int} {msg : Str} {H : HS} {R : AV → HS → Prop} (q : ∀ x dx nm sl ge se it H1, HUpd th (.lst tl) (.lst (tl ++ [.val (.ref x)])) H H1 → R (.tup [.int 6, .int tl.length]) (errH x dx nm sl ge se it tl.length proto msg H1)) (a : AV) (H' : HS) (h : ErrR th tl proto msg H a H') : R a H' := by
  obtain ⟨x, dx, nm, sl, ge, se, it, H1, rfl, u, rfl⟩ := h
  exact q x dx nm sl ge se it H1 u
theorem HpIn.up {hp hd th x : Addr} {hes : List (Str × AV)} {tl : List AV} {H H1 H0 : HS} (P : HpIn hp hd hes th tl H) (u : HUpd th (.lst tl) (.lst (tl ++ [.val (.ref x)])) H H1) (f : ∀ p ∈ H1, p ∈ H0) : HpIn hp hd hes th (tl ++ [.val (.ref x)]) H0 := ⟨f _ (u.keep P.x (by simp)), f _ (u.keep P.d (by simp)), P.things, f _ u.mem'⟩
theorem last_get {tl : List AV} {v : AV} : (tl ++ [v])[((tl.length : Nat) : Int).toNat]? = some v := by simp
theorem len_in {tl : List AV} (hl : tl.length ≤ 900) : 0 ≤ ((tl.length : Nat) : Int) ∧ ((tl.length : Nat) : Int) < 10000 := ⟨Int.natCast_nonneg _, Int.ofNat_lt.mpr (Nat.lt_of_le_of_lt hl (by decide))⟩
theorem error_thing_W {k : Nat} {H : HS} {hp hd th : Addr} {hes : List (Str × AV)} {tl : List AV} {proto : Int} {msg : Str} (P : HpIn hp hd hes th tl H) (hl : tl.length ≤ 900) :
    CW w B (k + 4) H (.ref 417) [.val (.ref hp), .int proto, .str msg] (ErrR th tl proto msg H) (fun _ _ => False) := by
  refine CW_go (st 74) "error_thing" .none "kindkeep.values" 335 416 (h := fun c W => ?_)
  refine run_call (.ref 235) [.val (.ref hp), .int 3, .int proto] H (new_thing_W (k := 0) P.x P.d P.things P.list (le_n hl _)) W.hh (le_k W.k 3 3) (q := NewR.use fun x dx nm sl ge se it H1 u => ?_) (qe := fun _ _ z => z.elim)
  refine q_at 5 6 (m := ?_)
  refine run_val (.ref 305) [.val (.ref hp), .int tl.length, .str "message", .tup [.int 5, .str msg]] .none (thingH x dx nm sl ge se it tl.length 3 proto H1) (set_own_W (k := 0) (x := x) (dx := dx) (nm := nm) (sl := sl) (ge := ge) (se := se) (it := it) (sles := []) (nl := []) (P.up u fun p hp => mem7 hp) (len_in hl) last_get ⟨mem_nth 5 rfl, mem_nth 6 rfl, mem_nth 2 rfl, mem_nth 1 rfl⟩ rfl (mem_nth 3 rfl) (mem_nth 4 rfl) (by decide) (by decide) .nil (.tail (.tail (.tail (.tail .head)))) (.tail (.tail (.tail .head)))) W.hh (le_k W.k 2 3) (m := ?_)
  refine q_at 5 6 (m := ?_)
  refine run_val (.ref 312) [.val (.ref hp), .int tl.length, .str "message"] .none ((it, .lst []) :: (se, .dctS []) :: (ge, .dctS []) :: (sl, .dctS [("message", .tup [.int 5, .str msg])]) :: (nm, .lst [.str "message"]) :: (x, .ins 140 dx) :: (dx, .dctS (thingE tl.length 3 proto nm sl ge se it)) :: H1) (hide_name_W (k := 0) (x := x) (dx := dx) (nm := nm) (P.up u fun p hp => mem7 hp) (len_in hl) last_get (mem_nth 5 rfl) (mem_nth 6 rfl) (.tail _ (.tail _ (.head _))) (.tail (.tail (.tail (.tail .head))))) W.hh (le_k W.k 1 3) (m := ?_)
  refine q_at 5 6 (m := ?_)
  exact run_ret (.tup [.int 6, .int tl.length]) (errH x dx nm sl ge se it tl.length proto msg H1) (h := ⟨x, dx, nm, sl, ge, se, it, H1, rfl, u, rfl⟩)
end Mine
namespace Mine
variable {w : World} {B : Heap}
theorem throw_init {k : Nat} {H : HS} {x : Addr} {v : AV} : CW w B (k + 1) ((x, .exc 636 none) :: H) (.ref 633) [.val (.ref x), v] (fun a H' => a = .none ∧ ∃ d, H' = (d, .dctS [("value", v)]) :: (x, .exc 636 (some d)) :: H) (fun _ _ => False) := by
  refine CW_go (sm 123 0) "ScriptThrow.__init__" .none "kindkeep.runcore" 1120 632 (h := fun c W => ?_)
  refine q_sa (.val (.ref x)) v "value" ((x, .exc 636 none) :: H) (h := SA_exc0 (excC636 w) (fun d => .head) fun d => ?_)
  exact run_fin ((d, .dctS [("value", v)]) :: (x, .exc 636 (some d)) :: H) (h := ⟨rfl, d, rfl⟩)
theorem new_throw {k : Nat} {H : HS} {v : AV} : CW w B (k + 2) H (.ref 636) [v] (fun a H' => ∃ x d, a = .val (.ref x) ∧ H' = (d, .dctS [("value", v)]) :: (x, .exc 636 (some d)) :: H) (fun _ _ => False) :=
  CW_newE excK636 (by simp) fun x => throw_init.mono (fun a H' h => ⟨h.1, h.2.elim fun d h => ⟨x, d, rfl, h⟩⟩) fun _ _ z => z
noncomputable def ThrR (v : AV) (H : HS) : AE → HS → Prop := fun ae H' => ∃ d x, ae = ⟨636, d, x⟩ ∧ H' = (d, .dctS [("value", v)]) :: H
theorem ThrR.use {v : AV} {H : HS} {R : AE → HS → Prop} (q : ∀ d x, R ⟨636, d, x⟩ ((d, .dctS [("value", v)]) :: H)) (ae : AE) (H' : HS) (h : ThrR v H ae H') : R ae H' := by
  obtain ⟨d, x, rfl, rfl⟩ := h
  exact q d x
theorem throw_W {k : Nat} {H : HS} {m : Addr} {v : AV} : CW w B (k + 3) H (.ref 779) [.val (.ref m), v] (fun _ _ => False) (ThrR v H) := by
  refine CW_go (sm 128 4) "Machine.throw" .none "kindkeep.runcore" 1120 778 (h := fun c W => ?_)
  refine q_raiseK excK636 W.hh (m := ?_)
  refine run_call (.ref 636) [v] H (new_throw (k := 0)) W.hh (le_k W.k 2 2) (q := fun a H' h => h.elim fun x h => h.elim fun d h => ?_) (qe := fun _ _ z => z.elim)
  rw [h.1, h.2]
  exact run_z (.v (.val (.ref x))) ((d, .dctS [("value", v)]) :: (x, .exc 636 (some d)) :: H) (h := ⟨_, H, x, d, _, rfl, rfl, fun a h => W.H0 ▸ h, d, x, rfl, rfl⟩)
set_option genCtorIdx false in
inductive AskO where
  | val (a : AV) | out | thr
noncomputable def numO (v : JV) (l : List JV) : AskO := match wholeN (argAt l 0) 10 with
  | none => .out
  | some b => if b < 2 ∨ b > 36 then .thr else match v with
    | .num n => .val (JV.str (digS n b.toNat)).av
    | _ => .val (JV.str "NaN").av
theorem numO_some {v : JV} {l : List JV} {b : Int} (e : wholeN (argAt l 0) 10 = some b) : numO v l = if b < 2 ∨ b > 36 then .thr else match v with
    | .num n => .val (JV.str (digS n b.toNat)).av
    | _ => .val (JV.str "NaN").av := by rw [numO, e]
structure MS (m md hp hd th pr : Addr) (mes hes : List (Str × AV)) (pes : List (Int × AV)) (tl : List AV) (H : HS) : Prop where
  m : (m, .ins 796 md) ∈ H
  d : (md, .dctS mes) ∈ H
  heap : (("heap" : Str), AV.val (.ref hp)) ∈ mes
  protos : (("protos" : Str), AV.val (.ref pr)) ∈ mes
  throw : KAbs ("throw" : Str) mes
  hp : HpIn hp hd hes th tl H
  pr : (pr, .dctI pes) ∈ H
  p3 : ((3 : Int), AV.int 3) ∈ pes
noncomputable def AskQ (o : AskO) (H : HS) : AV → HS → Prop := fun a H' => o = .val a ∧ H' = H
noncomputable def ThrH (th : Addr) (tl : List AV) (ae : AE) (H H' : HS) : Prop := ∃ d e x dx nm sl ge se it H1 msg, ae = ⟨636, d, e⟩ ∧ HUpd th (.lst tl) (.lst (tl ++ [.val (.ref x)])) H H1 ∧ H' = (d, .dctS [("value", .tup [.int 6, .int tl.length])]) :: errH x dx nm sl ge se it tl.length 3 msg H1
noncomputable def AskE (o : AskO) (th : Addr) (tl : List AV) (H : HS) : AE → HS → Prop := fun ae H' => (isNO ae ∧ o = .out ∧ H' = H) ∨ (o = .thr ∧ ThrH th tl ae H H')
theorem numO_thr {v : JV} {l : List JV} {b : Int} (e : wholeN (argAt l 0) 10 = some b) (h : b < 2 ∨ b > 36) : numO v l = .thr := by rw [numO_some e, if_pos h]
theorem numO_nan {l : List JV} {b : Int} (e : wholeN (argAt l 0) 10 = some b) (h : ¬ (b < 2 ∨ b > 36)) : numO .nan l = .val (JV.str "NaN").av := by rw [numO_some e, if_neg h]
theorem numO_num {n : Int} {l : List JV} {b : Nat} (e : wholeN (argAt l 0) 10 = some b) (h : ¬ ((b : Int) < 2 ∨ (b : Int) > 36)) : numO (.num n) l = .val (JV.str (digS n b)).av := by rw [numO_some e, if_neg h]; rfl
theorem base_in {b : Int} (h1 : ¬ b < 2) (h2 : ¬ b > 36) : ∃ n : Nat, b = n ∧ 2 ≤ n ∧ n ≤ 36 := ⟨b.toNat, by omega, by omega, by omega⟩
theorem AskE.use {o : AskO} {th : Addr} {tl : List AV} {H : HS} {R : AE → HS → Prop} (q1 : ∀ dx e, o = .out → R ⟨100, dx, e⟩ H) (q2 : o = .thr → ∀ d e x dx nm sl ge se it H1 msg, HUpd th (.lst tl) (.lst (tl ++ [.val (.ref x)])) H H1 → R ⟨636, d, e⟩ ((d, .dctS [("value", .tup [.int 6, .int tl.length])]) :: errH x dx nm sl ge se it tl.length 3 msg H1)) (ae : AE) (H' : HS) (h : AskE o th tl H ae H') : R ae H' := by
  rcases h with ⟨h1, h2, rfl⟩ | ⟨h1, d, e, x, dx, nm, sl, ge, se, it, H1, msg, rfl, u, rfl⟩
  · obtain ⟨C, dx, e⟩ := ae
    cases h1
    exact q1 dx e h2
  · exact q2 h1 d e x dx nm sl ge se it H1 msg u
theorem AskE.out {o : AskO} {th : Addr} {tl : List AV} {H : HS} {ae : AE} (h : isNO ae) (e : o = .out) : AskE o th tl H ae H := .inl ⟨h, e, rfl⟩
theorem number_text_W {k : Nat} {H : HS} {m md hp hd th pr : Addr} {mes hes : List (Str × AV)} {pes : List (Int × AV)} {tl : List AV} {v : JV} {l : List JV} (M : MS m md hp hd th pr mes hes pes tl H) (hv : v = .nan ∨ ∃ n, v = .num n ∧ n.natAbs < 2 ^ 64) (hl : l.length ≤ 1000) (h0 : (argAt l 0).ok) (ht : tl.length ≤ 900) :
    CW w B (k + 7) H (.ref 544) [.val (.ref m), v.av, .lst (l.map JV.av)] (AskQ (numO v l) H) (AskE (numO v l) th tl H) := by
  refine CW_go (st 94) "number_text" .none "kindkeep.runlib" 821 543 (h := fun c W => ?_)
  refine q_it 0 (m := ?_)
  refine run_join 2 (fun _ : Unit => []) (fun _ => True) (fun _ _ => ?_) fun hj => ?_
  · refine run_arg l 0 W hl (m := ?_)
    refine run_whole (argAt l 0) 10 W h0 (q := fun b eb => ?_) (qe := fun ae h e => AskE.out h (by rw [numO, e]))
    refine run_joinC (.bd true) 1 (fun _ : Unit => b < 2 ∨ b > 36) (fun _ hb => ?_) fun hk => ?_
    · refine q_mOF H "throw" 779 M.m M.d M.throw (m := ?_)
      refine q_atF H "heap" M.m M.d M.heap (m := ?_)
      refine q_atF H "protos" M.m M.d M.protos (m := ?_)
      refine q_mIF H M.pr (m := ?_)
      refine q_call (.builtin "dict.get") [.val (.ref pr), .int 3, .int (-1)] H (h := VW_getI2 (σ := ⟨_, H⟩) M.pr M.p3 ?_)
      refine run_call (.ref 417) [.val (.ref hp), .int 3, .str "no base of numbers"] H (error_thing_W (k := 0) M.hp ht) W.hh (le_k W.k 4 6) (q := ErrR.use fun x dx nm sl ge se it H1 u => ?_) (qe := fun _ _ z => z.elim)
      exact run_call (.ref 779) [.val (.ref m), .tup [.int 6, .int tl.length]] (errH x dx nm sl ge se it tl.length 3 "no base of numbers" H1) (throw_W (k := 0)) W.hh (le_k W.k 3 6) (q := fun _ _ z => z.elim) (qe := ThrR.use fun d e => .inr ⟨numO_thr eb hb, d, e, x, dx, nm, sl, ge, se, it, H1, _, rfl, u, rfl⟩)
    refine run_if (b < (2 : Int)) (h1 := fun h1 => ?_) (h2 := fun h1 => ?_)
    · exact hk () (.inl h1) _ (by kernel_rfl)
    refine run_if (b > (36 : Int)) (h1 := fun h2 => ?_) (h2 := fun h2 => ?_)
    · exact hk () (.inr h2) _ (by kernel_rfl)
    obtain ⟨b', rfl, hb⟩ := base_in h1 h2
    refine q_it 0 (m := ?_)
    rcases hv with rfl | ⟨n, rfl, hn⟩
    · refine run_b true (m := ?_)
      exact run_ret (JV.str "NaN").av H (h := ⟨numO_nan eb (fun z => z.elim h1 h2), rfl⟩)
    · refine run_b false (m := ?_)
      refine q_it 1 (m := ?_)
      refine run_val (.ref 537) [.int n, .int b'] (.str (digS n b')) H (digits_in_W (k := 0) hb hn) W.hh (le_k W.k 1 6) (m := ?_)
      exact run_ret (JV.str (digS n b')).av H (h := ⟨numO_num eb (fun z => z.elim h1 h2), rfl⟩)
  · rcases hv with rfl | ⟨n, rfl, hn⟩
    · refine run_b true (m := ?_)
      refine q_it 0 (m := ?_)
      refine run_b false (m := ?_)
      exact hj () trivial _ (by kernel_rfl)
    · refine run_b false (m := ?_)
      exact hj () trivial _ (by kernel_rfl)
theorem numlib_W {k : Nat} {H : HS} {g m md hp hd th pr : Addr} {mes hes : List (Str × AV)} {pes : List (Int × AV)} {tl : List AV} {v : JV} {l : List JV} (M : MS m md hp hd th pr mes hes pes tl H) (hv : v = .nan ∨ ∃ n, v = .num n ∧ n.natAbs < 2 ^ 64) (hl : l.length ≤ 1000) (h0 : (argAt l 0).ok) (ht : tl.length ≤ 900) :
    CW w B (k + 8) H (.ref 558) [.val (.ref g), .val (.ref m), .int 301, v.av, .lst (l.map JV.av)] (AskQ (numO v l) H) (AskE (numO v l) th tl H) := by
  refine CW_go (sm 95 0) "NumberLib.call" .none "kindkeep.runlib" 821 557 (h := fun c W => ?_)
  refine run_b true (m := ?_)
  exact run_call (.ref 544) [.val (.ref m), v.av, .lst (l.map JV.av)] H (number_text_W (k := 0) M hv hl h0 ht) W.hh (le_k W.k 7 7) (q := fun a H' h => by rw [h.2]; exact run_ret a H (h := ⟨h.1, rfl⟩)) (qe := fun ae H' h => h)
end Mine
namespace Mine
variable {w : World} {B : Heap}
structure SysD where
  (m md hp hd th nat pr tx txd nx nxd W bag : Addr)
  (mes hes : List (Str × AV))
  (pes nes : List (Int × AV))
structure SysH (a : SysD) (tl : List AV) (H : HS) : Prop where
  ms : MS a.m a.md a.hp a.hd a.th a.pr a.mes a.hes a.pes tl H
  natives : (("natives" : Str), AV.val (.ref a.nat)) ∈ a.hes
  nat : (a.nat, .dctI a.nes) ∈ H
  n2 : ((2 : Int), AV.val (.ref a.tx)) ∈ a.nes
  n3 : ((3 : Int), AV.val (.ref a.nx)) ∈ a.nes
  tx : (a.tx, .ins 528 a.txd) ∈ H
  txd : (a.txd, .dctS []) ∈ H
  nx : (a.nx, .ins 561 a.nxd) ∈ H
  nxd : (a.nxd, .dctS []) ∈ H
noncomputable def optAsk : Option AV → AskO
  | none => .out
  | some a => .val a
theorem call_text_W {k : Nat} {H : HS} {a : SysD} {tl : List AV} {number : Int} {t : Str} {l : List JV} (S : SysH a tl H) (hn : number = 201 ∨ number = 202 ∨ number = 203 ∨ number = 204) (f : Fit t l) (f0 : number = 202 ∨ number = 203 → Fit0 l) :
    CW w B (k + 10) H (.ref 434) [.val (.ref a.m), .int number, (JV.str t).av, .lst (l.map JV.av)] (AskQ (optAsk (textO number t l)) H) (AskE (optAsk (textO number t l)) a.th tl H) := by
  have hd : Int.fdiv number 100 = 2 := by rcases hn with rfl | rfl | rfl | rfl <;> rfl
  refine CW_go (st 80) "call_native" .none "kindkeep.runlib" 821 433 (h := fun c W => ?_)
  refine q_atF H "heap" S.ms.m S.ms.d S.ms.heap (m := ?_)
  refine q_atF H "natives" S.ms.hp.x S.ms.hp.d S.natives (m := ?_)
  refine q_mIF H S.nat (m := ?_)
  refine q_bin .FloorDiv (.int number) (.int 100) (h := BW_divR hd (by decide) ?_)
  refine q_call (.builtin "dict.get") [.val (.ref a.nat), .int 2] H (h := VW_getI (σ := ⟨_, H⟩) S.nat S.n2 ?_)
  refine q_cmp .Is (.val (.ref a.tx)) .none (h := BW_isNoneR ?_)
  refine run_b false (m := ?_)
  refine q_mOF H "call" 525 S.tx S.txd .nil (m := ?_)
  exact run_call (.ref 525) [.val (.ref a.tx), .val (.ref a.m), .int number, (JV.str t).av, .lst (l.map JV.av)] H (textlib_W (k := 0) ⟨S.ms.m, S.ms.d, S.ms.heap⟩ hn f f0) W.hh (le_k W.k 9 9) (q := fun a H' h => by rw [h.2]; exact run_ret a H (h := ⟨by rw [h.1]; rfl, rfl⟩)) (qe := fun ae H' h => .inl ⟨h.1, by rw [h.2.2]; rfl, h.2.1⟩)
theorem call_num_W {k : Nat} {H : HS} {a : SysD} {tl : List AV} {v : JV} {l : List JV} (S : SysH a tl H) (hv : v = .nan ∨ ∃ n, v = .num n ∧ n.natAbs < 2 ^ 64) (hl : l.length ≤ 1000) (h0 : (argAt l 0).ok) (ht : tl.length ≤ 900) :
    CW w B (k + 9) H (.ref 434) [.val (.ref a.m), .int 301, v.av, .lst (l.map JV.av)] (AskQ (numO v l) H) (AskE (numO v l) a.th tl H) := by
  refine CW_go (st 80) "call_native" .none "kindkeep.runlib" 821 433 (h := fun c W => ?_)
  refine q_atF H "heap" S.ms.m S.ms.d S.ms.heap (m := ?_)
  refine q_atF H "natives" S.ms.hp.x S.ms.hp.d S.natives (m := ?_)
  refine q_mIF H S.nat (m := ?_)
  refine q_bin .FloorDiv (.int 301) (.int 100) (h := BW_divR (r := 3) (by decide) (by decide) ?_)
  refine q_call (.builtin "dict.get") [.val (.ref a.nat), .int 3] H (h := VW_getI (σ := ⟨_, H⟩) S.nat S.n3 ?_)
  refine q_cmp .Is (.val (.ref a.nx)) .none (h := BW_isNoneR ?_)
  refine run_b false (m := ?_)
  refine q_mOF H "call" 558 S.nx S.nxd .nil (m := ?_)
  exact run_call (.ref 558) [.val (.ref a.nx), .val (.ref a.m), .int 301, v.av, .lst (l.map JV.av)] H (numlib_W (k := 0) S.ms hv hl h0 ht) W.hh (le_k W.k 8 8) (q := fun a H' h => by rw [h.2]; exact run_ret a H (h := ⟨h.1, rfl⟩)) (qe := fun ae H' h => h)
end Mine
namespace Mine
variable {w : World} {B : Heap}
structure JP where
  v : JV
  g : Int × Int
@[reducible] noncomputable def JP.av (p : JP) : AV := .tup [p.v.av, .tup [.int p.g.1, .int p.g.2]]
structure LawC where
  things : List AV
  T : Str
  nv : AV
noncomputable abbrev wE (a : SysD) (cst : LawC) (n : Int) : List (Str × AV) := [("bag", .val (.ref a.bag)), ("m", .val (.ref a.m)), ("made", .int n), ("things", .lst cst.things), ("text", .str cst.T), ("n", cst.nv)]
structure SysF (a : SysD) (fix : HS) : Prop where
  m : (a.m, .ins 796 a.md) ∈ fix
  d : (a.md, .dctS a.mes) ∈ fix
  heap : (("heap" : Str), AV.val (.ref a.hp)) ∈ a.mes
  protos : (("protos" : Str), AV.val (.ref a.pr)) ∈ a.mes
  throw : KAbs ("throw" : Str) a.mes
  hp : (a.hp, .ins 182 a.hd) ∈ fix
  hd : (a.hd, .dctS a.hes) ∈ fix
  things : (("things" : Str), AV.val (.ref a.th)) ∈ a.hes
  pr : (a.pr, .dctI a.pes) ∈ fix
  p3 : ((3 : Int), AV.int 3) ∈ a.pes
  natives : (("natives" : Str), AV.val (.ref a.nat)) ∈ a.hes
  nat : (a.nat, .dctI a.nes) ∈ fix
  n2 : ((2 : Int), AV.val (.ref a.tx)) ∈ a.nes
  n3 : ((3 : Int), AV.val (.ref a.nx)) ∈ a.nes
  tx : (a.tx, .ins 528 a.txd) ∈ fix
  txd : (a.txd, .dctS []) ∈ fix
  nx : (a.nx, .ins 561 a.nxd) ∈ fix
  nxd : (a.nxd, .dctS []) ∈ fix
  aW : a.W ∉ keys fix
  ab : a.bag ∉ keys fix
  at_ : a.th ∉ keys fix
  Wb : a.W ≠ a.bag
  Wt : a.W ≠ a.th
  bt : a.bag ≠ a.th
structure LSt (a : SysD) (cst : LawC) (fix : HS) (tl0 l tl : List AV) (H : HS) : Prop where
  fx : ∀ p ∈ fix, p ∈ H
  W : (a.W, .dctS (wE a cst tl.length)) ∈ H
  bag : (a.bag, .lst l) ∈ H
  th : (a.th, .lst tl) ∈ H
  pre : ∃ ext, tl = tl0 ++ ext
section
variable {a : SysD} {cst : LawC} {fix : HS} {tl0 l tl : List AV} {H : HS}
theorem LSt.sys (F : SysF a fix) (L : LSt a cst fix tl0 l tl H) : SysH a tl H :=
  ⟨⟨L.fx _ F.m, L.fx _ F.d, F.heap, F.protos, F.throw, ⟨L.fx _ F.hp, L.fx _ F.hd, F.things, L.th⟩, L.fx _ F.pr, F.p3⟩, F.natives, L.fx _ F.nat, F.n2, F.n3, L.fx _ F.tx, L.fx _ F.txd, L.fx _ F.nx, L.fx _ F.nxd⟩
theorem LSt.at (L : LSt a cst fix tl0 l tl H) {i : Nat} {v : AV} (e : tl0[i]? = some v) : tl[i]? = some v := by
  obtain ⟨ext, rfl⟩ := L.pre
  rw [List.getElem?_append_left (by have := (List.getElem?_eq_some_iff.mp e).1; exact this)]; exact e
theorem ne_of_key {b : Addr} {fix : HS} {p : Addr × HObj} (h : p ∈ fix) (n : b ∉ keys fix) : p.1 ≠ b := fun z => n (z ▸ List.mem_map_of_mem (f := (·.1)) h)
theorem LSt.pull (F : SysF a fix) (L : LSt a cst fix tl0 l tl H) {l' : List AV} {H' : HS} (u : HUpd a.bag (.lst l) (.lst l') H H') : LSt a cst fix tl0 l' tl H' :=
  ⟨fun p hp => u.keepK (L.fx p hp) (ne_of_key hp F.ab), u.keepK L.W F.Wb, u.mem', u.keepK L.th (Ne.symm F.bt), L.pre⟩
theorem LSt.err (F : SysF a fix) (L : LSt a cst fix tl0 l tl H) {x : Addr} {H1 H2 : HS} (u : HUpd a.th (.lst tl) (.lst (tl ++ [.val (.ref x)])) H H1) (v : HUpd a.W (.dctS (wE a cst tl.length)) (.dctS (wE a cst ((tl.length : Int) + 1))) H1 H2) {H' : HS} (h : ∀ p ∈ H2, p ∈ H') : LSt a cst fix tl0 l (tl ++ [.val (.ref x)]) H' := by
  obtain ⟨ext, e⟩ := L.pre
  refine ⟨fun p hp => h _ (v.keepK (u.keepK (L.fx p hp) (ne_of_key hp F.at_)) (ne_of_key hp F.aW)), h _ ?_, h _ (v.keepK (u.keepK L.bag F.bt) (Ne.symm F.Wb)), h _ (v.keepK u.mem' (Ne.symm F.Wt)), ext ++ [.val (.ref x)], by rw [e, List.append_assoc]⟩
  have := v.mem'
  rw [List.length_append]
  exact this
end
structure NatX (a : SysD) (fix : HS) (tl0 : List AV) (proto : Int) (word : Str) (code : Int) (xp dp slp xk dk : Addr) (ep sls ek : List (Str × AV)) (k : Int) : Prop where
  h0 : 0 ≤ proto
  h1 : proto < 1000
  i1 : tl0[proto.toNat]? = some (.val (.ref xp))
  xp : (xp, .ins 140 dp) ∈ fix
  dp : (dp, .dctS ep) ∈ fix
  sl : (("slots" : Str), AV.val (.ref slp)) ∈ ep
  slp : (slp, .dctS sls) ∈ fix
  wd : (word, AV.tup [.int 6, .int k]) ∈ sls
  k0 : 0 ≤ k
  k1 : k < 1000
  i2 : tl0[k.toNat]? = some (.val (.ref xk))
  xk : (xk, .ins 140 dk) ∈ fix
  dk : (dk, .dctS ek) ∈ fix
  nt : (("native" : Str), AV.int code) ∈ ek
inductive NatQ (a : SysD) (fix : HS) (tl0 : List AV) (proto : Int) (word : Str) (code : Int) : Prop
  | mk (xp dp slp xk dk : Addr) (ep sls ek : List (Str × AV)) (k : Int) (N : NatX a fix tl0 proto word code xp dp slp xk dk ep sls ek k)
structure NatA (a : SysD) (fix : HS) (tl0 : List AV) (proto : Int) (word : Str) (code : Int) : Prop where
  pr : (proto, AV.int proto) ∈ a.pes
  ex : NatQ a fix tl0 proto word code
noncomputable def askR : AskO → AV
  | .val a => a
  | .out => .tup [.int (-1), .int 0]
  | .thr => .tup [.int (-2), .int 0]
noncomputable def AskP (a : SysD) (cst : LawC) (fix : HS) (tl0 l tl : List AV) (r0 : AV) : AV → HS → Prop := fun r H' => r = r0 ∧ ∃ tl', LSt a cst fix tl0 l tl' H' ∧ tl'.length ≤ tl.length + 1
theorem itemH_lt {th : Addr} {tl : List AV} {H : HS} {i : Int} {v : AV} {c : Ctx w B} {loc : Loc} {Q : QA} {E : QE} (m : (th, .lst tl) ∈ H) (h0 : 0 ≤ i) (h1 : i < 1000) (e : tl[i.toNat]? = some v) (q : Q v ⟨loc, H⟩) : SubA c ⟨loc, H⟩ (.val (.ref th)) (.int i) Q E := fun _ _ hs => BW_itemH m h0 (Int.lt_trans h1 (by decide)) e q hs
theorem law_ask_X {k : Nat} {a : SysD} {cst : LawC} {fix H : HS} {tl0 l tl : List AV} {proto code : Int} {word : Str} {o : AskO} {this : AV} {ps : List JP} {xp dp slp xk dk : Addr} {ep sls ek : List (Str × AV)} {ki : Int} (F : SysF a fix) (L : LSt a cst fix tl0 l tl H) (n0 : (proto, AV.int proto) ∈ a.pes) (N : NatX a fix tl0 proto word code xp dp slp xk dk ep sls ek ki) (ht : tl.length ≤ 800) (hps : ps.length ≤ 1000)
    (hc : CW w B 10 H (.ref 434) [.val (.ref a.m), .int code, this, .lst (ps.map fun p => p.v.av)] (AskQ o H) (AskE o a.th tl H)) :
    CW w B (k + 12) H (.ref 929) [.val (.ref a.W), .int proto, .str word, this, .lst (ps.map JP.av)] (AskP a cst fix tl0 l tl (askR o)) (fun _ _ => False) := by
  have S := L.sys F
  have P := S.ms.hp
  refine CW_go (st 148) "_law_ask" .none "law_xw0126_01" 1511 928 (h := fun c W => ?_)
  refine q_gSF H "m" L.W (.tail _ (.head _)) (m := ?_)
  refine q_atF H "heap" S.ms.m S.ms.d S.ms.heap (m := ?_)
  refine q_atF H "things" P.x P.d P.things (m := ?_)
  refine q_atF H "heap" S.ms.m S.ms.d S.ms.heap (m := ?_)
  refine q_atF H "things" P.x P.d P.things (m := ?_)
  refine q_atF H "protos" S.ms.m S.ms.d S.ms.protos (m := ?_)
  refine q_gIF H proto S.ms.pr n0 (m := ?_)
  refine q_sub (.val (.ref a.th)) (.int proto) H (h := itemH_lt L.th N.h0 N.h1 (L.at N.i1) ?_)
  refine q_atF H "slots" (L.fx _ N.xp) (L.fx _ N.dp) N.sl (m := ?_)
  refine q_gSF H word (L.fx _ N.slp) N.wd (m := ?_)
  refine q_it 1 (m := ?_)
  refine q_sub (.val (.ref a.th)) (.int ki) H (h := itemH_lt L.th N.k0 N.k1 (L.at N.i2) ?_)
  refine q_atF H "native" (L.fx _ N.xk) (L.fx _ N.dk) N.nt (m := ?_)
  refine run_cut ⟨.ss ((sBody (st 148)).drop 2), [], updL [("m", .val (.ref a.m)), ("number", .int code)] (locOf (st 148) [.val (.ref a.W), .int proto, .str word, this, .lst (ps.map JP.av)]), H⟩ (m := ?_)
  refine q_try W.top (m := ?_)
  refine q_comp (m := ?_)
  refine run_z (.v (.lst (ps.map JP.av))) H (h := comp_p (ps.map JP.av).length _ (fun i => (ps.take i).map fun p => p.v.av) (by rw [List.length_map]; exact hps) (ItW_lst _ W.hh) rfl (st := fun i hi c' e1 e2 => ?_) (fin := ?_))
  · obtain ⟨p, hp⟩ : ∃ p, ps[i]? = some p := ⟨_, List.getElem?_eq_getElem (by simpa using hi)⟩
    have ei : ((ps.map JP.av)[i]?).getD .none = p.av := by rw [List.getElem?_map, hp]; rfl
    dsimp only
    rw [ei]
    refine run_z (.t true) H (h := cz_t ?_)
    refine q_it 0 (m := ?_)
    exact run_z (.v p.v.av) H (h := cz_v (by rw [List.take_add_one, hp, List.map_append]; rfl))
  · dsimp only
    rw [List.take_of_length_le (by rw [List.length_map]; exact Nat.le_refl _)]
    refine run_call (.ref 434) [.val (.ref a.m), .int code, this, .lst (ps.map fun p => p.v.av)] H hc W.hh (le_k W.k 10 11) (q := fun r H' h => ?_) (qe := AskE.use (fun dx e h2 => ?_) fun h1 d e x dx nm sl ge se it H1 msg u => ?_)
    · rw [h.2]
      refine run_z (.f (.ret r)) H (h := ?_)
      exact run_ret r H (h := ⟨by rw [h.1]; rfl, tl, L, Nat.le_succ _⟩)
    · refine h_hit 100 exm_nn (h := fun oe => ?_)
      refine run_z (.f (.ret (.tup [.int (-1), .int 0]))) H (h := ?_)
      exact run_ret (.tup [.int (-1), .int 0]) H (h := ⟨by rw [h2]; rfl, tl, L, Nat.le_succ _⟩)
    · refine h_miss 100 exm_tn (h := h_as 636 "thrown" exm_tt (h := fun oe ho => ?_))
      refine (HUpd.get (ho' := .dctS (wE a cst ((tl.length : Int) + 1))) (u.keepK L.W F.Wt)).elim fun H2 v => ?_
      let G := fun H => (d, HObj.dctS [("value", .tup [.int 6, .int tl.length])]) :: errH x dx nm sl ge se it tl.length 3 msg H
      have nt : ∀ {p : Addr × HObj}, p ∈ H2 → p ∈ G H2 := fun h => .tail _ (mem7 h)
      have kp : ∀ {p : Addr × HObj}, p ∈ fix → p ∈ G H2 := fun hp => nt (v.keepK (u.keepK (L.fx _ hp) (ne_of_key hp F.at_)) (ne_of_key hp F.aW))
      have k5 := nt (v.keepK u.mem' (Ne.symm F.Wt))
      have k6 := nt v.mem'
      have em : (tl.length : Int) + 1 - 1 = tl.length := Int.add_sub_cancel _ 1
      refine q_augS (G H1) "made" tl.length 1 (.tail _ (mem7 (u.keepK L.W F.Wt))) (.tail _ (.tail _ (.head _))) (H1 := G H2) (.tail (.tail (.tail (.tail (.tail (.tail (.tail (.tail v)))))))) (.tail (.tail .head)) (len_le rfl) (m := ?_)
      refine q_attr "value" (.val (.ref e)) (G H2) (h := UW_exc (excA636 w) (.head _) ho (.head _) (.head _) rfl ?_)
      refine q_gSF (G H2) "made" k6 (.tail _ (.tail _ (.head _))) (m := ?_)
      refine q_cmpH .Eq (.tup [.int 6, .int tl.length]) (.tup [.int 6, .int ((tl.length : Int) + 1 - 1)]) (G H2) (h := BW_eqD rfl rfl rfl rfl (le_k W.k 8 11) ?_)
      rw [py_tup2, em, beq_self_eq_true, beq_self_eq_true]
      refine run_b true (m := ?_)
      refine q_atF (G H2) "heap" (kp F.m) (kp F.d) F.heap (m := ?_)
      refine q_atF (G H2) "things" (kp F.hp) (kp F.hd) F.things (m := ?_)
      refine q_gSF (G H2) "made" k6 (.tail _ (.tail _ (.head _))) (m := ?_)
      refine q_sub (.val (.ref a.th)) (.int ((tl.length : Int) + 1 - 1)) (G H2) (h := ?_)
      rw [em]
      refine itemH_lt k5 (Int.natCast_nonneg _) (Int.ofNat_lt.mpr (Nat.lt_of_le_of_lt ht (by decide))) last_get ?_
      refine q_atF (G H2) "sort" (.tail _ (mem_nth 5 rfl)) (.tail _ (mem_nth 6 rfl)) (.tail _ (.head _)) (m := ?_)
      refine run_b true (m := ?_)
      refine run_z (.f (.ret (.tup [.int (-2), .int 0]))) (G H2) (h := ?_)
      exact run_ret (.tup [.int (-2), .int 0]) (G H2) (h := ⟨by rw [h1]; rfl, _, L.err F u v (fun p hp => nt hp), by rw [List.length_append]; exact Nat.le_refl _⟩)
theorem law_ask_W {k : Nat} {a : SysD} {cst : LawC} {fix H : HS} {tl0 l tl : List AV} {proto code : Int} {word : Str} {o : AskO} {this : AV} {ps : List JP} (F : SysF a fix) (L : LSt a cst fix tl0 l tl H) (N : NatA a fix tl0 proto word code) (ht : tl.length ≤ 800) (hps : ps.length ≤ 1000)
    (hc : CW w B 10 H (.ref 434) [.val (.ref a.m), .int code, this, .lst (ps.map fun p => p.v.av)] (AskQ o H) (AskE o a.th tl H)) :
    CW w B (k + 12) H (.ref 929) [.val (.ref a.W), .int proto, .str word, this, .lst (ps.map JP.av)] (AskP a cst fix tl0 l tl (askR o)) (fun _ _ => False) := by
  obtain ⟨n0, xp, dp, slp, xk, dk, ep, sls, ek, ki, N⟩ := N
  exact law_ask_X F L n0 N ht hps hc
end Mine
namespace Mine
variable {w : World} {B : Heap}
noncomputable def optI : Option Int → AV
  | none => .none
  | some i => .int i
noncomputable def tells (p : JP) (other : Int) : Option Int := if p.v.tag = 0 then some other else if p.g.1 = 4 then some 0 else if p.g.1 = 3 then some p.g.2 else none
noncomputable def pAt (ps : List JP) (i : Nat) : JP := (ps[i]?).getD ⟨.und, (4, 0)⟩
theorem tells_0 {p : JP} {o : Int} (h : (p.v.tag == 0) = true) : tells p o = some o := by rw [tells, if_pos (eq_of_beq h)]
theorem tells_4 {p : JP} {o : Int} (h : (p.v.tag == 0) = false) (h4 : (p.g.1 == 4) = true) : tells p o = some 0 := by rw [tells, if_neg (ne_of_beq_false h), if_pos (eq_of_beq h4)]
theorem tells_3 {p : JP} {o : Int} (h : (p.v.tag == 0) = false) (h4 : (p.g.1 == 4) = false) (h3 : (p.g.1 == 3) = true) : tells p o = some p.g.2 := by rw [tells, if_neg (ne_of_beq_false h), if_neg (ne_of_beq_false h4), if_pos (eq_of_beq h3)]
theorem tells_n {p : JP} {o : Int} (h : (p.v.tag == 0) = false) (h4 : (p.g.1 == 4) = false) (h3 : (p.g.1 == 3) = false) : tells p o = none := by rw [tells, if_neg (ne_of_beq_false h), if_neg (ne_of_beq_false h4), if_neg (ne_of_beq_false h3)]
theorem law_tells_W {k : Nat} {H : HS} {ps : List JP} {i : Nat} {other : Int} (hl : ps.length ≤ 1000) : CW w B (k + 1) H (.ref 917) [.lst (ps.map JP.av), .int i, .int other] (fun a H' => a = optI (tells (pAt ps i) other) ∧ H' = H) (fun _ _ => False) := by
  refine CW_go (st 146) "_law_tells" .none "law_xw0126_01" 1511 916 (h := fun c W => ?_)
  refine q_unp W.hh (m := ?_)
  have el : (ps.map JP.av).length = ps.length := List.length_map ..
  refine run_lenL (ps.map JP.av) (el ▸ le_n hl _) (m := ?_)
  refine run_if ((↑i : Int) < (↑(List.length (List.map JP.av ps)) : Int)) (h1 := fun h => ?_) (h2 := fun h => ?_)
  · have h : i < ps.length := el ▸ Int.ofNat_lt.mp h
    refine q_sub (.lst (ps.map JP.av)) (.int i) H (h := fun v s hs => BW_itemL (a := (pAt ps i).av) (Int.natCast_nonneg i) (Int.ofNat_lt.mpr (Nat.lt_of_lt_of_le h (le_n hl _))) (by rw [show ((i : Int)).toNat = i from rfl, List.getElem?_map, pAt, List.getElem?_eq_getElem h]; rfl) ?_ hs)
    generalize pAt ps i = p
    refine q_it 0 (m := ?_)
    refine run_t (JV.tag p.v == (0 : Int)) (h1 := fun h0 => ?_) (h2 := fun h0 => ?_)
    · exact run_ret (.int other) H (h := ⟨by rw [tells_0 h0]; rfl, rfl⟩)
    refine q_it 0 (m := ?_)
    refine run_t (p.g.fst == (4 : Int)) (h1 := fun h4 => ?_) (h2 := fun h4 => ?_)
    · exact run_ret (.int 0) H (h := ⟨by rw [tells_4 h0 h4]; rfl, rfl⟩)
    refine q_it 0 (m := ?_)
    refine run_t (p.g.fst == (3 : Int)) (h1 := fun h3 => ?_) (h2 := fun h3 => ?_)
    · refine q_it 1 (m := ?_)
      exact run_ret (.int p.g.2) H (h := ⟨by rw [tells_3 h0 h4 h3]; rfl, rfl⟩)
    · exact run_ret .none H (h := ⟨by rw [tells_n h0 h4 h3]; rfl, rfl⟩)
  · refine q_it 0 (m := ?_)
    refine run_b true (m := ?_)
    exact run_ret (.int other) H (h := ⟨by rw [pAt, List.getElem?_eq_none (Nat.le_of_not_lt fun z => h (Int.ofNat_lt.mpr (el.symm ▸ z)))]; rfl, rfl⟩)
theorem law_past_W {k : Nat} {H : HS} {p size n : Int} : CW w B (k + 1) H (.ref 950) [.int p, .int size, .int n] (fun a H' => a = .bool (if n ≥ 0 then decide (p ≥ n) else decide (p - size ≥ n)) ∧ H' = H) (fun _ _ => False) := by
  refine CW_go (st 151) "_law_past" .none "law_xw0126_01" 1511 949 (h := fun c W => ?_)
  refine run_if (n ≥ (0 : Int)) (h1 := fun h => ?_) (h2 := fun h => ?_)
  · exact run_ret (.bool (decide (p ≥ n))) H (h := ⟨by rw [if_pos h], rfl⟩)
  · exact run_ret (.bool (decide (p - size ≥ n))) H (h := ⟨by rw [if_neg h], rfl⟩)
end Mine
namespace Mine
variable {w : World} {B : Heap}
structure Sound (p : JP) : Prop where
  ok : p.v.ok
  to : toN p.v = some p.g ∨ (toN p.v = none ∧ p.g = (-1, 0))
noncomputable def T34 (o : Option (Int × Int)) : Prop := ∀ g, o = some g → g.1 = 3 ∨ g.1 = 4
theorem T34.ite {p : Prop} [Decidable p] {x y : Option (Int × Int)} (hx : T34 x) (hy : T34 y) : T34 (if p then x else y) := by
  split <;> assumption
theorem T34.no : T34 none := fun _ h => nomatch h
theorem T34.s3 {n : Int} : T34 (some (3, n)) := fun g h => by cases h; exact .inl rfl
theorem T34.s4 {n : Int} : T34 (some (4, n)) := fun g h => by cases h; exact .inr rfl
theorem numV_34 {n : Int} : T34 (numV n) := .ite .no .s3
theorem tnum2_34 {b : Str} {m : Bool} : T34 (tnum2 b m) := .ite (.ite .no .s4) numV_34
theorem tnum_tag {s : Str} : T34 (tnum s) := .ite .s3 (.ite (.ite numV_34 .s4) (.ite tnum2_34 (.ite tnum2_34 tnum2_34)))
theorem toN_tag {v : JV} {g : Int × Int} (h : toN v = some g) : g.1 = 3 ∨ g.1 = 4 := by
  cases v with
  | str s => exact tnum_tag g h
  | _ => first | (cases h; exact .inl rfl) | (cases h; exact .inr rfl)
theorem Sound.tells {p : JP} (S : Sound p) (other : Int) : tells p other = wholeN p.v other := by
  unfold Mine.tells wholeN
  by_cases h : p.v.tag = 0
  · rw [if_pos h, if_pos h]
  · rw [if_neg h, if_neg h]
    rcases S.to with e | ⟨e, eg⟩
    · rw [e, Option.map_some]
      rcases toN_tag e with t | t <;> simp [t]
    · rw [e, eg]; rfl
theorem Sound.some {p : JP} (S : Sound p) {g : Int × Int} (e : toN p.v = some g) : p.g = g := by
  rcases S.to with e' | ⟨e', _⟩
  · rw [e] at e'; cases e'; rfl
  · rw [e] at e'; cases e'
theorem Sound.none {p : JP} (S : Sound p) (e : toN p.v = none) : p.g = (-1, 0) := by
  rcases S.to with e' | ⟨_, e'⟩
  · rw [e] at e'; cases e'
  · exact e'
theorem S_use {p : JP} (S : Sound p) {v : JV} (e : p.v = v) {g : Int × Int} (h : toN v = some g) : pairV g = .tup [.int p.g.1, .int p.g.2] := by rw [S.some (e ▸ h)]
theorem law_sound_W {k : Nat} {H : HS} {p : JP} {other : Int} (S : Sound p) : CW w B (k + 12) H (.ref 924) [p.av, .int other] (fun a H' => a = .bool true ∧ H' = H) (fun _ _ => False) := by
  obtain ⟨pv, g⟩ := p
  refine CW_go (st 147) "_law_sound" .none "law_xw0126_01" 1511 923 (h := fun c W => ?_)
  refine q_unp W.hh (m := ?_)
  refine run_join 0 (fun _ : Unit => [("one", .lv (.tup [.int g.1, .int g.2]))]) (fun _ => True) (fun _ _ => ?_) fun hj => ?_
  · refine run_join 0 (fun _ : Unit => [("two", .lv (optI (wholeN pv other)))]) (fun _ => True) (fun _ _ => ?_) fun hj => ?_
    · skip
      refine q_cmp .Eq (.tup [.int g.1, .int g.2]) (.tup [.int g.1, .int g.2]) (h := BW_eqD rfl rfl rfl rfl (le_k W.k 8 11) ?_)
      rw [py_tup2, beq_self_eq_true, beq_self_eq_true]
      refine run_b true (m := ?_)
      refine q_list false (m := ?_)
      refine run_val (.ref 917) [.lst [JP.av ⟨pv, g⟩], .int 0, .int other] (optI (tells ⟨pv, g⟩ other)) H (law_tells_W (k := 0) (ps := [⟨pv, g⟩]) (i := 0) (len_le rfl)) W.hh (le_k W.k 1 11) (m := ?_)
      rw [S.tells]
      cases wholeN pv other with
      | none =>
        refine q_cmp .Eq .none .none (h := BW_eqD rfl rfl rfl rfl (le_k W.k 8 11) ?_)
        exact run_ret (.bool true) H (h := ⟨rfl, rfl⟩)
      | some n => exact run_ret (.bool (n == n)) H (h := ⟨by rw [beq_self_eq_true], rfl⟩)
    · refine q_try W.top (m := ?_)
      refine run_whole pv other W S.ok (q := fun n e => ?_) (qe := fun ae h e => ?_)
      · refine run_z (.f .next) H (h := ?_)
        exact hj () trivial _ (by rw [e]; kernel_rfl)
      · obtain ⟨C, dx, ee⟩ := ae
        cases h
        refine h_hit 100 exm_nn (h := fun oe => ?_)
        refine run_z (.f .next) H (h := ?_)
        exact hj () trivial _ (by rw [e]; kernel_rfl)
  · refine q_try W.top (m := ?_)
    refine q_it 0 (m := ?_)
    refine run_t (JV.tag (JP.mk pv g).v == (5 : Int)) (h1 := fun h => ?_) (h2 := fun h => ?_)
    · obtain ⟨s, rfl⟩ := tag5 h
      refine q_it 1 (m := ?_)
      refine run_fn (.ref 396) [.str s] H (text_number_W (k := 0) S.ok) W.hh (le_k W.k 4 11) (q := fun g' e => ?_) (qe := fun ae H' h => ?_)
      · rw [S_use S rfl e]
        refine run_z (.f .next) H (h := ?_)
        exact hj () trivial _ (by kernel_rfl)
      · have eg : g = (-1, 0) := S.none h.2.2
        rw [h.2.1]
        obtain ⟨C, dx, e⟩ := ae
        cases h.1
        refine h_hit 100 exm_nn (h := fun oe => ?_)
        refine run_z (.f .next) H (h := ?_)
        exact hj () trivial _ (by rw [eg]; kernel_rfl)
    · refine run_fn (.ref 403) [pv.av] H (to_number_W (k := 0) S.ok) W.hh (le_k W.k 5 11) (q := fun g' e => ?_) (qe := fun ae H' h => ?_)
      · rw [S_use S rfl e]
        refine run_z (.f .next) H (h := ?_)
        exact hj () trivial _ (by kernel_rfl)
      · have eg : g = (-1, 0) := S.none h.2.2
        rw [h.2.1]
        obtain ⟨C, dx, e⟩ := ae
        cases h.1
        refine h_hit 100 exm_nn (h := fun oe => ?_)
        refine run_z (.f .next) H (h := ?_)
        exact hj () trivial _ (by rw [eg]; kernel_rfl)
end Mine
namespace Mine
variable {w : World} {B : Heap}
noncomputable def PullR (a : SysD) (cst : LawC) (fix : HS) (tl0 tl : List AV) (ns : List Int) (m : Int) : AV → HS → Prop := fun r H' => ∃ (q : Nat) (ns' : List Int), (q : Int) < m ∧ r = .int q ∧ ns'.length ≤ ns.length ∧ LSt a cst fix tl0 (ns'.map .int) tl H'
theorem PullR.use {a : SysD} {cst : LawC} {fix : HS} {tl0 tl : List AV} {ns : List Int} {m : Int} {R : AV → HS → Prop} (q : ∀ (q : Nat) (ns' : List Int) H', (q : Int) < m → ns'.length ≤ ns.length → LSt a cst fix tl0 (ns'.map .int) tl H' → R (.int q) H') (r : AV) (H' : HS) (h : PullR a cst fix tl0 tl ns m r H') : R r H' := by
  obtain ⟨x, ns', h1, rfl, h2, h3⟩ := h
  exact q x ns' H' h1 h2 h3
theorem law_pull_W {k : Nat} {a : SysD} {cst : LawC} {fix H : HS} {tl0 tl : List AV} {ns : List Int} {m : Int} (F : SysF a fix) (L : LSt a cst fix tl0 (ns.map .int) tl H) (hm : 0 < m) (hn : ns.length ≤ 1000) :
    CW w B (k + 1) H (.ref 882) [.val (.ref a.W), .int m] (PullR a cst fix tl0 tl ns m) (fun _ _ => False) := by
  refine CW_go (st 141) "_law_pull" .none "law_xw0126_01" 1511 881 (h := fun c W => ?_)
  refine q_gSF H "bag" L.W (.head _) (m := ?_)
  refine q_tu (.val (.ref a.bag)) H (h := TU_H L.bag (by rw [List.length_map]; exact le_n hn _) ?_)
  rcases List.eq_nil_or_concat ns with rfl | ⟨i, x, rfl⟩
  · refine run_b false (m := ?_)
    exact run_ret (.int 0) H (h := ⟨0, [], hm, rfl, Nat.le_refl _, L⟩)
  · have e : ((i.concat x).map AV.int) = i.map AV.int ++ [AV.int x] := by rw [List.concat_eq_append, List.map_append]; rfl
    rw [e] at L ⊢
    have hb : (i.concat x).length = i.length + 1 := List.length_concat ..
    have e2 : (!(List.map AV.int i ++ [AV.int x]).isEmpty) = true := by cases i <;> rfl
    rw [e2]
    refine (HUpd.get (ho' := .lst (i.map .int)) L.bag).elim fun H' u => ?_
    refine run_b true (m := ?_)
    refine q_gSF H "bag" L.W (.head _) (m := ?_)
    refine q_mLF H "pop" "list.pop" L.bag (m := ?_)
    refine q_call (.builtin "list.pop") [.val (.ref a.bag)] H (h := VW_pop u (by rw [List.length_map]; exact Nat.le_trans (Nat.le_succ _) (le_n (hb ▸ hn) _)) ?_)
    refine q_bin .Mod (.int x) (.int m) (h := BW_mod (Int.ne_of_gt hm) ?_)
    have h1 : 0 ≤ Int.fmod x m := Int.fmod_nonneg_of_pos _ hm
    exact run_ret (.int (Int.fmod x m)) H' (h := ⟨(Int.fmod x m).toNat, i, by rw [Int.toNat_of_nonneg h1]; exact Int.fmod_lt_of_pos x hm, by rw [Int.toNat_of_nonneg h1], hb ▸ Nat.le_succ _, L.pull F u⟩)
noncomputable def fd (b : Nat) : Nat → Nat → List Nat
  | 0, _ => []
  | j + 1, r => sg (r / b ^ j) :: fd b j (r % b ^ j)
theorem fd_snoc {b : Nat} (hb : 2 ≤ b) : ∀ (j r : Nat), r < b ^ (j + 1) → fd b (j + 1) r = fd b j (r / b) ++ [sg (r % b)]
  | 0, r, h => by
    have h : r < b := by simpa using h
    show [sg (r / b ^ 0)] = [sg (r % b)]
    rw [Nat.pow_zero, Nat.div_one, Nat.mod_eq_of_lt h]
  | j + 1, r, h => by
    have hp : 0 < b ^ (j + 1) := Nat.pow_pos (Nat.lt_of_lt_of_le Nat.two_pos hb)
    show sg (r / b ^ (j + 1)) :: fd b (j + 1) (r % b ^ (j + 1)) = (sg (r / b / b ^ j) :: fd b j (r / b % b ^ j)) ++ [sg (r % b)]
    rw [fd_snoc hb j _ (Nat.mod_lt _ hp), Nat.pow_succ, Nat.mul_comm (b ^ j) b, Nat.div_div_eq_div_mul, Nat.mod_mul_right_div_self, Nat.mod_mul_right_mod]; rfl
theorem dgs_fd {b : Nat} (hb : 2 ≤ b) : ∀ (j r : Nat), b ^ j ≤ r → r < b ^ (j + 1) → (dgs b r).reverse = fd b (j + 1) r
  | 0, r, h1, h2 => by
    have h1 : 1 ≤ r := by simpa using h1
    have h2' : r < b := by simpa using h2
    rw [dgs_step hb (Nat.ne_of_gt h1), List.reverse_cons, fd_snoc hb 0 r h2, Nat.div_eq_of_lt h2']; rfl
  | j + 1, r, h1, h2 => by
    have hp : 0 < b ^ (j + 1) := Nat.pow_pos (Nat.lt_of_lt_of_le Nat.two_pos hb)
    have hd1 : b ^ j ≤ r / b := by
      rw [Nat.le_div_iff_mul_le (Nat.lt_of_lt_of_le Nat.two_pos hb), ← Nat.pow_succ]; exact h1
    have hd2 : r / b < b ^ (j + 1) := by
      rw [Nat.div_lt_iff_lt_mul (Nat.lt_of_lt_of_le Nat.two_pos hb), ← Nat.pow_succ]; exact h2
    rw [dgs_step hb (Nat.ne_of_gt (Nat.lt_of_lt_of_le hp h1)), List.reverse_cons, dgs_fd hb j (r / b) hd1 hd2, fd_snoc hb (j + 1) r h2]
theorem fd_len {b : Nat} : ∀ (j r : Nat), (fd b j r).length = j
  | 0, _ => rfl
  | j + 1, r => by show (fd b j (r % b ^ j)).length + 1 = _; rw [fd_len]
theorem digS_fd {b : Nat} {n : Int} {j : Nat} (hb : 2 ≤ b) (h1 : b ^ j ≤ n.natAbs ∨ j = 0) (h2 : n.natAbs < b ^ (j + 1)) : digS n b = mkS ((if n < 0 then [45] else []) ++ fd b (j + 1) n.natAbs) := by
  unfold digS
  by_cases hz : n = 0
  · subst hz
    have : j = 0 := by
      rcases h1 with h | h
      · have := Nat.pow_pos (n := j) (show 0 < b by omega)
        simp at h; omega
      · exact h
    subst this
    rw [if_pos rfl]
    show _ = mkS ([] ++ [sg (0 / b ^ 0)])
    rw [Nat.zero_div]
    decide +kernel
  · rw [if_neg hz]
    have h1 : b ^ j ≤ n.natAbs := h1.elim id fun z => by rw [z, Nat.pow_zero]; omega
    rw [dgs_fd hb j _ h1 h2]
theorem pow_bound {b j r : Nat} (hb : 2 ≤ b) (h : b ^ j ≤ r ∨ j = 0) (hr : r < 2 ^ 64) : j < 64 := by
  rcases h with h | h
  · have : 2 ^ j ≤ b ^ j := Nat.pow_le_pow_left hb j
    exact (Nat.pow_lt_pow_iff_right (by decide)).mp (Nat.lt_of_le_of_lt (Nat.le_trans this h) hr)
  · omega
theorem mul_pow {b j : Nat} : ((b ^ j : Nat) : Int) * (b : Int) = ((b ^ (j + 1) : Nat) : Int) := by rw [Nat.pow_succ]; push_cast; rfl
noncomputable def hiV (b : Nat) : Nat → Nat
  | 0 => 0
  | t + 1 => b ^ t
theorem hi_div {b t : Nat} (hb : 2 ≤ b) : b ^ t / b = hiV b t := by
  cases t with
  | zero => exact Nat.div_eq_of_lt hb
  | succ q => exact (congrArg (· / b) (Nat.pow_succ ..)).trans (Nat.mul_div_cancel _ (Nat.lt_of_lt_of_le Nat.two_pos hb))
theorem mk_app {l : List Nat} {x : Nat} : mkS l ++ (⟨#[x]⟩ : Str) = mkS (l ++ [x]) := str_ext (by rw [ls_append])
theorem sub_lt64 {j : Nat} (h : j + 1 < 64) : 64 - (j + 1) < 64 - j := Nat.sub_succ_lt_self _ _ (Nat.lt_of_succ_lt h)
theorem law_laid_W {k : Nat} {H : HS} {n : Int} {b : Nat} (hb : 2 ≤ b ∧ b ≤ 36) (hn : n.natAbs < 2 ^ 64) : CW w B (k + 1) H (.ref 936) [.int n, .int b] (fun a H' => a = .str (digS n b) ∧ H' = H) (fun _ _ => False) := by
  have hb0 : 0 < b := Nat.lt_of_lt_of_le Nat.two_pos hb.1
  have hb64 : -(2 ^ 64) < (b : Int) ∧ (b : Int) < 2 ^ 64 := by omega
  have hbn : b < 2 ^ 64 := Nat.lt_of_le_of_lt hb.2 (by decide)
  refine CW_go (st 149) "_law_laid" .none "law_xw0126_01" 1511 935 (h := fun c W => ?_)
  refine run_join 2 (fun r : Int => [("rest", .lv (.int r))]) (fun r => r = n.natAbs) (fun r hr => ?_) fun hj => ?_
  · subst hr
    refine run_wx (fun j : Nat => [("high", .int ((b ^ j : Nat) : Int))]) (fun j => b ^ j ≤ n.natAbs ∨ j = 0) (fun j => 64 - j) 0 (fun j : Nat => [("high", .int ((b ^ j : Nat) : Int))]) (fun j => (b ^ j ≤ n.natAbs ∨ j = 0) ∧ n.natAbs < b ^ (j + 1)) (o0 := .inr rfl) (h := fun j hj => ?_) (hx := fun j hj => ?_)
    · refine q_bin .Mult (.int ((b ^ j : Nat) : Int)) (.int b) (h := BW_mul hb64 ?_)
      rw [mul_pow]
      refine run_if ((↑(b ^ (j + (1 : Nat))) : Int) ≤ (↑(Int.natAbs n) : Int)) (h1 := fun hle => ?_) (h2 := fun hle => ?_)
      · have hle := Int.ofNat_le.mp hle
        refine run_z (.t true) H (h := wx_t ?_)
        refine q_bin .Mult (.int ((b ^ j : Nat) : Int)) (.int b) (h := BW_mul hb64 ?_)
        rw [mul_pow]
        exact run_z (.f .next) H (h := ag_of (j + 1) (sub_lt64 (pow_bound hb.1 (.inl hle) hn)) (.inl hle))
      · exact run_z (.t false) H (h := wx_f ⟨j, ⟨hj, Nat.lt_of_not_le fun z => hle (Int.ofNat_le.mpr z)⟩, by kernel_rfl⟩)
    · have hbj : b ^ j < 2 ^ 64 := hj.1.elim (fun h => Nat.lt_of_le_of_lt h hn) fun h => by rw [h, Nat.pow_zero]; decide
      refine run_join 2 (fun o : List Nat => [("out", .lv (.str (mkS o)))]) (fun o => o = if n < 0 then [45] else []) (fun o ho => ?_) fun hk => ?_
      · have ef := digS_fd hb.1 hj.1 hj.2
        rw [← ho] at ef
        have hol : o.length ≤ 1 := by rw [ho]; split <;> decide
        have hj64 := pow_bound hb.1 hj.1 hn
        refine run_wH [] (fun p : Nat × Nat × List Nat => [("rest", .int p.2.1), ("high", .int (hiV b p.1)), ("out", .str (mkS p.2.2))]) (fun _ => H) (fun p => p.1 ≤ j + 1 ∧ p.2.1 < b ^ p.1 ∧ p.2.2 ++ fd b p.1 p.2.1 = o ++ fd b (j + 1) n.natAbs) (fun p => p.1) (j + 1, n.natAbs, o) (fun p => p.2.2 = o ++ fd b (j + 1) n.natAbs) (o0 := ⟨Nat.le_refl _, hj.2, rfl⟩) (h := fun p hp => ?_) (hx := fun p hp => ?_)
        · obtain ⟨t, r, q⟩ := p
          obtain ⟨ht, hr, hf⟩ := hp
          dsimp only at ht hr hf
          refine run_if ((↑(hiV b t) : Int) > (0 : Int)) (h1 := fun hpos => ?_) (h2 := fun hpos => ?_)
          · obtain ⟨t', rfl⟩ : ∃ t', t = t' + 1 := by
              cases t with
              | zero => exact absurd hpos (Int.lt_irrefl 0)
              | succ t' => exact ⟨t', rfl⟩
            have hp : 0 < b ^ t' := Nat.pow_pos hb0
            have hbt : b ^ t' < 2 ^ 64 := Nat.lt_of_le_of_lt (Nat.pow_le_pow_right hb0 (Nat.le_of_succ_le_succ ht)) hbj
            have hd : r / b ^ t' < b := by rw [Nat.div_lt_iff_lt_mul hp, Nat.mul_comm, ← Nat.pow_succ]; exact hr
            have hql : q.length ≤ 100 := by
              have := congrArg List.length hf
              rw [List.length_append, List.length_append, fd_len, fd_len] at this
              omega
            refine run_z (.t true) H (h := wx_t ?_)
            refine q_bin .FloorDiv (.int r) (.int ((b ^ t' : Nat) : Int)) (h := BW_divN hp hbt ?_)
            refine q_sub (.str SIGNS) (.int ((r / b ^ t' : Nat) : Int)) H (h := SubA_ch (by decide +kernel) (sg_get (Nat.lt_of_lt_of_le hd hb.2)) ?_)
            refine q_aug .Add (.str (mkS q)) (.str ⟨#[sg (r / b ^ t')]⟩) (h := BW_iaddS (by rw [len_ls, len_ls, ls_mkS]; exact Nat.le_trans (Nat.add_le_add_right hql 1) (by decide)) ?_)
            rw [mk_app]
            refine q_bin .Mod (.int r) (.int ((b ^ t' : Nat) : Int)) (h := BW_modN hp hbt ?_)
            refine q_bin .FloorDiv (.int ((b ^ t' : Nat) : Int)) (.int b) (h := BW_divN hb0 hbn ?_)
            rw [hi_div hb.1]
            exact run_z (.f .next) H (h := ag_of (t', r % b ^ t', q ++ [sg (r / b ^ t')]) (Nat.lt_succ_self _) ⟨Nat.le_of_succ_le ht, Nat.mod_lt _ hp, by rw [List.append_assoc]; exact hf⟩)
          · have ht : t = 0 := by
              cases t with
              | zero => rfl
              | succ t' => exact absurd (Int.ofNat_lt.mpr (Nat.pow_pos (n := t') hb0)) hpos
            subst ht
            exact run_z (.t false) H (h := wx_f ⟨(0, r, q), by rw [← hf]; exact (List.append_nil _).symm, by kernel_rfl⟩)
        · exact run_ret (.str (mkS p.2.2)) H (h := ⟨by rw [ef, hp], rfl⟩)
      · refine run_if (n < (0 : Int)) (h1 := fun hg => ?_) (h2 := fun hg => ?_)
        · exact hk [45] (by rw [if_pos hg]) _ (by kernel_rfl)
        · exact hk [] (by rw [if_neg hg]) _ (by kernel_rfl)
  · refine run_if (n < (0 : Int)) (h1 := fun hg => ?_) (h2 := fun hg => ?_)
    · exact hj (0 - n) (by omega) _ (by kernel_rfl)
    · exact hj n (by omega) _ (by kernel_rfl)
end Mine
namespace Mine
variable {w : World} {B : Heap}
theorem argAt_map (ps : List JP) (i : Nat) : argAt (ps.map (·.v)) i = (pAt ps i).v := by
  unfold argAt pAt
  rw [List.getElem?_map]
  cases ps[i]? <;> rfl
theorem map_v (ps : List JP) : (ps.map (·.v)).map JV.av = ps.map fun p => p.v.av := by rw [List.map_map]; rfl
theorem Sound.und : Sound ⟨.und, (4, 0)⟩ := ⟨trivial, .inl rfl⟩
theorem Sound.at {ps : List JP} (h : ∀ p ∈ ps, Sound p) (i : Nat) : Sound (pAt ps i) := by
  unfold pAt
  cases e : ps[i]? with
  | none => exact Sound.und
  | some p => exact h p (List.mem_of_getElem? e)
theorem py_tupS {i j : Int} {s t : Str} : PyData.eqv (AV.tup [.int i, .str s]).py (AV.tup [.int j, .str t]).py = (i == j && s == t) := by
  show PyData.eqv (.tuple [.int i, .str s]) (.tuple [.int j, .str t]) = _
  simp [PyData.eqv, PyData.eqvAll]
theorem shapedS {i : Int} {s : Str} (h : PyData.strOk s = true) : SeqAt.shaped (AV.tup [.int i, .str s]).py = true := by
  show (PyData.canLay0 (.tuple [.int i, .str s]) && decide (PyData.depth (.tuple [.int i, .str s]) ≤ 64)) = true
  simp [PyData.canLay0, PyData.canLayAll0, h, PyData.depth, PyData.depthAll]
theorem strOk_mk {l : List Nat} (h : ∀ ch ∈ l, ch < 0x110000) : PyData.strOk (mkS l) = true := by
  unfold PyData.strOk
  simp only [List.all_toArray, List.all_eq_true, decide_eq_true_eq]
  exact h
theorem sg_small (d : Nat) : sg d < 0x110000 := by
  have h : ∀ ch ∈ ls SIGNS, ch < 0x110000 := by decide +kernel
  unfold sg
  cases e : (ls SIGNS)[d]? with
  | none => decide
  | some ch => exact h ch (List.mem_of_getElem? e)
theorem dgo_small {b : Nat} : ∀ (f r : Nat), ∀ ch ∈ dgo b f r, ch < 0x110000
  | 0, _, ch, h => nomatch h
  | f + 1, r, ch, h => by
    unfold dgo at h
    split at h
    · cases h
    · rcases List.mem_cons.mp h with rfl | h
      · exact sg_small _
      · exact dgo_small f _ ch h
theorem digS_ok (n : Int) (b : Nat) : PyData.strOk (digS n b) = true := by
  unfold digS
  split
  · decide +kernel
  · refine strOk_mk fun ch h => ?_
    rcases List.mem_append.mp h with h | h
    · split at h
      · rw [List.mem_singleton.mp h]; decide
      · cases h
    · exact dgo_small _ _ ch (List.mem_reverse.mp h)
structure EqV (v : AV) : Prop where
  dat : v.dat = true
  sh : SeqAt.shaped v.py = true
  eq : PyData.eqv v.py v.py = true
theorem EqV.two {i j : Int} : EqV (.tup [.int i, .int j]) := ⟨rfl, rfl, by rw [py_tup2, beq_self_eq_true, beq_self_eq_true]; rfl⟩
theorem EqV.txt {i : Int} {s : Str} (h : PyData.strOk s = true) : EqV (.tup [.int i, .str s]) := ⟨rfl, shapedS h, by rw [py_tupS, beq_self_eq_true, beq_self_eq_true]; rfl⟩
theorem q_eqv {c : Ctx w B} {E : QE} {Z : Rt → St → Prop} {k : Cf} {l : List AV} (V : EqV (.tup l)) (hk : 8 ≤ c.k) (e : autoParam (k.c = .b2 (.cmp .Eq) (.tup l) (.tup l)) kr) (m : Me c E Z (go (k.ret (.bool true)))) : Me c E Z k :=
  q_cmp .Eq _ _ e (BW_eqD V.dat V.dat V.sh V.sh hk (by rw [V.eq]; exact m))
noncomputable def LStP (a : SysD) (cst : LawC) (fix : HS) (tl0 l tl : List AV) (H' : HS) : Prop := ∃ tl', LSt a cst fix tl0 l tl' H' ∧ tl'.length ≤ tl.length + 1
theorem AskP.use {a : SysD} {cst : LawC} {fix : HS} {tl0 l tl : List AV} {r0 : AV} {R : AV → HS → Prop} (q : ∀ H', LStP a cst fix tl0 l tl H' → R r0 H') (r : AV) (H' : HS) (h : AskP a cst fix tl0 l tl r0 r H') : R r H' := h.1 ▸ q H' h.2
theorem law_based_W {k : Nat} {a : SysD} {cst : LawC} {fix H : HS} {tl0 l tl : List AV} {ps : List JP} {nv : JV} (F : SysF a fix) (L : LSt a cst fix tl0 l tl H) (N : NatA a fix tl0 5 "toString" 301) (ht : tl.length ≤ 800) (hps : ps.length ≤ 1000) (hs : ∀ p ∈ ps, Sound p) (hnv : cst.nv = nv.av) (hv : nv = .nan ∨ ∃ n, nv = .num n ∧ n.natAbs < 2 ^ 64) :
    CW w B (k + 13) H (.ref 943) [.val (.ref a.W), .lst (ps.map JP.av)] (fun r H' => r = .bool true ∧ LStP a cst fix tl0 l tl H') (fun _ _ => False) := by
  have hc : CW w B 10 H (.ref 434) [.val (.ref a.m), .int 301, nv.av, .lst (ps.map fun p => p.v.av)] (AskQ (numO nv (ps.map (·.v))) H) (AskE (numO nv (ps.map (·.v))) a.th tl H) := by
    rw [← map_v]
    exact call_num_W (k := 1) (L.sys F) hv (by rw [List.length_map]; exact hps) (by rw [argAt_map]; exact (Sound.at hs 0).ok) (le_n ht _)
  have ho : tells (pAt ps 0) 10 = wholeN (argAt (ps.map (·.v)) 0) 10 := by rw [argAt_map]; exact (Sound.at hs 0).tells 10
  have ask := law_ask_W (w := w) (B := B) (k := 0) (cst := cst) (l := l) F L N ht hps hc
  have w1 := L.W
  rw [wE, hnv] at w1
  refine CW_go (st 150) "_law_based" .none "law_xw0126_01" 1511 942 (h := fun c W => ?_)
  refine run_joinA (fun p : AV × (Int × AV) => ⟨.ss ((sBody (st 150)).drop 2), [], putS [("base", .lv p.1), ("want", .lv (.tup [.int p.2.1, p.2.2]))] (locOf (st 150) [.val (.ref a.W), .lst (ps.map JP.av)]), H⟩) (fun p => askR (numO nv (ps.map (·.v))) = .tup [.int p.2.1, p.2.2] ∧ EqV (.tup [.int p.2.1, p.2.2])) (fun p hp => ?_) fun hj => ?_
  · refine q_gSF H "n" w1 (mem_nth 5 rfl) (m := ?_)
    rw [hp.1] at ask
    refine run_call (.ref 929) [.val (.ref a.W), .int 5, .str "toString", nv.av, .lst (ps.map JP.av)] H ask W.hh (le_k W.k 12 12) (q := AskP.use fun H' h => ?_) (qe := fun _ _ z => z.elim)
    refine q_eqv hp.2 (le_k W.k 8 12) (m := ?_)
    exact run_ret (.bool true) H' (h := ⟨rfl, h⟩)
  · refine run_val (.ref 917) [.lst (ps.map JP.av), .int 0, .int 10] (optI (tells (pAt ps 0) 10)) H (law_tells_W (k := 0) hps (i := 0)) W.hh (le_k W.k 1 12) (m := ?_)
    rcases et : tells (pAt ps 0) 10 with _ | b
    · refine q_cmp .Is .none .none (h := BW_isNoneN ?_)
      refine run_b true (m := ?_)
      exact hj (.none, -1, .int 0) ⟨by rw [numO, ← ho, et]; rfl, EqV.two⟩ _ (by kernel_rfl)
    · rw [et] at ho
      refine q_cmp .Is (.int b) .none (h := BW_isNoneI ?_)
      refine run_b false (m := ?_)
      refine run_if (b < (2 : Int)) (h1 := fun h1 => ?_) (h2 := fun h1 => ?_)
      · exact hj (.int b, -2, .int 0) ⟨by rw [numO_thr ho.symm (.inl h1)]; rfl, EqV.two⟩ _ (by kernel_rfl)
      refine run_if (b > (36 : Int)) (h1 := fun h2 => ?_) (h2 := fun h2 => ?_)
      · exact hj (.int b, -2, .int 0) ⟨by rw [numO_thr ho.symm (.inr h2)]; rfl, EqV.two⟩ _ (by kernel_rfl)
      obtain ⟨b', rfl, hb⟩ := base_in h1 h2
      refine q_gSF H "n" w1 (mem_nth 5 rfl) (m := ?_)
      rcases hv with rfl | ⟨n, rfl, hn⟩
      · refine q_it 0 (m := ?_)
        refine run_b true (m := ?_)
        exact hj (.int b', 5, .str "NaN") ⟨by rw [numO_nan ho.symm (fun z => z.elim h1 h2)]; rfl, EqV.txt (by decide +kernel)⟩ _ (by kernel_rfl)
      · refine q_it 0 (m := ?_)
        refine run_b false (m := ?_)
        refine q_gSF H "n" w1 (mem_nth 5 rfl) (m := ?_)
        refine q_it 1 (m := ?_)
        refine run_val (.ref 936) [.int n, .int b'] (.str (digS n b')) H (law_laid_W (k := 0) hb hn) W.hh (le_k W.k 1 12) (m := ?_)
        exact hj (.int b', 5, .str (digS n b')) ⟨by rw [numO_num ho.symm (fun z => z.elim h1 h2)]; rfl, EqV.txt (digS_ok n b')⟩ _ (by kernel_rfl)
end Mine
namespace Mine
variable {w : World} {B : Heap}
theorem placeIn_le {n : Int} {s : Nat} : placeIn n s ≤ s := by unfold placeIn; repeat' split <;> omega
theorem sliceS_pick (x : Str) (lo hi : Int) : sliceS x (placeIn lo x.length) (placeIn hi x.length) = pickS x (fun p => (if lo ≥ 0 then decide ((p : Int) ≥ lo) else decide ((p : Int) - x.length ≥ lo)) && !(if hi ≥ 0 then decide ((p : Int) ≥ hi) else decide ((p : Int) - x.length ≥ hi))) := by
  have hn := len_ls x
  have a1 := placeIn_nn (n := lo) (s := x.length)
  have a2 := placeIn_le (n := lo) (s := x.length)
  have b1 := placeIn_nn (n := hi) (s := x.length)
  have b2 := placeIn_le (n := hi) (s := x.length)
  have key : ∀ (n : Int) (p : Nat), p < x.length → (if n ≥ 0 then decide ((p : Int) ≥ n) else decide ((p : Int) - x.length ≥ n)) = decide ((placeIn n x.length).toNat ≤ p) := fun n p hp => by
    unfold placeIn
    split <;> (congr 1; apply propext; repeat' split) <;> omega
  rw [pick_interval x _ (placeIn lo x.length).toNat (placeIn hi x.length).toNat (fun p hp => ?_) (by omega)]
  · unfold sliceS
    split
    · rw [show (placeIn hi x.length).toNat - (placeIn lo x.length).toNat = 0 by omega]; rfl
    · rfl
  · rw [key lo p (by omega), key hi p (by omega)]
    congr 1
    by_cases h : (placeIn hi ↑x.length).toNat ≤ p
    · rw [decide_eq_true h, decide_eq_false (by omega)]; rfl
    · rw [decide_eq_false h, decide_eq_true (by omega)]; rfl
theorem charS_pick (x : Str) (n : Int) : charS x n = pickS x (fun p => (p : Int) == n) := by
  have hn := len_ls x
  unfold charS
  by_cases h : 0 ≤ n ∧ n < x.length
  · rw [if_pos h, pick_interval x _ n.toNat (n.toNat + 1) (fun p hp => ?_) (by omega), Nat.add_sub_cancel_left]
    by_cases e : (p : Int) = n
    · rw [e]; simp; omega
    · rw [beq_false_of_ne e]
      symm
      rw [Bool.and_eq_false_iff]
      simp only [decide_eq_false_iff_not]
      omega
  · rw [if_neg h, pick_interval x _ 0 0 (fun p hp => ?_) (Nat.zero_le _)]
    · rfl
    · rw [beq_false_of_ne (by omega)]; simp
theorem pickS_ok {x : Str} (h : PyData.strOk x = true) (P : Nat → Bool) : PyData.strOk (pickS x P) = true := by
  refine strOk_mk fun ch hc => ?_
  obtain ⟨p, hp, rfl⟩ := List.mem_map.mp hc
  have h' : ∀ ch ∈ ls x, ch < 0x110000 := by
    unfold PyData.strOk at h
    intro ch hc
    have := Array.all_eq_true'.mp h ch (by simpa using hc)
    simpa using this
  cases e : (ls x)[p]? with
  | none => decide
  | some ch => exact h' ch (List.mem_of_getElem? e)
theorem range_snoc (P : Nat → Bool) (f : Nat → AV) (i : Nat) (b : Bool) (h : P i = b) : ((List.range (i + 1)).filter P).map f = ((List.range i).filter P).map f ++ if b = true then [f i] else [] := by
  rw [List.range_succ, List.filter_append, List.map_append]
  subst h
  cases e : P i <;> simp [e]
theorem VW_pick {c : Ctx w B} {σ : St} {E : QE} {x : Str} {P : Nat → Bool} {Q : QA} (hx : x.length ≤ 1000) (q : Q (.str (pickS x P)) σ) : VW c σ [.str "", .lst (((List.range x.length).filter P).map (fun p => AV.str ⟨#[((ls x)[p]?).getD 0]⟩))] (fun vs => call (.builtin "str.join") vs []) Q E := by
  have e : ((List.range x.length).filter P).map (fun p => AV.str ⟨#[((ls x)[p]?).getD 0]⟩) = ((((List.range (ls x).length).filter P).map fun p => ((ls x)[p]?).getD 0).map fun ch => AV.str ⟨#[ch]⟩) := by rw [List.map_map, ← len_ls]; rfl
  rw [e]
  have : ((List.range (ls x).length).filter P).length ≤ (List.range (ls x).length).length := List.length_filter_le _ _
  rw [List.length_range, ← len_ls] at this
  exact VW_join1 (by rw [List.length_map, ← len_ls]; omega) q
structure Txt1 (T : Str) : Prop where
  len : T.length ≤ 8
  ok : PyData.strOk T = true
noncomputable def past1 (x : Str) (n : Int) (p : Nat) : Bool := if n ≥ 0 then decide ((p : Int) ≥ n) else decide ((p : Int) - x.length ≥ n)
noncomputable def pastP (x : Str) (lo hi : Int) (p : Nat) : Bool := past1 x lo p && !past1 x hi p
theorem snoc_t {P : Nat → Bool} {f : Nat → AV} {i : Nat} (h : P i = true) : ((List.range (i + 1)).filter P).map f = ((List.range i).filter P).map f ++ [f i] := by rw [range_snoc P f i true h]; rfl
theorem snoc_f {P : Nat → Bool} {f : Nat → AV} {i : Nat} (h : P i = false) : ((List.range (i + 1)).filter P).map f = ((List.range i).filter P).map f := by rw [range_snoc P f i false h]; exact List.append_nil _
theorem ls_at {x : Str} {i : Nat} (h : i < x.length) : (ls x)[i]? = some (((ls x)[i]?).getD 0) := by rw [List.getElem?_eq_getElem (len_ls x ▸ h)]; rfl
@[reducible] noncomputable def chF (x : Str) (p : Nat) : AV := .str ⟨#[((ls x)[p]?).getD 0]⟩
theorem fitOf {T : Str} {ps : List JP} (hT : Txt1 T) (hps : ps.length ≤ 1000) (hs : ∀ p ∈ ps, Sound p) : Fit T (ps.map (·.v)) := ⟨le_n hT.len _, by rw [List.length_map]; exact hps, by rw [argAt_map]; exact (Sound.at hs 0).ok, by rw [argAt_map]; exact (Sound.at hs 1).ok⟩
theorem law_placed_char_W {k : Nat} {a : SysD} {cst : LawC} {fix H : HS} {tl0 l tl : List AV} {ps : List JP} (F : SysF a fix) (L : LSt a cst fix tl0 l tl H) (N : NatA a fix tl0 4 "charAt" 201) (ht : tl.length ≤ 800) (hps : ps.length ≤ 1000) (hs : ∀ p ∈ ps, Sound p) (hT : Txt1 cst.T) :
    CW w B (k + 13) H (.ref 955) [.val (.ref a.W), .str "charAt", .lst (ps.map JP.av)] (fun r H' => r = .bool true ∧ LStP a cst fix tl0 l tl H') (fun _ _ => False) := by
  have hc : CW w B 10 H (.ref 434) [.val (.ref a.m), .int 201, (JV.str cst.T).av, .lst (ps.map fun p => p.v.av)] (AskQ (optAsk (chO cst.T (ps.map (·.v)))) H) (AskE (optAsk (chO cst.T (ps.map (·.v)))) a.th tl H) := by
    rw [← map_v]
    exact call_text_W (k := 0) (number := 201) (L.sys F) (.inl rfl) (fitOf hT hps hs) (fun h => h.elim (fun z => absurd z (by decide)) fun z => absurd z (by decide))
  have ask := law_ask_W (w := w) (B := B) (k := 0) (cst := cst) (l := l) F L N ht hps hc
  have ho : tells (pAt ps 0) 0 = wholeN (argAt (ps.map (·.v)) 0) 0 := by rw [argAt_map]; exact (Sound.at hs 0).tells 0
  rw [chO, ← ho] at ask
  refine CW_go (st 152) "_law_placed" .none "law_xw0126_01" 1511 954 (h := fun c W => ?_)
  refine run_joinA (fun p : AV × (Int × AV) => ⟨.ss ((sBody (st 152)).drop 5), [], putS [("text", .cv (.str cst.T)), ("size", .cv (.int cst.T.length)), ("low", .cv p.1), ("high", .cv (.int 0)), ("want", .lv (.tup [.int p.2.1, p.2.2]))] (locOf (st 152) [.val (.ref a.W), .str "charAt", .lst (ps.map JP.av)]), H⟩) (fun p => askR (optAsk ((tells (pAt ps 0) 0).map fun n => (JV.str (charS cst.T n)).av)) = .tup [.int p.2.1, p.2.2] ∧ EqV (.tup [.int p.2.1, p.2.2])) (fun p hp => ?_) fun hj => ?_
  · rw [hp.1] at ask
    refine run_call (.ref 929) [.val (.ref a.W), .int 4, .str "charAt", .tup [.int 5, .str cst.T], .lst (ps.map JP.av)] H ask W.hh (le_k W.k 12 12) (q := AskP.use fun H' h => ?_) (qe := fun _ _ z => z.elim)
    refine q_eqv hp.2 (le_k W.k 8 12) (m := ?_)
    exact run_ret (.bool true) H' (h := ⟨rfl, h⟩)
  · refine q_gSF H "text" L.W (mem_nth 4 rfl) (m := ?_)
    refine q_stc W "text" (.str cst.T) (m := ?_)
    refine run_len cst.T (le_n hT.len _) (m := ?_)
    refine q_stc W "size" (.int cst.T.length) (m := ?_)
    refine run_val (.ref 917) [.lst (ps.map JP.av), .int 0, .int 0] (optI (tells (pAt ps 0) 0)) H (law_tells_W (k := 0) hps (i := 0)) W.hh (le_k W.k 1 12) (m := ?_)
    refine q_stc W "low" (optI (tells (pAt ps 0) 0)) (m := ?_)
    refine run_b false (m := ?_)
    refine q_stc W "high" (.int 0) (m := ?_)
    rcases et : tells (pAt ps 0) 0 with _ | lo
    · refine q_cmp .Is .none .none (h := BW_isNoneN ?_)
      refine run_b true (m := ?_)
      exact hj (.none, -1, .int 0) ⟨by rw [et]; rfl, EqV.two⟩ _ (by kernel_rfl)
    · refine q_cmp .Is (.int lo) .none (h := BW_isNoneI ?_)
      refine run_b false (m := ?_)
      refine q_cmp .Is (.int 0) .none (h := BW_isNoneI ?_)
      refine run_b false (m := ?_)
      refine run_b false (m := ?_)
      refine q_join (Str.ofString "") (m := ?_)
      refine q_comp (m := ?_)
      refine q_rng ((↑(Str.length cst.T) : Int)) (m := ?_)
      refine run_z (.v (.rng cst.T.length)) H (h := comp_p cst.T.length _ (fun i => ((List.range i).filter (fun p : Nat => (p : Int) == lo)).map (chF cst.T)) (le_n hT.len _) (ItW_rng _ W.hh (le_n hT.len _)) rfl (st := fun i hi c' e1 e2 => ?_) (fin := ?_))
      · refine run_t ((↑i : Int) == lo) (h1 := fun hb => ?_) (h2 := fun hb => ?_)
        · refine run_z (.t true) H (h := cz_t ?_)
          refine q_sub (.str cst.T) (.int i) H (h := SubA_ch (le_n hT.len _) (ls_at hi) ?_)
          exact run_z (.v (chF cst.T i)) H (h := cz_v (snoc_t hb))
        · exact run_z (.t false) H (h := cz_f (snoc_f hb))
      · dsimp only
        refine q_call (.builtin "str.join") [.str "", .lst (((List.range cst.T.length).filter (fun p : Nat => (p : Int) == lo)).map (chF cst.T))] H (h := VW_pick (le_n hT.len _) ?_)
        exact hj (.int lo, 5, .str (pickS cst.T (fun p => (p : Int) == lo))) ⟨by rw [et, ← charS_pick]; rfl, EqV.txt (pickS_ok hT.ok _)⟩ _ (by kernel_rfl)
theorem law_placed_slice_W {k : Nat} {a : SysD} {cst : LawC} {fix H : HS} {tl0 l tl : List AV} {ps : List JP} (F : SysF a fix) (L : LSt a cst fix tl0 l tl H) (N : NatA a fix tl0 4 "slice" 204) (ht : tl.length ≤ 800) (hps : ps.length ≤ 1000) (hs : ∀ p ∈ ps, Sound p) (hT : Txt1 cst.T) :
    CW w B (k + 13) H (.ref 955) [.val (.ref a.W), .str "slice", .lst (ps.map JP.av)] (fun r H' => r = .bool true ∧ LStP a cst fix tl0 l tl H') (fun _ _ => False) := by
  have hc : CW w B 10 H (.ref 434) [.val (.ref a.m), .int 204, (JV.str cst.T).av, .lst (ps.map fun p => p.v.av)] (AskQ (optAsk (slO cst.T (ps.map (·.v)))) H) (AskE (optAsk (slO cst.T (ps.map (·.v)))) a.th tl H) := by
    rw [← map_v]
    exact call_text_W (k := 0) (number := 204) (L.sys F) (.inr (.inr (.inr rfl))) (fitOf hT hps hs) (fun h => h.elim (fun z => absurd z (by decide)) fun z => absurd z (by decide))
  have ask := law_ask_W (w := w) (B := B) (k := 0) (cst := cst) (l := l) F L N ht hps hc
  have h0 : tells (pAt ps 0) 0 = wholeN (argAt (ps.map (·.v)) 0) 0 := by rw [argAt_map]; exact (Sound.at hs 0).tells 0
  have h1 : tells (pAt ps 1) cst.T.length = wholeN (argAt (ps.map (·.v)) 1) cst.T.length := by rw [argAt_map]; exact (Sound.at hs 1).tells _
  rw [slO, ← h0, ← h1] at ask
  refine CW_go (st 152) "_law_placed" .none "law_xw0126_01" 1511 954 (h := fun c W => ?_)
  refine run_joinA (fun p : (AV × AV) × (Int × AV) => ⟨.ss ((sBody (st 152)).drop 5), [], putS [("text", .cv (.str cst.T)), ("size", .cv (.int cst.T.length)), ("low", .cv p.1.1), ("high", .cv p.1.2), ("want", .lv (.tup [.int p.2.1, p.2.2]))] (locOf (st 152) [.val (.ref a.W), .str "slice", .lst (ps.map JP.av)]), H⟩) (fun p => askR (optAsk ((tells (pAt ps 0) 0).bind fun a => (tells (pAt ps 1) cst.T.length).map fun b => (JV.str (sliceS cst.T (placeIn a cst.T.length) (placeIn b cst.T.length))).av)) = .tup [.int p.2.1, p.2.2] ∧ EqV (.tup [.int p.2.1, p.2.2])) (fun p hp => ?_) fun hj => ?_
  · rw [hp.1] at ask
    refine run_call (.ref 929) [.val (.ref a.W), .int 4, .str "slice", .tup [.int 5, .str cst.T], .lst (ps.map JP.av)] H ask W.hh (le_k W.k 12 12) (q := AskP.use fun H' h => ?_) (qe := fun _ _ z => z.elim)
    refine q_eqv hp.2 (le_k W.k 8 12) (m := ?_)
    exact run_ret (.bool true) H' (h := ⟨rfl, h⟩)
  · refine q_gSF H "text" L.W (mem_nth 4 rfl) (m := ?_)
    refine q_stc W "text" (.str cst.T) (m := ?_)
    refine run_len cst.T (le_n hT.len _) (m := ?_)
    refine q_stc W "size" (.int cst.T.length) (m := ?_)
    refine run_val (.ref 917) [.lst (ps.map JP.av), .int 0, .int 0] (optI (tells (pAt ps 0) 0)) H (law_tells_W (k := 0) hps (i := 0)) W.hh (le_k W.k 1 12) (m := ?_)
    refine q_stc W "low" (optI (tells (pAt ps 0) 0)) (m := ?_)
    refine run_b true (m := ?_)
    refine run_val (.ref 917) [.lst (ps.map JP.av), .int 1, .int cst.T.length] (optI (tells (pAt ps 1) cst.T.length)) H (law_tells_W (k := 0) hps (i := 1)) W.hh (le_k W.k 1 12) (m := ?_)
    refine q_stc W "high" (optI (tells (pAt ps 1) cst.T.length)) (m := ?_)
    rcases e0 : tells (pAt ps 0) 0 with _ | lo
    · refine q_cmp .Is .none .none (h := BW_isNoneN ?_)
      refine run_b true (m := ?_)
      exact hj ((.none, optI (tells (pAt ps 1) cst.T.length)), -1, .int 0) ⟨by rw [e0]; rfl, EqV.two⟩ _ (by kernel_rfl)
    · refine q_cmp .Is (.int lo) .none (h := BW_isNoneI ?_)
      refine run_b false (m := ?_)
      rcases e1 : tells (pAt ps 1) cst.T.length with _ | hi
      · refine q_cmp .Is .none .none (h := BW_isNoneN ?_)
        refine run_b true (m := ?_)
        exact hj ((.int lo, .none), -1, .int 0) ⟨by rw [e0, e1]; rfl, EqV.two⟩ _ (by kernel_rfl)
      · refine q_cmp .Is (.int hi) .none (h := BW_isNoneI ?_)
        refine run_b false (m := ?_)
        refine run_b true (m := ?_)
        refine q_join (Str.ofString "") (m := ?_)
        refine q_comp (m := ?_)
        refine q_rng ((↑(Str.length cst.T) : Int)) (m := ?_)
        refine run_z (.v (.rng cst.T.length)) H (h := comp_p cst.T.length _ (fun i => ((List.range i).filter (pastP cst.T lo hi)).map (chF cst.T)) (le_n hT.len _) (ItW_rng _ W.hh (le_n hT.len _)) rfl (st := fun i hi' c' e1 e2 => ?_) (fin := ?_))
        · refine run_val (.ref 950) [.int i, .int cst.T.length, .int lo] (.bool (past1 cst.T lo i)) H (law_past_W (k := 0)) (e1.trans W.hh) (le_k (e2.trans W.k) 1 12) (m := ?_)
          refine run_t (past1 cst.T lo i) (h1 := fun b1 => ?_) (h2 := fun b1 => ?_)
          · refine run_val (.ref 950) [.int i, .int cst.T.length, .int hi] (.bool (past1 cst.T hi i)) H (law_past_W (k := 0)) (e1.trans W.hh) (le_k (e2.trans W.k) 1 12) (m := ?_)
            refine run_tn (past1 cst.T hi i) (h1 := fun b2 => ?_) (h2 := fun b2 => ?_)
            · exact run_z (.t false) H (h := cz_f (snoc_f (by rw [pastP, b1, b2]; rfl)))
            · refine run_z (.t true) H (h := cz_t ?_)
              refine q_sub (.str cst.T) (.int i) H (h := SubA_ch (le_n hT.len _) (ls_at hi') ?_)
              exact run_z (.v (chF cst.T i)) H (h := cz_v (snoc_t (by rw [pastP, b1, b2]; rfl)))
          · exact run_z (.t false) H (h := cz_f (snoc_f (by rw [pastP, b1]; rfl)))
        · dsimp only
          refine q_call (.builtin "str.join") [.str "", .lst (((List.range cst.T.length).filter (pastP cst.T lo hi)).map (chF cst.T))] H (h := VW_pick (le_n hT.len _) ?_)
          exact hj ((.int lo, .int hi), 5, .str (pickS cst.T (pastP cst.T lo hi))) ⟨by rw [e0, e1]; show AV.tup [.int 5, .str (sliceS _ _ _)] = _; rw [sliceS_pick]; rfl, EqV.txt (pickS_ok hT.ok _)⟩ _ (by kernel_rfl)
end Mine
namespace Mine
variable {w : World} {B : Heap}
noncomputable def soughtV (piece : Str) (m : Nat) : JV := if m = 0 then .str piece else if m = 1 then .num 1 else .boo 1
theorem sought_item (piece : Str) {m : Nat} (h : m < 3) : [AV.tup [.tup [.int 5, .str piece], .str piece], .tup [.tup [.int 3, .int 1], .str "1"], .tup [.tup [.int 2, .int 1], .str "true"]][m]? = some (.tup [(soughtV piece m).av, .str (soughtV piece m).txt]) := by
  match m, h with
  | 0, _ => rfl
  | 1, _ =>
    have : (JV.num 1).txt = "1" := by decide +kernel
    show _ = some (AV.tup [AV.tup [.int 3, .int 1], .str (JV.num 1).txt])
    rw [this]; rfl
  | 2, _ => rfl
theorem sought_facts (piece : Str) (m : Nat) (h : piece.length ≤ 8) : (soughtV piece m).ok ∧ (soughtV piece m).tag ≠ 6 ∧ (∀ n, soughtV piece m = .num n → n.natAbs < 2 ^ 64) ∧ (soughtV piece m).txt.length ≤ 8 := by
  unfold soughtV
  by_cases h0 : m = 0
  · rw [if_pos h0]
    exact ⟨le_n h 10000, by show (5 : Int) ≠ 6; decide, (fun _ e => by cases e), h⟩
  rw [if_neg h0]
  by_cases h1 : m = 1
  · rw [if_pos h1]
    exact ⟨trivial, by show (3 : Int) ≠ 6; decide, (fun n e => by cases e; decide), by decide +kernel⟩
  rw [if_neg h1]
  exact ⟨trivial, by show (2 : Int) ≠ 6; decide, (fun _ e => by cases e), by decide +kernel⟩
theorem argAt_1 (v : JV) (l : List JV) : argAt (v :: l) 1 = argAt l 0 := by
  unfold argAt; rw [List.getElem?_cons_succ]
noncomputable def LStN (a : SysD) (cst : LawC) (fix : HS) (tl0 tl : List AV) (ns : List Int) (H' : HS) : Prop := ∃ (ns' : List Int) (tl' : List AV), ns'.length ≤ ns.length ∧ LSt a cst fix tl0 (ns'.map .int) tl' H' ∧ tl'.length ≤ tl.length + 1
theorem SlW_pc {c : Ctx w B} {E : QE} {σ : St} {x : Str} {a n : Nat} {Q : QA} (hx : x.length ≤ 100000) (q : Q (.str (pieceAt x a n)) σ) : SlA c σ none (.str x) (.int a) (.int ((a + n : Nat) : Int)) .none Q E := fun v lo hi p => by
  refine SlW_ss hx ?_
  have := slice_le x (a := a) (b := a + n) (Nat.le_add_right a n)
  rw [Nat.add_sub_cancel_left] at this
  rw [this]; exact q
theorem pc_len {x : Str} {a n m : Nat} (h : x.length ≤ m) : (pieceAt x a n).length ≤ m := by
  rw [pieceAt, len_ls, ls_mkS, List.length_take, List.length_drop, ← len_ls]
  exact Nat.le_trans (Nat.min_le_right _ _) (Nat.le_trans (Nat.sub_le _ _) h)
theorem max_m (q : Nat) : ∃ m : Nat, m < 3 ∧ (if ((q % 6 : Nat) : Int) - 3 > 0 then ((q % 6 : Nat) : Int) - 3 else 0) = (m : Int) := by
  by_cases h : ((q % 6 : Nat) : Int) - 3 > 0
  · rw [if_pos h]; exact ⟨q % 6 - 3, by omega, by omega⟩
  · rw [if_neg h]; exact ⟨0, by decide, rfl⟩
noncomputable def plP (T : Str) (lo : Int) (s : Str) (p : Nat) : Bool := decide ((p : Int) ≥ (if (T.length : Int) < lo then (T.length : Int) else lo)) && (pieceAt T p s.length == s)
noncomputable def plL (T : Str) (lo : Int) (s : Str) (i : Nat) : List Nat := (List.range i).filter (plP T lo s)
noncomputable def headI : List Nat → Int
  | [] => -1
  | p :: _ => p
theorem front_nat (lo : Int) (n : Nat) : frontP lo n = ((frontP lo n).toNat : Int) := by unfold frontP; repeat' split <;> omega
theorem front_le (lo : Int) (n p : Nat) : decide ((p : Int) ≥ (if (n : Int) < lo then (n : Int) else lo)) = decide ((frontP lo n).toNat ≤ p) := by
  unfold frontP
  congr 1; apply propext
  repeat' split <;> omega
theorem idx_pl {T : Str} {v : JV} {l : List JV} {lo : Int} : idx T (v :: l) lo = headI (plL T lo v.txt (T.length + 1 - v.txt.length)) := by
  show Txt.find3 T v.txt (frontP lo T.length) = _
  rw [front_nat, find3_first T v.txt _ (plP T lo v.txt) _ rfl fun p _ => by rw [plP, front_le]]
  unfold plL
  cases (List.range (T.length + 1 - v.txt.length)).filter (plP T lo v.txt) <;> rfl
theorem pl_t {T : Str} {lo : Int} {s : Str} {i : Nat} (h : plP T lo s i = true) : (plL T lo s (i + 1)).map (fun p : Nat => AV.int p) = (plL T lo s i).map (fun p : Nat => AV.int p) ++ [.int i] := snoc_t h
theorem pl_f {T : Str} {lo : Int} {s : Str} {i : Nat} (h : plP T lo s i = false) : (plL T lo s (i + 1)).map (fun p : Nat => AV.int p) = (plL T lo s i).map (fun p : Nat => AV.int p) := snoc_f h
theorem BW_neN {c : Ctx w B} {E : QE} {σ : St} {Q : QA} {X : List Nat} (hk : 8 ≤ c.k) (q : Q (.bool (!X.isEmpty)) σ) : BW c σ (.lst (X.map fun p : Nat => AV.int p)) (.lst []) (compareOp .NotEq) Q E := by
  have e : (X.map fun p : Nat => AV.int p) = (X.map fun p : Nat => (p : Int)).map AV.int := by rw [List.map_map]; rfl
  rw [e]
  exact BW_neL0 hk (by rw [List.isEmpty_map]; exact q)
theorem law_found_2 {k : Nat} {a : SysD} {cst : LawC} {fix H H' : HS} {tl0 tl : List AV} {ns ns' : List Int} {ps : List JP} {word : Str} {code : Int} {c : Ctx w B} {q s0 : Int} {pc : Str} {vJ : JV} (W : AtC (k + 12) H (st 153) c) (hwc : (word = "indexOf" ∧ code = 202) ∨ (word = "includes" ∧ code = 203)) (F : SysF a fix) (L' : LSt a cst fix tl0 (ns'.map .int) tl H') (hnl : ns'.length ≤ ns.length) (N : NatA a fix tl0 4 word code) (ht : tl.length ≤ 800) (hps : ps.length ≤ 900) (hs : ∀ p ∈ ps, Sound p) (hT : Txt1 cst.T)
    (v1 : vJ.ok ∧ vJ.tag ≠ 6 ∧ (∀ n, vJ = .num n → n.natAbs < 2 ^ 64) ∧ vJ.txt.length ≤ 8) : Me c (Eh fun _ _ => False) (ZF (RQ fun r H' => r = .bool true ∧ LStN a cst fix tl0 tl ns H')) (go ⟨.ss ((sBody (st 153)).drop 6), [], putS [("text", .cv (.str cst.T)), ("size", .cv (.int cst.T.length)), ("q", .lv (.int q)), ("start", .lv (.int s0)), ("piece", .lv (.str pc)), ("v", .lv vJ.av), ("sought", .cv (.str vJ.txt))] (locOf (st 153) [.val (.ref a.W), .str word, .lst (ps.map JP.av)]), H'⟩) := by
  have f : Fit cst.T (vJ :: ps.map (·.v)) := ⟨le_n hT.len _, by rw [List.length_cons, List.length_map]; exact Nat.le_trans (Nat.succ_le_succ hps) (by decide), v1.1, by rw [argAt_1, argAt_map]; exact (Sound.at hs 0).ok⟩
  have hc : CW w B 10 H' (.ref 434) [.val (.ref a.m), .int code, (JV.str cst.T).av, .lst (((⟨vJ, (4, 0)⟩ : JP) :: ps).map fun p => p.v.av)] (AskQ (optAsk (textO code cst.T (vJ :: ps.map (·.v)))) H') (AskE (optAsk (textO code cst.T (vJ :: ps.map (·.v)))) a.th tl H') := by
    rw [List.map_cons, ← map_v]
    exact call_text_W (k := 0) (number := code) (l := vJ :: ps.map (·.v)) (L'.sys F) (by rcases hwc with ⟨_, rfl⟩ | ⟨_, rfl⟩ <;> simp) f (fun _ => ⟨v1.2.1, v1.2.2.1⟩)
  have ask := law_ask_W (w := w) (B := B) (k := 0) (cst := cst) F L' N ht (by rw [List.length_cons]; exact Nat.le_trans (Nat.succ_le_succ hps) (by decide)) hc
  have h0 : tells (pAt ps 0) 0 = wholeN (argAt (vJ :: ps.map (·.v)) 1) 0 := by rw [argAt_1, argAt_map]; exact (Sound.at hs 0).tells 0
  refine run_joinL ((sBody (st 153)).drop 8) (fun p : (AV × Slot) × (Int × AV) => [("low", .cv p.1.1), ("places", p.1.2), ("want", .lv (.tup [.int p.2.1, p.2.2]))]) (fun p => askR (optAsk (textO code cst.T (vJ :: ps.map (·.v)))) = .tup [.int p.2.1, p.2.2] ∧ EqV (.tup [.int p.2.1, p.2.2])) (fun p hp => ?_) fun hj => ?_
  · rw [hp.1] at ask
    refine q_list false (m := ?_)
    refine q_bin .Add (.lst [.tup [vJ.av, .tup [.int 4, .int 0]]]) (.lst (ps.map JP.av)) (h := BW_addL (by rw [List.length_map]; exact Nat.le_trans (Nat.add_le_add_left hps 1) (by decide)) ?_)
    refine run_call (.ref 929) [.val (.ref a.W), .int 4, .str word, .tup [.int 5, .str cst.T], .lst (((⟨vJ, (4, 0)⟩ : JP) :: ps).map JP.av)] H' ask W.hh (le_k W.k 12 12) (q := AskP.use fun H2 h => ?_) (qe := fun _ _ z => z.elim)
    refine q_eqv hp.2 (le_k W.k 8 12) (m := ?_)
    exact run_ret (.bool true) H2 (h := ⟨rfl, h.elim fun tl' h => ⟨ns', tl', hnl, h⟩⟩)
  · refine run_val (.ref 917) [.lst (ps.map JP.av), .int 0, .int 0] (optI (tells (pAt ps 0) 0)) H' (law_tells_W (k := 0) (Nat.le_trans hps (by decide)) (i := 0)) W.hh (le_k W.k 1 12) (m := ?_)
    refine q_stc W "low" (optI (tells (pAt ps 0) 0)) (m := ?_)
    rcases e0 : tells (pAt ps 0) 0 with _ | lo
    · rw [e0] at h0
      refine q_cmp .Is .none .none (h := BW_isNoneN ?_)
      refine run_b true (m := ?_)
      exact hj ((.none, .un), -1, .int 0) ⟨by rcases hwc with ⟨_, rfl⟩ | ⟨_, rfl⟩ <;> (show askR (optAsk (Option.map _ (wholeN (argAt (vJ :: ps.map (·.v)) 1) 0))) = _; rw [← h0]; rfl), EqV.two⟩ _ (by kernel_rfl)
    · rw [e0] at h0
      refine q_cmp .Is (.int lo) .none (h := BW_isNoneI ?_)
      refine run_b false (m := ?_)
      have hNm : ((cst.T.length : Int) - vJ.txt.length + 1).toNat = cst.T.length + 1 - vJ.txt.length := by omega
      have T8 := hT.len
      have hv8 := v1.2.2.2
      refine q_acomp (m := ?_)
      refine run_len vJ.txt (le_n hv8 _) (m := ?_)
      refine q_rng ((cst.T.length : Int) - vJ.txt.length + 1) (m := ?_)
      refine run_z (.v (.rng ((cst.T.length : Int) - vJ.txt.length + 1))) H' (h := comp_p ((cst.T.length : Int) - vJ.txt.length + 1).toNat _ (fun i => (plL cst.T lo vJ.txt i).map (fun p : Nat => AV.int p)) (by omega) (ItW_rngI _ W.hh (by omega)) rfl (st := fun i hi c' e1 e2 => ?_) (fin := ?_))
      · refine q_call (.builtin "min") [.int lo, .int cst.T.length] H' (h := VW_min (e1.trans W.hh) ?_)
        refine run_if ((↑i : Int) ≥ if (↑(Str.length cst.T) : Int) < lo then (↑(Str.length cst.T) : Int) else lo) (h1 := fun b1 => ?_) (h2 := fun b1 => ?_)
        · refine run_len vJ.txt (le_n hv8 _) (m := ?_)
          refine q_sl (.str cst.T) (.int i) (.int (i + vJ.txt.length : Nat)) (h := SlW_pc (le_n hT.len _) ?_)
          refine run_t (pieceAt cst.T i (Str.length (JV.txt vJ)) == JV.txt vJ) (h1 := fun b2 => ?_) (h2 := fun b2 => ?_)
          · refine run_z (.t true) H' (h := cz_t ?_)
            exact run_z (.v (.int i)) H' (h := cz_v (pl_t (by rw [plP, decide_eq_true b1, b2]; rfl)))
          · exact run_z (.t false) H' (h := cz_f (pl_f (by rw [plP, decide_eq_true b1, b2]; rfl)))
        · exact run_z (.t false) H' (h := cz_f (pl_f (by rw [plP, decide_eq_false b1]; rfl)))
      · dsimp only
        rw [hNm]
        have hx := idx_pl (T := cst.T) (v := vJ) (l := ps.map (·.v)) (lo := lo)
        rcases eX : plL cst.T lo vJ.txt (cst.T.length + 1 - vJ.txt.length) with _ | ⟨p0, r⟩
        · rw [eX] at hx
          refine q_list false (m := ?_)
          refine q_cmp .NotEq (.lst []) (.lst []) (h := BW_neNil (le_k W.k 8 12) ?_)
          refine run_b false (m := ?_)
          rcases hwc with ⟨rfl, rfl⟩ | ⟨rfl, rfl⟩
          · refine run_b false (m := ?_)
            exact hj ((.int lo, .lv (.lst [])), 3, .int (-1)) ⟨by show askR (optAsk (Option.map _ (wholeN (argAt (vJ :: ps.map (·.v)) 1) 0))) = _; rw [← h0]; show AV.tup [.int 3, .int (idx _ _ _)] = _; rw [hx]; rfl, EqV.two⟩ _ (by kernel_rfl)
          · refine run_b true (m := ?_)
            refine q_list false (m := ?_)
            refine q_cmp .NotEq (.lst []) (.lst []) (h := BW_neNil (le_k W.k 8 12) ?_)
            refine run_b false (m := ?_)
            exact hj ((.int lo, .lv (.lst [])), 2, .int 0) ⟨by show askR (optAsk (Option.map _ (wholeN (argAt (vJ :: ps.map (·.v)) 1) 0))) = _; rw [← h0]; show AV.tup [.int 2, .int (if idx _ _ _ ≥ 0 then 1 else 0)] = _; rw [hx]; rfl, EqV.two⟩ _ (by kernel_rfl)
        · rw [eX] at hx
          refine q_list false (m := ?_)
          refine q_cmp .NotEq (.lst ((p0 :: r).map fun p : Nat => AV.int p)) (.lst []) (h := BW_neN (le_k W.k 8 12) ?_)
          refine run_b true (m := ?_)
          refine q_itL 0 (m := ?_)
          rcases hwc with ⟨rfl, rfl⟩ | ⟨rfl, rfl⟩
          · refine run_b false (m := ?_)
            exact hj ((.int lo, .lv (.lst ((p0 :: r).map fun p : Nat => AV.int p))), 3, .int p0) ⟨by show askR (optAsk (Option.map _ (wholeN (argAt (vJ :: ps.map (·.v)) 1) 0))) = _; rw [← h0]; show AV.tup [.int 3, .int (idx _ _ _)] = _; rw [hx]; rfl, EqV.two⟩ _ (by kernel_rfl)
          · refine run_b true (m := ?_)
            refine q_list false (m := ?_)
            refine q_cmp .NotEq (.lst ((p0 :: r).map fun p : Nat => AV.int p)) (.lst []) (h := BW_neN (le_k W.k 8 12) ?_)
            refine run_b true (m := ?_)
            exact hj ((.int lo, .lv (.lst ((p0 :: r).map fun p : Nat => AV.int p))), 2, .int 1) ⟨by show askR (optAsk (Option.map _ (wholeN (argAt (vJ :: ps.map (·.v)) 1) 0))) = _; rw [← h0]; show AV.tup [.int 2, .int (if idx _ _ _ ≥ 0 then 1 else 0)] = _; rw [hx, show headI (p0 :: r) = p0 from rfl, if_pos (show (p0 : Int) ≥ 0 from Int.natCast_nonneg p0)], EqV.two⟩ _ (by kernel_rfl)
theorem law_found_W {k : Nat} {a : SysD} {cst : LawC} {fix H : HS} {tl0 tl : List AV} {ns : List Int} {ps : List JP} {word : Str} {code : Int} (hwc : (word = "indexOf" ∧ code = 202) ∨ (word = "includes" ∧ code = 203)) (F : SysF a fix) (L : LSt a cst fix tl0 (ns.map .int) tl H) (hns : ns.length ≤ 1000) (N : NatA a fix tl0 4 word code) (ht : tl.length ≤ 800) (hps : ps.length ≤ 900) (hs : ∀ p ∈ ps, Sound p) (hT : Txt1 cst.T) :
    CW w B (k + 13) H (.ref 960) [.val (.ref a.W), .str word, .lst (ps.map JP.av)] (fun r H' => r = .bool true ∧ LStN a cst fix tl0 tl ns H') (fun _ _ => False) := by
  refine CW_go (st 153) "_law_found" .none "law_xw0126_01" 1511 959 (h := fun c W => ?_)
  refine q_gSF H "text" L.W (mem_nth 4 rfl) (m := ?_)
  refine q_stc W "text" (.str cst.T) (m := ?_)
  refine run_len cst.T (le_n hT.len _) (m := ?_)
  refine q_stc W "size" (.int cst.T.length) (m := ?_)
  refine run_call (.ref 882) [.val (.ref a.W), .int 1000] H (law_pull_W (k := 0) F L (by decide) hns) W.hh (le_k W.k 1 12) (q := PullR.use fun q ns' H' hq hnl L' => ?_) (qe := fun _ _ z => z.elim)
  refine q_bin .FloorDiv (.int q) (.int (6 : Nat)) (h := BW_divN (by decide) (by decide) ?_)
  refine q_bin .Mod (.int (q / 6 : Nat)) (.int (cst.T.length + 1 : Nat)) (h := BW_modN (Nat.succ_pos _) (Nat.lt_of_le_of_lt (Nat.succ_le_succ hT.len) (by decide)) ?_)
  refine q_bin .FloorDiv (.int q) (.int (60 : Nat)) (h := BW_divN (by decide) (by decide) ?_)
  refine q_bin .Mod (.int (q / 60 + 1 : Nat)) (.int (3 : Nat)) (h := BW_modN (by decide) (by decide) ?_)
  refine q_sl (.str cst.T) (.int (q / 6 % (cst.T.length + 1) : Nat)) (.int (q / 6 % (cst.T.length + 1) + (q / 60 + 1) % 3 : Nat)) (h := SlW_pc (le_n hT.len _) ?_)
  have hpl : (pieceAt cst.T (q / 6 % (cst.T.length + 1)) ((q / 60 + 1) % 3)).length ≤ 8 := pc_len hT.len
  refine q_unp W.hh (m := ?_)
  refine q_bin .Mod (.int q) (.int (6 : Nat)) (h := BW_modN (by decide) (by decide) ?_)
  refine q_call (.builtin "max") [.int 0, .int (((q % 6 : Nat) : Int) - 3)] H' (h := VW_max W.hh ?_)
  refine (max_m q).elim fun m hm => ?_
  rw [hm.2]
  refine q_sub _ (.int m) H' (h := fun _ _ hz => BW_itemT (Int.natCast_nonneg m) (Int.ofNat_lt.mpr (Nat.lt_trans hm.1 (by decide))) (sought_item (m := m) (pieceAt cst.T (q / 6 % (cst.T.length + 1)) ((q / 60 + 1) % 3)) hm.1) ?_ hz)
  have v1 := sought_facts (pieceAt cst.T (q / 6 % (cst.T.length + 1)) ((q / 60 + 1) % 3)) m hpl
  generalize soughtV (pieceAt cst.T (q / 6 % (cst.T.length + 1)) ((q / 60 + 1) % 3)) m = vJ at v1 ⊢
  refine q_awc W "sought" (.str vJ.txt) (m := ?_)
  exact run_cut ⟨.ss ((sBody (st 153)).drop 6), [], putS [("text", .cv (.str cst.T)), ("size", .cv (.int cst.T.length)), ("q", .lv (.int q)), ("start", .lv (.int (q / 6 % (cst.T.length + 1) : Nat))), ("piece", .lv (.str (pieceAt cst.T (q / 6 % (cst.T.length + 1)) ((q / 60 + 1) % 3)))), ("v", .lv vJ.av), ("sought", .cv (.str vJ.txt))] (locOf (st 153) [.val (.ref a.W), .str word, .lst (ps.map JP.av)]), H'⟩ (m := law_found_2 W hwc F L' hnl N ht hps hs hT v1)
end Mine
namespace Mine
variable {w : World} {B : Heap}
theorem valF_snoc {b : Nat} {ds : List Nat} {d : Nat} : valF b (ds ++ [d]) 0 = valF b ds 0 * b + d := by unfold valF; rw [List.foldl_append]; rfl
theorem letD_get (wide : Bool) : ∀ d, d < 16 → (ls (if wide then "0123456789ABCDEF" else "0123456789abcdef" : Str))[d]? = some (letD wide d) := by
  cases wide <;> decide +kernel
noncomputable def DigR (q base count : Nat) (wb : Bool) (H : HS) : AV → HS → Prop := RetF (fun ds : List Nat => ds.length = count ∧ ∀ d ∈ ds, d < base) (fun ds => .tup [.str (mkS (ds.map (letD wb))), .int (valF base ds 0)]) H
theorem valF_int {b : Nat} {ds : List Nat} {d : Nat} : ((valF b ds 0 : Nat) : Int) * b + d = ((valF b (ds ++ [d]) 0 : Nat) : Int) := by rw [valF_snoc]; push_cast; rfl
noncomputable def sgs (wb : Bool) : Str := if wb then "0123456789ABCDEF" else "0123456789abcdef"
theorem law_digits_W {k : Nat} {H : HS} {q base count : Nat} {wide : Int} (hb : 2 ≤ base ∧ base ≤ 16) (hc : count ≤ 20) : CW w B (k + 1) H (.ref 889) [.int q, .int base, .int count, .int wide] (DigR q base count (wide == 1) H) (fun _ _ => False) := by
  have hb0 : 0 < base := Nat.lt_of_lt_of_le Nat.two_pos hb.1
  have hb64 : base < 2 ^ 64 := Nat.lt_of_le_of_lt hb.2 (by decide)
  have hbI : -(2 ^ 64) < (base : Int) ∧ (base : Int) < 2 ^ 64 := ⟨Int.lt_of_lt_of_le (by decide) (Int.natCast_nonneg base), Int.ofNat_lt.mpr hb64⟩
  refine CW_go (st 142) "_law_digits" .none "law_xw0126_01" 1511 888 (h := fun c W => ?_)
  refine run_join 2 (fun s : Str => [("signs", .lv (.str s))]) (fun s => s = sgs (wide == 1)) (fun s hs => ?_) fun hj => ?_
  · subst hs
    have hsg := letD_get (wide == 1)
    generalize (wide == 1) = wb at hsg ⊢
    refine q_for (m := ?_)
    refine q_rng count (m := ?_)
    refine run_z (.v (.rng count)) H (h := ?_)
    refine for_rngU W.hh "place" ["place", "digit"] (fun p : Nat × List Nat => [("q", .int p.1), ("said", .str (mkS (p.2.map (letD wb)))), ("n", .int (valF base p.2 0))]) (fun i p => p.2.length = i ∧ ∀ d ∈ p.2, d < base) (q, []) (o0 := ⟨rfl, fun _ h => nomatch h⟩) (hn := le_n hc _) (st := fun i p hi hp c' e1 e2 => ?_) (fin := fun p hp => ?_)
    · have hdl := Nat.mod_lt (p.1 + i + 1) hb0
      have hil : i ≤ 20 := Nat.le_of_lt (Nat.lt_of_lt_of_le hi hc)
      refine q_bin .Mod (.int (p.1 + i + 1 : Nat)) (.int base) (h := BW_modN hb0 hb64 ?_)
      refine q_bin .FloorDiv (.int p.1) (.int base) (h := BW_divN hb0 hb64 ?_)
      refine q_sub (.str (sgs wb)) (.int ((p.1 + i + 1) % base : Nat)) H (h := SubA_ch (by cases wb <;> decide +kernel) (hsg _ (Nat.lt_of_lt_of_le hdl hb.2)) ?_)
      refine q_aug .Add (.str (mkS (p.2.map (letD wb)))) (.str ⟨#[letD wb ((p.1 + i + 1) % base)]⟩) (h := BW_iaddS (by rw [len_ls, len_ls, ls_mkS, List.length_map, hp.1]; exact Nat.le_trans (Nat.add_le_add_right hil 1) (by decide)) ?_)
      refine q_bin .Mult (.int (valF base p.2 0 : Nat)) (.int base) (h := BW_mul hbI ?_)
      refine run_z (.f .next) H (h := nx_of (p.1 / base, p.2 ++ [(p.1 + i + 1) % base]) ⟨by rw [List.length_append, hp.1]; rfl, fun d hd => (List.mem_append.mp hd).elim (hp.2 d) fun h => List.mem_singleton.mp h ▸ hdl⟩ ?_)
      delta Us St.up; dsimp only; rw [← valF_int, List.map_append, List.map_cons, List.map_nil, ← mk_app]; kernel_rfl
    · exact run_ret (.tup [.str (mkS (p.2.map (letD wb))), .int (valF base p.2 0)]) H (h := RetF.mk' p.2 hp)
  · refine run_t (wide == (1 : Int)) (h1 := fun h => ?_) (h2 := fun h => ?_)
    · exact hj "0123456789ABCDEF" (by rw [h]; rfl) _ (by kernel_rfl)
    · exact hj "0123456789abcdef" (by rw [h]; rfl) _ (by kernel_rfl)
theorem rows_get : ∀ i, i < 7 → ∃ (pre : List Nat) (base wr : Nat), Row pre base wr ∧ pre.length ≤ 2 ∧ [AV.tup [.str "0B", .int 2, .str "2"], .tup [.str "", .int 10, .str "a"], .tup [.str "0O", .int 8, .str "8"], .tup [.str "0x", .int 16, .str "g"], .tup [.str "0b", .int 2, .str "3"], .tup [.str "0o", .int 8, .str "9"], .tup [.str "0X", .int 16, .str "G"]][i]? = some (.tup [.str (mkS pre), .int base, .str (mkS [wr])]) := by
  have e : ∀ (i : Nat) (a b : Str) (base : Nat) (l : List AV) (pre : List Nat) (wr : Nat), a = mkS pre → b = mkS [wr] → l[i]? = some (.tup [.str a, .int base, .str b]) → l[i]? = some (.tup [.str (mkS pre), .int base, .str (mkS [wr])]) := fun i a b base l pre wr h1 h2 h => by rw [← h1, ← h2]; exact h
  intro i h
  rcases i with _ | _ | _ | _ | _ | _ | _ | i
  · exact ⟨[48, 66], 2, 50, .pre (by decide), by decide, e _ "0B" "2" 2 _ _ _ (by decide +kernel) (by decide +kernel) rfl⟩
  · exact ⟨[], 10, 97, .plain, by decide, e _ "" "a" 10 _ _ _ (by decide +kernel) (by decide +kernel) rfl⟩
  · exact ⟨[48, 79], 8, 56, .pre (by decide), by decide, e _ "0O" "8" 8 _ _ _ (by decide +kernel) (by decide +kernel) rfl⟩
  · exact ⟨[48, 120], 16, 103, .pre (by decide), by decide, e _ "0x" "g" 16 _ _ _ (by decide +kernel) (by decide +kernel) rfl⟩
  · exact ⟨[48, 98], 2, 51, .pre (by decide), by decide, e _ "0b" "3" 2 _ _ _ (by decide +kernel) (by decide +kernel) rfl⟩
  · exact ⟨[48, 111], 8, 57, .pre (by decide), by decide, e _ "0o" "9" 8 _ _ _ (by decide +kernel) (by decide +kernel) rfl⟩
  · exact ⟨[48, 88], 16, 71, .pre (by decide), by decide, e _ "0X" "G" 16 _ _ _ (by decide +kernel) (by decide +kernel) rfl⟩
  · exact absurd h (Nat.not_lt.mpr (Nat.le_add_left 7 i))
theorem counts_get : ∀ i, i < 6 → ∃ n : Nat, n ≤ 17 ∧ [AV.int 2, .int 1, .int 0, .int 3, .int 5, .int 17][i]? = some (.int n) := by
  intro i h
  rcases i with _ | _ | _ | _ | _ | _ | i
  · exact ⟨2, by decide, rfl⟩
  · exact ⟨1, by decide, rfl⟩
  · exact ⟨0, by decide, rfl⟩
  · exact ⟨3, by decide, rfl⟩
  · exact ⟨5, by decide, rfl⟩
  · exact ⟨17, by decide, rfl⟩
  · exact absurd h (Nat.not_lt.mpr (Nat.le_add_left 6 i))
theorem strs_get {P : List Nat → Prop} {l : List AV} (xs : List (List Nat)) (hP : ∀ x ∈ xs, P x) (e : l = xs.map fun x => .str (mkS x)) {i : Nat} (h : i < l.length) : ∃ x, P x ∧ l[i]? = some (.str (mkS x)) := by
  subst e
  rw [List.length_map] at h
  exact ⟨xs[i], hP _ (List.getElem_mem h), by rw [List.getElem?_map, List.getElem?_eq_getElem h]; rfl⟩
theorem signs_get {i : Nat} (h : i < 4) : ∃ x, (x = [] ∨ x = [45] ∨ x = [43]) ∧ [AV.str "", .str "", .str "-", .str "+"][i]? = some (.str (mkS x)) :=
  strs_get [[], [], [45], [43]] (by decide) (by rw [show ("" : Str) = mkS [] by decide +kernel, show ("-" : Str) = mkS [45] by decide +kernel, show ("+" : Str) = mkS [43] by decide +kernel]; rfl) h
theorem trails_get {i : Nat} (h : i < 8) : ∃ x, x ∈ trailsL ∧ [AV.str "", .str "", .str "", .str ".", .str ".5", .str "e+1", .str "E-1", .str "_1"][i]? = some (.str (mkS x)) :=
  strs_get [[], [], [], [46], [46, 53], [101, 43, 49], [69, 45, 49], [95, 49]] (by decide) (by rw [show ("" : Str) = mkS [] by decide +kernel, show ("." : Str) = mkS [46] by decide +kernel, show (".5" : Str) = mkS [46, 53] by decide +kernel, show ("e+1" : Str) = mkS [101, 43, 49] by decide +kernel, show ("E-1" : Str) = mkS [69, 45, 49] by decide +kernel, show ("_1" : Str) = mkS [95, 49] by decide +kernel]; rfl) h
noncomputable def Blk (x : List Nat) : Prop := (∀ ch ∈ x, isBl ch = true) ∧ x.length ≤ 2
theorem blanks_get {i : Nat} (h : i < 4) : ∃ x, Blk x ∧ [AV.str "", .str " ", .str "\u00a0", .str "\n\t"][i]? = some (.str (mkS x)) :=
  strs_get [[], [32], [160], [10, 9]] (by unfold Blk; decide +kernel) (by rw [show ("" : Str) = mkS [] by decide +kernel, show (" " : Str) = mkS [32] by decide +kernel, show ("\u00a0" : Str) = mkS [160] by decide +kernel, show ("\n\t" : Str) = mkS [10, 9] by decide +kernel]; rfl) h
end Mine
namespace Mine
variable {w : World} {B : Heap}
theorem mk_beq (l m : List Nat) : (mkS l == mkS m) = decide (l = m) := by
  by_cases h : l = m
  · subst h; simp
  · rw [decide_eq_false h]; exact beq_false_of_ne fun e => h (congrArg ls e)
theorem mk_app2 (l m : List Nat) : mkS l ++ mkS m = mkS (l ++ m) := str_ext (by rw [ls_append])
theorem mk_len (l : List Nat) : (mkS l).length = l.length := len_ls _
theorem saidB_len {bad wr : Nat} {L : List Nat} : (saidB bad wr L).length ≤ L.length + 1 := by
  unfold saidB; repeat' split
  all_goals simp
noncomputable def wB (A B C D E F G X Y Z : Bool) (n : Int) : Int × Int :=
  if A = true then (4, 0) else if B = true then (4, 0) else if C = true then (if D = true then (if E = true then (if F = true then (3, n) else (4, 0)) else (4, 0)) else (4, 0))
    else if G = true then (if X = true then (-1, 0) else if F = true then (-1, 0) else (4, 0)) else if Y = true then (if D = true then (3, 0) else (4, 0)) else (3, if Z = true then 0 - n else n)
theorem worth_B (pre sg trail : List Nat) (count bad : Nat) (n : Int) : worthV pre sg trail count bad n = wB (decide ((bad : Int) > 3)) (mkS trail == "_1") (mkS pre != "") (mkS sg == "") (mkS trail == "") (decide ((count : Int) > 0)) (mkS trail != "") (mkS trail == ".5") ((count : Int) == 0) (mkS sg == "-") n := by
  have e1 : ("_1" : Str) = mkS [95, 49] := by decide +kernel
  have e2 : ("" : Str) = mkS [] := by decide +kernel
  have e3 : (".5" : Str) = mkS [46, 53] := by decide +kernel
  have e4 : ("-" : Str) = mkS [45] := by decide +kernel
  have h1 : decide ((bad : Int) > 3) = decide (bad > 3) := decide_eq_decide.mpr (by omega)
  have h2 : decide ((count : Int) > 0) = decide (count > 0) := decide_eq_decide.mpr (by omega)
  have h3 : ((count : Int) == 0) = decide (count = 0) := nat_beq count 0
  have hb : ∀ l m : List Nat, (mkS l != mkS m) = decide (l ≠ m) := fun l m => by rw [bne, mk_beq]; simp
  rw [e1, e2, e3, e4, h1, h2, h3, mk_beq, mk_beq, mk_beq, mk_beq, mk_beq, hb, hb]
  unfold worthV wB
  simp only [decide_eq_true_eq]
  repeat' split
  all_goals first | rfl | (exfalso; simp_all; done) | (simp_all; done) | (exfalso; simp_all; omega)
theorem q_modL {c : Ctx w B} {E : QE} {Z : Rt → St → Prop} {k : Cf} (a b : Nat) (hb : autoParam ((Nat.blt 0 b && Nat.blt b 1000000) = true) rr) (e : autoParam (k.c = .b2 (.bin .Mod) (.int a) (.int b)) kr) (m : Me c E Z (go (k.ret (.int ((a % b : Nat) : Int))))) : Me c E Z k :=
  q_bin .Mod (.int a) (.int b) e (BW_modN (Nat.le_of_ble_eq_true (Bool.and_eq_true_iff.mp hb).1) (Nat.lt_trans (Nat.le_of_ble_eq_true (Bool.and_eq_true_iff.mp hb).2) (by decide)) m)
theorem q_divL {c : Ctx w B} {E : QE} {Z : Rt → St → Prop} {k : Cf} (a b : Nat) (hb : autoParam ((Nat.blt 0 b && Nat.blt b 1000000) = true) rr) (e : autoParam (k.c = .b2 (.bin .FloorDiv) (.int a) (.int b)) kr) (m : Me c E Z (go (k.ret (.int ((a / b : Nat) : Int))))) : Me c E Z k :=
  q_bin .FloorDiv (.int a) (.int b) e (BW_divN (Nat.le_of_ble_eq_true (Bool.and_eq_true_iff.mp hb).1) (Nat.lt_trans (Nat.le_of_ble_eq_true (Bool.and_eq_true_iff.mp hb).2) (by decide)) m)
theorem q_row {c : Ctx w B} {E : QE} {Z : Rt → St → Prop} {k : Cf} (l : List AV) {i : Nat} (n : Nat) {a : AV} (eg : l[i]? = some a) (hi : i < n) (hn : autoParam (Nat.ble n 1000 = true) rr) (e : autoParam (k.c = .sub (.tup l) (.int i)) kr) (m : Me c E Z (go (k.ret a))) : Me c E Z k :=
  Me_of e fun v s hs => BW_itemT (σ := k.σ) (Int.natCast_nonneg i) (Int.ofNat_lt.mpr (Nat.lt_of_lt_of_le hi (Nat.le_trans (Nat.le_of_ble_eq_true hn) (by decide)) : i < 2 ^ 62)) (by rw [Int.toNat_natCast]; exact eg) (go_ok m) hs
theorem q_addL {c : Ctx w B} {E : QE} {Z : Rt → St → Prop} {k : Cf} (a b : List Nat) {m n : Nat} (h1 : a.length ≤ m) (h2 : b.length ≤ n) (h : autoParam (Nat.ble (m + n) 100000 = true) rr) (e : autoParam (k.c = .b2 (.bin .Add) (.str (mkS a)) (.str (mkS b))) kr) (mm : Me c E Z (go (k.ret (.str (mkS (a ++ b)))))) : Me c E Z k :=
  q_bin .Add _ _ e (BW_addS (by rw [mk_len, mk_len]; exact Nat.le_trans (Nat.add_le_add h1 h2) (Nat.le_of_ble_eq_true h)) (mk_app2 a b ▸ mm))
theorem q_augL {c : Ctx w B} {E : QE} {Z : Rt → St → Prop} {k : Cf} (a b : List Nat) {m n : Nat} (h1 : a.length ≤ m) (h2 : b.length ≤ n) (h : autoParam (Nat.ble (m + n) 100000 = true) rr) (e : autoParam (k.c = .b2 (.aug .Add) (.str (mkS a)) (.str (mkS b))) kr) (mm : Me c E Z (go (k.ret (.str (mkS (a ++ b)))))) : Me c E Z k :=
  q_aug .Add _ _ e (BW_iaddS (by rw [mk_len, mk_len]; exact Nat.le_trans (Nat.add_le_add h1 h2) (Nat.le_of_ble_eq_true h)) (mk_app2 a b ▸ mm))
theorem app_le {a b : List Nat} {m n : Nat} (h1 : a.length ≤ m) (h2 : b.length ≤ n) : (a ++ b).length ≤ m + n := by rw [List.length_append]; exact Nat.add_le_add h1 h2
noncomputable abbrev WB (pre sg trail : List Nat) (count bad n : Nat) : Int × Int := wB (decide ((bad : Int) > 3)) (mkS trail == "_1") (mkS pre != "") (mkS sg == "") (mkS trail == "") (decide ((count : Int) > 0)) (mkS trail != "") (mkS trail == ".5") ((count : Int) == 0) (mkS sg == "-") n
noncomputable def WordR (H : HS) : AV → HS → Prop := RetF (fun p : Str × Int × Int => Sound ⟨.str p.1, p.2⟩) (fun p => .tup [.str p.1, .tup [.int p.2.1, .int p.2.2]]) H
noncomputable abbrev wdL (q swing : Nat) (pre : List Nat) (base wr count : Nat) (sg trail said : List Nat) (n bad : Nat) : Loc := putS [("prefix", .lv (.str (mkS pre))), ("base", .lv (.int base)), ("wrong", .lv (.str (mkS [wr]))), ("count", .lv (.int count)), ("sign", .lv (.str (mkS sg))), ("trail", .lv (.str (mkS trail))), ("blanks", .lv (.tup [.str "", .str " ", .str "\u00a0", .str "\n\t"])), ("said", .lv (.str (mkS said))), ("n", .lv (.int n)), ("bad", .lv (.int bad))] (locOf (st 143) [.int q, .int swing])
theorem law_word_W {k : Nat} {H : HS} {q swing : Nat} (hq : q < 10 ^ 16) : CW w B (k + 2) H (.ref 896) [.int q, .int swing] (WordR H) (fun _ _ => False) := by
  obtain ⟨pre, base, wr, hrow, hprl, erow⟩ := rows_get _ (Nat.mod_lt (q + swing) (show 0 < 7 by decide))
  obtain ⟨count, hc, ec⟩ := counts_get _ (Nat.mod_lt (q / 7) (show 0 < 6 by decide))
  obtain ⟨sg, hs, es⟩ := signs_get (Nat.mod_lt (q / 42) (show 0 < 4 by decide))
  obtain ⟨trail, ht, et⟩ := trails_get (Nat.mod_lt (q / 168) (show 0 < 8 by decide))
  obtain ⟨bl, hbl, ebl⟩ := blanks_get (Nat.mod_lt (q / 1344) (show 0 < 4 by decide))
  obtain ⟨br, hbr, ebr⟩ := blanks_get (Nat.mod_lt (q / 5376) (show 0 < 4 by decide))
  have hb16 : 2 ≤ base ∧ base ≤ 16 := by
    have := (row_wrong hrow).2.2.2
    simp only [List.mem_cons, List.not_mem_nil, or_false] at this
    omega
  refine CW_go (st 143) "_law_word" .none "law_xw0126_01" 1511 895 (h := fun c W => ?_)
  refine q_unp W.hh (m := ?_)
  refine q_modL (q + swing) 7 (m := ?_)
  refine q_row _ 7 erow (Nat.mod_lt _ (by decide)) (m := ?_)
  refine q_divL q 7 (m := ?_)
  refine q_modL (q / 7) 6 (m := ?_)
  refine q_row _ 6 ec (Nat.mod_lt _ (by decide)) (m := ?_)
  refine q_divL q 42 (m := ?_)
  refine q_modL (q / 42) 4 (m := ?_)
  refine q_row _ 4 es (Nat.mod_lt _ (by decide)) (m := ?_)
  refine q_divL q 168 (m := ?_)
  refine q_modL (q / 168) 8 (m := ?_)
  refine q_row _ 8 et (Nat.mod_lt _ (by decide)) (m := ?_)
  refine q_unp W.hh (m := ?_)
  refine q_divL q 258048 (m := ?_)
  refine q_divL q 21504 (m := ?_)
  refine q_modL (q / 21504) 2 (m := ?_)
  refine run_fn (.ref 889) [.int ((q / 258048 : Nat) : Int), .int base, .int count, .int ((q / 21504 % 2 : Nat) : Int)] H (law_digits_W (k := 0) hb16 (le_n hc 20)) W.hh (le_k W.k 1 1) (q := fun ds hds => ?_) (qe := fun _ _ z => z.elim)
  refine q_divL q 43008 (m := ?_)
  refine q_modL (q / 43008) 6 (m := ?_)
  refine run_cut ⟨.ss ((sBody (st 143)).drop 7), [], wdL q swing pre base wr count sg trail (ds.map (letD (((q / 21504 % 2 : Nat) : Int) == 1))) (valF base ds 0) (q / 43008 % 6), H⟩ (m := ?_)
  have hbad : q / 43008 % 6 < 6 := Nat.mod_lt _ (by decide)
  have hfit := word_fits (bl := bl) (br := br) (wide := ((q / 21504 % 2 : Nat) : Int) == 1) hrow hs ht hbad hds.2 hbl.1 hbr.1
  have hLl : (ds.map (letD (((q / 21504 % 2 : Nat) : Int) == 1))).length ≤ 17 := by rw [List.length_map, hds.1]; exact hc
  rw [hds.1] at hfit
  generalize q / 43008 % 6 = bad at hbad hfit ⊢
  generalize ds.map (letD (((q / 21504 % 2 : Nat) : Int) == 1)) = L at hLl hfit ⊢
  generalize valF base ds 0 = n at hfit ⊢
  refine run_joinA (fun s : List Nat => ⟨.ss ((sBody (st 143)).drop 9), [], wdL q swing pre base wr count sg trail s n bad, H⟩) (fun s => s = saidB bad wr L) (fun s hsS => ?_) fun hj => ?_
  · rw [← hsS] at hfit
    have hsl : s.length ≤ 18 := hsS ▸ Nat.le_trans saidB_len (Nat.succ_le_succ hLl)
    clear hsS
    have hsgl : sg.length ≤ 1 := by rcases hs with rfl | rfl | rfl <;> decide
    have htl : trail.length ≤ 3 := (show ∀ t ∈ trailsL, t.length ≤ 3 by decide) _ ht
    have l1 := app_le hbl.2 hsgl
    have l2 := app_le l1 hprl
    have l3 := app_le l2 hsl
    have l4 := app_le l3 htl
    refine q_divL q 1344 (m := ?_)
    refine q_modL (q / 1344) 4 (m := ?_)
    refine q_row _ 4 ebl (Nat.mod_lt _ (by decide)) (m := ?_)
    refine q_addL bl sg hbl.2 hsgl (mm := ?_)
    refine q_addL (bl ++ sg) pre l1 hprl (mm := ?_)
    refine q_addL (bl ++ sg ++ pre) s l2 hsl (mm := ?_)
    refine q_addL (bl ++ sg ++ pre ++ s) trail l3 htl (mm := ?_)
    refine q_divL q 5376 (m := ?_)
    refine q_modL (q / 5376) 4 (m := ?_)
    refine q_row _ 4 ebr (Nat.mod_lt _ (by decide)) (m := ?_)
    refine q_addL (bl ++ sg ++ pre ++ s ++ trail) br l4 hbr.2 (mm := ?_)
    have l5 : (mkS (bl ++ sg ++ pre ++ s ++ trail ++ br)).length ≤ 10000 := by rw [mk_len]; exact Nat.le_trans (app_le l4 hbr.2) (by decide)
    rw [show bl ++ (sg ++ (pre ++ (s ++ trail))) ++ br = bl ++ sg ++ pre ++ s ++ trail ++ br by simp only [List.append_assoc]] at hfit
    refine run_cut ⟨.ss ((sBody (st 143)).drop 10), [], putS [("text", .lv (.str (mkS (bl ++ sg ++ pre ++ s ++ trail ++ br))))] (wdL q swing pre base wr count sg trail s n bad), H⟩ (m := ?_)
    generalize mkS (bl ++ sg ++ pre ++ s ++ trail ++ br) = tx at l5 hfit ⊢
    refine run_joinA (fun v : Int × Int => ⟨.ss ((sBody (st 143)).drop 11), [], putS [("text", .lv (.str tx)), ("worth", .lv (.tup [.int v.1, .int v.2]))] (wdL q swing pre base wr count sg trail s n bad), H⟩) (fun v => v = WB pre sg trail count bad n) (fun v hv => ?_) fun hj => ?_
    · have hg : worthW pre sg trail count bad n = if decide ((n : Int) > 9007199254740991) = true ∧ (v.1 == 3) = true then (-1, 0) else v := by
        rw [worthW, worth_B, hv, capW]
        simp only [decide_eq_true_eq, beq_iff_eq]
      rw [hg] at hfit
      clear hg hv
      refine run_t (decide ((n : Int) > 9007199254740991)) (h1 := fun b1 => ?_) (h2 := fun b1 => ?_)
      · refine q_it 0 (m := ?_)
        refine run_t (v.1 == (3 : Int)) (h1 := fun b2 => ?_) (h2 := fun b2 => ?_)
        · exact run_ret (.tup [.str tx, .tup [.int (-1), .int 0]]) H (h := RetF.mk' (tx, (-1, 0)) ⟨l5, by rw [b1, b2] at hfit; exact hfit⟩)
        · exact run_ret (.tup [.str tx, .tup [.int v.1, .int v.2]]) H (h := RetF.mk' (tx, v) ⟨l5, by rw [b1, b2] at hfit; exact hfit⟩)
      · exact run_ret (.tup [.str tx, .tup [.int v.1, .int v.2]]) H (h := RetF.mk' (tx, v) ⟨l5, by rw [b1] at hfit; exact hfit⟩)
    · skip
      refine run_t (decide ((bad : Int) > 3)) (h1 := fun bA => ?_) (h2 := fun bA => ?_)
      · exact hj (4, 0) (by rw [WB, bA]; rfl) _ (by kernel_rfl)
      · refine run_t (mkS trail == "_1") (h1 := fun bB => ?_) (h2 := fun bB => ?_)
        · exact hj (4, 0) (by rw [WB, bA, bB]; rfl) _ (by kernel_rfl)
        · refine run_t (mkS pre != "") (h1 := fun bC => ?_) (h2 := fun bC => ?_)
          · refine run_t (mkS sg == "") (h1 := fun bD => ?_) (h2 := fun bD => ?_)
            · refine run_t (mkS trail == "") (h1 := fun bE => ?_) (h2 := fun bE => ?_)
              · refine run_t (decide ((count : Int) > 0)) (h1 := fun bF => ?_) (h2 := fun bF => ?_)
                · exact hj (3, n) (by rw [WB, bA, bB, bC, bD, bE, bF]; rfl) _ (by kernel_rfl)
                · exact hj (4, 0) (by rw [WB, bA, bB, bC, bD, bE, bF]; rfl) _ (by kernel_rfl)
              · exact hj (4, 0) (by rw [WB, bA, bB, bC, bD, bE]; rfl) _ (by kernel_rfl)
            · exact hj (4, 0) (by rw [WB, bA, bB, bC, bD]; rfl) _ (by kernel_rfl)
          · refine run_t (mkS trail != "") (h1 := fun bG => ?_) (h2 := fun bG => ?_)
            · refine run_t (mkS trail == ".5") (h1 := fun bX => ?_) (h2 := fun bX => ?_)
              · exact hj (-1, 0) (by rw [WB, bA, bB, bC, bG, bX]; rfl) _ (by kernel_rfl)
              · refine run_t (decide ((count : Int) > 0)) (h1 := fun bF => ?_) (h2 := fun bF => ?_)
                · exact hj (-1, 0) (by rw [WB, bA, bB, bC, bG, bX, bF]; rfl) _ (by kernel_rfl)
                · exact hj (4, 0) (by rw [WB, bA, bB, bC, bG, bX, bF]; rfl) _ (by kernel_rfl)
            · refine run_t ((count : Int) == 0) (h1 := fun bY => ?_) (h2 := fun bY => ?_)
              · refine run_t (mkS sg == "") (h1 := fun bD => ?_) (h2 := fun bD => ?_)
                · exact hj (3, 0) (by rw [WB, bA, bB, bC, bG, bY, bD]; rfl) _ (by kernel_rfl)
                · exact hj (4, 0) (by rw [WB, bA, bB, bC, bG, bY, bD]; rfl) _ (by kernel_rfl)
              · refine run_t (mkS sg == "-") (h1 := fun bZ => ?_) (h2 := fun bZ => ?_)
                · exact hj (3, 0 - n) (by rw [WB, bA, bB, bC, bG, bY, bZ]; rfl) _ (by kernel_rfl)
                · exact hj (3, n) (by rw [WB, bA, bB, bC, bG, bY, bZ]; rfl) _ (by kernel_rfl)
  · refine run_t ((↑bad : Int) == (4 : Int)) (h1 := fun h4 => ?_) (h2 := fun h4 => ?_)
    · have h := of_decide_eq_true ((nat_beq bad 4).symm.trans h4)
      subst h
      refine q_addL [wr] L (m := 1) (Nat.le_refl _) hLl (mm := ?_)
      refine run_b false (m := ?_)
      exact hj ([wr] ++ L) rfl _ (by kernel_rfl)
    · have n4 : ¬ bad = 4 := of_decide_eq_false ((nat_beq bad 4).symm.trans h4)
      refine run_t ((↑bad : Int) == (5 : Int)) (h1 := fun h5 => ?_) (h2 := fun h5 => ?_)
      · refine q_augL L [wr] (n := 1) hLl (Nat.le_refl _) (mm := ?_)
        exact hj (L ++ [wr]) (by rw [saidB, if_neg n4, if_pos (of_decide_eq_true ((nat_beq bad 5).symm.trans h5))]) _ (by kernel_rfl)
      · exact hj L (by rw [saidB, if_neg n4, if_neg (of_decide_eq_false ((nat_beq bad 5).symm.trans h5))]) _ (by kernel_rfl)
end Mine
namespace Mine
variable {w : World} {B : Heap}
theorem fixed_sound {s : Str} {g : Int × Int} (h : decide (s.length ≤ 100) && (decide (tnum s = some g) || (decide (tnum s = none) && decide (g = (-1, 0)))) = true) : Sound ⟨.str s, g⟩ := by
  simp only [Bool.and_eq_true, Bool.or_eq_true, decide_eq_true_eq] at h
  exact ⟨Nat.le_trans h.1 (by decide), h.2⟩
noncomputable abbrev fixedL : List AV := [.tup [.str "16", .tup [.int 3, .int 16]], .tup [.str "Infinity", .tup [.int (-1), .int 0]], .tup [.str " -Infinity", .tup [.int (-1), .int 0]], .tup [.str "+Infinity\n", .tup [.int (-1), .int 0]], .tup [.str "infinity", .tup [.int 4, .int 0]], .tup [.str "NaN", .tup [.int 4, .int 0]],
  .tup [.str "-0", .tup [.int 3, .int 0]], .tup [.str "+", .tup [.int 4, .int 0]], .tup [.str "0x1.5", .tup [.int 4, .int 0]], .tup [.str "Infinity1", .tup [.int 4, .int 0]], .tup [.str "1 2", .tup [.int 4, .int 0]], .tup [.str "\u0663", .tup [.int 4, .int 0]]]
theorem fixed_get : ∀ i, i < 12 → ∃ (s : Str) (g : Int × Int), Sound ⟨.str s, g⟩ ∧ fixedL[i]? = some (.tup [.str s, .tup [.int g.1, .int g.2]]) := by
  intro i h
  rcases i with _ | _ | _ | _ | _ | _ | _ | _ | _ | _ | _ | _ | i
  · exact ⟨"16", (3, 16), fixed_sound (by decide +kernel), rfl⟩
  · exact ⟨"Infinity", (-1, 0), fixed_sound (by decide +kernel), rfl⟩
  · exact ⟨" -Infinity", (-1, 0), fixed_sound (by decide +kernel), rfl⟩
  · exact ⟨"+Infinity\n", (-1, 0), fixed_sound (by decide +kernel), rfl⟩
  · exact ⟨"infinity", (4, 0), fixed_sound (by decide +kernel), rfl⟩
  · exact ⟨"NaN", (4, 0), fixed_sound (by decide +kernel), rfl⟩
  · exact ⟨"-0", (3, 0), fixed_sound (by decide +kernel), rfl⟩
  · exact ⟨"+", (4, 0), fixed_sound (by decide +kernel), rfl⟩
  · exact ⟨"0x1.5", (4, 0), fixed_sound (by decide +kernel), rfl⟩
  · exact ⟨"Infinity1", (4, 0), fixed_sound (by decide +kernel), rfl⟩
  · exact ⟨"1 2", (4, 0), fixed_sound (by decide +kernel), rfl⟩
  · exact ⟨"\u0663", (4, 0), fixed_sound (by decide +kernel), rfl⟩
  · exact absurd h (Nat.not_lt.mpr (Nat.le_add_left 12 i))
theorem law_fixed_W {k : Nat} {H : HS} {i : Nat} (hi : i < 12) : CW w B (k + 1) H (.ref 903) [.int i] (WordR H) (fun _ _ => False) := by
  obtain ⟨s, g, hs, e⟩ := fixed_get i hi
  refine CW_go (st 144) "_law_fixed" .none "law_xw0126_01" 1511 902 (h := fun c W => ?_)
  refine q_row _ 12 e hi (m := ?_)
  exact run_ret (.tup [.str s, .tup [.int g.1, .int g.2]]) H (h := RetF.mk' (s, g) hs)
end Mine
namespace Mine
variable {w : World} {B : Heap}
theorem Sound.num (n : Int) : Sound ⟨.num n, (3, n)⟩ := ⟨trivial, .inl rfl⟩
noncomputable def ValR (a : SysD) (cst : LawC) (fix : HS) (tl0 tl : List AV) (ns : List Int) : AV → HS → Prop := fun r H' => ∃ (p : JP) (ns' : List Int), Sound p ∧ r = p.av ∧ ns'.length ≤ ns.length ∧ LSt a cst fix tl0 (ns'.map .int) tl H'
theorem ValR.use {a : SysD} {cst : LawC} {fix : HS} {tl0 tl : List AV} {ns : List Int} {R : AV → HS → Prop} (q : ∀ (p : JP) (ns' : List Int) H', Sound p → ns'.length ≤ ns.length → LSt a cst fix tl0 (ns'.map .int) tl H' → R p.av H') (r : AV) (H' : HS) (h : ValR a cst fix tl0 tl ns r H') : R r H' := by
  obtain ⟨p, ns', h1, rfl, h2, h3⟩ := h
  exact q p ns' H' h1 h2 h3
theorem q_rowL {c : Ctx w B} {E : QE} {Z : Rt → St → Prop} {k : Cf} (l : List AV) {i : Nat} (n : Nat) {a : AV} (eg : l[i]? = some a) (hi : i < n) (hn : autoParam (Nat.ble n 1000 = true) rr) (e : autoParam (k.c = .sub (.lst l) (.int i)) kr) (m : Me c E Z (go (k.ret a))) : Me c E Z k :=
  Me_of e fun v s hs => BW_itemL (σ := k.σ) (Int.natCast_nonneg i) (Int.ofNat_lt.mpr (Nat.lt_of_lt_of_le hi (Nat.le_trans (Nat.le_of_ble_eq_true hn) (by decide)) : i < 2 ^ 62)) (by rw [Int.toNat_natCast]; exact eg) (go_ok m) hs
theorem s12 : ∀ s : Nat, s < 12 → s = 10 ∨ (5 < s ∧ s < 10) ∨ s = 11 ∨ s = 3 ∨ s = 5 ∨ s = 0 ∨ s = 1 ∨ s = 2 ∨ s = 4 := by decide
theorem law_value_W {k : Nat} {a : SysD} {cst : LawC} {fix H : HS} {tl0 tl : List AV} {ns : List Int} {swing lap : Nat} {ts : List Int} (F : SysF a fix) (L : LSt a cst fix tl0 (ns.map .int) tl H) (hns : ns.length ≤ 1000) (hts : cst.things = ts.map fun i => (JV.obj i).av) (h5 : ts.length = 5) :
    CW w B (k + 4) H (.ref 910) [.val (.ref a.W), .int swing, .int lap] (ValR a cst fix tl0 tl ns) (fun _ _ => False) := by
  refine CW_go (st 145) "_law_value" .none "law_xw0126_01" 1511 909 (h := fun c W => ?_)
  refine run_call (.ref 882) [.val (.ref a.W), .int 10000000000000000] H (law_pull_W (k := 0) F L (by decide) hns) W.hh (le_k W.k 1 3) (q := PullR.use fun q ns' H' hq hnl L' => ?_) (qe := fun _ _ z => z.elim)
  have hq2 : q / 12 < 10 ^ 16 := Nat.lt_of_le_of_lt (Nat.div_le_self _ _) (Int.ofNat_lt.mp hq)
  have hs := s12 ((q + swing) % 12) (Nat.mod_lt _ (by decide))
  refine q_modL (q + swing) 12 (m := ?_)
  refine q_divL q 12 (m := ?_)
  refine run_cut ⟨.ss ((sBody (st 145)).drop 3), [], putS [("q", .lv (.int (q / 12 : Nat))), ("sort", .lv (.int ((q + swing) % 12 : Nat)))] (locOf (st 145) [.val (.ref a.W), .int swing, .int lap]), H'⟩ (m := ?_)
  generalize (q + swing) % 12 = s at hs ⊢
  generalize q / 12 = q2 at hq2 ⊢
  obtain rfl | hs | rfl | rfl | rfl | rfl | rfl | rfl | rfl := hs
  · refine run_b true (m := ?_)
    refine run_b true (m := ?_)
    refine run_b true (m := ?_)
    refine q_gSF H' "things" L'.W (mem_nth 3 rfl) (m := ?_)
    have h5' : q2 % 5 < ts.length := by rw [h5]; exact Nat.mod_lt _ (by decide)
    refine q_modL q2 5 (m := ?_)
    refine q_rowL cst.things 5 (i := q2 % 5) (a := (JV.obj ts[q2 % 5]).av) (by rw [hts, List.getElem?_map, List.getElem?_eq_getElem h5']; rfl) (Nat.mod_lt _ (by decide)) (m := ?_)
    exact run_ret (⟨.obj ts[q2 % 5], (4, 0)⟩ : JP).av H' (h := ⟨⟨.obj ts[q2 % 5], (4, 0)⟩, ns', ⟨trivial, .inl rfl⟩, rfl, hnl, L'⟩)
  · refine run_t (decide ((5 : Int) < (s : Int))) (h1 := fun _ => ?_) (h2 := fun z => absurd (Int.ofNat_lt.mpr hs.1) (of_decide_eq_false z))
    refine run_t (decide ((s : Int) < (11 : Int))) (h1 := fun _ => ?_) (h2 := fun z => absurd (Int.ofNat_lt.mpr (Nat.lt_trans hs.2 (by decide))) (of_decide_eq_false z))
    refine run_t ((s : Int) == (10 : Int)) (h1 := fun z => absurd (of_decide_eq_true ((nat_beq s 10).symm.trans z)) (Nat.ne_of_lt hs.2)) (h2 := fun _ => ?_)
    refine q_unp W.hh (m := ?_)
    refine run_fn (.ref 896) [.int q2, .int (s + lap : Nat)] H' (law_word_W (k := 0) hq2) W.hh (le_k W.k 2 3) (q := fun p hp => ?_) (qe := fun _ _ z => z.elim)
    exact run_ret (⟨.str p.1, p.2⟩ : JP).av H' (h := ⟨⟨.str p.1, p.2⟩, ns', hp, rfl, hnl, L'⟩)
  · refine run_b true (m := ?_)
    refine run_b false (m := ?_)
    refine run_b true (m := ?_)
    refine q_unp W.hh (m := ?_)
    refine q_modL q2 12 (m := ?_)
    refine run_fn (.ref 903) [.int (q2 % 12 : Nat)] H' (law_fixed_W (k := 0) (Nat.mod_lt q2 (show 0 < 12 by decide))) W.hh (le_k W.k 1 3) (q := fun p hp => ?_) (qe := fun _ _ z => z.elim)
    exact run_ret (⟨.str p.1, p.2⟩ : JP).av H' (h := ⟨⟨.str p.1, p.2⟩, ns', hp, rfl, hnl, L'⟩)
  · refine run_b false (m := ?_)
    refine run_b false (m := ?_)
    refine run_b true (m := ?_)
    refine q_modL (q2 + 8) 19 (m := ?_)
    refine q_modL (q2 + 8) 19 (m := ?_)
    exact run_ret (⟨.num (((q2 + 8) % 19 : Nat) - 6), (3, ((q2 + 8) % 19 : Nat) - 6)⟩ : JP).av H' (h := ⟨⟨.num _, (3, _)⟩, ns', Sound.num _, rfl, hnl, L'⟩)
  · refine run_b false (m := ?_)
    refine run_b false (m := ?_)
    refine run_b false (m := ?_)
    refine run_b true (m := ?_)
    refine q_modL q2 3 (m := ?_)
    refine q_divL q2 3 (m := ?_)
    refine q_modL (q2 / 3) 2 (m := ?_)
    refine run_t ((↑(q2 / (3 : Nat) % (2 : Nat)) : Int) == (1 : Int)) (h1 := fun h => ?_) (h2 := fun h => ?_)
    · skip
      exact run_ret (⟨.num (0 - (9007199254740991 - (q2 % 3 : Nat))), (3, 0 - (9007199254740991 - (q2 % 3 : Nat)))⟩ : JP).av H' (h := ⟨⟨.num _, (3, _)⟩, ns', Sound.num _, rfl, hnl, L'⟩)
    · skip
      exact run_ret (⟨.num (9007199254740991 - (q2 % 3 : Nat)), (3, 9007199254740991 - (q2 % 3 : Nat))⟩ : JP).av H' (h := ⟨⟨.num _, (3, _)⟩, ns', Sound.num _, rfl, hnl, L'⟩)
  · refine run_b false (m := ?_)
    refine run_b false (m := ?_)
    refine run_b false (m := ?_)
    refine run_b false (m := ?_)
    refine q_modL q2 2 (m := ?_)
    refine q_it 0 (m := ?_)
    exact run_ret (⟨.und, (4, 0)⟩ : JP).av H' (h := ⟨⟨.und, (4, 0)⟩, ns', ⟨trivial, .inl rfl⟩, rfl, hnl, L'⟩)
  · refine run_b false (m := ?_)
    refine run_b false (m := ?_)
    refine run_b false (m := ?_)
    refine run_b false (m := ?_)
    refine q_modL q2 2 (m := ?_)
    refine q_it 1 (m := ?_)
    exact run_ret (⟨.nul, (3, 0)⟩ : JP).av H' (h := ⟨⟨.nul, (3, 0)⟩, ns', ⟨trivial, .inl rfl⟩, rfl, hnl, L'⟩)
  · refine run_b false (m := ?_)
    refine run_b false (m := ?_)
    refine run_b false (m := ?_)
    refine run_b false (m := ?_)
    refine q_modL q2 2 (m := ?_)
    refine q_it 2 (m := ?_)
    exact run_ret (⟨.boo (1 - (q2 % 2 : Nat)), (3, 1 - (q2 % 2 : Nat))⟩ : JP).av H' (h := ⟨⟨.boo (1 - (q2 % 2 : Nat)), (3, 1 - (q2 % 2 : Nat))⟩, ns', ⟨trivial, .inl rfl⟩, rfl, hnl, L'⟩)
  · refine run_b false (m := ?_)
    refine run_b false (m := ?_)
    refine run_b false (m := ?_)
    refine run_b false (m := ?_)
    refine q_modL q2 2 (m := ?_)
    refine q_it 4 (m := ?_)
    exact run_ret (⟨.nan, (4, 0)⟩ : JP).av H' (h := ⟨⟨.nan, (4, 0)⟩, ns', ⟨trivial, .inl rfl⟩, rfl, hnl, L'⟩)
end Mine
namespace Mine
variable {w : World} {B : Heap}
structure LawOK (a : SysD) (cst : LawC) (fix : HS) (tl0 : List AV) : Prop where
  F : SysF a fix
  toS : NatA a fix tl0 5 "toString" 301
  chA : NatA a fix tl0 4 "charAt" 201
  slc : NatA a fix tl0 4 "slice" 204
  inO : NatA a fix tl0 4 "indexOf" 202
  inc : NatA a fix tl0 4 "includes" 203
  nv : ∃ nv : JV, cst.nv = nv.av ∧ (nv = .nan ∨ ∃ n, nv = .num n ∧ n.natAbs < 2 ^ 64)
  T : Txt1 cst.T
  ts : ∃ ts : List Int, (cst.things = ts.map fun i => (JV.obj i).av) ∧ ts.length = 5
noncomputable abbrev shL (v other : JP) : List AV := [.lst [v.av, other.av], .lst [v.av], .lst [other.av, v.av, v.av], .lst []]
theorem shapes_get {v other : JP} (hv : Sound v) (ho : Sound other) : ∀ i, i < 4 → ∃ ps : List JP, (∀ p ∈ ps, Sound p) ∧ ps.length ≤ 3 ∧ (shL v other)[i]? = some (.lst (ps.map JP.av)) := by
  have n0 : ∀ p ∈ ([] : List JP), Sound p := fun _ h => nomatch h
  intro i h
  rcases i with _ | _ | _ | _ | i
  · exact ⟨[v, other], List.forall_mem_cons.mpr ⟨hv, List.forall_mem_cons.mpr ⟨ho, n0⟩⟩, Nat.le_of_ble_eq_true rfl, rfl⟩
  · exact ⟨[v], List.forall_mem_cons.mpr ⟨hv, n0⟩, Nat.le_of_ble_eq_true rfl, rfl⟩
  · exact ⟨[other, v, v], List.forall_mem_cons.mpr ⟨ho, List.forall_mem_cons.mpr ⟨hv, List.forall_mem_cons.mpr ⟨hv, n0⟩⟩⟩, Nat.le_of_ble_eq_true rfl, rfl⟩
  · exact ⟨[], n0, Nat.le_of_ble_eq_true rfl, rfl⟩
  · exact absurd h (Nat.not_lt.mpr (Nat.le_add_left 4 i))
theorem SlW_up2 {c : Ctx w B} {E : QE} {σ : St} {l : List AV} {n : Nat} {Q : QA} (q : Q (.lst (l.take n)) σ) (hx : l.length ≤ 100000 := by exact Nat.le_of_ble_eq_true rfl) : SlA c σ none (.lst l) .none (.int n) .none Q E := fun _ _ _ _ => SlW_upto (Int.natCast_nonneg n) hx (by rw [Int.toNat_natCast]; exact q)
theorem run_joinV {c : Ctx w B} {E : QE} {Z : Rt → St → Prop} {k : Cf} {T : Type} (n : Nat) (v : T → AV) (ok : T → Prop) (tail : ∀ a, ok a → Me c E Z (go ⟨.r (.v (v a)), k.K.drop n, k.loc, k.H⟩)) (h : (∀ a, ok a → ∀ k', go ⟨.r (.v (v a)), k.K.drop n, k.loc, k.H⟩ = k' → Me c E Z k') → Me c E Z k) : Me c E Z k := h fun a ha k' e => e ▸ tail a ha
noncomputable def RoundR (a : SysD) (cst : LawC) (fix : HS) (tl0 tl : List AV) (ns : List Int) : AV → HS → Prop := fun r H' => r = .bool true ∧ ∃ (ns' : List Int) (tl' : List AV), ns'.length ≤ ns.length ∧ LSt a cst fix tl0 (ns'.map .int) tl' H' ∧ tl'.length ≤ tl.length + 3
theorem LStP.use {a : SysD} {cst : LawC} {fix : HS} {tl0 l tl : List AV} {R : AV → HS → Prop} (q : ∀ H' tl', LSt a cst fix tl0 l tl' H' → tl'.length ≤ tl.length + 1 → R (.bool true) H') (r : AV) (H' : HS) (h : r = .bool true ∧ LStP a cst fix tl0 l tl H') : R r H' := by
  obtain ⟨rfl, tl', h1, h2⟩ := h
  exact q H' tl' h1 h2
theorem LStN.use {a : SysD} {cst : LawC} {fix : HS} {tl0 tl : List AV} {ns : List Int} {R : AV → HS → Prop} (q : ∀ (H' : HS) (ns' : List Int) (tl' : List AV), ns'.length ≤ ns.length → LSt a cst fix tl0 (ns'.map .int) tl' H' → tl'.length ≤ tl.length + 1 → R (.bool true) H') (r : AV) (H' : HS) (h : r = .bool true ∧ LStN a cst fix tl0 tl ns H') : R r H' := by
  obtain ⟨rfl, ns', tl', h1, h2, h3⟩ := h
  exact q H' ns' tl' h1 h2 h3
theorem law_round_W {k : Nat} {a : SysD} {cst : LawC} {fix H : HS} {tl0 tl : List AV} {ns : List Int} {lap : Nat} (K : LawOK a cst fix tl0) (L : LSt a cst fix tl0 (ns.map .int) tl H) (hns : ns.length ≤ 1000) (ht : tl.length ≤ 500) :
    CW w B (k + 14) H (.ref 967) [.val (.ref a.W), .int lap] (RoundR a cst fix tl0 tl ns) (fun _ _ => False) := by
  have F := K.F
  have n0 : ∀ p ∈ ([] : List JP), Sound p := fun _ h => nomatch h
  obtain ⟨nv, hnv, hnv2⟩ := K.nv
  obtain ⟨ts, hts, h5⟩ := K.ts
  refine CW_go (st 154) "_law_round" .none "law_xw0126_01" 1511 966 (h := fun c W => ?_)
  refine run_call (.ref 882) [.val (.ref a.W), .int 16] H (law_pull_W (k := 0) (m := 16) F L (by decide) hns) W.hh (le_k W.k 1 13) (q := PullR.use fun q ns1 H1 hq hn1 L1 => ?_) (qe := fun _ _ z => z.elim)
  have hns1 := Nat.le_trans hn1 hns
  refine run_call (.ref 910) [.val (.ref a.W), .int lap, .int lap] H1 (law_value_W (k := 0) (swing := lap) (lap := lap) F L1 hns1 hts h5) W.hh (le_k W.k 4 13) (q := ValR.use fun v ns2 H2 hv hn2 L2 => ?_) (qe := fun _ _ z => z.elim)
  have hns2 := Nat.le_trans hn2 hns1
  refine run_call (.ref 910) [.val (.ref a.W), .int (lap + 5 : Nat), .int lap] H2 (law_value_W (k := 0) (swing := lap + 5) (lap := lap) F L2 hns2 hts h5) W.hh (le_k W.k 4 13) (q := ValR.use fun other ns3 H3 ho hn3 L3 => ?_) (qe := fun _ _ z => z.elim)
  have hns3 := Nat.le_trans hn3 hns2
  have hn := Nat.le_trans hn3 (Nat.le_trans hn2 hn1)
  refine run_val (.ref 924) [v.av, .int (lap + 4)] (.bool true) H3 (law_sound_W (k := 0) hv) W.hh (le_k W.k 12 13) (m := ?_)
  refine run_b false (m := ?_)
  refine run_val (.ref 924) [other.av, .int (-7)] (.bool true) H3 (law_sound_W (k := 0) ho) W.hh (le_k W.k 12 13) (m := ?_)
  refine run_b false (m := ?_)
  refine q_divL q 4 (m := ?_)
  refine q_divL lap 4 (m := ?_)
  refine q_modL (q / 4 + lap / 4) 4 (m := ?_)
  have hsh : (q / 4 + lap / 4) % 4 < 4 := Nat.mod_lt _ (by decide)
  refine run_cut ⟨.ss ((sBody (st 154)).drop 5), [], putS [("q", .lv (.int q)), ("v", .lv v.av), ("other", .lv other.av), ("shape", .lv (.int ((q / 4 + lap / 4) % 4 : Nat)))] (locOf (st 154) [.val (.ref a.W), .int lap]), H3⟩ (m := ?_)
  generalize (q / 4 + lap / 4) % 4 = sh at hsh ⊢
  obtain ⟨ps, hps, hpl, eps⟩ := shapes_get hv ho sh hsh
  refine q_list false (m := ?_)
  refine q_list false (m := ?_)
  refine q_list false (m := ?_)
  refine q_list false (m := ?_)
  refine q_row (shL v other) 4 eps hsh (m := ?_)
  refine run_joinV 1 (fun pl : List JP => .lst (pl.map JP.av)) (fun pl => pl.length ≤ 2 ∧ ∀ p ∈ pl, Sound p) (fun pl hpp => ?_) fun hj => ?_
  · refine run_call (.ref 943) [.val (.ref a.W), .lst (pl.map JP.av)] H3 (law_based_W (k := 0) (ps := pl) F L3 K.toS (le_n ht _) (le_n hpp.1 _) hpp.2 hnv hnv2) W.hh (le_k W.k 13 13) (q := LStP.use fun H4 tl4 L4 hl4 => ?_) (qe := fun _ _ z => z.elim)
    have ht4 := Nat.le_trans hl4 (Nat.succ_le_succ ht)
    refine run_b false (m := ?_)
    refine q_modL (q + lap) 4 (m := ?_)
    have hw4 : (q + lap) % 4 < 4 := Nat.mod_lt _ (by decide)
    have ew : ∃ x : Str, [AV.str "charAt", .str "slice", .str "indexOf", .str "includes"][(q + lap) % 4]? = some (.str x) ∧ (x = "charAt" ∨ x = "slice" ∨ (x = "indexOf" ∨ x = "includes")) := by
      generalize (q + lap) % 4 = wi at hw4
      rcases wi with _ | _ | _ | _ | i
      · exact ⟨_, rfl, .inl rfl⟩
      · exact ⟨_, rfl, .inr (.inl rfl)⟩
      · exact ⟨_, rfl, .inr (.inr (.inl rfl))⟩
      · exact ⟨_, rfl, .inr (.inr (.inr rfl))⟩
      · exact absurd hw4 (Nat.not_lt.mpr (Nat.le_add_left 4 i))
    obtain ⟨x, ex, hx⟩ := ew
    refine q_row [.str "charAt", .str "slice", .str "indexOf", .str "includes"] 4 ex hw4 (m := ?_)
    refine run_cut ⟨.ss ((sBody (st 154)).drop 8), [], putS [("q", .lv (.int q)), ("v", .lv v.av), ("other", .lv other.av), ("shape", .lv (.int sh)), ("args", .lv (.lst (ps.map JP.av))), ("word", .lv (.str x))] (locOf (st 154) [.val (.ref a.W), .int lap]), H4⟩ (m := ?_)
    have t8 : tl4.length ≤ 800 := le_n ht4 _
    have p1 : ps.length ≤ 1000 := le_n hpl _
    obtain rfl | rfl | hx := hx
    · refine run_b false (m := ?_)
      refine run_b true (m := ?_)
      refine run_call (.ref 955) [.val (.ref a.W), .str "charAt", .lst (ps.map JP.av)] H4 (law_placed_char_W (k := 0) F L4 K.chA t8 p1 hps K.T) W.hh (le_k W.k 13 13) (q := LStP.use fun H5 tl5 L5 hl5 => ?_) (qe := fun _ _ z => z.elim)
      exact run_ret (.bool true) H5 (h := ⟨rfl, ns3, tl5, hn, L5, Nat.le_trans hl5 (Nat.le_succ_of_le (Nat.succ_le_succ hl4))⟩)
    · refine run_b true (m := ?_)
      refine q_list false (m := ?_)
      refine run_call (.ref 955) [.val (.ref a.W), .str "slice", .lst ([⟨.und, (4, 0)⟩, v].map JP.av)] H4 (law_placed_slice_W (k := 0) (ps := [⟨.und, (4, 0)⟩, v]) F L4 K.slc t8 (Nat.le_of_ble_eq_true rfl) (List.forall_mem_cons.mpr ⟨Sound.und, List.forall_mem_cons.mpr ⟨hv, n0⟩⟩) K.T) W.hh (le_k W.k 13 13) (q := LStP.use fun H5 tl5 L5 hl5 => ?_) (qe := fun _ _ z => z.elim)
      refine run_b false (m := ?_)
      refine run_b false (m := ?_)
      refine run_b true (m := ?_)
      refine run_call (.ref 955) [.val (.ref a.W), .str "slice", .lst (ps.map JP.av)] H5 (law_placed_slice_W (k := 0) F L5 K.slc (le_n (Nat.le_trans hl5 (Nat.succ_le_succ ht4)) _) p1 hps K.T) W.hh (le_k W.k 13 13) (q := LStP.use fun H6 tl6 L6 hl6 => ?_) (qe := fun _ _ z => z.elim)
      exact run_ret (.bool true) H6 (h := ⟨rfl, ns3, tl6, hn, L6, Nat.le_trans hl6 (Nat.succ_le_succ (Nat.le_trans hl5 (Nat.succ_le_succ hl4)))⟩)
    · have hf : ∀ code : Int, NatA a fix tl0 4 x code → ((x = "indexOf" ∧ code = 202) ∨ (x = "includes" ∧ code = 203)) → CW w B 13 H4 (.ref 960) [.val (.ref a.W), .str x, .lst (ps.map JP.av)] (fun r H' => r = .bool true ∧ LStN a cst fix tl0 tl4 ns3 H') (fun _ _ => False) := fun code hN hw => law_found_W (k := 0) hw F L4 hns3 hN t8 (le_n hpl _) hps K.T
      have hf : CW w B 13 H4 (.ref 960) [.val (.ref a.W), .str x, .lst (ps.map JP.av)] (fun r H' => r = .bool true ∧ LStN a cst fix tl0 tl4 ns3 H') (fun _ _ => False) := hx.elim (fun e => hf 202 (e ▸ K.inO) (.inl ⟨e, rfl⟩)) fun e => hf 203 (e ▸ K.inc) (.inr ⟨e, rfl⟩)
      have n1 : (x == "slice") = false := by obtain rfl | rfl := hx <;> rfl
      have n2 : (x == "charAt") = false := by obtain rfl | rfl := hx <;> rfl
      refine run_t (x == "slice") (h1 := fun z => absurd (n1.symm.trans z) (by decide)) (h2 := fun _ => ?_)
      refine run_t (x == "charAt") (h1 := fun z => absurd (n2.symm.trans z) (by decide)) (h2 := fun _ => ?_)
      refine run_t (x == "slice") (h1 := fun z => absurd (n1.symm.trans z) (by decide)) (h2 := fun _ => ?_)
      refine run_call (.ref 960) [.val (.ref a.W), .str x, .lst (ps.map JP.av)] H4 hf W.hh (le_k W.k 13 13) (q := LStN.use fun H5 ns5 tl5 hn5 L5 hl5 => ?_) (qe := fun _ _ z => z.elim)
      exact run_ret (.bool true) H5 (h := ⟨rfl, ns5, tl5, Nat.le_trans hn5 hn, L5, Nat.le_trans hl5 (Nat.le_succ_of_le (Nat.succ_le_succ hl4))⟩)
  · refine run_t ((↑sh : Int) == (3 : Int)) (h1 := fun h3 => ?_) (h2 := fun h3 => ?_)
    · refine q_list false (m := ?_)
      exact hj [] ⟨Nat.zero_le _, n0⟩ _ (by kernel_rfl)
    · skip
      refine q_list false (m := ?_)
      refine q_modL sh 2 (m := ?_)
      refine q_sl (.lst [v.av, other.av]) .none (.int (1 + sh % 2 : Nat)) (h := SlW_up2 ?_)
      exact hj ([v, other].take (1 + sh % 2)) ⟨by rw [List.length_take]; exact Nat.min_le_right _ _, fun p hp => List.forall_mem_cons.mpr ⟨hv, List.forall_mem_cons.mpr ⟨ho, n0⟩⟩ p (List.mem_of_mem_take hp)⟩ _ (by rw [List.map_take]; kernel_rfl)
end Mine
namespace Mine
variable {w : World} {B : Heap}
structure TD where
  (x dx nm sl ge se it : Addr)
@[reducible] noncomputable def TD.on (t : TD) (number sort proto : Int) (H : HS) : HS := thingH t.x t.dx t.nm t.sl t.ge t.se t.it number sort proto H
noncomputable def ThR (tl : List AV) (sort proto : Int) (H1 : Addr → HS) : AV → HS → Prop := fun a H' => ∃ t : TD, a = .val (.ref t.x) ∧ H' = t.on tl.length sort proto (H1 t.x)
theorem ThR.use {tl : List AV} {sort proto : Int} {H1 : Addr → HS} {R : AV → HS → Prop} (q : ∀ t : TD, R (.val (.ref t.x)) (t.on tl.length sort proto (H1 t.x))) (a : AV) (H' : HS) (h : ThR tl sort proto H1 a H') : R a H' := by
  obtain ⟨t, rfl, rfl⟩ := h
  exact q t
theorem new_thing_U {k : Nat} {H : HS} {H1 : Addr → HS} {hp hd th : Addr} {hes : List (Str × AV)} {tl : List AV} {sort proto : Int} (P : HpIn hp hd hes th tl H) (hl : tl.length ≤ 1000) (u : ∀ x, HUpd th (.lst tl) (.lst (tl ++ [.val (.ref x)])) H (H1 x)) :
    CW w B (k + 3) H (.ref 235) [.val (.ref hp), .int sort, .int proto] (ThR tl sort proto H1) (fun _ _ => False) := by
  obtain ⟨h1, h2, h3, h4⟩ := P
  refine CW_go (st 48) "new_thing" .none "kindkeep.values" 335 234 (h := fun c W => ?_)
  refine q_atF H "things" h1 h2 h3 (m := ?_)
  refine q_call (.builtin "len") [.val (.ref th)] H (h := VW_len_H h4 (le_n hl _) ?_)
  refine run_call (.ref 140) [.int tl.length, .int sort, .int proto] H (new_Thing_W (k := 0)) W.hh (le_k W.k 2 2) (q := NewT.use fun x dx nm sl ge se it => ?_) (qe := fun _ _ z => z.elim)
  have nt := fun {ad : Addr} {o : HObj} (m : (ad, o) ∈ H) => (.tail _ (.tail _ (.tail _ (.tail _ (.tail _ (.tail _ (.tail _ m)))))) : (ad, o) ∈ thingH x dx nm sl ge se it tl.length sort proto H)
  refine q_atF (thingH x dx nm sl ge se it tl.length sort proto H) "things" (nt h1) (nt h2) h3 (m := ?_)
  refine q_meth (.val (.ref th)) "append" (thingH x dx nm sl ge se it tl.length sort proto H) (.builtin "list.append") [.val (.ref th)] (fun _ => keep_builtin) (MB_list (nt h4) PySem.F.slot_list_append rfl) (m := ?_)
  refine q_call (.builtin "list.append") [.val (.ref th), .val (.ref x)] (thingH x dx nm sl ge se it tl.length sort proto H) (h := VW_append (H' := thingH x dx nm sl ge se it tl.length sort proto (H1 x)) (.tail (.tail (.tail (.tail (.tail (.tail (.tail (u x)))))))) (le_n hl _) ?_)
  exact run_ret (.val (.ref x)) (thingH x dx nm sl ge se it tl.length sort proto (H1 x)) (h := ⟨⟨x, dx, nm, sl, ge, se, it⟩, rfl, rfl⟩)
theorem undef_W {k : Nat} {H : HS} : CW w B (k + 1) H (.ref 214) [] (fun a H' => a = .tup [.int 0, .int 0] ∧ H' = H) (fun _ _ => False) := by
  refine CW_go (st 45) "undef_value" .none "kindkeep.values" 335 213 (h := fun c W => ?_)
  exact run_ret (.tup [.int 0, .int 0]) H (h := ⟨rfl, rfl⟩)
noncomputable abbrev mesOf (hp ex st out told wa pr cp bi ma ho : Addr) (bound : Int) : List (Str × AV) := [("heap", .val (.ref hp)), ("exprs", .val (.ref ex)), ("stmts", .val (.ref st)), ("steps", .int 0), ("most", .int bound), ("deep", .int 0), ("most_deep", .int 44), ("out", .val (.ref out)), ("env", .none), ("globals", .none), ("this", .tup [.int 0, .int 0]), ("home", .int (-1)), ("told", .val (.ref told)), ("watch", .val (.ref wa)), ("protos", .val (.ref pr)), ("class_protos", .val (.ref cp)), ("binder", .val (.ref bi)), ("maker", .val (.ref ma)), ("hoister", .val (.ref ho)), ("raised", .none)]
structure MDt where
  (m md hp hd th nat ex st out told wa wad pr cp bi bid ma mad ho hod : Addr)
@[reducible] noncomputable def MDt.mes (d : MDt) : List (Str × AV) := mesOf d.hp d.ex d.st d.out d.told d.wa d.pr d.cp d.bi d.ma d.ho 1
@[reducible] noncomputable def MDt.hes (d : MDt) : List (Str × AV) := [("things", .val (.ref d.th)), ("natives", .val (.ref d.nat))]
@[reducible] noncomputable def MDt.on (d : MDt) (tl : List AV) (nes pes : List (Int × AV)) (H : HS) : HS := (d.ho, .ins 733 d.hod) :: (d.hod, .dctS []) :: (d.ma, .ins 712 d.mad) :: (d.mad, .dctS []) :: (d.bi, .ins 684 d.bid) :: (d.bid, .dctS []) :: (d.cp, .dctS []) :: (d.pr, .dctI pes) :: (d.wa, .ins 656 d.wad) :: (d.wad, .dctS [])
  :: (d.told, .lst []) :: (d.out, .lst []) :: (d.st, .dctS []) :: (d.ex, .dctS []) :: (d.nat, .dctI nes) :: (d.th, .lst tl) :: (d.hp, .ins 182 d.hd) :: (d.hd, .dctS d.hes) :: (d.m, .ins 796 d.md) :: (d.md, .dctS d.mes) :: H
noncomputable def NewHp (H : HS) : AV → HS → Prop := fun a H' => ∃ x dx t n, a = .val (.ref x) ∧ H' = (n, .dctI []) :: (t, .lst []) :: (x, .ins 182 dx) :: (dx, .dctS [("things", .val (.ref t)), ("natives", .val (.ref n))]) :: H
theorem NewHp.use {H : HS} {R : AV → HS → Prop} (q : ∀ x dx t n, R (.val (.ref x)) ((n, .dctI []) :: (t, .lst []) :: (x, .ins 182 dx) :: (dx, .dctS [("things", .val (.ref t)), ("natives", .val (.ref n))]) :: H)) (a : AV) (H' : HS) (h : NewHp H a H') : R a H' := by
  obtain ⟨x, dx, t, n, rfl, rfl⟩ := h
  exact q x dx t n
theorem new_heap {k : Nat} {H : HS} : CW w B (k + 2) H (.ref 182) [] (NewHp H) (fun _ _ => False) :=
  CW_cls (by decide +kernel) fun x dx => heap_init.mono (fun a H' h => ⟨h.1, h.2.elim fun t h => h.elim fun n h => ⟨x, dx, t, n, rfl, h⟩⟩) fun _ _ z => z
theorem q_bare {c : Ctx w B} {E : QE} {Z : Rt → St → Prop} {k : Cf} (C : Addr) (ok : C ∈ bareTab) (e : autoParam (k.c = .call (.ref C) []) kr) (h : ∀ x dx, Me c E Z (go (k.retH (.val (.ref x)) ((x, .ins C dx) :: (dx, .dctS []) :: k.H)))) : Me c E Z k :=
  q_call (.ref C) [] k.H (by rw [e]) (VW_bare (σ := ⟨k.loc, k.H⟩) ok fun x dx => h x dx)
theorem run_valK {c : Ctx w B} {E : QE} {Z : Rt → St → Prop} {k : Cf} (f : Value) (l : List AV) (r : AV) {j : Nat} (hc : ∀ H, CW w B j H f l (fun a H' => a = r ∧ H' = H) fun _ _ => False) (hh : c.A.handled = none) (hj : j ≤ c.k) (e : autoParam (k.c = .call f l) kr) (m : Me c E Z (go (k.retH r k.H))) : Me c E Z k :=
  run_val f l r k.H (hc k.H) hh hj (by rw [e]) m
theorem machine_init {k : Nat} {m md : Addr} : CW w B (k + 3) ((m, .ins 796 md) :: (md, .dctS []) :: []) (.ref 751) [.val (.ref m), .int 1] (fun a H' => a = .none ∧ ∃ d : MDt, d.m = m ∧ H' = d.on [] [] [] []) (fun _ _ => False) := by
  refine CW_go (sm 128 0) "Machine.__init__" .none "kindkeep.runcore" 1120 750 (h := fun c W => ?_)
  refine run_call (.ref 182) [] ((m, .ins 796 md) :: (md, .dctS []) :: []) (new_heap (k := 0)) W.hh (le_k W.k 2 2) (q := NewHp.use fun hp hd th nat => ?_) (qe := fun _ _ z => z.elim)
  refine q_sA 4 5 (m := ?_)
  refine q_dictS (h := fun ex => ?_)
  refine q_sA 5 6 (m := ?_)
  refine q_dictS (h := fun st => ?_)
  refine q_sA 6 7 (m := ?_)
  refine q_sA 6 7 (m := ?_)
  refine q_sA 6 7 (m := ?_)
  refine q_sA 6 7 (m := ?_)
  refine q_sA 6 7 (m := ?_)
  refine q_list true (m := ?_)
  refine q_lh [] (h := fun out => ?_)
  refine q_sA 7 8 (m := ?_)
  refine q_sA 7 8 (m := ?_)
  refine q_sA 7 8 (m := ?_)
  refine run_valK (.ref 214) [] (.tup [.int 0, .int 0]) (fun _ => undef_W (k := 0)) W.hh (le_k W.k 1 2) (m := ?_)
  refine q_sA 7 8 (m := ?_)
  refine q_sA 7 8 (m := ?_)
  refine q_list true (m := ?_)
  refine q_lh [] (h := fun told => ?_)
  refine q_sA 8 9 (m := ?_)
  refine q_bare 656 (by decide +kernel) (h := fun wa wad => ?_)
  refine q_sA 10 11 (m := ?_)
  refine q_dictI (h := fun pr => ?_)
  refine q_sA 11 12 (m := ?_)
  refine q_dictS (h := fun cp => ?_)
  refine q_sA 12 13 (m := ?_)
  refine q_bare 684 (by decide +kernel) (h := fun bi bid => ?_)
  refine q_sA 14 15 (m := ?_)
  refine q_bare 712 (by decide +kernel) (h := fun ma mad => ?_)
  refine q_sA 16 17 (m := ?_)
  refine q_bare 733 (by decide +kernel) (h := fun ho hod => ?_)
  refine q_sA 18 19 (m := ?_)
  refine q_sA 18 19 (m := ?_)
  exact run_fin ((⟨m, md, hp, hd, th, nat, ex, st, out, told, wa, wad, pr, cp, bi, bid, ma, mad, ho, hod⟩ : MDt).on [] [] [] []) (h := ⟨rfl, ⟨m, md, hp, hd, th, nat, ex, st, out, told, wa, wad, pr, cp, bi, bid, ma, mad, ho, hod⟩, rfl, rfl⟩)
noncomputable def NewM : AV → HS → Prop := fun a H' => ∃ d : MDt, a = .val (.ref d.m) ∧ H' = d.on [] [] [] []
theorem NewM.use {R : AV → HS → Prop} (q : ∀ d : MDt, R (.val (.ref d.m)) (d.on [] [] [] [])) (a : AV) (H' : HS) (h : NewM a H') : R a H' := by
  obtain ⟨d, rfl, rfl⟩ := h
  exact q d
theorem new_machine {k : Nat} : CW w B (k + 4) [] (.ref 796) [.int 1] NewM (fun _ _ => False) :=
  CW_cls (by decide +kernel) fun x dx => machine_init.mono (fun a H' h => ⟨h.1, h.2.elim fun d h => ⟨d, by rw [h.1], h.2⟩⟩) fun _ _ z => z
end Mine
namespace Mine
variable {w : World} {B : Heap}
structure MU (d : MDt) (tl : List AV) (nes pes : List (Int × AV)) (H : HS) : Prop where
  m : (d.m, .ins 796 d.md) ∈ H
  dd : (d.md, .dctS d.mes) ∈ H
  hp : (d.hp, .ins 182 d.hd) ∈ H
  hd : (d.hd, .dctS d.hes) ∈ H
  th : (d.th, .lst tl) ∈ H
  nat : (d.nat, .dctI nes) ∈ H
  pr : (d.pr, .dctI pes) ∈ H
theorem MU.on (d : MDt) (tl : List AV) (nes pes : List (Int × AV)) (A H : HS) : MU d tl nes pes (A ++ d.on tl nes pes H) := by
  have t : ∀ (i : Nat) {p : Addr × HObj}, (d.on tl nes pes H)[i]? = some p → p ∈ A ++ d.on tl nes pes H := fun i _ e => List.mem_append_right A (List.mem_of_getElem? e)
  exact ⟨t 18 rfl, t 19 rfl, t 16 rfl, t 17 rfl, t 15 rfl, t 14 rfl, t 7 rfl⟩
theorem MU.hpIn {d : MDt} {tl : List AV} {nes pes : List (Int × AV)} {H : HS} (M : MU d tl nes pes H) : HpIn d.hp d.hd d.hes d.th tl H := ⟨M.hp, M.hd, .head _, M.th⟩
theorem upTh (d : MDt) (tl tl' : List AV) (nes pes : List (Int × AV)) (A H : HS) : HUpd d.th (.lst tl) (.lst tl') (A ++ d.on tl nes pes H) (A ++ d.on tl' nes pes H) := by
  apply HUpd.app
  iterate 15 apply HUpd.tail
  exact .head
theorem upPr (d : MDt) (tl : List AV) (nes pes pes' : List (Int × AV)) (A H : HS) : HUpd d.pr (.dctI pes) (.dctI pes') (A ++ d.on tl nes pes H) (A ++ d.on tl nes pes' H) := by
  apply HUpd.app
  iterate 7 apply HUpd.tail
  exact .head
theorem upNat (d : MDt) (tl : List AV) (nes nes' pes : List (Int × AV)) (A H : HS) : HUpd d.nat (.dctI nes) (.dctI nes') (A ++ d.on tl nes pes H) (A ++ d.on tl nes' pes H) := by
  apply HUpd.app
  iterate 14 apply HUpd.tail
  exact .head
noncomputable def PutR (d : MDt) (tl : List AV) (nes pes : List (Int × AV)) (A : HS) (word up : Int) : AV → HS → Prop := fun a H' => a = .none ∧ ∃ t : TD, H' = t.on tl.length 0 up (A ++ d.on (tl ++ [.val (.ref t.x)]) nes (pes ++ [(word, .int tl.length)]) [])
theorem PutR.use {d : MDt} {tl : List AV} {nes pes : List (Int × AV)} {A : HS} {word up : Int} {R : AV → HS → Prop} (q : ∀ t : TD, R .none (t.on tl.length 0 up (A ++ d.on (tl ++ [.val (.ref t.x)]) nes (pes ++ [(word, .int tl.length)]) []))) (a : AV) (H' : HS) (h : PutR d tl nes pes A word up a H') : R a H' := by
  obtain ⟨rfl, t, rfl⟩ := h
  exact q t
theorem put_proto_W {k : Nat} {d : MDt} {tl : List AV} {nes pes : List (Int × AV)} {A : HS} {word up : Int} (n : KAbs word pes) (hl : tl.length ≤ 800) (hl2 : pes.length ≤ 800) :
    CW w B (k + 4) (A ++ d.on tl nes pes []) (.ref 584) [.val (.ref d.m), .int word, .int up] (PutR d tl nes pes A word up) (fun _ _ => False) := by
  have M := MU.on d tl nes pes A []
  refine CW_go (st 98) "put_proto" .none "kindkeep.runlib" 821 583 (h := fun c W => ?_)
  refine q_atF (A ++ d.on tl nes pes []) "protos" M.m M.dd (mem_nth 14 rfl) (m := ?_)
  refine q_cmpH .NotIn (.int word) (.val (.ref d.pr)) (A ++ d.on tl nes pes []) (h := BW_ninI M.pr n ?_)
  refine run_b true (m := ?_)
  refine q_atF (A ++ d.on tl nes pes []) "heap" M.m M.dd (mem_nth 0 rfl) (m := ?_)
  refine run_call (.ref 235) [.val (.ref d.hp), .int 0, .int up] (A ++ d.on tl nes pes []) (new_thing_U (k := 0) (H1 := fun x => A ++ d.on (tl ++ [.val (.ref x)]) nes pes []) M.hpIn (le_n hl _) (fun x => upTh d tl _ nes pes A [])) W.hh (le_k W.k 3 3) (q := ThR.use fun t => ?_) (qe := fun _ _ z => z.elim)
  have N := MU.on d (tl ++ [.val (.ref t.x)]) nes pes A []
  have nt := fun {ad : Addr} {o : HObj} (m : (ad, o) ∈ A ++ d.on (tl ++ [.val (.ref t.x)]) nes pes []) => (.tail _ (.tail _ (.tail _ (.tail _ (.tail _ (.tail _ (.tail _ m)))))) : (ad, o) ∈ t.on tl.length 0 up (A ++ d.on (tl ++ [.val (.ref t.x)]) nes pes []))
  refine q_at 5 6 (m := ?_)
  refine q_atF (t.on tl.length 0 up (A ++ d.on (tl ++ [.val (.ref t.x)]) nes pes [])) "protos" (nt N.m) (nt N.dd) (mem_nth 14 rfl) (m := ?_)
  refine q_si (.val (.ref d.pr)) (.int word) (.int tl.length) (t.on tl.length 0 up (A ++ d.on (tl ++ [.val (.ref t.x)]) nes pes [])) (h := SII_new (.tail (.tail (.tail (.tail (.tail (.tail (.tail (upPr d _ nes pes (pes ++ [(word, .int tl.length)]) A [])))))))) (n.new _) (le_n hl2 _) ?_)
  exact run_fin (t.on tl.length 0 up (A ++ d.on (tl ++ [.val (.ref t.x)]) nes (pes ++ [(word, .int tl.length)]) [])) (h := ⟨rfl, t, rfl⟩)
end Mine
namespace Mine
variable {w : World} {B : Heap}
noncomputable def prA : List TD → HS
  | [] => []
  | t :: ts => t.on ts.length 0 (if ts.length = 0 then -1 else 0) (prA ts)
noncomputable def tlOf : List TD → List AV
  | [] => []
  | t :: ts => tlOf ts ++ [.val (.ref t.x)]
noncomputable def pesOf : List TD → List (Int × AV)
  | [] => []
  | _ :: ts => pesOf ts ++ [((ts.length : Int), .int ts.length)]
theorem tlOf_len : ∀ ts : List TD, (tlOf ts).length = ts.length
  | [] => rfl
  | _ :: ts => by rw [tlOf, List.length_append, tlOf_len ts]; rfl
theorem pesOf_len : ∀ ts : List TD, (pesOf ts).length = ts.length
  | [] => rfl
  | _ :: ts => by rw [pesOf, List.length_append, pesOf_len ts]; rfl
theorem pesOf_abs : ∀ (ts : List TD) (n : Int), (ts.length : Int) ≤ n → ∀ p ∈ pesOf ts, p.1 ≠ n
  | [], _, _, _, h => nomatch h
  | _ :: ts, n, l, p, h => by
    rcases List.mem_append.mp h with h | h
    · exact pesOf_abs ts n (Int.le_trans (Int.ofNat_le.mpr (Nat.le_succ ts.length)) l) p h
    · rw [List.mem_singleton.mp h]; exact Int.ne_of_lt (Int.lt_of_lt_of_le (Int.ofNat_lt.mpr (Nat.lt_succ_self ts.length)) l)
theorem KAbs.of {K : Type} [DecidableEq K] {k : K} : ∀ {es : List (K × AV)}, (∀ p ∈ es, p.1 ≠ k) → KAbs k es
  | [], _ => .nil
  | p :: _, h => .cons (decide_eq_false (h p (.head _))) (KAbs.of fun q m => h q (.tail _ m))
theorem pesOf_get : ∀ ts : List TD, 0 < ts.length → ((0 : Int), AV.int 0) ∈ pesOf ts
  | [], h => absurd h (by decide)
  | [_], _ => .head _
  | _ :: t :: ts, _ => List.mem_append_left _ (pesOf_get (t :: ts) (Nat.succ_pos _))
noncomputable abbrev prH (d : MDt) (ts : List TD) : HS := prA ts ++ d.on (tlOf ts) [] (pesOf ts) []
theorem prH_put (d : MDt) (ts : List TD) (h : ts.length ≠ 0) (t : TD) : t.on (tlOf ts).length 0 0 (prA ts ++ d.on (tlOf ts ++ [.val (.ref t.x)]) [] (pesOf ts ++ [((ts.length : Int), .int (tlOf ts).length)]) []) = prH d (t :: ts) := by
  rw [tlOf_len]
  show t.on ts.length 0 0 _ = t.on ts.length 0 (if ts.length = 0 then -1 else 0) _
  rw [if_neg h]; rfl
noncomputable def PrR (d : MDt) : AV → HS → Prop := fun a H' => a = .none ∧ ∃ ts : List TD, ts.length = 6 ∧ H' = prH d ts
theorem install_protos_W {k : Nat} {d : MDt} :
    CW w B (k + 5) (d.on [] [] [] []) (.ref 591) [.val (.ref d.m)] (PrR d) (fun _ _ => False) := by
  refine CW_go (st 99) "install_protos" .none "kindkeep.runlib" 821 590 (h := fun c W => ?_)
  refine run_call (.ref 584) [.val (.ref d.m), .int 0, .int (-1)] (d.on [] [] [] []) (put_proto_W (k := 0) (d := d) (tl := []) (nes := []) (pes := []) (A := []) (word := 0) (up := -1) .nil (Nat.zero_le _) (Nat.zero_le _)) W.hh (le_k W.k 4 4) (q := PutR.use fun t0 => ?_) (qe := fun _ _ z => z.elim)
  refine q_for (m := ?_)
  refine run_z (.v (.tup [.int 1, .int 2, .int 3, .int 4, .int 5])) (prH d [t0]) (h := ?_)
  refine for_tup W.hh "word" (by kernel_rfl) ["word"] (fun ts : List TD => ⟨locOf (st 99) [.val (.ref d.m)], prH d ts⟩) (fun i ts => ts.length = i + 1) [t0] (by kernel_rfl) rfl (st := fun i ts hi hl c' e1 e2 => ?_) (fin := fun ts hl => ?_)
  · have eit : (([.int 1, .int 2, .int 3, .int 4, .int 5] : List AV)[i]?).getD .none = .int ts.length := by
      rw [hl]
      match i, hi with
      | 0, _ | 1, _ | 2, _ | 3, _ | 4, _ => rfl
    rw [eit]
    have M := MU.on d (tlOf ts) [] (pesOf ts) (prA ts) []
    have hts : ts.length ≤ 800 := by rw [hl]; exact Nat.le_trans hi (by decide)
    refine q_atF (prH d ts) "protos" M.m M.dd (mem_nth 14 rfl) (m := ?_)
    refine q_gIF (prH d ts) 0 M.pr (pesOf_get ts (by rw [hl]; exact Nat.succ_pos i)) (m := ?_)
    refine run_call (.ref 584) [.val (.ref d.m), .int ts.length, .int 0] (prH d ts) (put_proto_W (k := 0) (d := d) (tl := tlOf ts) (nes := []) (pes := pesOf ts) (A := prA ts) (word := ts.length) (up := 0) (KAbs.of (pesOf_abs ts _ (Int.le_refl _))) (tlOf_len ts ▸ hts) (pesOf_len ts ▸ hts)) e1 (le_k (e2.trans W.k) 4 4) (q := PutR.use fun t => ?_) (qe := fun _ _ z => z.elim)
    rw [prH_put d ts (by rw [hl]; exact Nat.succ_ne_zero i) t]
    exact run_z (.f .next) (prH d (t :: ts)) (h := nx_of (t :: ts) (congrArg (· + 1) hl))
  · exact run_fin (prH d ts) (h := ⟨rfl, ts, hl, rfl⟩)
end Mine
namespace Mine
variable {w : World} {B : Heap}
@[reducible] noncomputable def TD.onN (t : TD) (number native : Int) (H : HS) : HS := (t.it, .lst []) :: (t.se, .dctS []) :: (t.ge, .dctS []) :: (t.sl, .dctS []) :: (t.nm, .lst []) :: (t.x, .ins 140 t.dx) :: (t.dx, .dctS [("number", .int number), ("sort", .int 2), ("names", .val (.ref t.nm)), ("slots", .val (.ref t.sl)), ("getters", .val (.ref t.ge)), ("setters", .val (.ref t.se)), ("proto", .int 2), ("items", .val (.ref t.it)), ("code", .none), ("native", .int native), ("home", .int (-1))]) :: H
@[reducible] noncomputable def TD.onW (t : TD) (number sort proto : Int) (nl : List AV) (sles : List (Str × AV)) (H : HS) : HS := (t.it, .lst []) :: (t.se, .dctS []) :: (t.ge, .dctS []) :: (t.sl, .dctS sles) :: (t.nm, .lst nl) :: (t.x, .ins 140 t.dx) :: (t.dx, .dctS (thingE number sort proto t.nm t.sl t.ge t.se t.it)) :: H
noncomputable def NvR (tl : List AV) (number : Int) (H1 : Addr → HS) : AV → HS → Prop := fun a H' => ∃ t : TD, a = .tup [.int 6, .int tl.length] ∧ H' = t.onN tl.length number (H1 t.x)
theorem NvR.use {tl : List AV} {number : Int} {H1 : Addr → HS} {R : AV → HS → Prop} (q : ∀ t : TD, R (.tup [.int 6, .int tl.length]) (t.onN tl.length number (H1 t.x))) (a : AV) (H' : HS) (h : NvR tl number H1 a H') : R a H' := by
  obtain ⟨t, rfl, rfl⟩ := h
  exact q t
theorem native_value_W {k : Nat} {d : MDt} {tl : List AV} {nes pes : List (Int × AV)} {H : HS} {H1 : Addr → HS} {number : Int} (M : MU d tl nes pes H) (h2 : ((2 : Int), AV.int 2) ∈ pes) (hl : tl.length ≤ 800) (u : ∀ x, HUpd d.th (.lst tl) (.lst (tl ++ [.val (.ref x)])) H (H1 x)) :
    CW w B (k + 4) H (.ref 570) [.val (.ref d.m), .int number] (NvR tl number H1) (fun _ _ => False) := by
  refine CW_go (st 96) "native_value" .none "kindkeep.runlib" 821 569 (h := fun c W => ?_)
  refine q_atF H "heap" M.m M.dd (mem_nth 0 rfl) (m := ?_)
  refine q_atF H "protos" M.m M.dd (mem_nth 14 rfl) (m := ?_)
  refine q_mIF H M.pr (m := ?_)
  refine q_call (.builtin "dict.get") [.val (.ref d.pr), .int 2, .int (-1)] H (h := VW_getI2 M.pr h2 ?_)
  refine run_call (.ref 235) [.val (.ref d.hp), .int 2, .int 2] H (new_thing_U (k := 0) (H1 := H1) M.hpIn (le_n hl _) u) W.hh (le_k W.k 3 3) (q := ThR.use fun t => ?_) (qe := fun _ _ z => z.elim)
  refine q_sA 5 6 (m := ?_)
  refine q_at 5 6 (m := ?_)
  exact run_ret (.tup [.int 6, .int tl.length]) (t.onN tl.length number (H1 t.x)) (h := ⟨t, rfl, rfl⟩)
noncomputable def tEs : Expr → List Expr
  | .Tuple es _ _ => es
  | _ => []
noncomputable def tupOk : Expr → Bool
  | .Tuple es _ _ => (names es).isSome
  | _ => false
theorem tupOk_ok {t : Expr} (h : tupOk t = true) : Nms (tEs t) ∧ ∃ n tp, t = .Tuple (tEs t) n tp := by
  cases t with
  | Tuple es n tp => exact ⟨((names es).get h).1, n, tp, rfl⟩
  | _ => cases h
theorem for_tupT {c : Ctx w B} {α : Type} {σ : St} {t : Expr} {body : List Stmt} {Q : QF} {E : QE} (hh : c.A.handled = none) (xs : List Str) (stf : α → St) (ok : Nat → α → Prop) (a0 : α) (et : autoParam (tupOk t = true) kr) (h0 : autoParam (σ = stf a0) kr) (o0 : ok 0 a0) {l : List AV}
    (st : ∀ i a, i < l.length → ok i a → ∀ c' : Ctx w B, c'.A.handled = none → c'.k = c.k → Me c' No (Zg xs stf (ok (i + 1)) Q) (go ⟨.r (.v ((l[i]?).getD .none)), [.unp (tEs t), .seq body], (stf a).loc, (stf a).H⟩)) (fin : ∀ a, ok l.length a → Q .next (stf a)) : ForW c σ (.tup l) t body Q E := by
  obtain ⟨nm, n, tp, e⟩ := tupOk_ok et
  generalize tEs t = es at st nm e
  subst e
  refine For_tupT hh ⟨fun i σ => ∃ a, ok i a ∧ σ = stf a, ⟨a0, o0, h0⟩, fun i σ' hi hI c' e1 e2 e3 => hI.elim fun a ha => ?_, fun σ' h => h.elim fun a ha => ha.2 ▸ fin a ha.1⟩
  rw [ha.2]
  obtain ⟨l', el, hl, m⟩ := go_ok (st i a hi ha.1 c' (e1 ▸ hh) e3)
  show StW _ _ ((l[i]?).getD .none) _ _ _
  rw [el]
  exact StW.q (StW_tup (e1 ▸ hh) ⟨l', rfl, hl, m⟩ nm.1) fun τ z => XW.mono z (fun f υ y => loop_end y) fun _ _ z => z
theorem MU.lift {d : MDt} {tl : List AV} {nes pes : List (Int × AV)} {H H' : HS} (M : MU d tl nes pes H) (h : ∀ p ∈ H, p ∈ H') : MU d tl nes pes H' := ⟨h _ M.m, h _ M.dd, h _ M.hp, h _ M.hd, h _ M.th, h _ M.nat, h _ M.pr⟩
noncomputable abbrev ZH (A : HS) (t : TD) (p : Int) (nl : List AV) (sles : List (Str × AV)) (V : HS) (d : MDt) (tl : List AV) (nes pes : List (Int × AV)) : HS := A ++ t.onW p 0 0 nl sles (V ++ d.on tl nes pes [])
theorem ZH.sub {A : HS} {t : TD} {p : Int} {nl : List AV} {sles : List (Str × AV)} {V : HS} {d : MDt} {tl : List AV} {nes pes : List (Int × AV)} : ∀ q ∈ V ++ d.on tl nes pes [], q ∈ ZH A t p nl sles V d tl nes pes := fun q m => List.mem_append_right _ (.tail _ (.tail _ (.tail _ (.tail _ (.tail _ (.tail _ (.tail _ m)))))))
theorem ZH.th {A : HS} {t : TD} {p : Int} {nl : List AV} {sles : List (Str × AV)} {V : HS} {d : MDt} {tl tl' : List AV} {nes pes : List (Int × AV)} : HUpd d.th (.lst tl) (.lst tl') (ZH A t p nl sles V d tl nes pes) (ZH A t p nl sles V d tl' nes pes) := by
  apply HUpd.app
  iterate 7 apply HUpd.tail
  exact upTh d tl tl' nes pes V []
noncomputable def rowAt (rows : List (Str × Int)) (i : Nat) : Str × Int := (rows[i]?).getD ("", 0)
noncomputable def nlOf (rows : List (Str × Int)) : Nat → List AV
  | 0 => []
  | i + 1 => nlOf rows i ++ [.str (rowAt rows i).1]
noncomputable def slOf (rows : List (Str × Int)) (n0 : Nat) : Nat → List (Str × AV)
  | 0 => []
  | i + 1 => slOf rows n0 i ++ [((rowAt rows i).1, .tup [.int 6, .int ((n0 + i : Nat) : Int)])]
noncomputable def natH (rows : List (Str × Int)) (n0 : Nat) : List TD → HS → HS
  | [], A => A
  | t :: r, A => t.onN ((n0 + r.length : Nat) : Int) (rowAt rows r.length).2 (natH rows n0 r A)
noncomputable def tlN (tl : List AV) : List TD → List AV
  | [] => tl
  | t :: r => tlN tl r ++ [.val (.ref t.x)]
theorem tlN_len (tl : List AV) : ∀ us : List TD, (tlN tl us).length = tl.length + us.length
  | [] => rfl
  | _ :: us => by rw [tlN, List.length_append, tlN_len tl us]; rfl
theorem tlN_get {tl : List AV} {i : Nat} {a : AV} (h : tl[i]? = some a) : ∀ us : List TD, (tlN tl us)[i]? = some a
  | [] => h
  | _ :: us => by
    have := tlN_get h us
    rw [tlN, List.getElem?_append_left (List.getElem?_eq_some_iff.mp this).1]; exact this
theorem nlOf_len (rows : List (Str × Int)) : ∀ i, (nlOf rows i).length = i
  | 0 => rfl
  | i + 1 => by rw [nlOf, List.length_append, nlOf_len rows i]; rfl
theorem slOf_len (rows : List (Str × Int)) (n0 : Nat) : ∀ i, (slOf rows n0 i).length = i
  | 0 => rfl
  | i + 1 => by rw [slOf, List.length_append, slOf_len rows n0 i]; rfl
theorem natH_put {rows : List (Str × Int)} {us : List TD} {A V : HS} {t u : TD} {p : Int} {nl : List AV} {sles : List (Str × AV)} {d : MDt} {tl : List AV} {nes pes : List (Int × AV)} : u.onN (tlN tl us).length (rowAt rows us.length).2 (ZH (natH rows tl.length us A) t p nl sles V d (tlN tl us ++ [.val (.ref u.x)]) nes pes) = ZH (natH rows tl.length (u :: us) A) t p nl sles V d (tlN tl (u :: us)) nes pes := by
  rw [tlN_len]; rfl
noncomputable def PnR (d : MDt) (t : TD) (A V : HS) (tl : List AV) (nes pes : List (Int × AV)) (p : Int) (rows : List (Str × Int)) : AV → HS → Prop := fun a H' => a = .none ∧ ∃ us : List TD, us.length = rows.length ∧ H' = ZH (natH rows tl.length us A) t p (nlOf rows rows.length) (slOf rows tl.length rows.length) V d (tlN tl us) nes pes
theorem put_natives_W {k : Nat} {d : MDt} {t : TD} {A V : HS} {tl : List AV} {nes pes : List (Int × AV)} {p : Int} {rows : List (Str × Int)} (h2 : ((2 : Int), AV.int 2) ∈ pes) (hp : (p, AV.int p) ∈ pes) (hpr : 0 ≤ p ∧ p < 1000) (ht : tl[p.toNat]? = some (.val (.ref t.x))) (hl : tl.length + rows.length ≤ 700) (ab : ∀ i, i < rows.length → KAbs (rowAt rows i).1 (slOf rows tl.length i)) :
    CW w B (k + 5) (ZH A t p [] [] V d tl nes pes) (.ref 577) [.val (.ref d.m), .int p, .tup (rows.map rowAV)] (PnR d t A V tl nes pes p rows) (fun _ _ => False) := by
  refine CW_go (st 97) "put_natives" .none "kindkeep.runlib" 821 576 (h := fun c W => ?_)
  refine q_for (m := ?_)
  refine run_z (.v (.tup (rows.map rowAV))) (ZH A t p [] [] V d tl nes pes) (h := ?_)
  refine for_tupT W.hh ["name", "number"] (fun us : List TD => ⟨locOf (st 97) [.val (.ref d.m), .int p, .tup (rows.map rowAV)], ZH (natH rows tl.length us A) t p (nlOf rows us.length) (slOf rows tl.length us.length) V d (tlN tl us) nes pes⟩) (fun i us => us.length = i) [] (o0 := rfl) (st := fun i us hi hus c' e1 e2 => ?_) (fin := fun us hus => ?_)
  · subst hus
    rw [List.length_map] at hi
    have eit : ((rows.map rowAV)[us.length]?).getD .none = .tup [.str (rowAt rows us.length).1, .int (rowAt rows us.length).2] := by
      rw [List.getElem?_map, rowAt, List.getElem?_eq_getElem hi]; rfl
    rw [eit]
    have M := (MU.on d (tlN tl us) nes pes V []).lift (ZH.sub (A := natH rows tl.length us A) (t := t) (p := p) (nl := nlOf rows us.length) (sles := slOf rows tl.length us.length))
    have h7 : tl.length + us.length ≤ 700 := Nat.le_trans (Nat.add_le_add_left (Nat.le_of_lt hi) _) hl
    have hu7 : us.length ≤ 700 := Nat.le_trans (Nat.le_add_left _ _) h7
    refine q_atF (ZH (natH rows tl.length us A) t p (nlOf rows us.length) (slOf rows tl.length us.length) V d (tlN tl us) nes pes) "heap" M.m M.dd (mem_nth 0 rfl) (m := ?_)
    refine q_atF (ZH (natH rows tl.length us A) t p (nlOf rows us.length) (slOf rows tl.length us.length) V d (tlN tl us) nes pes) "protos" M.m M.dd (mem_nth 14 rfl) (m := ?_)
    refine q_gIF (ZH (natH rows tl.length us A) t p (nlOf rows us.length) (slOf rows tl.length us.length) V d (tlN tl us) nes pes) p M.pr hp (m := ?_)
    refine run_call (.ref 570) [.val (.ref d.m), .int (rowAt rows us.length).2] (ZH (natH rows tl.length us A) t p (nlOf rows us.length) (slOf rows tl.length us.length) V d (tlN tl us) nes pes) (native_value_W (k := 0) (H1 := fun x => ZH (natH rows tl.length us A) t p (nlOf rows us.length) (slOf rows tl.length us.length) V d (tlN tl us ++ [.val (.ref x)]) nes pes) M h2 (by rw [tlN_len]; exact le_n h7 _) (fun x => ZH.th)) e1 (le_k (e2.trans W.k) 4 4) (q := NvR.use fun u => ?_) (qe := fun _ _ z => z.elim)
    dsimp only
    rw [natH_put]
    have M2 := (MU.on d (tlN tl (u :: us)) nes pes V []).lift (ZH.sub (A := natH rows tl.length (u :: us) A) (t := t) (p := p) (nl := nlOf rows us.length) (sles := slOf rows tl.length us.length))
    have nt : ∀ (j : Nat) {q : Addr × HObj}, (t.onW p 0 0 (nlOf rows us.length) (slOf rows tl.length us.length) (V ++ d.on (tlN tl (u :: us)) nes pes []))[j]? = some q → q ∈ (ZH (natH rows tl.length (u :: us) A) t p (nlOf rows us.length) (slOf rows tl.length us.length) V d (tlN tl (u :: us)) nes pes) := fun j _ e => List.mem_append_right _ (List.mem_of_getElem? e)
    have T : ThIn t.x p 0 0 t.nm t.sl t.ge t.se t.it t.dx (ZH (natH rows tl.length (u :: us) A) t p (nlOf rows us.length) (slOf rows tl.length us.length) V d (tlN tl (u :: us)) nes pes) := ⟨nt 5 rfl, nt 6 rfl, nt 2 rfl, nt 1 rfl⟩
    refine run_val (.ref 305) [.val (.ref d.hp), .int p, .str (rowAt rows us.length).1, .tup [.int 6, .int (tlN tl us).length]] .none (ZH (natH rows tl.length (u :: us) A) t p (nlOf rows us.length) (slOf rows tl.length us.length) V d (tlN tl (u :: us)) nes pes) (H1 := (ZH (natH rows tl.length (u :: us) A) t p (nlOf rows (us.length + 1)) (slOf rows tl.length (us.length + 1)) V d (tlN tl (u :: us)) nes pes)) (set_own_W (k := 0) (H1 := ZH (natH rows tl.length (u :: us) A) t p (nlOf rows (us.length + 1)) (slOf rows tl.length us.length) V d (tlN tl (u :: us)) nes pes) M2.hpIn ⟨hpr.1, Int.lt_trans hpr.2 (by decide)⟩ (tlN_get ht (u :: us)) T rfl (nt 3 rfl) (nt 4 rfl) (by rw [nlOf_len]; exact le_n hu7 _) (by rw [slOf_len]; exact le_n hu7 _) (ab us.length hi) (HUpd.app _ (.tail (.tail (.tail (.tail .head))))) (by rw [tlN_len]; exact HUpd.app _ (.tail (.tail (.tail .head))))) e1 (le_k (e2.trans W.k) 2 4) (m := ?_)
    exact run_z (.f .next) (ZH (natH rows tl.length (u :: us) A) t p (nlOf rows (us.length + 1)) (slOf rows tl.length (us.length + 1)) V d (tlN tl (u :: us)) nes pes) (h := nx_of (u :: us) rfl)
  · rw [List.length_map] at hus
    exact run_fin (ZH (natH rows tl.length us A) t p (nlOf rows us.length) (slOf rows tl.length us.length) V d (tlN tl us) nes pes) (h := ⟨rfl, us, hus, by rw [hus]⟩)
end Mine
namespace Mine
variable {w : World} {B : Heap}
theorem ZH.natu {A : HS} {t : TD} {p : Int} {nl : List AV} {sles : List (Str × AV)} {V : HS} {d : MDt} {tl : List AV} {nes nes' pes : List (Int × AV)} : HUpd d.nat (.dctI nes) (.dctI nes') (ZH A t p nl sles V d tl nes pes) (ZH A t p nl sles V d tl nes' pes) := by
  apply HUpd.app
  iterate 7 apply HUpd.tail
  exact upNat d tl nes nes' pes V []
theorem natH_app (rows : List (Str × Int)) (n0 : Nat) (A X : HS) : ∀ us : List TD, natH rows n0 us (A ++ X) = natH rows n0 us A ++ X
  | [] => rfl
  | u :: us => by rw [natH, natH_app rows n0 A X us]; rfl
noncomputable abbrev pes6 : List (Int × AV) := [(0, .int 0), (1, .int 1), (2, .int 2), (3, .int 3), (4, .int 4), (5, .int 5)]
noncomputable def ItR (d : MDt) (t : TD) (A V : HS) (tl : List AV) (n : Nat) (rows : List (Str × Int)) (cls : Addr) (n0 : Nat) (p : Int) (nes : Addr → List (Int × AV)) : AV → HS → Prop := fun a H' => a = .none ∧ ∃ (tx txd : Addr) (us : List TD), us.length = n ∧ H' = ZH (natH rows n0 us ((tx, .ins cls txd) :: (txd, .dctS []) :: A)) t p (nlOf rows n) (slOf rows n0 n) V d (tlN tl us) (nes tx) pes6
theorem absB {K : Type} [DecidableEq K] {k : K} {es : List (K × AV)} (h : (es.all fun p => !decide (p.1 = k)) = true) : KAbs k es := KAbs.of fun p m e => by
  have := List.all_eq_true.mp h p m
  rw [decide_eq_true e] at this
  cases this
theorem PnR.use {d : MDt} {t : TD} {A V : HS} {tl : List AV} {nes pes : List (Int × AV)} {p : Int} {rows : List (Str × Int)} {R : AV → HS → Prop} (q : ∀ us : List TD, us.length = rows.length → R .none (ZH (natH rows tl.length us A) t p (nlOf rows rows.length) (slOf rows tl.length rows.length) V d (tlN tl us) nes pes)) (a : AV) (H' : HS) (h : PnR d t A V tl nes pes p rows a H') : R a H' := by
  obtain ⟨rfl, us, h1, rfl⟩ := h
  exact q us h1
theorem install_texts_W {k : Nat} {d : MDt} {A V : HS} {t : TD} {tl : List AV} (hl : tl.length = 6) (ht : tl[4]? = some (.val (.ref t.x))) :
    CW w B (k + 6) (ZH A t 4 [] [] V d tl [] pes6) (.ref 598) [.val (.ref d.m)] (ItR d t A V tl 7 textRows 528 6 4 fun tx => [(2, .val (.ref tx))]) (fun _ _ => False) := by
  have ab : ∀ i, i < 7 → KAbs (rowAt textRows i).1 (slOf textRows 6 i) := fun i hi => absB ((show ∀ i, i < 7 → ((slOf textRows 6 i).all fun p => !decide (p.1 = (rowAt textRows i).1)) = true by decide +kernel) i hi)
  refine CW_go (st 100) "install_texts" .none "kindkeep.runlib" 821 597 (h := fun c W => ?_)
  refine q_bare 528 (by decide +kernel) (h := fun tx txd => ?_)
  have M := (MU.on d tl [] pes6 V []).lift (H' := (tx, .ins 528 txd) :: (txd, .dctS []) :: ZH A t 4 [] [] V d tl [] pes6) (fun q m => .tail _ (.tail _ (ZH.sub (A := A) (t := t) (p := 4) (nl := []) (sles := []) q m)))
  refine q_atF ((tx, .ins 528 txd) :: (txd, .dctS []) :: ZH A t 4 [] [] V d tl [] pes6) "heap" M.m M.dd (mem_nth 0 rfl) (m := ?_)
  refine q_atF ((tx, .ins 528 txd) :: (txd, .dctS []) :: ZH A t 4 [] [] V d tl [] pes6) "natives" M.hp M.hd (mem_nth 1 rfl) (m := ?_)
  refine q_divL 201 100 (m := ?_)
  refine q_si (.val (.ref d.nat)) (.int 2) (.val (.ref tx)) ((tx, .ins 528 txd) :: (txd, .dctS []) :: ZH A t 4 [] [] V d tl [] pes6) (h := SII_new (.tail (.tail (ZH.natu (nes' := [(2, .val (.ref tx))])))) (KAbs.nil.new _) (Nat.zero_le _) ?_)
  refine run_call (.ref 577) [.val (.ref d.m), .int 4, .tup (textRows.map rowAV)] (ZH ((tx, .ins 528 txd) :: (txd, .dctS []) :: A) t 4 [] [] V d tl [(2, .val (.ref tx))] pes6) (put_natives_W (k := 0) (A := (tx, .ins 528 txd) :: (txd, .dctS []) :: A) (t := t) (V := V) (d := d) (tl := tl) (nes := [(2, .val (.ref tx))]) (pes := pes6) (p := 4) (rows := textRows) (mem_nth 2 rfl) (mem_nth 4 rfl) (by decide) ht (by rw [hl]; decide) (by rw [hl]; exact ab)) W.hh (le_k W.k 5 5) (q := PnR.use fun us hu => ?_) (qe := fun _ _ z => z.elim)
  exact run_fin (ZH (natH textRows tl.length us ((tx, .ins 528 txd) :: (txd, .dctS []) :: A)) t 4 (nlOf textRows 7) (slOf textRows tl.length 7) V d (tlN tl us) [(2, .val (.ref tx))] pes6) (h := ⟨rfl, tx, txd, us, hu, by rw [hl]⟩)
theorem install_numbers_W {k : Nat} {d : MDt} {A V : HS} {t : TD} {tl : List AV} {tx : Addr} (hl : tl.length = 13) (ht : tl[5]? = some (.val (.ref t.x))) :
    CW w B (k + 6) (ZH A t 5 [] [] V d tl [(2, .val (.ref tx))] pes6) (.ref 605) [.val (.ref d.m)] (ItR d t A V tl 1 numRows 561 13 5 fun nx => [(2, .val (.ref tx)), (3, .val (.ref nx))]) (fun _ _ => False) := by
  have ab : ∀ i, i < 1 → KAbs (rowAt numRows i).1 (slOf numRows 13 i) := fun i hi => absB ((show ∀ i, i < 1 → ((slOf numRows 13 i).all fun p => !decide (p.1 = (rowAt numRows i).1)) = true by decide +kernel) i hi)
  refine CW_go (st 101) "install_numbers" .none "kindkeep.runlib" 821 604 (h := fun c W => ?_)
  refine q_bare 561 (by decide +kernel) (h := fun nx nxd => ?_)
  have M := (MU.on d tl [(2, .val (.ref tx))] pes6 V []).lift (H' := (nx, .ins 561 nxd) :: (nxd, .dctS []) :: ZH A t 5 [] [] V d tl [(2, .val (.ref tx))] pes6) (fun q m => .tail _ (.tail _ (ZH.sub (A := A) (t := t) (p := 5) (nl := []) (sles := []) q m)))
  refine q_atF ((nx, .ins 561 nxd) :: (nxd, .dctS []) :: ZH A t 5 [] [] V d tl [(2, .val (.ref tx))] pes6) "heap" M.m M.dd (mem_nth 0 rfl) (m := ?_)
  refine q_atF ((nx, .ins 561 nxd) :: (nxd, .dctS []) :: ZH A t 5 [] [] V d tl [(2, .val (.ref tx))] pes6) "natives" M.hp M.hd (mem_nth 1 rfl) (m := ?_)
  refine q_divL 301 100 (m := ?_)
  refine q_si (.val (.ref d.nat)) (.int 3) (.val (.ref nx)) ((nx, .ins 561 nxd) :: (nxd, .dctS []) :: ZH A t 5 [] [] V d tl [(2, .val (.ref tx))] pes6) (h := SII_new (.tail (.tail (ZH.natu (nes' := [(2, .val (.ref tx)), (3, .val (.ref nx))])))) ((KAbs.cons (by decide +kernel) .nil).new _) (Nat.le_of_ble_eq_true rfl) ?_)
  refine run_call (.ref 577) [.val (.ref d.m), .int 5, .tup (numRows.map rowAV)] (ZH ((nx, .ins 561 nxd) :: (nxd, .dctS []) :: A) t 5 [] [] V d tl [(2, .val (.ref tx)), (3, .val (.ref nx))] pes6) (put_natives_W (k := 0) (A := (nx, .ins 561 nxd) :: (nxd, .dctS []) :: A) (t := t) (V := V) (d := d) (tl := tl) (nes := [(2, .val (.ref tx)), (3, .val (.ref nx))]) (pes := pes6) (p := 5) (rows := numRows) (mem_nth 2 rfl) (mem_nth 5 rfl) (by decide) ht (by rw [hl]; decide) (by rw [hl]; exact ab)) W.hh (le_k W.k 5 5) (q := PnR.use fun us hu => ?_) (qe := fun _ _ z => z.elim)
  exact run_fin (ZH (natH numRows tl.length us ((nx, .ins 561 nxd) :: (nxd, .dctS []) :: A)) t 5 (nlOf numRows 1) (slOf numRows tl.length 1) V d (tlN tl us) [(2, .val (.ref tx)), (3, .val (.ref nx))] pes6) (h := ⟨rfl, nx, nxd, us, hu, by rw [hl]⟩)
end Mine
namespace Mine
variable {w : World} {B : Heap}
noncomputable def PulR (H1 : List AV → HS) (ns : List Int) (m : Int) : AV → HS → Prop := fun r H' => ∃ (q : Nat) (ns' : List Int), (q : Int) < m ∧ r = .int q ∧ ns'.length ≤ ns.length ∧ H' = H1 (ns'.map .int)
theorem PulR.use {H1 : List AV → HS} {ns : List Int} {m : Int} {R : AV → HS → Prop} (q : ∀ (q : Nat) (ns' : List Int), (q : Int) < m → ns'.length ≤ ns.length → R (.int q) (H1 (ns'.map .int))) (r : AV) (H' : HS) (h : PulR H1 ns m r H') : R r H' := by
  obtain ⟨x, ns', h1, rfl, h2, rfl⟩ := h
  exact q x ns' h1 h2
theorem law_pull_U {k : Nat} {H : HS} {H1 : List AV → HS} {W bag : Addr} {es : List (Str × AV)} {ns : List Int} {m : Int} (w1 : (W, .dctS es) ∈ H) (b1 : (("bag" : Str), AV.val (.ref bag)) ∈ es) (w2 : (bag, .lst (ns.map .int)) ∈ H) (u : ∀ l', HUpd bag (.lst (ns.map .int)) (.lst l') H (H1 l')) (hs : H1 (ns.map .int) = H) (hm : 0 < m) (hn : ns.length ≤ 1000) :
    CW w B (k + 1) H (.ref 882) [.val (.ref W), .int m] (PulR H1 ns m) (fun _ _ => False) := by
  refine CW_go (st 141) "_law_pull" .none "law_xw0126_01" 1511 881 (h := fun c A => ?_)
  refine q_gSF H "bag" w1 b1 (m := ?_)
  refine q_tu (.val (.ref bag)) H (h := TU_H w2 (by rw [List.length_map]; exact le_n hn _) ?_)
  rcases List.eq_nil_or_concat ns with rfl | ⟨i, x, rfl⟩
  · refine run_b false (m := ?_)
    exact run_ret (.int 0) H (h := ⟨0, [], hm, rfl, Nat.le_refl _, hs.symm⟩)
  · have e : ((i.concat x).map AV.int) = i.map AV.int ++ [AV.int x] := by rw [List.concat_eq_append, List.map_append]; rfl
    have u := u (i.map .int)
    rw [e] at w2 u ⊢
    have hb : (i.concat x).length = i.length + 1 := List.length_concat ..
    have e2 : (!(List.map AV.int i ++ [AV.int x]).isEmpty) = true := by cases i <;> rfl
    rw [e2]
    refine run_b true (m := ?_)
    refine q_gSF H "bag" w1 b1 (m := ?_)
    refine q_mLF H "pop" "list.pop" w2 (m := ?_)
    refine q_call (.builtin "list.pop") [.val (.ref bag)] H (h := VW_pop u (by rw [List.length_map]; exact Nat.le_trans (Nat.le_succ _) (le_n (hb ▸ hn) _)) ?_)
    refine q_bin .Mod (.int x) (.int m) (h := BW_mod (Int.ne_of_gt hm) ?_)
    have h1 : 0 ≤ Int.fmod x m := Int.fmod_nonneg_of_pos _ hm
    exact run_ret (.int (Int.fmod x m)) (H1 (i.map .int)) (h := ⟨(Int.fmod x m).toNat, i, by rw [Int.toNat_of_nonneg h1]; exact Int.fmod_lt_of_pos x hm, by rw [Int.toNat_of_nonneg h1], hb ▸ Nat.le_succ _, rfl⟩)
theorem natH_sub (rows : List (Str × Int)) (n0 : Nat) : ∀ (us : List TD) (A : HS), ∀ q ∈ A, q ∈ natH rows n0 us A
  | [], _, _, h => h
  | u :: us, A, q, h => .tail _ (.tail _ (.tail _ (.tail _ (.tail _ (.tail _ (.tail _ (natH_sub rows n0 us A q h)))))))
theorem natH_at (rows : List (Str × Int)) (tl : List AV) (A : HS) (i : Nat) : ∀ us : List TD, i < us.length → ∃ u : TD, (tlN tl us)[tl.length + i]? = some (.val (.ref u.x)) ∧ (u.x, .ins 140 u.dx) ∈ natH rows tl.length us A ∧ ∃ ek, (u.dx, .dctS ek) ∈ natH rows tl.length us A ∧ (("native" : Str), AV.int (rowAt rows i).2) ∈ ek
  | u :: us, h => by
    by_cases e : i = us.length
    · subst e
      refine ⟨u, ?_, by simp [natH], _, .tail _ (.tail _ (.tail _ (.tail _ (.tail _ (.tail _ (.head _)))))), by simp⟩
      rw [tlN, ← tlN_len tl us, List.getElem?_concat_length]
    · obtain ⟨v, h1, h2, ek, h3, h4⟩ := natH_at rows tl A i us (Nat.lt_of_le_of_ne (Nat.le_of_lt_succ h) e)
      refine ⟨v, ?_, .tail _ (.tail _ (.tail _ (.tail _ (.tail _ (.tail _ (.tail _ h2)))))), ek, .tail _ (.tail _ (.tail _ (.tail _ (.tail _ (.tail _ (.tail _ h3)))))), h4⟩
      rw [tlN, List.getElem?_append_left (List.getElem?_eq_some_iff.mp h1).1]; exact h1
theorem slOf_at (rows : List (Str × Int)) (n0 i : Nat) : ∀ n, i < n → ((rowAt rows i).1, AV.tup [.int 6, .int ((n0 + i : Nat) : Int)]) ∈ slOf rows n0 n
  | n + 1, h => by
    by_cases e : i = n
    · rw [slOf, e]; exact List.mem_append_right _ (.head _)
    · exact List.mem_append_left _ (slOf_at rows n0 i n (Nat.lt_of_le_of_ne (Nat.le_of_lt_succ h) e))
inductive NatE (U : HS) (tl : List AV) (proto : Int) (word : Str) (code : Int) : Prop
  | mk (xp dp slp xk dk : Addr) (ep sls ek : List (Str × AV)) (k : Int) (n1 : 0 ≤ proto) (n2 : proto < 1000) (n3 : tl[proto.toNat]? = some (.val (.ref xp))) (n4 : (xp, .ins 140 dp) ∈ U) (n5 : (dp, .dctS ep) ∈ U) (n6 : (("slots" : Str), AV.val (.ref slp)) ∈ ep) (n7 : (slp, .dctS sls) ∈ U) (n8 : (word, AV.tup [.int 6, .int k]) ∈ sls) (n9 : 0 ≤ k) (n10 : k < 1000) (n11 : tl[k.toNat]? = some (.val (.ref xk))) (n12 : (xk, .ins 140 dk) ∈ U) (n13 : (dk, .dctS ek) ∈ U) (n14 : (("native" : Str), AV.int code) ∈ ek)
theorem natE_of {rows : List (Str × Int)} {tl tl2 : List AV} {us : List TD} {A U : HS} {t : TD} {p : Int} {i n : Nat} {nl : List AV} {V : HS} (hp : 0 ≤ p ∧ p < 1000) (ht : tl[p.toNat]? = some (.val (.ref t.x))) (hl : tl.length ≤ 500) (hi : i < us.length) (hu : us.length ≤ 100) (hn : i < n) (h2 : ∀ (j : Nat) a, (tlN tl us)[j]? = some a → tl2[j]? = some a)
    (hA : ∀ q ∈ natH rows tl.length us A, q ∈ U) (hT : ∀ q ∈ t.onW p 0 0 nl (slOf rows tl.length n) V, q ∈ U) : NatE U tl2 p (rowAt rows i).1 (rowAt rows i).2 := by
  obtain ⟨u, h1, h3, ek, h4, h5⟩ := natH_at rows tl A i us hi
  refine ⟨t.x, t.dx, t.sl, u.x, u.dx, _, _, ek, ((tl.length + i : Nat) : Int), hp.1, hp.2, h2 _ _ (tlN_get ht us), hT _ (mem_nth 5 rfl), hT (t.dx, .dctS (thingE p 0 0 t.nm t.sl t.ge t.se t.it)) (mem_nth 6 rfl), mem_nth 3 rfl, hT (t.sl, .dctS (slOf rows tl.length n)) (mem_nth 3 rfl), slOf_at rows tl.length i n hn, Int.natCast_nonneg _, Int.ofNat_lt.mpr (Nat.lt_of_lt_of_le (Nat.add_lt_add_of_le_of_lt hl hi) (Nat.le_trans (Nat.add_le_add_left hu _) (by decide))), by rw [Int.toNat_natCast]; exact h2 _ _ h1, hA _ h3, hA _ h4, h5⟩
structure SetU (U : HS) (tl : List AV) (tx nx : Addr) : Prop where
  len : tl.length = 14
  tx : ∃ txd, (tx, .ins 528 txd) ∈ U ∧ (txd, .dctS []) ∈ U
  nx : ∃ nxd, (nx, .ins 561 nxd) ∈ U ∧ (nxd, .dctS []) ∈ U
  toS : NatE U tl 5 "toString" 301
  chA : NatE U tl 4 "charAt" 201
  slc : NatE U tl 4 "slice" 204
  inO : NatE U tl 4 "indexOf" 202
  inc : NatE U tl 4 "includes" 203
theorem setup_is {t5 t4 : TD} {V : HS} {tl : List AV} {us vs : List TD} {tx txd nx nxd : Addr} (hl : tl.length = 6) (h4 : tl[4]? = some (.val (.ref t4.x))) (h5 : tl[5]? = some (.val (.ref t5.x))) (hu : us.length = 7) (hv : vs.length = 1) :
    SetU (natH numRows 13 vs ((nx, .ins 561 nxd) :: (nxd, .dctS []) :: natH textRows 6 us ((tx, .ins 528 txd) :: (txd, .dctS []) :: [])) ++ t5.onW 5 0 0 (nlOf numRows 1) (slOf numRows 13 1) (t4.onW 4 0 0 (nlOf textRows 7) (slOf textRows 6 7) V)) (tlN (tlN tl us) vs) tx nx := by
  have hl13 : (tlN tl us).length = 13 := by rw [tlN_len]; omega
  have g1 : ∀ (j : Nat) a, (tlN tl us)[j]? = some a → (tlN (tlN tl us) vs)[j]? = some a := fun j a h => tlN_get h vs
  have hA : ∀ q ∈ natH textRows tl.length us ((tx, .ins 528 txd) :: (txd, .dctS []) :: []), q ∈ natH numRows 13 vs ((nx, .ins 561 nxd) :: (nxd, .dctS []) :: natH textRows 6 us ((tx, .ins 528 txd) :: (txd, .dctS []) :: [])) ++ t5.onW 5 0 0 (nlOf numRows 1) (slOf numRows 13 1) (t4.onW 4 0 0 (nlOf textRows 7) (slOf textRows 6 7) V) := fun q h => List.mem_append_left _ (natH_sub _ _ _ _ _ (.tail _ (.tail _ (hl ▸ h))))
  have hT : ∀ q ∈ t4.onW 4 0 0 (nlOf textRows 7) (slOf textRows tl.length 7) V, q ∈ natH numRows 13 vs ((nx, .ins 561 nxd) :: (nxd, .dctS []) :: natH textRows 6 us ((tx, .ins 528 txd) :: (txd, .dctS []) :: [])) ++ t5.onW 5 0 0 (nlOf numRows 1) (slOf numRows 13 1) (t4.onW 4 0 0 (nlOf textRows 7) (slOf textRows 6 7) V) := fun q h => List.mem_append_right _ (.tail _ (.tail _ (.tail _ (.tail _ (.tail _ (.tail _ (.tail _ (by rw [hl] at h; exact h))))))))
  have tE := fun (i : Nat) (hi : i < 7) => natE_of (rows := textRows) (i := i) (n := 7) (p := 4) (tl2 := tlN (tlN tl us) vs) (by decide) h4 (by omega) (by omega) (by omega) hi g1 hA hT
  refine ⟨by rw [tlN_len]; omega, ⟨txd, hA _ (natH_sub _ _ _ _ _ (.head _)), hA _ (natH_sub _ _ _ _ _ (.tail _ (.head _)))⟩, ⟨nxd, List.mem_append_left _ (natH_sub _ _ _ _ _ (.head _)), List.mem_append_left _ (natH_sub _ _ _ _ _ (.tail _ (.head _)))⟩, ?_, tE 0 (by decide), tE 3 (by decide), tE 1 (by decide), tE 2 (by decide)⟩
  exact natE_of (rows := numRows) (i := 0) (n := 1) (p := 5) (tl := tlN tl us) (us := vs) (t := t5) (by decide) (tlN_get h5 us) (by omega) (by omega) (by omega) (by decide) (fun _ _ h => h) (fun q h => List.mem_append_left _ (by rw [hl13] at h; exact h)) (fun q h => List.mem_append_right _ (by rw [hl13] at h; exact h))
end Mine
namespace Mine
variable {w : World} {B : Heap}
noncomputable abbrev nesL (tx nx : Addr) : List (Int × AV) := [(2, .val (.ref tx)), (3, .val (.ref nx))]
noncomputable def MDt.D1 (d : MDt) (nes pes : List (Int × AV)) : HS := [(d.ho, .ins 733 d.hod), (d.hod, .dctS []), (d.ma, .ins 712 d.mad), (d.mad, .dctS []), (d.bi, .ins 684 d.bid), (d.bid, .dctS []), (d.cp, .dctS []), (d.pr, .dctI pes), (d.wa, .ins 656 d.wad), (d.wad, .dctS []), (d.told, .lst []), (d.out, .lst []), (d.st, .dctS []), (d.ex, .dctS []), (d.nat, .dctI nes)]
noncomputable def MDt.D2 (d : MDt) : HS := [(d.hp, .ins 182 d.hd), (d.hd, .dctS d.hes), (d.m, .ins 796 d.md), (d.md, .dctS d.mes)]
theorem MDt.split (d : MDt) (tl : List AV) (nes pes : List (Int × AV)) (M U : HS) : M ++ (U ++ d.on tl nes pes []) = (M ++ (U ++ d.D1 nes pes)) ++ (d.th, .lst tl) :: d.D2 := by
  rw [show d.on tl nes pes [] = d.D1 nes pes ++ (d.th, .lst tl) :: d.D2 from rfl, List.append_assoc, List.append_assoc]
theorem nd3 {b W t : Addr} {x y z : HObj} {P D : HS} (h : (keys ((b, x) :: (W, y) :: (P ++ (t, z) :: D))).Nodup) : W ∉ keys (P ++ D) ∧ b ∉ keys (P ++ D) ∧ t ∉ keys (P ++ D) ∧ W ≠ b ∧ W ≠ t ∧ b ≠ t := by
  simp only [keys, List.map_cons, List.map_append, List.nodup_cons, List.mem_cons, List.mem_append, List.nodup_append, not_or] at h ⊢
  obtain ⟨⟨h1, h2, h3, h4⟩, ⟨h5, h6, h7⟩, h8, ⟨h9, h10⟩, h11⟩ := h
  exact ⟨⟨h5, h7⟩, ⟨h2, h4⟩, ⟨fun z => h11 _ z _ (.inl rfl) rfl, h9⟩, fun z => h1 z.symm, h6, h3⟩
theorem natA_of {a : SysD} {fix U : HS} {tl tl' : List AV} {p : Int} {x : Str} {code : Int} (N : NatE U tl p x code) (hU : ∀ q ∈ U, q ∈ fix) (h2 : ∀ (j : Nat) v, tl[j]? = some v → tl'[j]? = some v) (hp : (p, AV.int p) ∈ a.pes) : NatA a fix tl' p x code := by
  obtain ⟨xp, dp, slp, xk, dk, ep, sls, ek, ki, n1, n2, n3, n4, n5, n6, n7, n8, n9, n10, n11, n12, n13, n14⟩ := N
  exact ⟨hp, xp, dp, slp, xk, dk, ep, sls, ek, ki, n1, n2, h2 _ _ n3, hU _ n4, hU _ n5, n6, hU _ n7, n8, n9, n10, h2 _ _ n11, hU _ n12, hU _ n13, n14⟩
noncomputable abbrev sysOf (d : MDt) (tx txd nx nxd W bag : Addr) : SysD := ⟨d.m, d.md, d.hp, d.hd, d.th, d.nat, d.pr, tx, txd, nx, nxd, W, bag, d.mes, d.hes, pes6, nesL tx nx⟩
theorem lawOK_of {M U : HS} {d : MDt} {tl tl' : List AV} {tx txd nx nxd W bag : Addr} {cst : LawC} {x y : HObj} (SU : SetU U tl tx nx) (x1 : (tx, .ins 528 txd) ∈ U) (x2 : (txd, .dctS []) ∈ U) (x3 : (nx, .ins 561 nxd) ∈ U) (x4 : (nxd, .dctS []) ∈ U)
    (nd : (keys ((bag, x) :: (W, y) :: (M ++ (U ++ d.on tl' (nesL tx nx) pes6 [])))).Nodup) (h2 : ∀ (j : Nat) v, tl[j]? = some v → tl'[j]? = some v)
    (nv : ∃ nv : JV, cst.nv = nv.av ∧ (nv = .nan ∨ ∃ n, nv = .num n ∧ n.natAbs < 2 ^ 64)) (T : Txt1 cst.T) (ts : ∃ ts : List Int, (cst.things = ts.map fun i => (JV.obj i).av) ∧ ts.length = 5) :
    LawOK (sysOf d tx txd nx nxd W bag) cst ((M ++ (U ++ d.D1 (nesL tx nx) pes6)) ++ d.D2) tl' := by
  rw [MDt.split] at nd
  obtain ⟨a1, a2, a3, a4, a5, a6⟩ := nd3 nd
  have hU : ∀ q ∈ U, q ∈ (M ++ (U ++ d.D1 (nesL tx nx) pes6)) ++ d.D2 := fun q h => List.mem_append_left _ (List.mem_append_right _ (List.mem_append_left _ h))
  have h1 : ∀ (i : Nat) {q : Addr × HObj}, (d.D1 (nesL tx nx) pes6)[i]? = some q → q ∈ (M ++ (U ++ d.D1 (nesL tx nx) pes6)) ++ d.D2 := fun i _ h => List.mem_append_left _ (List.mem_append_right _ (List.mem_append_right _ (mem_nth i h)))
  have hD : ∀ (i : Nat) {q : Addr × HObj}, d.D2[i]? = some q → q ∈ (M ++ (U ++ d.D1 (nesL tx nx) pes6)) ++ d.D2 := fun i _ h => List.mem_append_right _ (mem_nth i h)
  exact ⟨⟨hD 2 rfl, hD 3 rfl, mem_nth 0 rfl, mem_nth 14 rfl, absK_ok (by kernel_rfl), hD 0 rfl, hD 1 rfl, .head _, h1 7 rfl, mem_nth 3 rfl, .tail _ (.head _), h1 14 rfl, .head _, .tail _ (.head _), hU _ x1, hU _ x2, hU _ x3, hU _ x4, a1, a2, a3, a4, a5, a6⟩, natA_of SU.toS hU h2 (mem_nth 5 rfl), natA_of SU.chA hU h2 (mem_nth 4 rfl), natA_of SU.slc hU h2 (mem_nth 4 rfl), natA_of SU.inO hU h2 (mem_nth 4 rfl), natA_of SU.inc hU h2 (mem_nth 4 rfl), nv, T, ts⟩
end Mine
namespace Mine
variable {w : World} {B : Heap}
noncomputable def srt : Nat → Int
  | 0 => 1
  | 1 => 1
  | 2 => 0
  | _ => 3
noncomputable def mdA (n0 : Nat) : List TD → HS
  | [] => []
  | t :: r => t.on ((n0 + r.length : Nat) : Int) (srt r.length) (srt r.length) (mdA n0 r)
theorem srt_mem : ∀ i, (srt i, AV.int (srt i)) ∈ pes6
  | 0 | 1 => mem_nth 1 rfl
  | 2 => mem_nth 0 rfl
  | _ + 3 => mem_nth 3 rfl
theorem MU.all {d : MDt} {tl : List AV} {nes pes : List (Int × AV)} {A U : HS} : MU d tl nes pes (A ++ (U ++ d.on tl nes pes [])) := (MU.on d tl nes pes U []).lift fun _ m => List.mem_append_right _ m
noncomputable def chT (q j : Nat) : Nat := ((ls "aba1b")[(q / (9 * 5 ^ j) + j) % 5]?).getD 0
theorem chT_get (q j : Nat) : (ls "aba1b")[(q / (9 * 5 ^ j) + j) % 5]? = some (chT q j) := ls_at (x := "aba1b") (Nat.mod_lt _ (Nat.zero_lt_succ 4))
theorem txt1_of (q n : Nat) (h : n ≤ 8) : Txt1 (mkS ((List.range n).map (chT q))) := by
  have a : ∀ ch ∈ ls "aba1b", ch < 0x110000 := by decide +kernel
  refine ⟨by rw [mk_len, List.length_map, List.length_range]; exact h, strOk_mk fun ch hc => ?_⟩
  obtain ⟨j, _, rfl⟩ := List.mem_map.mp hc
  exact a _ (List.mem_of_getElem? (chT_get q j))
noncomputable def madeP (s3 s2 s1 s0 : TD) : HS := s3.on 17 3 3 (s2.on 16 0 0 (s1.on 15 1 1 ((s0.it, .lst []) :: (s0.se, .dctS []) :: (s0.ge, .dctS []) :: (s0.sl, .dctS []) :: (s0.nm, .lst []) :: (s0.x, .ins 140 s0.dx) :: (s0.dx, .dctS [("number", .int 14), ("sort", .int 1), ("names", .val (.ref s0.nm)), ("slots", .val (.ref s0.sl)), ("getters", .val (.ref s0.ge)), ("setters", .val (.ref s0.se)), ("proto", .int 1), ("items", .lst [.tup [.int 3, .int 2]]), ("code", .none), ("native", .int 0), ("home", .int (-1))]) :: [])))
theorem SlW_all {c : Ctx w B} {E : QE} {σ : St} {l : List AV} {n : Nat} {Q : QA} (h : l.length ≤ n) (q : Q (.lst l) σ) (hn : autoParam (Nat.ble n 1000 = true) rr) : SlA c σ none (.lst l) .none (.int n) .none Q E := SlW_up2 (by rw [List.take_of_length_le h]; exact q) (Nat.le_trans h (Nat.le_trans (Nat.le_of_ble_eq_true hn) (by decide)))
theorem len_succ {α : Type} {l : List α} {n : Nat} (h : l.length = n + 1) : ∃ a r, l = a :: r ∧ r.length = n := by
  cases l with
  | nil => cases h
  | cons a r => exact ⟨a, r, rfl, Nat.succ.inj h⟩
theorem len_four {α : Type} {l : List α} (h : l.length = 4) : ∃ a b c d, l = [a, b, c, d] := by
  obtain ⟨a, r1, rfl, h1⟩ := len_succ h
  obtain ⟨b, r2, rfl, h2⟩ := len_succ h1
  obtain ⟨c, r3, rfl, h3⟩ := len_succ h2
  obtain ⟨d, r4, rfl, h4⟩ := len_succ h3
  exact ⟨a, b, c, d, by rw [List.eq_nil_of_length_eq_zero h4]⟩
theorem PrR.use {d : MDt} {R : AV → HS → Prop} (q : ∀ t5 t4 t3 t2 t1 t0 : TD, R .none (ZH (t5.onW 5 0 0 [] [] []) t4 4 [] [] (prA [t3, t2, t1, t0]) d (tlOf [t5, t4, t3, t2, t1, t0]) [] pes6)) (a : AV) (H' : HS) (h : PrR d a H') : R a H' := by
  obtain ⟨rfl, ts, h1, rfl⟩ := h
  obtain ⟨t5, r1, rfl, h2⟩ := len_succ h1
  obtain ⟨t4, r2, rfl, h3⟩ := len_succ h2
  obtain ⟨t3, t2, t1, t0, rfl⟩ := len_four h3
  exact q t5 t4 t3 t2 t1 t0
theorem ItR.use {d : MDt} {t : TD} {A V : HS} {tl : List AV} {n : Nat} {rows : List (Str × Int)} {cls : Addr} {n0 : Nat} {p : Int} {nes : Addr → List (Int × AV)} {R : AV → HS → Prop} (q : ∀ (tx txd : Addr) (us : List TD), us.length = n → R .none (ZH (natH rows n0 us ((tx, .ins cls txd) :: (txd, .dctS []) :: A)) t p (nlOf rows n) (slOf rows n0 n) V d (tlN tl us) (nes tx) pes6)) (a : AV) (H' : HS) (h : ItR d t A V tl n rows cls n0 p nes a H') : R a H' := by
  obtain ⟨rfl, tx, txd, us, h1, rfl⟩ := h
  exact q tx txd us h1
noncomputable def TxR (d : MDt) (t5 t4 t3 t2 t1 t0 : TD) : AV → HS → Prop := fun a H' => a = .none ∧ ∃ (tx txd : Addr) (us : List TD), us.length = 7 ∧ H' = ZH (natH textRows 6 us ((tx, .ins 528 txd) :: (txd, .dctS []) :: [])) t5 5 [] [] (t4.onW 4 0 0 (nlOf textRows 7) (slOf textRows 6 7) (prA [t3, t2, t1, t0])) d (tlN (tlOf [t5, t4, t3, t2, t1, t0]) us) [(2, .val (.ref tx))] pes6
theorem TxR.use {d : MDt} {t5 t4 t3 t2 t1 t0 : TD} {R : AV → HS → Prop} (q : ∀ (tx txd : Addr) (us : List TD), us.length = 7 → R .none (ZH (natH textRows 6 us ((tx, .ins 528 txd) :: (txd, .dctS []) :: [])) t5 5 [] [] (t4.onW 4 0 0 (nlOf textRows 7) (slOf textRows 6 7) (prA [t3, t2, t1, t0])) d (tlN (tlOf [t5, t4, t3, t2, t1, t0]) us) [(2, .val (.ref tx))] pes6)) (a : AV) (H' : HS) (h : TxR d t5 t4 t3 t2 t1 t0 a H') : R a H' := by
  obtain ⟨rfl, tx, txd, us, h1, rfl⟩ := h
  exact q tx txd us h1
theorem texts_W {k : Nat} {d : MDt} {t5 t4 t3 t2 t1 t0 : TD} : CW w B (k + 6) (ZH (t5.onW 5 0 0 [] [] []) t4 4 [] [] (prA [t3, t2, t1, t0]) d (tlOf [t5, t4, t3, t2, t1, t0]) [] pes6) (.ref 598) [.val (.ref d.m)] (TxR d t5 t4 t3 t2 t1 t0) (fun _ _ => False) :=
  (install_texts_W (d := d) (A := t5.onW 5 0 0 [] [] []) (V := prA [t3, t2, t1, t0]) (t := t4) (tl := tlOf [t5, t4, t3, t2, t1, t0]) rfl rfl).mono (ItR.use fun tx txd us hus => ⟨rfl, tx, txd, us, hus, by
    show natH textRows 6 us ([(tx, HObj.ins 528 txd), (txd, .dctS [])] ++ t5.onW 5 0 0 [] [] []) ++ _ = _
    rw [natH_app, List.append_assoc]; rfl⟩) fun _ _ z => z
structure SetX (U : HS) (tl : List AV) (tx txd nx nxd : Addr) : Prop where
  su : SetU U tl tx nx
  x1 : (tx, HObj.ins 528 txd) ∈ U
  x2 : (txd, HObj.dctS []) ∈ U
  x3 : (nx, HObj.ins 561 nxd) ∈ U
  x4 : (nxd, HObj.dctS []) ∈ U
noncomputable def NxR (d : MDt) : AV → HS → Prop := fun a H' => a = .none ∧ ∃ (U : HS) (tl : List AV) (tx txd nx nxd : Addr), SetX U tl tx txd nx nxd ∧ H' = U ++ d.on tl (nesL tx nx) pes6 []
theorem NxR.use {d : MDt} {R : AV → HS → Prop} (q : ∀ (U : HS) (tl : List AV) (tx txd nx nxd : Addr), SetX U tl tx txd nx nxd → R .none (U ++ d.on tl (nesL tx nx) pes6 [])) (a : AV) (H' : HS) (h : NxR d a H') : R a H' := by
  obtain ⟨rfl, U, tl, tx, txd, nx, nxd, h1, rfl⟩ := h
  exact q U tl tx txd nx nxd h1
theorem nums_W {k : Nat} {d : MDt} {t5 t4 t3 t2 t1 t0 : TD} {tx txd : Addr} {us : List TD} (hus : us.length = 7) : CW w B (k + 6) (ZH (natH textRows 6 us ((tx, .ins 528 txd) :: (txd, .dctS []) :: [])) t5 5 [] [] (t4.onW 4 0 0 (nlOf textRows 7) (slOf textRows 6 7) (prA [t3, t2, t1, t0])) d (tlN (tlOf [t5, t4, t3, t2, t1, t0]) us) [(2, .val (.ref tx))] pes6) (.ref 605) [.val (.ref d.m)] (NxR d) (fun _ _ => False) :=
  (install_numbers_W (d := d) (A := natH textRows 6 us ((tx, .ins 528 txd) :: (txd, .dctS []) :: [])) (V := t4.onW 4 0 0 (nlOf textRows 7) (slOf textRows 6 7) (prA [t3, t2, t1, t0])) (t := t5) (tl := tlN (tlOf [t5, t4, t3, t2, t1, t0]) us) (tx := tx) (by rw [tlN_len, hus]; rfl) (tlN_get rfl us)).mono (ItR.use fun nx nxd vs hvs => ⟨rfl, _, _, tx, txd, nx, nxd,
    ⟨setup_is (t5 := t5) (t4 := t4) (V := prA [t3, t2, t1, t0]) (us := us) (vs := vs) (tx := tx) (txd := txd) (nx := nx) (nxd := nxd) (tl := tlOf [t5, t4, t3, t2, t1, t0]) rfl rfl rfl hus hvs, List.mem_append_left _ (natH_sub _ _ _ _ _ (.tail _ (.tail _ (natH_sub _ _ _ _ _ (.head _))))), List.mem_append_left _ (natH_sub _ _ _ _ _ (.tail _ (.tail _ (natH_sub _ _ _ _ _ (.tail _ (.head _)))))), List.mem_append_left _ (natH_sub _ _ _ _ _ (.head _)), List.mem_append_left _ (natH_sub _ _ _ _ _ (.tail _ (.head _)))⟩, by rw [List.append_assoc]; rfl⟩) fun _ _ z => z
noncomputable def Zeh (x : Str) (cap : Loc) (P : List AV → HS → Prop) (L0 : List AV) : Rt → St → Prop
  | .v a, σ => CompI x cap (fun H3 => P (L0 ++ [a]) H3) σ
  | _, _ => False
theorem ch_v {x : Str} {cap : Loc} {P : List AV → HS → Prop} {L0 : List AV} {σ : St} {a : AV} (H1 : HS) (h : P (L0 ++ [a]) H1) (e : autoParam ((dropL [x] σ.loc, σ.H) = ((x, .un) :: cap, H1)) kr) : Zeh x cap P L0 (.v a) σ := by
  have e1 : dropL [x] σ.loc = (x, .un) :: cap := congrArg Prod.fst e
  have e2 : σ.H = H1 := congrArg Prod.snd e
  exact ⟨σ.H, ⟨e1 ▸ dropL_weak [x] σ.loc, rfl⟩, e2 ▸ h⟩
theorem comp_h {c : Ctx w B} {σ σ₁ : St} {a : AV} {sc : Scope} {x : Str} {cap : Loc} {ifs : List Expr} {elt : Expr} {K : List AV → HS → Prop} {α : Type} (n : Nat) (item : Nat → AV) (Ls : α → List AV) (Hs : α → HS) (ok : Nat → α → Prop) (a0 : α) (hn : n ≤ 1000) (it : ItW c σ₁ a n item) (o0 : ok 0 a0) (h0 : Ls a0 = []) (hH : autoParam (Hs a0 = σ₁.H) kr) (e : autoParam (σ₁.loc = σ.loc) kr) (hb : autoParam (ifs = []) kr)
    (st : ∀ i p, i < n → ok i p → ∀ c' : Ctx w B, c'.A.handled = c.A.handled → c'.k = c.k → Me c' No (Zeh x cap (fun L H => ∃ q, ok (i + 1) q ∧ L = Ls q ∧ H = Hs q) (Ls p)) (go ⟨.e elt, [], (x, .lv (item i)) :: cap, Hs p⟩)) (fin : ∀ p, ok n p → K (Ls p) (Hs p)) : CompW c σ σ₁ a sc x cap ifs elt K := by
  subst hb
  refine ⟨e, n, item, hn, it, fun i ys H' => ∃ q, ok i q ∧ ys = Ls q ∧ H' = Hs q, ⟨a0, o0, h0.symm, hH.symm⟩, fun i ys H' hi hI _ c' e1 e2 => ?_, fun ys H' hI _ => hI.elim fun q hq => hq.2.1 ▸ hq.2.2 ▸ fin q hq.1⟩
  obtain ⟨p, hp, rfl, rfl⟩ := hI
  have m := go_ok (st i p hi hp c' (by rw [e1]) e2)
  exact TsW_nil ⟨fun _ => EW.mono m (fun a σ z => z) fun _ _ z => z, fun z => nomatch z⟩
section
variable {c : Ctx w B} {E : QE} {Z : Rt → St → Prop} {k : Cf}
noncomputable def Ctl.dq : (C : Ctl) → Option {q : (List (Option Expr) × List Expr) × Pos // C = .e (.Dict q.1.1 q.1.2 q.2)}
  | .e (.Dict ks vs p) => some ⟨((ks, vs), p), rfl⟩
  | _ => none
noncomputable def Ctl.dQ (C : Ctl) : (List (Option Expr) × List Expr) × Pos := match C.dq with
  | some q => q.1
  | none => (([], []), ⟨0, 0, 0, 0⟩)
theorem dq_ok {C : Ctl} : C.dq.isSome = true → C = .e (.Dict C.dQ.1.1 C.dQ.1.2 C.dQ.2) := by
  unfold Ctl.dQ
  cases C.dq with
  | some q => exact fun _ => q.2
  | none => exact fun h => nomatch h
noncomputable def dkOk (q : (List (Option Expr) × List Expr) × Pos) : Bool := Bool.and (Bool.and (q.1.1.all (·.isSome)) (Nat.beq q.1.1.length q.1.2.length)) (Bool.and (Nat.blt 0 q.1.1.length) (Nat.ble q.1.1.length 15))
theorem q_dictP (e : autoParam (k.c.dq.isSome = true) kr) (h : autoParam (dkOk k.c.dQ = true) kr) (m : ∀ d, PaW c ⟨k.loc, (d, .dctS []) :: k.H⟩ k.c.dQ.1.1 k.c.dQ.1.2 k.c.dQ.2 (fun l σ' => ∃ H', HUpd d (.dctS []) (.dctS l) σ'.H H' ∧ (l.map (·.1)).Nodup ∧ l.length ≤ 1000 ∧ Kv c E Z k (.val (.ref d)) ⟨σ'.loc, H'⟩) E) : Me c E Z k := by
  have h1 := andt (andt h).1
  have h2 := andt (andt h).2
  exact Me_e (dq_ok e) (EW_DictP (σ := k.σ) m h1.1 (Nat.eq_of_beq_eq_true h1.2) (fun z => by have := h2.1; rw [z] at this; cases this) (Nat.le_of_ble_eq_true h2.2))
noncomputable def keyAt : (ks : List (Option Expr)) → Option {q : (Str × List (Option Expr)) × (Nat × Pos) // ks = some (.Constant (.str q.1.1) q.2.1 q.2.2) :: q.1.2}
  | some (.Constant (.str x) n p) :: r => some ⟨((x, r), (n, p)), rfl⟩
  | _ => none
noncomputable def keyS (ks : List (Option Expr)) : Option Str := match keyAt ks with
  | some q => some q.1.1.1
  | none => none
theorem key_ok {x : Str} {ks : List (Option Expr)} : keyS ks = some x → ∃ n p, ks = some (.Constant (.str x) n p) :: ks.tail := by
  unfold keyS
  cases keyAt ks with
  | some q => intro h; cases h; exact ⟨q.1.2.1, q.1.2.2, q.2.trans (congrArg (fun l => some (Expr.Constant (.str q.1.1.1) q.1.2.1 q.1.2.2) :: List.tail l) q.2).symm⟩
  | none => exact fun h => nomatch h
theorem pa_go {σ : St} {ks : List (Option Expr)} {vs : List Expr} {pos : Pos} {Q : List (Str × AV) → St → Prop} (x : Str) (e : autoParam (keyS ks = some x) kr) (ev : autoParam (vs.isEmpty = false) kr) (m : Me c E (ZV (fun b σ₂ => PaW c σ₂ ks.tail vs.tail pos (fun l => Q ((x, b) :: l)) E)) (go ⟨.e (vs.headD dE), [], σ.loc, σ.H⟩)) : PaW c σ ks vs pos Q E := by
  obtain ⟨n, p, e'⟩ := key_ok e
  cases vs with
  | nil => cases ev
  | cons v vs => rw [e']; exact PaW_cons (EW_str ⟨x, rfl, go_ok m⟩)
theorem pa_nil {σ : St} {ks : List (Option Expr)} {vs : List Expr} {pos : Pos} {Q : List (Str × AV) → St → Prop} (q : Q [] σ) (e : autoParam ((ks, vs) = ([], [])) kr) : PaW c σ ks vs pos Q E := by
  cases (Prod.mk.inj e).1; cases (Prod.mk.inj e).2; exact PaW_nil q
end
structure LV where
  (d : MDt) (tx txd nx nxd W bag : Addr) (U : HS) (tl : List AV) (s3 s2 s1 s0 : TD) (ns : List Int)
noncomputable def LV.tl' (v : LV) : List AV := tlN v.tl [v.s3, v.s2, v.s1, v.s0]
noncomputable def LV.X (v : LV) : HS := v.U ++ v.d.on v.tl' (nesL v.tx v.nx) pes6 []
noncomputable def LV.mp (v : LV) : HS := madeP v.s3 v.s2 v.s1 v.s0
noncomputable def LV.sys (v : LV) : SysD := sysOf v.d v.tx v.txd v.nx v.nxd v.W v.bag
noncomputable def LV.fix (v : LV) : HS := (v.mp ++ (v.U ++ v.d.D1 (nesL v.tx v.nx) pes6)) ++ v.d.D2
noncomputable def LV.loc (v : LV) (wS nS qS : Slot) : Loc := putS [("made", .lv (.lst [.val (.ref v.s0.x), .val (.ref v.s1.x), .val (.ref v.s2.x), .val (.ref v.s3.x)])), ("w", wS), ("n", nS), ("m", .cv (.val (.ref v.d.m))), ("q", qS)] (locOf (st 155) [.lst (v.ns.map .int)])
noncomputable def LV.things (ki : Int) : List AV := (List.range 4).map (fun j => AV.tup [.int 6, .int ((14 + j : Nat) : Int)]) ++ [.tup [.int 6, .int ki]]
noncomputable abbrev LEnd : Rt → St → Prop := ZF (RQ fun r _ => r = .bool true)
noncomputable abbrev NoE : QE := Eh fun _ _ => False
end Mine
namespace Mine
variable {w : World} {B : Heap}
theorem law_T5 {k : Nat} {c : Ctx w B} (W : AtC (k + 14) [] (st 155) c) (v : LV) (cst : LawC) {ns2 : List Int} {H0 : HS} {n q : Int} (OK : LawOK v.sys cst v.fix v.tl') (l18 : v.tl'.length = 18) (hns : ns2.length ≤ 63) (L0 : LSt v.sys cst v.fix v.tl' (ns2.map .int) v.tl' H0) : Me c NoE LEnd (go ⟨.ss ((sBody (st 155)).drop 15), [], v.loc (.lv (.val (.ref v.W))) (.lv (.int n)) (.cv (.int q)), H0⟩) := by
  refine q_for (m := ?_)
  refine q_rng 12 (m := ?_)
  refine run_z (.v (.rng (12 : Nat))) H0 (h := ?_)
  refine for_rng W.hh "lap" (by kernel_rfl) ["lap"] (fun p : (List Int × List AV) × HS => ⟨v.loc (.lv (.val (.ref v.W))) (.lv (.int n)) (.cv (.int q)), p.2⟩) (fun i p => p.1.1.length ≤ 63 ∧ p.1.2.length ≤ 18 + 3 * i ∧ LSt v.sys cst v.fix v.tl' (p.1.1.map .int) p.1.2 p.2) ((ns2, v.tl'), H0) (by kernel_rfl) ⟨hns, Nat.le_of_eq l18, L0⟩ (Nat.le_of_ble_eq_true rfl) (fun i p hi hp c' e1 e2 => ?_) fun p hp => ?_
  · have t2 : p.1.2.length ≤ 54 := Nat.le_trans hp.2.1 (Nat.add_le_add_left (Nat.mul_le_mul_left 3 (Nat.le_of_lt hi)) 18)
    have L := hp.2.2
    refine run_call (.ref 967) [.val (.ref v.W), .int i] p.2 (law_round_W (k := 0) (lap := i) OK L (le_n hp.1 _) (le_n t2 _)) e1 (le_k (e2.trans W.k) 14 14) (q := fun a H' hR => ?_) (qe := fun _ _ z => z.elim)
    obtain ⟨rfl, nsy, tly, h3, L2, h4⟩ := hR
    refine run_b false (m := ?_)
    refine q_atF H' "heap" (L2.fx _ OK.F.m) (L2.fx _ OK.F.d) OK.F.heap (m := ?_)
    refine q_atF H' "things" (L2.fx _ OK.F.hp) (L2.fx _ OK.F.hd) OK.F.things (m := ?_)
    refine q_call (.builtin "len") [.val (.ref v.d.th)] H' (h := VW_len_H L2.th (le_n (Nat.le_trans h4 (Nat.add_le_add_right t2 3)) _) ?_)
    refine q_gSF H' "made" L2.W (mem_nth 2 rfl) (m := ?_)
    refine run_d false ((tly.length : Int) != (tly.length : Int)) (bne_self_eq_false _) (m := ?_)
    exact run_z (.f .next) H' (h := nx_of (α := (List Int × List AV) × HS) ((nsy, tly), H') ⟨Nat.le_trans h3 hp.1, Nat.le_trans h4 (Nat.add_le_add_right hp.2.1 3), L2⟩)
  · obtain ⟨⟨nsx, tlx⟩, Hx⟩ := p
    have L := hp.2.2
    have k1 : ∀ (i : Nat) {q : Addr × HObj}, (v.d.D1 (nesL v.tx v.nx) pes6)[i]? = some q → q ∈ Hx := fun i _ h => L.fx _ (List.mem_append_left _ (List.mem_append_right _ (List.mem_append_right _ (mem_nth i h))))
    have k0 : ∀ (i : Nat) {q : Addr × HObj}, (v.mp)[i]? = some q → q ∈ Hx := fun i _ h => L.fx _ (List.mem_append_left _ (List.mem_append_left _ (mem_nth i h)))
    show Me c NoE LEnd (go (Cf.flow _ .next _))
    refine q_atF Hx "told" (L.fx _ OK.F.m) (L.fx _ OK.F.d) (mem_nth 12 rfl) (m := ?_)
    refine q_list false (m := ?_)
    refine q_cmpH .Eq (.val (.ref v.d.told)) (.lst []) Hx (h := BW_eqHot (k1 10 rfl) rfl rfl rfl rfl (le_k W.k 8 14) ?_)
    refine run_b true (m := ?_)
    refine q_atF Hx "out" (L.fx _ OK.F.m) (L.fx _ OK.F.d) (mem_nth 7 rfl) (m := ?_)
    refine q_list false (m := ?_)
    refine q_cmpH .Eq (.val (.ref v.d.out)) (.lst []) Hx (h := BW_eqHot (k1 11 rfl) rfl rfl rfl rfl (le_k W.k 8 14) ?_)
    refine run_b true (m := ?_)
    refine q_itL 0 (m := ?_)
    refine q_atF Hx "items" (k0 26 rfl) (k0 27 rfl) (mem_nth 7 rfl) (m := ?_)
    refine q_list false (m := ?_)
    refine q_cmpH .Eq (.lst [.tup [.int 3, .int 2]]) (.lst [.tup [.int 3, .int 2]]) Hx (h := BW_eqD rfl rfl rfl rfl (le_k W.k 8 14) ?_)
    refine run_b true (m := ?_)
    refine q_itL 1 (m := ?_)
    refine q_atF Hx "items" (k0 19 rfl) (k0 20 rfl) (mem_nth 7 rfl) (m := ?_)
    refine q_list false (m := ?_)
    refine q_cmpH .Eq (.val (.ref v.s1.it)) (.lst []) Hx (h := BW_eqHot (k0 14 rfl) rfl rfl rfl rfl (le_k W.k 8 14) ?_)
    exact run_ret (.bool true) Hx (h := rfl)
end Mine
namespace Mine
variable {w : World} {B : Heap}
noncomputable def Ctl.xv : (C : Ctl) → Option {s : Stmt // C = .x s}
  | .x s => some ⟨s, rfl⟩
  | _ => none
theorem q_nd {c : Ctx w B} {E : QE} {Z : Rt → St → Prop} {k : Cf} (H0 : HS) (h : (keys H0).Nodup → Me c E Z k) (e : autoParam ((k.c.xv.isSome, k.H) = (true, H0)) kr) : Me c E Z k := by
  have g : ∀ (o : Option {s : Stmt // k.c = .x s}), o.isSome = true → Me c E Z k := fun o ho => match o, ho with
    | some q, _ => Me_of q.2 (XW_nd fun nd => by
      have m := h ((Prod.mk.inj e).2 ▸ nd)
      unfold Me at m
      rw [q.2] at m
      exact m)
  exact g _ (Prod.mk.inj e).1
noncomputable abbrev LV.es (v : LV) (r : List (Str × AV)) : List (Str × AV) := ("bag", .val (.ref v.bag)) :: ("m", .val (.ref v.d.m)) :: ("made", .int 18) :: r
noncomputable abbrev LV.H (v : LV) (l : List Int) (r : List (Str × AV)) : HS := (v.bag, .lst (l.map .int)) :: (v.W, .dctS (v.es r)) :: (v.mp ++ v.X)
theorem num_le {n : Nat} (h : n < 4000) : ((n : Int) - 1000).natAbs ≤ 4000 := by omega
theorem num_bd {n : Nat} (h : n < 4000) : (((n : Int) - 1000) * 3002399751580).natAbs < 2 ^ 64 := by
  rw [Int.natAbs_mul]
  exact Nat.lt_of_le_of_lt (Nat.mul_le_mul_right _ (num_le h)) (by decide)
theorem law_T4 {k : Nat} {c : Ctx w B} (W : AtC (k + 14) [] (st 155) c) (v : LV) {ns2 : List Int} {n0 : Slot} {q : Nat} {T : Str} {ki : Int} (hT : Txt1 T) (SX : SetX v.U v.tl v.tx v.txd v.nx v.nxd) (hns : ns2.length ≤ 63) : Me c NoE LEnd (go ⟨.ss ((sBody (st 155)).drop 12), [], v.loc (.lv (.val (.ref v.W))) .un (.cv (.int q)), v.H ns2 [("things", .lst (LV.things ki)), ("text", .str T)]⟩) := by
  refine q_divL q 10 (m := ?_)
  refine q_modL (q / 10 + 1035) 4000 (m := ?_)
  have hnn : (q / 10 + 1035) % 4000 < 4000 := Nat.mod_lt _ (Nat.zero_lt_succ _)
  generalize (q / 10 + 1035) % 4000 = nn at hnn
  refine run_joinA (fun n : Int => ⟨.ss ((sBody (st 155)).drop 14), [], v.loc (.lv (.val (.ref v.W))) (.lv (.int n)) (.cv (.int q)), v.H ns2 [("things", .lst (LV.things ki)), ("text", .str T)]⟩) (fun n => n.natAbs < 2 ^ 64) (fun n hn => ?_) fun hj => ?_
  · refine run_joinA (fun nv : JV => ⟨.ss ((sBody (st 155)).drop 15), [], v.loc (.lv (.val (.ref v.W))) (.lv (.int n)) (.cv (.int q)), v.H ns2 [("things", .lst (LV.things ki)), ("text", .str T), ("n", nv.av)]⟩) (fun nv => nv = .nan ∨ ∃ n, nv = .num n ∧ n.natAbs < 2 ^ 64) (fun nv hnv => ?_) fun hj => ?_
    · refine q_nd (v.H ns2 [("things", .lst (LV.things ki)), ("text", .str T), ("n", nv.av)]) fun nd => ?_
      have OK : LawOK v.sys ⟨LV.things ki, T, nv.av⟩ v.fix v.tl' := lawOK_of SX.su SX.x1 SX.x2 SX.x3 SX.x4 nd (fun j u h => tlN_get h _) ⟨nv, rfl, hnv⟩ hT ⟨[14, 15, 16, 17, ki], rfl, rfl⟩
      have l18 : v.tl'.length = 18 := (tlN_len _ _).trans (by rw [SX.su.len]; rfl)
      have hX2 : v.mp ++ v.X = (v.mp ++ (v.U ++ v.d.D1 (nesL v.tx v.nx) pes6)) ++ (v.d.th, .lst v.tl') :: v.d.D2 := MDt.split v.d _ _ _ _ v.U
      refine law_T5 W v ⟨LV.things ki, T, nv.av⟩ OK l18 hns ⟨fun p hp => .tail _ (.tail _ (hX2 ▸ (List.mem_append.mp hp).elim (fun h => List.mem_append_left _ h) fun h => List.mem_append_right _ (.tail _ h))), l18 ▸ .tail _ (.head _), .head _, .tail _ (.tail _ (hX2 ▸ List.mem_append_right _ (.head _))), [], (List.append_nil _).symm⟩
    · refine q_modL q 10 (m := ?_)
      refine run_t ((↑(q % (10 : Nat)) : Int) == (3 : Int)) (h1 := fun h1 => ?_) (h2 := fun h1 => ?_)
      · refine q_sS 1 (m := ?_)
        exact hj .nan (.inl rfl) _ (by kernel_rfl)
      · refine q_sS 1 (m := ?_)
        exact hj (.num n) (.inr ⟨n, rfl, hn⟩) _ (by kernel_rfl)
  · refine q_modL q 5 (m := ?_)
    refine run_t ((↑(q % (5 : Nat)) : Int) == (4 : Int)) (h1 := fun h1 => ?_) (h2 := fun h1 => ?_)
    · refine q_bin .Mult (.int (nn - 1000)) (.int 3002399751580) (h := BW_mul (by decide) ?_)
      exact hj ((nn - 1000) * 3002399751580) (num_bd hnn) _ (by kernel_rfl)
    · exact hj (nn - 1000) (Nat.lt_of_le_of_lt (num_le hnn) (by decide)) _ (by kernel_rfl)
end Mine
namespace Mine
variable {w : World} {B : Heap}
theorem q_pow {c : Ctx w B} {E : QE} {Z : Rt → St → Prop} {k : Cf} (a i : Nat) (h1 : i ≤ 1000) (h2 : autoParam (Nat.blt a 1000000 = true) rr) (e : autoParam (k.c = .b2 (.bin .Pow) (.int a) (.int i)) kr) (m : Me c E Z (go (k.ret (.int ((a ^ i : Nat) : Int))))) : Me c E Z k :=
  q_bin .Pow _ _ e (BW_pow ⟨Int.natCast_nonneg i, Int.ofNat_le.mpr h1, Nat.lt_trans (Nat.le_of_ble_eq_true h2) (by decide)⟩ (by rw [Int.toNat_natCast, ← Int.natCast_pow]; exact m))
theorem q_mulN {c : Ctx w B} {E : QE} {Z : Rt → St → Prop} {k : Cf} (a i : Nat) (h1 : i < 2 ^ 64) (e : autoParam (k.c = .b2 (.bin .Mult) (.int a) (.int i)) kr) (m : Me c E Z (go (k.ret (.int ((a * i : Nat) : Int))))) : Me c E Z k :=
  q_bin .Mult _ _ e (BW_mul ⟨Int.lt_of_lt_of_le (by decide) (Int.natCast_nonneg i), by exact_mod_cast h1⟩ m)
theorem q_divN {c : Ctx w B} {E : QE} {Z : Rt → St → Prop} {k : Cf} (a i : Nat) (h0 : 0 < i) (h1 : i < 2 ^ 64) (e : autoParam (k.c = .b2 (.bin .FloorDiv) (.int a) (.int i)) kr) (m : Me c E Z (go (k.ret (.int ((a / i : Nat) : Int))))) : Me c E Z k :=
  q_bin .FloorDiv _ _ e (BW_divR (Int.fdiv_eq_ediv_of_nonneg _ (Int.natCast_nonneg i)) ⟨Int.lt_of_lt_of_le (by decide) (Int.natCast_nonneg i), by exact_mod_cast h1, by exact_mod_cast (Nat.ne_of_gt h0)⟩ m)
theorem law_T3 {k : Nat} {c : Ctx w B} (W : AtC (k + 14) [] (st 155) c) (v : LV) {ns1 : List Int} {ki : Int} (SX : SetX v.U v.tl v.tx v.txd v.nx v.nxd) (hns : ns1.length ≤ 63) : Me c NoE LEnd (go ⟨.ss ((sBody (st 155)).drop 9), [], v.loc (.lv (.val (.ref v.W))) .un .cu, v.H ns1 [("things", .lst (LV.things ki))]⟩) := by
  refine run_call (.ref 882) [.val (.ref v.W), .int 1000000000] (v.H ns1 [("things", .lst (LV.things ki))]) (law_pull_U (k := 0) (W := v.W) (bag := v.bag) (ns := ns1) (m := 1000000000) (H1 := fun l => (v.bag, .lst l) :: (v.W, .dctS (v.es [("things", .lst (LV.things ki))])) :: (v.mp ++ v.X)) (.tail _ (.head _)) (.head _) (.head _) (fun l' => .head) rfl (by decide) (le_n hns _)) W.hh (le_k W.k 1 14) (q := PulR.use fun q ns2 hq hn2 => ?_) (qe := fun _ _ z => z.elim)
  refine q_stc W "q" (.int q) (m := ?_)
  refine q_join (Str.ofString "") (m := ?_)
  refine q_comp (m := ?_)
  refine q_modL (q + 5) 9 (m := ?_)
  have hn9 : (q + 5) % 9 ≤ 8 := Nat.le_of_lt_succ (Nat.mod_lt _ (Nat.zero_lt_succ _))
  generalize (q + 5) % 9 = n9 at hn9
  refine q_rng n9 (m := ?_)
  refine run_z (.v (.rng n9)) (v.H ns2 [("things", .lst (LV.things ki))]) (h := comp_p n9 _ (fun i => ((List.range i).map (chT q)).map (fun ch => AV.str ⟨#[ch]⟩)) (le_n hn9 _) (ItW_rng _ W.hh (le_n hn9 _)) rfl (st := fun i hi c' e1 e2 => ?_) (fin := ?_))
  · skip
    have hp5 : 5 ^ i ≤ 390625 := Nat.pow_le_pow_right (n := 5) (by decide) (Nat.le_of_lt_succ (Nat.lt_of_lt_of_le hi (Nat.le_succ_of_le hn9)))
    refine run_z (.t true) (v.H ns2 [("things", .lst (LV.things ki))]) (h := cz_t ?_)
    refine q_pow 5 i (Nat.le_trans (Nat.le_of_lt hi) (le_n hn9 _)) (m := ?_)
    refine q_mulN 9 (5 ^ i) (Nat.lt_of_le_of_lt hp5 (by decide)) (m := ?_)
    refine q_divN q (9 * 5 ^ i) (Nat.mul_pos (by decide) (Nat.pow_pos (by decide))) (Nat.lt_of_le_of_lt (Nat.mul_le_mul_left 9 hp5) (by decide)) (m := ?_)
    refine q_modL (q / (9 * 5 ^ i) + i) 5 (m := ?_)
    refine q_sub (.str "aba1b") (.int ((q / (9 * 5 ^ i) + i) % 5 : Nat)) (v.H ns2 [("things", .lst (LV.things ki))]) (h := SubA_ch (by decide +kernel) (chT_get q i) ?_)
    exact run_z (.v (.str ⟨#[chT q i]⟩)) (v.H ns2 [("things", .lst (LV.things ki))]) (h := cz_v (by rw [List.range_succ, List.map_append, List.map_append]; rfl))
  · dsimp only
    refine q_call (.builtin "str.join") [.str "", .lst (List.map (fun ch => AV.str ⟨#[ch]⟩) (List.map (chT q) (List.range n9)))] (v.H ns2 [("things", .lst (LV.things ki))]) (h := VW_join1 (by rw [List.length_map, List.length_range]; exact le_n hn9 _) ?_)
    have hT := txt1_of q n9 hn9
    generalize mkS ((List.range n9).map (chT q)) = T at hT
    refine q_sS 1 (m := ?_)
    refine run_call (.ref 882) [.val (.ref v.W), .int 100000] (v.H ns2 [("things", .lst (LV.things ki)), ("text", .str T)]) (law_pull_U (k := 0) (W := v.W) (bag := v.bag) (ns := ns2) (m := 100000) (H1 := fun l => (v.bag, .lst l) :: (v.W, .dctS (v.es [("things", .lst (LV.things ki)), ("text", .str T)])) :: (v.mp ++ v.X)) (.tail _ (.head _)) (.head _) (.head _) (fun l' => .head) rfl (by decide) (le_n (Nat.le_trans hn2 hns) _)) W.hh (le_k W.k 1 14) (q := PulR.use fun q2 ns3 hq2 hn3 => ?_) (qe := fun _ _ z => z.elim)
    refine q_stc W "q" (.int q2) (m := ?_)
    exact run_cut ⟨.ss ((sBody (st 155)).drop 12), [], v.loc (.lv (.val (.ref v.W))) .un (.cv (.int q2)), v.H ns3 [("things", .lst (LV.things ki)), ("text", .str T)]⟩ (m := law_T4 W v (n0 := .un) hT SX (Nat.le_trans hn3 (Nat.le_trans hn2 hns)))
end Mine
namespace Mine
variable {w : World} {B : Heap}
theorem made_at (v : LV) : ∀ i, i < 4 → ∃ (x dx : Addr) (es : List (Str × AV)), (([.val (.ref v.s0.x), .val (.ref v.s1.x), .val (.ref v.s2.x), .val (.ref v.s3.x)] : List AV)[i]?).getD .none = .val (.ref x) ∧ (x, HObj.ins 140 dx) ∈ v.mp ∧ (dx, HObj.dctS es) ∈ v.mp ∧ (("number" : Str), AV.int ((14 + i : Nat) : Int)) ∈ es := by
  intro i hi
  match i, hi with
  | 0, _ => exact ⟨_, _, _, rfl, mem_nth 26 rfl, mem_nth 27 rfl, .head _⟩
  | 1, _ => exact ⟨_, _, _, rfl, mem_nth 19 rfl, mem_nth 20 rfl, .head _⟩
  | 2, _ => exact ⟨_, _, _, rfl, mem_nth 12 rfl, mem_nth 13 rfl, .head _⟩
  | 3, _ => exact ⟨_, _, _, rfl, mem_nth 5 rfl, mem_nth 6 rfl, .head _⟩
theorem law_T2 {k : Nat} {c : Ctx w B} (W : AtC (k + 14) [] (st 155) c) (v : LV) {ns1 : List Int} (SX : SetX v.U v.tl v.tx v.txd v.nx v.nxd) (hns : ns1.length ≤ 63) : Me c NoE LEnd (go ⟨.ss ((sBody (st 155)).drop 8), [], v.loc (.lv (.val (.ref v.W))) .un .cu, v.H ns1 []⟩) := by
  have M : MU v.d v.tl' (nesL v.tx v.nx) pes6 (v.H ns1 []) := (MU.on v.d v.tl' (nesL v.tx v.nx) pes6 v.U []).lift fun _ h => .tail _ (.tail _ (List.mem_append_right _ h))
  have l18 : v.tl'.length = 18 := (tlN_len _ _).trans (by rw [SX.su.len]; rfl)
  obtain ⟨xp, dp, slp, xk, dk, ep, sls, ek, ki, n1, n2, n3, n4, n5, n6, n7, n8, n9, n10, n11, n12, n13, n14⟩ := SX.su.slc
  have xsU : ∀ q ∈ v.U, q ∈ v.H ns1 [] := fun q h => .tail _ (.tail _ (List.mem_append_right _ (List.mem_append_left _ h)))
  refine q_comp (m := ?_)
  refine run_z (.v (.lst [.val (.ref v.s0.x), .val (.ref v.s1.x), .val (.ref v.s2.x), .val (.ref v.s3.x)])) (v.H ns1 []) (h := comp_p 4 _ (fun i => (List.range i).map (fun j => AV.tup [.int 6, .int ((14 + j : Nat) : Int)])) (by decide) (ItW_lst _ W.hh) rfl (st := fun i hi c' e1 e2 => ?_) (fin := ?_))
  · obtain ⟨x, dx, es, ei, q1, q2, q3⟩ := made_at v i hi
    rw [ei]
    refine run_z (.t true) (v.H ns1 []) (h := cz_t ?_)
    refine q_atF (v.H ns1 []) "number" (.tail _ (.tail _ (List.mem_append_left _ q1))) (.tail _ (.tail _ (List.mem_append_left _ q2))) q3 (m := ?_)
    exact run_z (.v (.tup [.int 6, .int ((14 + i : Nat) : Int)])) (v.H ns1 []) (h := cz_v (by rw [List.range_succ, List.map_append]; rfl))
  · dsimp only
    refine q_list false (m := ?_)
    refine q_atF (v.H ns1 []) "heap" M.m M.dd (.head _) (m := ?_)
    refine q_atF (v.H ns1 []) "things" M.hp M.hd (.head _) (m := ?_)
    refine q_atF (v.H ns1 []) "protos" M.m M.dd (mem_nth 14 rfl) (m := ?_)
    refine q_gIF (v.H ns1 []) 4 M.pr (mem_nth 4 rfl) (m := ?_)
    have n3' : v.tl'[(4 : Int).toNat]? = some (.val (.ref xp)) := tlN_get n3 _
    refine q_sub (.val (.ref v.d.th)) (.int 4) (v.H ns1 []) (h := fun u t hs => BW_itemH M.th (by decide) (by decide) n3' ?_ hs)
    refine q_atF (v.H ns1 []) "slots" (xsU _ n4) (xsU _ n5) n6 (m := ?_)
    refine q_gSF (v.H ns1 []) "slice" (xsU _ n7) n8 (m := ?_)
    refine q_bin .Add (.lst ((List.range 4).map (fun j => AV.tup [.int 6, .int ((14 + j : Nat) : Int)]))) (.lst [.tup [.int 6, .int ki]]) (h := BW_addL (Nat.le_of_ble_eq_true rfl) ?_)
    refine q_sS 1 (m := ?_)
    exact run_cut ⟨.ss ((sBody (st 155)).drop 9), [], v.loc (.lv (.val (.ref v.W))) .un .cu, v.H ns1 [("things", .lst (LV.things ki))]⟩ (m := law_T3 W v SX hns)
end Mine
namespace Mine
variable {w : World} {B : Heap}
noncomputable def Ctl.slE : Ctl → Expr
  | .sl (some y) _ _ _ _ => y
  | _ => dE
theorem q_slR {c : Ctx w B} {E : QE} {Z : Rt → St → Prop} {k : Cf} (l : List AV) (hx : l.length ≤ 100000) (h : ∀ a, Me c E Z (go (k.retH (.val (.ref a)) ((a, .lst l.reverse) :: k.H)))) (e : autoParam (k.c = .sl (some k.c.slE) (.lst l) .none .none (.int (-1))) kr) : Me c E Z k := Me_of e fun _ _ _ _ => SlW_revH (σ := k.σ) hx fun a => go_ok (h a)
theorem law_T1 {k : Nat} {c : Ctx w B} (W : AtC (k + 14) [] (st 155) c) (v : LV) (SX : SetX v.U v.tl v.tx v.txd v.nx v.nxd) (hns : v.ns.length ≤ 63) : Me c NoE LEnd (go ⟨.ss ((sBody (st 155)).drop 7), [], v.loc .un .un .cu, v.mp ++ v.X⟩) := by
  have M : MU v.d v.tl' (nesL v.tx v.nx) pes6 (v.mp ++ v.X) := (MU.on v.d v.tl' (nesL v.tx v.nx) pes6 v.U []).lift fun _ h => List.mem_append_right _ h
  have l18 : v.tl'.length = 18 := (tlN_len _ _).trans (by rw [SX.su.len]; rfl)
  refine q_dictP (m := fun x => pa_go "bag" (m := ?_))
  refine q_slR (v.ns.map .int) (by rw [List.length_map]; exact le_n hns _) fun b => ?_
  refine run_z (.v (.val (.ref b))) ((b, .lst (v.ns.map AV.int).reverse) :: (x, .dctS []) :: (v.mp ++ v.X)) (h := pa_go "m" (m := ?_))
  refine run_z (.v (.val (.ref v.d.m))) ((b, .lst (v.ns.map AV.int).reverse) :: (x, .dctS []) :: (v.mp ++ v.X)) (h := pa_go "made" (m := ?_))
  have M := M.lift fun q h => List.Mem.tail (b, HObj.lst (v.ns.map AV.int).reverse) (.tail (x, HObj.dctS []) h)
  refine q_atF ((b, .lst (v.ns.map AV.int).reverse) :: (x, .dctS []) :: (v.mp ++ v.X)) "heap" M.m M.dd (.head _) (m := ?_)
  refine q_atF ((b, .lst (v.ns.map AV.int).reverse) :: (x, .dctS []) :: (v.mp ++ v.X)) "things" M.hp M.hd (.head _) (m := ?_)
  refine q_call (.builtin "len") [.val (.ref v.d.th)] ((b, .lst (v.ns.map AV.int).reverse) :: (x, .dctS []) :: (v.mp ++ v.X)) (h := VW_len_H M.th (l18 ▸ Nat.le_of_ble_eq_true rfl) ?_)
  rw [l18]
  refine run_z (.v (.int (18 : Nat))) ((b, .lst (v.ns.map AV.int).reverse) :: (x, .dctS []) :: (v.mp ++ v.X)) (h := pa_nil (q := ⟨_, .tail .head, by show [("bag" : Str), "m", "made"].Nodup; decide +kernel, Nat.le_of_ble_eq_true rfl, ?_⟩))
  rw [← List.map_reverse]
  exact run_cut ⟨.ss ((sBody (st 155)).drop 8), [], v.loc (.lv (.val (.ref x))) .un .cu, (b, .lst (v.ns.reverse.map .int)) :: (x, .dctS [("bag", .val (.ref b)), ("m", .val (.ref v.d.m)), ("made", .int 18)]) :: (v.mp ++ v.X)⟩ (m := law_T2 W ⟨v.d, v.tx, v.txd, v.nx, v.nxd, x, b, v.U, v.tl, v.s3, v.s2, v.s1, v.s0, v.ns⟩ SX (by rw [List.length_reverse]; exact hns))
theorem law_W {k : Nat} {ns : List Int} (hns : ns.length ≤ 63) : CW w B (k + 15) [] (.ref 972) [.lst (ns.map .int)] (fun r H' => r = .bool true) (fun _ _ => False) := by
  refine CW_go (st 155) "law" .none "law_xw0126_01" 1511 971 (h := fun c W => ?_)
  refine q_sl (.lst (ns.map .int)) .none (.int (63 : Nat)) (h := SlW_all (by rw [List.length_map]; exact hns) ?_)
  refine run_call (.ref 796) [.int 1] [] (new_machine (k := 0)) W.hh (le_k W.k 4 14) (q := NewM.use fun d => ?_) (qe := fun _ _ z => z.elim)
  refine q_stc W "m" (.val (.ref d.m)) (m := ?_)
  refine run_call (.ref 591) [.val (.ref d.m)] (d.on [] [] [] []) (install_protos_W (k := 0) (d := d)) W.hh (le_k W.k 5 14) (q := PrR.use fun t5 t4 t3 t2 t1 t0 => ?_) (qe := fun _ _ z => z.elim)
  refine run_call (.ref 598) [.val (.ref d.m)] (ZH (t5.onW 5 0 0 [] [] []) t4 4 [] [] (prA [t3, t2, t1, t0]) d (tlOf [t5, t4, t3, t2, t1, t0]) [] pes6) (texts_W (k := 0)) W.hh (le_k W.k 6 14) (q := TxR.use fun tx txd us hus => ?_) (qe := fun _ _ z => z.elim)
  refine run_call (.ref 605) [.val (.ref d.m)] (ZH (natH textRows 6 us ((tx, .ins 528 txd) :: (txd, .dctS []) :: [])) t5 5 [] [] (t4.onW 4 0 0 (nlOf textRows 7) (slOf textRows 6 7) (prA [t3, t2, t1, t0])) d (tlN (tlOf [t5, t4, t3, t2, t1, t0]) us) [(2, .val (.ref tx))] pes6) (nums_W (k := 0) hus) W.hh (le_k W.k 6 14) (q := NxR.use fun U tl tx txd nx nxd SX => ?_) (qe := fun _ _ z => z.elim)
  refine q_acomp (m := ?_)
  refine run_z (.v (.tup [.int 1, .int 1, .int 0, .int 3])) (U ++ d.on tl (nesL tx nx) pes6 []) (h := comp_h ([.int 1, .int 1, .int 0, .int 3] : List AV).length _ (tlN []) (fun ms : List TD => mdA tl.length ms ++ (U ++ d.on (tlN tl ms) (nesL tx nx) pes6 [])) (fun i ms => ms.length = i) [] (Nat.le_of_ble_eq_true rfl) (ItW_tup _ W.hh) rfl rfl (st := fun i ms hi hms c' e1 e2 => ?_) (fin := fun ms hms => ?_))
  · subst hms
    have eit : (([.int 1, .int 1, .int 0, .int 3] : List AV)[ms.length]?).getD .none = .int (srt ms.length) := by
      generalize ms.length = i at hi
      match i, hi with
      | 0, _ | 1, _ | 2, _ | 3, _ => rfl
    rw [eit]
    have M := MU.all (d := d) (tl := tlN tl ms) (nes := nesL tx nx) (pes := pes6) (A := mdA tl.length ms) (U := U)
    have hi4 : ms.length ≤ 4 := Nat.le_of_lt hi
    refine q_atF (mdA tl.length ms ++ (U ++ d.on (tlN tl ms) (nesL tx nx) pes6 [])) "heap" M.m M.dd (mem_nth 0 rfl) (m := ?_)
    refine q_atF (mdA tl.length ms ++ (U ++ d.on (tlN tl ms) (nesL tx nx) pes6 [])) "protos" M.m M.dd (mem_nth 14 rfl) (m := ?_)
    refine q_gIF (mdA tl.length ms ++ (U ++ d.on (tlN tl ms) (nesL tx nx) pes6 [])) (srt ms.length) M.pr (srt_mem _) (m := ?_)
    refine run_call (.ref 235) [.val (.ref d.hp), .int (srt ms.length), .int (srt ms.length)] (mdA tl.length ms ++ (U ++ d.on (tlN tl ms) (nesL tx nx) pes6 [])) (new_thing_U (k := 0) (H1 := fun x => mdA tl.length ms ++ (U ++ d.on (tlN tl ms ++ [.val (.ref x)]) (nesL tx nx) pes6 [])) M.hpIn (by rw [tlN_len, SX.su.len]; exact Nat.le_trans (Nat.add_le_add_left hi4 14) (by decide)) (fun x => HUpd.app _ (upTh d _ _ _ _ U []))) (e1.trans W.hh) (le_k (e2.trans W.k) 3 14) (q := ThR.use fun t => ?_) (qe := fun _ _ z => z.elim)
    exact run_z (.v (.val (.ref t.x))) (t.on (tlN tl ms).length (srt ms.length) (srt ms.length) (mdA tl.length ms ++ (U ++ d.on (tlN tl ms ++ [.val (.ref t.x)]) (nesL tx nx) pes6 []))) (h := ch_v (t.on (tlN tl ms).length (srt ms.length) (srt ms.length) (mdA tl.length ms ++ (U ++ d.on (tlN tl ms ++ [.val (.ref t.x)]) (nesL tx nx) pes6 []))) ⟨t :: ms, rfl, rfl, by rw [tlN_len]; rfl⟩)
  · have hl := SX.su.len
    obtain ⟨s3, s2, s1, s0, rfl⟩ := len_four hms
    have eH : mdA tl.length [s3, s2, s1, s0] ++ (U ++ d.on (tlN tl [s3, s2, s1, s0]) (nesL tx nx) pes6 []) = s3.on 17 3 3 (s2.on 16 0 0 (s1.on 15 1 1 (s0.on 14 1 1 (U ++ d.on (tlN tl [s3, s2, s1, s0]) (nesL tx nx) pes6 [])))) := by rw [hl]; rfl
    rw [eH]
    refine run_cut ⟨.ss ((sBody (st 155)).drop 6), [], putS [("made", .lv (.lst [.val (.ref s0.x), .val (.ref s1.x), .val (.ref s2.x), .val (.ref s3.x)])), ("m", .cv (.val (.ref d.m)))] (locOf (st 155) [.lst (ns.map .int)]), s3.on 17 3 3 (s2.on 16 0 0 (s1.on 15 1 1 (s0.on 14 1 1 (U ++ d.on (tlN tl [s3, s2, s1, s0]) (nesL tx nx) pes6 []))))⟩ (m := ?_)
    refine q_list false (m := ?_)
    refine q_itL 0 (m := ?_)
    refine q_sA 26 27 (m := ?_)
    refine run_cut ⟨.ss ((sBody (st 155)).drop 7), [], putS [("made", .lv (.lst [.val (.ref s0.x), .val (.ref s1.x), .val (.ref s2.x), .val (.ref s3.x)])), ("m", .cv (.val (.ref d.m)))] (locOf (st 155) [.lst (ns.map .int)]), madeP s3 s2 s1 s0 ++ (U ++ d.on (tlN tl [s3, s2, s1, s0]) (nesL tx nx) pes6 [])⟩ (m := ?_)
    exact law_T1 W ⟨d, tx, txd, nx, nxd, 0, 0, U, tl, s3, s2, s1, s0, ns⟩ SX hns
end Mine
namespace Mine
variable {w : World} {B : Heap}
noncomputable abbrev RW : RowW := PySem.Challenge.rw_xw0126_01.row.toRowW
theorem script_of {args : List WData} (x : RW.claim.pre args = true) : ∃ ns : List Int, args = [.list (ns.map .int)] ∧ ns.length ≤ 63 := by
  obtain ⟨h1, h2⟩ := pre_splitW x
  replace h1 : WShape.hasAll [] args [.list .int] = true := h1
  obtain ⟨d, r, rfl, hd, hr⟩ := hasAllW_cons h1
  obtain rfl := hasAllW_nil hr
  obtain ⟨xs, rfl, hxs⟩ := hasW_list hd
  obtain ⟨ns, rfl⟩ := items_int hxs
  refine ⟨ns, rfl, ?_⟩
  replace h2 : WTm.holds [] (.and (.not (.lt (.lit (.int 63)) (.len (.arg 0)))) (.lit (.bool true))) { args := [.list (ns.map .int)] } = true := h2
  by_cases h : ns.length ≤ 63
  · exact h
  · exfalso
    have h' : (63 : Int) < (ns.length : Int) := by omega
    simp [WTm.holds, WTm.value, W.less?, W.Num.less?, h'] at h2
theorem well_of {P : Params} {h : Heap} {vals : List Value} {xs : List WData} (x : WellAll P h vals [.list xs]) : ∃ (a : Addr) (vs : List Value), vals = [.ref a] ∧ h.get? a = some { cls := .type "list", data := .seq vs.toArray } ∧ WellAll P h vs xs := by
  obtain ⟨v, vs', rfl, h1, h2⟩ := wellAll_cons_inv x
  cases h2
  cases h1 with
  | list e y => exact ⟨_, _, rfl, e, y⟩
theorem well_ints {P : Params} {h : Heap} : ∀ {ns : List Int} {vs : List Value}, WellAll P h vs (ns.map .int) → ∃ ts : List Tok, vs = List.zipWith .int ns ts ∧ ts.length = ns.length
  | [], _, x => by cases x; exact ⟨[], rfl, rfl⟩
  | n :: ns, _, x => by
    obtain ⟨v, vs', rfl, h1, h2⟩ := wellAll_cons_inv x
    obtain ⟨ts, rfl, e⟩ := well_ints h2
    cases h1 with
    | int i t => exact ⟨t :: ts, rfl, by simp [e]⟩
theorem good_of {cl : Str → Option Addr} {mean : ExcName → Option Value} {args : List WData} {s₁ s' : Shared} (K : OldK s₁.heap s'.heap) (ho : s'.os = s₁.os) (hg : s'.gens = #[]) : GoodWG RW.claim cl mean args s₁ (.ok (.ret (.bool true))) s' := by
  refine ⟨.inl ⟨_, .bool true, [], rfl, fun cls => rfl, .bool true, ?_, fun _ => ⟨List.nodup_nil, fun _ h => nomatch h⟩⟩, K, ho, .of_eq hg⟩
  refine postW_of (r := RW) (X := true) rfl ?_ rfl
  show WTm.value [] (.eq .res (.lit (.bool true))) { args := args, res := some (.bool true), after := args } = some (.bool true)
  simp [WTm.value, W.same]
theorem zip_rel {F : Fz} : ∀ {ns : List Int} {ts : List Tok}, ts.length = ns.length → RelL F (ns.map .int) (List.zipWith .int ns ts)
  | [], _, _ => rfl
  | n :: ns, t :: ts, e => ⟨_, _, rfl, ⟨t, rfl⟩, zip_rel (by simpa using e)⟩
theorem law_call {w : World} {s₁ : Shared} {ns : List Int} {vals : List Value} (hns : ns.length ≤ 63) (W : Wd w s₁.heap) (hg : s₁.gens = #[]) (hwl : WellAll w.params s₁.heap vals [.list (ns.map .int)]) :
    wpAny (model PG w) callerA (PySem.call (.ref 972) vals) (fun v s' => v = .bool true ∧ OldK s₁.heap s'.heap ∧ s'.os = s₁.os ∧ s'.gens = #[]) (fun _ _ => False) s₁ := by
  obtain ⟨sa, vs, rfl, e1, hv⟩ := well_of hwl
  obtain ⟨ts, rfl, hts⟩ := well_ints hv
  refine wpAny_call (codeAny_mono (law_W (w := w) (B := s₁.heap) (k := 0) hns callerA [] s₁.os (fun a => s₁.heap.get? a) s₁ _ W ⟨rfl, by decide, by decide, rfl⟩ ⟨fun _ _ e => e, fun _ _ e => e, List.nodup_nil, fun _ h => (nomatch h), trivial, hg, rfl, fun _ h => (nomatch h)⟩ ⟨_, _, rfl, ⟨sa, _, 0, rfl, e1, zip_rel hts⟩, rfl⟩) fun r s' p => ?_)
  cases r with
  | ok f =>
    cases f with
    | ret v =>
      obtain ⟨F', H', a, C, P, ra, rfl⟩ := p
      exact ⟨ra, .of_keep fun b o e => C.fz b o (P.le b o e), C.os, C.gens⟩
    | _ => exact p
  | error e =>
    obtain ⟨F', H', ae, C, P, _, q⟩ := p
    exact q
theorem PG_eq : PG = PySem.Challenge.pw_xw0126_01 := by unfold PG; rfl
end Mine
namespace Mine
theorem sub_of {K K' : Frag} {h : Heap} (e : K'.map (fun p => K.lookup p.1) = K'.map (fun p => some p.2)) (x : K.In h) : K'.In h := fun a o q => by
  induction K' with
  | nil => cases q
  | cons p r ih =>
    have e := List.cons.inj e
    rw [List.lookup_cons] at q
    split at q
    · rename_i z; cases q; exact x a _ ((eq_of_beq z) ▸ e.1)
    · exact ih e.2 q
end Mine
namespace Mine.head
theorem tw3501597964444990463:True:=⟨⟩
theorem tw8518231567759158271:True:=⟨⟩
theorem tw5869485362099743711:True:=⟨⟩
theorem tw10005452208157733855:True:=⟨⟩
theorem tw14720509044617813951:True:=⟨⟩
theorem tw14631705268626504575:True:=⟨⟩
theorem tw174166394780034911:True:=⟨⟩
theorem tw1971652810694446911:True:=⟨⟩
theorem tw8497721794823489343:True:=⟨⟩
theorem tw10070411193226618655:True:=⟨⟩
theorem tw533756555076263647:True:=⟨⟩
theorem tw15794997505209512671:True:=⟨⟩
theorem tw10519217271611395807:True:=⟨⟩
theorem tw3749026756887285471:True:=⟨⟩
theorem tw12024539317367501503:True:=⟨⟩
theorem tw10079960370226730655:True:=⟨⟩
theorem tw4932745802714450591:True:=⟨⟩
theorem tw10261356005730403935:True:=⟨⟩
theorem tw10170068340998493759:True:=⟨⟩
theorem tw4277651752456152607:True:=⟨⟩
theorem tw15263674166054382079:True:=⟨⟩
theorem tw17889261914703972767:True:=⟨⟩
theorem tw16871623187472473471:True:=⟨⟩
theorem tw8758324158161630591:True:=⟨⟩
theorem tw9114333099845857663:True:=⟨⟩
theorem tw16385634705727604063:True:=⟨⟩
theorem tw10066793327743970655:True:=⟨⟩
theorem tw15035418422258542911:True:=⟨⟩
theorem tw3880867118405822719:True:=⟨⟩
theorem tw8997269238129315039:True:=⟨⟩
theorem tw16446913148795680959:True:=⟨⟩
theorem tw14417885227837004991:True:=⟨⟩
theorem tw4381510469713062047:True:=⟨⟩
theorem tw14393718171448925343:True:=⟨⟩
theorem tw17348764703882912863:True:=⟨⟩
theorem tw7181452741857391679:True:=⟨⟩
theorem tw13078646160514809887:True:=⟨⟩
theorem tw11194998557105285118:True:=⟨⟩
theorem tw6857060684267632606:True:=⟨⟩
theorem tw10504981510240967646:True:=⟨⟩
theorem tw10510622979536455646:True:=⟨⟩
theorem tw3547030090768783262:True:=⟨⟩
theorem tw17700853532424174462:True:=⟨⟩
theorem tw11063524718261073790:True:=⟨⟩
theorem tw16166440364842034014:True:=⟨⟩
theorem tw3364305129493290686:True:=⟨⟩
theorem tw45052839361067614:True:=⟨⟩
theorem tw7992697801930647134:True:=⟨⟩
theorem tw16821450928103126590:True:=⟨⟩
theorem tw15838623164411332158:True:=⟨⟩
theorem tw15604011560834605598:True:=⟨⟩
theorem tw16106133796442146334:True:=⟨⟩
theorem tw3368474557548986910:True:=⟨⟩
theorem tw11893822550167381502:True:=⟨⟩
theorem tw7582878936473852414:True:=⟨⟩
theorem tw4543076655600059902:True:=⟨⟩
theorem tw17039324001796647390:True:=⟨⟩
theorem tw7758381527925395934:True:=⟨⟩
theorem tw8895791426145780158:True:=⟨⟩
theorem tw5013180600929471838:True:=⟨⟩
theorem tw17243387458012846398:True:=⟨⟩
theorem tw3651205649096709438:True:=⟨⟩
theorem tw5129340602016612638:True:=⟨⟩
theorem tw12475708393154427166:True:=⟨⟩
theorem tw7846308304327970078:True:=⟨⟩
theorem tw2491421050496283774:True:=⟨⟩
theorem tw14513887754847984766:True:=⟨⟩
theorem tw17854890406432584798:True:=⟨⟩
theorem tw16582591585412914238:True:=⟨⟩
theorem tw4528443807372415038:True:=⟨⟩
theorem tw13295774097974887486:True:=⟨⟩
theorem tw140066278072042493:True:=⟨⟩
theorem tw6772502638888315869:True:=⟨⟩
theorem tw15501141472565082077:True:=⟨⟩
theorem tw2781723093108153277:True:=⟨⟩
theorem tw16903022960794457021:True:=⟨⟩
theorem tw10812213935944405949:True:=⟨⟩
theorem tw4576125674228380541:True:=⟨⟩
theorem tw733406405333840765:True:=⟨⟩
theorem tw15967466079928408925:True:=⟨⟩
theorem tw10987702880554017565:True:=⟨⟩
theorem tw527386997569798941:True:=⟨⟩
theorem tw1858285994304674589:True:=⟨⟩
theorem tw16800043278716471037:True:=⟨⟩
theorem tw8733578408476508925:True:=⟨⟩
theorem tw13510609219080548989:True:=⟨⟩
theorem tw7119846925741900413:True:=⟨⟩
theorem tw17142359554024780413:True:=⟨⟩
theorem tw7253898381062576733:True:=⟨⟩
theorem tw9280153536138602973:True:=⟨⟩
theorem tw1995287165650055613:True:=⟨⟩
theorem tw17297054508065495485:True:=⟨⟩
theorem tw18277060748420158845:True:=⟨⟩
theorem tw11714945338242495837:True:=⟨⟩
theorem tw18081138779251354973:True:=⟨⟩
theorem tw4239589573987675453:True:=⟨⟩
theorem tw10371985647062452541:True:=⟨⟩
theorem tw14586503196746008701:True:=⟨⟩
theorem tw4282208133720240221:True:=⟨⟩
theorem tw5038994553942263901:True:=⟨⟩
theorem tw1214346256449528893:True:=⟨⟩
theorem tw13988103294471073821:True:=⟨⟩
theorem tw7494366503370351645:True:=⟨⟩
theorem tw8773370040425892893:True:=⟨⟩
theorem tw6692803169904595997:True:=⟨⟩
theorem tw1291722185910714397:True:=⟨⟩
theorem tw3333069708870698940:True:=⟨⟩
theorem tw12428389735305899900:True:=⟨⟩
theorem tw5346772772824661884:True:=⟨⟩
theorem tw16031315777459398524:True:=⟨⟩
theorem tw6889739017440866108:True:=⟨⟩
theorem tw2581250870941146908:True:=⟨⟩
theorem tw8299393411229908732:True:=⟨⟩
theorem tw2760189568479381244:True:=⟨⟩
theorem tw10062970787820224252:True:=⟨⟩
theorem tw1728724042893426364:True:=⟨⟩
theorem tw6260244149815935644:True:=⟨⟩
theorem tw16894561301568121468:True:=⟨⟩
theorem tw10015159338476511836:True:=⟨⟩
theorem tw10467814448475477596:True:=⟨⟩
theorem tw14646466228836335164:True:=⟨⟩
theorem tw2973143901146584636:True:=⟨⟩
theorem tw9162278640276766204:True:=⟨⟩
theorem tw6272251169252508156:True:=⟨⟩
theorem tw1082313596108445148:True:=⟨⟩
theorem tw693309671712327132:True:=⟨⟩
theorem tw12613433811301422364:True:=⟨⟩
theorem tw12242153458792446204:True:=⟨⟩
theorem tw7688317290187622652:True:=⟨⟩
theorem tw14740928361383774428:True:=⟨⟩
theorem tw573967197379146972:True:=⟨⟩
theorem tw5140934472235413692:True:=⟨⟩
theorem tw4389056084150536348:True:=⟨⟩
theorem tw14882813523228863612:True:=⟨⟩
theorem tw11052631288978436188:True:=⟨⟩
theorem tw9142320679590124636:True:=⟨⟩
theorem tw2203363585012173787:True:=⟨⟩
theorem tw9823536610671039419:True:=⟨⟩
theorem tw11400809129844838299:True:=⟨⟩
theorem tw10898857373019930491:True:=⟨⟩
theorem tw1919001801439425371:True:=⟨⟩
theorem tw1618804561499322139:True:=⟨⟩
theorem tw1061700454162486011:True:=⟨⟩
theorem tw466721876749952763:True:=⟨⟩
theorem tw1626232751844553403:True:=⟨⟩
theorem tw930087139818521243:True:=⟨⟩
theorem tw12987040726578829979:True:=⟨⟩
theorem tw12120646240234225243:True:=⟨⟩
theorem tw3244951577380529755:True:=⟨⟩
theorem tw3616486834168423931:True:=⟨⟩
theorem tw4945251732147069371:True:=⟨⟩
theorem tw9978949632667528635:True:=⟨⟩
theorem tw10840385229135970747:True:=⟨⟩
theorem tw15832300201269216667:True:=⟨⟩
theorem tw13227620805987009915:True:=⟨⟩
theorem tw6600165084710513979:True:=⟨⟩
theorem tw3973953319845086491:True:=⟨⟩
theorem tw15399148058966210843:True:=⟨⟩
theorem tw17541063381433097499:True:=⟨⟩
theorem tw8912104118211102971:True:=⟨⟩
theorem tw6100774026682323163:True:=⟨⟩
theorem tw11613311375368785083:True:=⟨⟩
theorem tw17867283565879608411:True:=⟨⟩
theorem tw4387028780061031483:True:=⟨⟩
theorem tw779419810087314491:True:=⟨⟩
theorem tw14083850284487924763:True:=⟨⟩
theorem tw1858156416291392539:True:=⟨⟩
theorem tw742351954350328859:True:=⟨⟩
theorem tw44622916816846810:True:=⟨⟩
theorem tw9777900189565919194:True:=⟨⟩
theorem tw12201952087667049370:True:=⟨⟩
theorem tw6846597200999610202:True:=⟨⟩
theorem tw13687475568465949530:True:=⟨⟩
theorem tw9909477652473797434:True:=⟨⟩
theorem tw3869590956505411354:True:=⟨⟩
theorem tw1852205218256702202:True:=⟨⟩
theorem tw8988664977312594650:True:=⟨⟩
theorem tw12207028300977255130:True:=⟨⟩
theorem tw7906546307943345882:True:=⟨⟩
theorem tw5901594920499545818:True:=⟨⟩
theorem tw5401097623525119610:True:=⟨⟩
theorem tw4023466491090337370:True:=⟨⟩
theorem tw13198292447841614426:True:=⟨⟩
theorem tw14061139507663348314:True:=⟨⟩
theorem tw9186546921256032858:True:=⟨⟩
theorem tw6327039764776113722:True:=⟨⟩
theorem tw11724780754615379514:True:=⟨⟩
theorem tw9553506758532729402:True:=⟨⟩
theorem tw10333954764705244698:True:=⟨⟩
theorem tw12775505166333009402:True:=⟨⟩
theorem tw16643138836878064090:True:=⟨⟩
theorem tw15326552575505426906:True:=⟨⟩
theorem tw2681166955253090778:True:=⟨⟩
theorem tw1914692607248247194:True:=⟨⟩
theorem tw4947412792043415962:True:=⟨⟩
theorem tw3688799982635324794:True:=⟨⟩
theorem tw4273228799998304602:True:=⟨⟩
theorem tw5092371620264689978:True:=⟨⟩
theorem tw17826015225549371706:True:=⟨⟩
theorem tw2237326684586592538:True:=⟨⟩
theorem tw11296743742662292762:True:=⟨⟩
theorem tw11597336398036118778:True:=⟨⟩
theorem tw1489404036187247834:True:=⟨⟩
theorem tw5723944856813171866:True:=⟨⟩
theorem tw8337448324364255386:True:=⟨⟩
theorem tw18260194641540637818:True:=⟨⟩
theorem tw15204471325056678010:True:=⟨⟩
theorem tw1718890006036334650:True:=⟨⟩
theorem tw9214367901419015226:True:=⟨⟩
theorem tw14744981736328886265:True:=⟨⟩
theorem tw3556061257289618393:True:=⟨⟩
theorem tw11776848496246042585:True:=⟨⟩
theorem tw15735840784391694233:True:=⟨⟩
theorem tw3290047583113660281:True:=⟨⟩
theorem tw5599997604879368025:True:=⟨⟩
theorem tw10948677003083999065:True:=⟨⟩
theorem tw6931653728971238233:True:=⟨⟩
theorem tw17304152732226823993:True:=⟨⟩
theorem tw5274623360512300857:True:=⟨⟩
theorem tw13381877923881390905:True:=⟨⟩
theorem tw11821203517306503961:True:=⟨⟩
theorem tw12611893724949602041:True:=⟨⟩
theorem tw6763335052953634553:True:=⟨⟩
theorem tw12682429181067543257:True:=⟨⟩
theorem tw17782148633632673465:True:=⟨⟩
theorem tw6791874446421159577:True:=⟨⟩
theorem tw6836608696283027097:True:=⟨⟩
theorem tw18100283295969611417:True:=⟨⟩
theorem tw17444863063712431705:True:=⟨⟩
theorem tw9368406320212774489:True:=⟨⟩
theorem tw4235852798576303577:True:=⟨⟩
theorem tw13954853420313727417:True:=⟨⟩
theorem tw6079359036626576793:True:=⟨⟩
theorem tw6587087628758450585:True:=⟨⟩
theorem tw4407807290196491609:True:=⟨⟩
theorem tw7712916153251135833:True:=⟨⟩
theorem tw8550467674348477657:True:=⟨⟩
theorem tw6207834228037699737:True:=⟨⟩
theorem tw649443455394278489:True:=⟨⟩
theorem tw15666658371737129944:True:=⟨⟩
theorem tw17362218986543327160:True:=⟨⟩
theorem tw14877080517539528568:True:=⟨⟩
theorem tw15841401105113185080:True:=⟨⟩
theorem tw9353324838224930552:True:=⟨⟩
theorem tw2393937325987436248:True:=⟨⟩
theorem tw13199516396595161752:True:=⟨⟩
theorem tw1212124681294104184:True:=⟨⟩
theorem tw17768545326873755256:True:=⟨⟩
theorem tw6562009823351158392:True:=⟨⟩
theorem tw17553620660974883448:True:=⟨⟩
theorem tw2007852463679175192:True:=⟨⟩
theorem tw7013799640231393816:True:=⟨⟩
theorem tw15296082917334920728:True:=⟨⟩
theorem tw10736139440505347576:True:=⟨⟩
theorem tw8035625575855466936:True:=⟨⟩
theorem tw9325123708862168440:True:=⟨⟩
theorem tw5906241406904858968:True:=⟨⟩
theorem tw4389747894416019800:True:=⟨⟩
theorem tw14195316510222423288:True:=⟨⟩
theorem tw10668533816033670360:True:=⟨⟩
theorem tw17371765431496345816:True:=⟨⟩
theorem tw13942192884097748152:True:=⟨⟩
theorem tw2876011056497122456:True:=⟨⟩
theorem tw15798066900824788120:True:=⟨⟩
theorem tw5353729903917744248:True:=⟨⟩
theorem tw1438866918597655640:True:=⟨⟩
theorem tw14344768424176206936:True:=⟨⟩
theorem tw1970811146720035896:True:=⟨⟩
theorem tw7704315382344345624:True:=⟨⟩
theorem tw8534208459206503383:True:=⟨⟩
theorem tw15510365090734361527:True:=⟨⟩
theorem tw11857307637417881527:True:=⟨⟩
theorem tw9984397402777080727:True:=⟨⟩
theorem tw8874674299285249911:True:=⟨⟩
theorem tw8627200689577751383:True:=⟨⟩
theorem tw13137911371727378231:True:=⟨⟩
theorem tw4307260679431091991:True:=⟨⟩
theorem tw7960053054240918295:True:=⟨⟩
theorem tw9827913525700040407:True:=⟨⟩
theorem tw6604829842348296887:True:=⟨⟩
theorem tw11290360913936777911:True:=⟨⟩
theorem tw13002585709282622103:True:=⟨⟩
theorem tw1939405473400901271:True:=⟨⟩
theorem tw14235953900361662071:True:=⟨⟩
theorem tw497287684792784471:True:=⟨⟩
theorem tw12214093580764582487:True:=⟨⟩
theorem tw6836605351468522007:True:=⟨⟩
theorem tw13379354915994877463:True:=⟨⟩
theorem tw9449176361245260279:True:=⟨⟩
theorem tw11338825007792423415:True:=⟨⟩
theorem tw12903917746401883607:True:=⟨⟩
theorem tw9065935926736091543:True:=⟨⟩
theorem tw12630350610049390935:True:=⟨⟩
theorem tw14427283581363961175:True:=⟨⟩
theorem tw13653928888864918839:True:=⟨⟩
theorem tw7287109101882759415:True:=⟨⟩
theorem tw5751227541892866231:True:=⟨⟩
theorem tw6247268493268985975:True:=⟨⟩
theorem tw17017319662998615:True:=⟨⟩
theorem tw17188972718952451159:True:=⟨⟩
theorem tw17050696954950088759:True:=⟨⟩
theorem tw10457615780465708087:True:=⟨⟩
theorem tw2172669909848549399:True:=⟨⟩
theorem tw12427710115714267126:True:=⟨⟩
theorem tw883913982201973750:True:=⟨⟩
theorem tw2298694737197419510:True:=⟨⟩
theorem tw604627371996746742:True:=⟨⟩
theorem tw12205659690895024086:True:=⟨⟩
theorem tw2413573451304230806:True:=⟨⟩
theorem tw14982685227137828758:True:=⟨⟩
theorem tw16828514060538661750:True:=⟨⟩
theorem tw14842460003800876886:True:=⟨⟩
theorem tw15539854500240908086:True:=⟨⟩
theorem tw14112051064653734678:True:=⟨⟩
theorem tw9133290819911140118:True:=⟨⟩
theorem tw15785421084128741142:True:=⟨⟩
theorem tw532055438628499158:True:=⟨⟩
theorem tw13249071542605338262:True:=⟨⟩
theorem tw17014734716931888790:True:=⟨⟩
theorem tw11427066125472700054:True:=⟨⟩
theorem tw12851702773856589430:True:=⟨⟩
theorem tw16065720564569863766:True:=⟨⟩
theorem tw17552560543380974038:True:=⟨⟩
theorem tw8610661140672950678:True:=⟨⟩
theorem tw5612995960945425718:True:=⟨⟩
theorem tw17522360388414511382:True:=⟨⟩
theorem tw18331334602107656470:True:=⟨⟩
theorem tw9107825763807709430:True:=⟨⟩
theorem tw15250023729529759990:True:=⟨⟩
theorem tw322437386772585718:True:=⟨⟩
theorem tw9767149119325585590:True:=⟨⟩
theorem tw8159583801465064534:True:=⟨⟩
theorem tw17194126546080390198:True:=⟨⟩
theorem tw11484797826999851062:True:=⟨⟩
theorem tw9716329373054682134:True:=⟨⟩
theorem tw11544532188706048022:True:=⟨⟩
theorem tw7044984988248179734:True:=⟨⟩
theorem tw5508695066786827253:True:=⟨⟩
theorem tw4972248218790579157:True:=⟨⟩
theorem tw15978427065635505109:True:=⟨⟩
theorem tw5501060405047882677:True:=⟨⟩
theorem tw90575161674971029:True:=⟨⟩
theorem tw9601497413559074677:True:=⟨⟩
theorem tw12043669396524033845:True:=⟨⟩
theorem tw12147184966966947637:True:=⟨⟩
theorem tw5438144065070405397:True:=⟨⟩
theorem tw4885112425497105109:True:=⟨⟩
theorem tw1224924573807776437:True:=⟨⟩
theorem tw18433677622606106133:True:=⟨⟩
theorem tw12074249297620881909:True:=⟨⟩
theorem tw5141578139466067413:True:=⟨⟩
theorem tw18060483585939721653:True:=⟨⟩
theorem tw3212073173673764245:True:=⟨⟩
theorem tw3254172550106833301:True:=⟨⟩
theorem tw4976181008148175253:True:=⟨⟩
theorem tw4962877761993032021:True:=⟨⟩
theorem tw16472945084836616533:True:=⟨⟩
theorem tw5182153607120983317:True:=⟨⟩
theorem tw5725584637647431893:True:=⟨⟩
theorem tw6085824867444503733:True:=⟨⟩
theorem tw6684681932595197013:True:=⟨⟩
theorem tw6053349399257934933:True:=⟨⟩
theorem tw12364624919760631829:True:=⟨⟩
theorem tw1472379273497163797:True:=⟨⟩
theorem tw13335025841360890868:True:=⟨⟩
theorem tw16812575187878004724:True:=⟨⟩
theorem tw5638995163158488052:True:=⟨⟩
theorem tw5874639182527098836:True:=⟨⟩
theorem tw2249667046024356820:True:=⟨⟩
theorem tw2350586252961548244:True:=⟨⟩
theorem tw1389810093214676884:True:=⟨⟩
theorem tw3986194592780655508:True:=⟨⟩
theorem tw9905244861711924020:True:=⟨⟩
theorem tw15895551434495452948:True:=⟨⟩
theorem tw2400818531096893172:True:=⟨⟩
theorem tw7748693106545578708:True:=⟨⟩
theorem tw1937370526825066196:True:=⟨⟩
theorem tw2907111362388958804:True:=⟨⟩
theorem tw4009957668330374740:True:=⟨⟩
theorem tw86301839051661876:True:=⟨⟩
theorem tw17346037399652195860:True:=⟨⟩
theorem tw13637325136056909300:True:=⟨⟩
theorem tw3715144110773694964:True:=⟨⟩
theorem tw377444749377882612:True:=⟨⟩
theorem tw8569104457590258164:True:=⟨⟩
theorem tw17958272820484234708:True:=⟨⟩
theorem tw3170135247881550292:True:=⟨⟩
theorem tw6474009502463322548:True:=⟨⟩
theorem tw6426539377367359892:True:=⟨⟩
theorem tw2035680199648653684:True:=⟨⟩
theorem tw6307057079134178644:True:=⟨⟩
theorem tw8546719886708726068:True:=⟨⟩
theorem tw12244833863542804788:True:=⟨⟩
theorem tw6871339299614917876:True:=⟨⟩
theorem tw12398312691204496596:True:=⟨⟩
theorem tw17287069475806534740:True:=⟨⟩
theorem tw15656768269340197940:True:=⟨⟩
theorem tw6880043348581005364:True:=⟨⟩
theorem tw6402496994288996404:True:=⟨⟩
theorem tw16226220715811633075:True:=⟨⟩
theorem tw4857777746444614323:True:=⟨⟩
theorem tw13689084217373910675:True:=⟨⟩
theorem tw13213268828098156179:True:=⟨⟩
theorem tw10105583180162433683:True:=⟨⟩
theorem tw2797894973233656403:True:=⟨⟩
theorem tw708152393587867187:True:=⟨⟩
theorem tw6298033893332097587:True:=⟨⟩
theorem tw6174258528820157971:True:=⟨⟩
theorem tw12339793173418651155:True:=⟨⟩
theorem tw1919890906376249811:True:=⟨⟩
theorem tw16278871845796110771:True:=⟨⟩
theorem tw6737735255597943219:True:=⟨⟩
theorem tw8671685427711848851:True:=⟨⟩
theorem tw9486020189913756051:True:=⟨⟩
theorem tw14643959010103036307:True:=⟨⟩
theorem tw1966224132733831507:True:=⟨⟩
theorem tw4709128311485490483:True:=⟨⟩
theorem tw5844781237557850387:True:=⟨⟩
theorem tw5104563664521345299:True:=⟨⟩
theorem tw3944913497352057107:True:=⟨⟩
theorem tw2518057956044344595:True:=⟨⟩
theorem tw10110233660360586483:True:=⟨⟩
theorem tw11434997419882176723:True:=⟨⟩
theorem tw7148437315225170067:True:=⟨⟩
theorem tw14909605222495392915:True:=⟨⟩
theorem tw7940748693946456147:True:=⟨⟩
theorem tw12856577281151766611:True:=⟨⟩
theorem tw9145527808636388435:True:=⟨⟩
theorem tw3512634313551410195:True:=⟨⟩
theorem tw17265401458761052179:True:=⟨⟩
theorem tw9354026244260953042:True:=⟨⟩
theorem tw9030979908501067730:True:=⟨⟩
theorem tw15127644999133008818:True:=⟨⟩
theorem tw467416434755642258:True:=⟨⟩
theorem tw8815353094830122866:True:=⟨⟩
theorem tw2201313380682377074:True:=⟨⟩
theorem tw10730805705081004914:True:=⟨⟩
theorem tw15091486752826498866:True:=⟨⟩
theorem tw2441957057352720082:True:=⟨⟩
theorem tw1714602735852981970:True:=⟨⟩
theorem tw15256841493749336786:True:=⟨⟩
theorem tw10748227973586771634:True:=⟨⟩
theorem tw3821945547825155762:True:=⟨⟩
theorem tw3321875119742208626:True:=⟨⟩
theorem tw8451290768687142514:True:=⟨⟩
theorem tw16272097951300814418:True:=⟨⟩
theorem tw17262968490309938674:True:=⟨⟩
theorem tw7604411431414283762:True:=⟨⟩
theorem tw13585267454733459922:True:=⟨⟩
theorem tw1687793838685487538:True:=⟨⟩
theorem tw11485113708198979986:True:=⟨⟩
theorem tw9202431907968578930:True:=⟨⟩
theorem tw14531177953140590962:True:=⟨⟩
theorem tw17008234436448823602:True:=⟨⟩
theorem tw10317212456122042642:True:=⟨⟩
theorem tw2599346099135257874:True:=⟨⟩
theorem tw2506711637615833298:True:=⟨⟩
theorem tw2625984366357065906:True:=⟨⟩
theorem tw13478637309914159250:True:=⟨⟩
theorem tw16647155751929229394:True:=⟨⟩
theorem tw11925700103697007601:True:=⟨⟩
theorem tw16966009324859112401:True:=⟨⟩
theorem tw9802980913210911633:True:=⟨⟩
theorem tw18177665153149118353:True:=⟨⟩
theorem tw11704837465938651953:True:=⟨⟩
theorem tw6585138550035349233:True:=⟨⟩
theorem tw16579250180923337425:True:=⟨⟩
theorem tw14628233357713752721:True:=⟨⟩
theorem tw7789450098604059249:True:=⟨⟩
theorem tw16914380289546287665:True:=⟨⟩
theorem tw12949380547846470161:True:=⟨⟩
theorem tw12095829319087573521:True:=⟨⟩
theorem tw8264559056461403633:True:=⟨⟩
theorem tw5111174896325423537:True:=⟨⟩
theorem tw5788372791699333521:True:=⟨⟩
theorem tw4063747431996464497:True:=⟨⟩
theorem tw67086481866811729:True:=⟨⟩
theorem tw11124748197601291601:True:=⟨⟩
theorem tw15924019268735266097:True:=⟨⟩
theorem tw16917608666046251313:True:=⟨⟩
theorem tw17173245716831642929:True:=⟨⟩
theorem tw9987851973559822609:True:=⟨⟩
theorem tw7734086686654790897:True:=⟨⟩
theorem tw12822298378996975857:True:=⟨⟩
theorem tw5319049981483164881:True:=⟨⟩
theorem tw17197444120159719569:True:=⟨⟩
theorem tw14788773977795034992:True:=⟨⟩
theorem tw4691952243595246448:True:=⟨⟩
theorem tw18142253323546211152:True:=⟨⟩
theorem tw17275705279478898512:True:=⟨⟩
theorem tw10400636543074173776:True:=⟨⟩
theorem tw12212823987433534256:True:=⟨⟩
theorem tw6870361546347238192:True:=⟨⟩
theorem tw2545145822199252752:True:=⟨⟩
theorem tw14759185912286986992:True:=⟨⟩
theorem tw14969385696402013904:True:=⟨⟩
theorem tw13246386896891170512:True:=⟨⟩
theorem tw14746898714274692784:True:=⟨⟩
theorem tw13504307299585405616:True:=⟨⟩
theorem tw3453547403478019728:True:=⟨⟩
theorem tw6847273489543275152:True:=⟨⟩
theorem tw15779500811904541264:True:=⟨⟩
theorem tw14028522991509751376:True:=⟨⟩
theorem tw2661039320868540944:True:=⟨⟩
theorem tw5737951250597237232:True:=⟨⟩
theorem tw7313386461004707312:True:=⟨⟩
theorem tw1463646239528298992:True:=⟨⟩
theorem tw15095179193122606544:True:=⟨⟩
theorem tw6134102552185403728:True:=⟨⟩
theorem tw16782820856776367440:True:=⟨⟩
theorem tw10510183946089719056:True:=⟨⟩
theorem tw13337238644230332656:True:=⟨⟩
theorem tw14492117785962260688:True:=⟨⟩
theorem tw3185377453876500656:True:=⟨⟩
theorem tw12695399030622205104:True:=⟨⟩
theorem tw12604462930493870256:True:=⟨⟩
theorem tw12741294794224977040:True:=⟨⟩
theorem tw5651425540991249520:True:=⟨⟩
theorem tw18282902561792777199:True:=⟨⟩
theorem tw12764128322984676335:True:=⟨⟩
theorem tw807142644699662319:True:=⟨⟩
theorem tw12740806245664736207:True:=⟨⟩
theorem tw4433315090154635215:True:=⟨⟩
theorem tw16997897962222511:True:=⟨⟩
theorem tw5129616035191883695:True:=⟨⟩
theorem tw10340462753498674063:True:=⟨⟩
theorem tw12032222614953749359:True:=⟨⟩
theorem tw6930615606355531631:True:=⟨⟩
theorem tw2705560170217086799:True:=⟨⟩
theorem tw17173436117698932495:True:=⟨⟩
theorem tw7879782656825443055:True:=⟨⟩
theorem tw11715283913529211631:True:=⟨⟩
theorem tw7624658959004494543:True:=⟨⟩
theorem tw5617373736292572815:True:=⟨⟩
theorem tw14364637388885140079:True:=⟨⟩
theorem tw5515381820778694223:True:=⟨⟩
theorem tw15564447279633807951:True:=⟨⟩
theorem tw7627683417492964911:True:=⟨⟩
theorem tw16714887947964762639:True:=⟨⟩
theorem tw8626486368039343599:True:=⟨⟩
theorem tw15181326774706428367:True:=⟨⟩
theorem tw4746297304354101679:True:=⟨⟩
theorem tw1425459126675767727:True:=⟨⟩
theorem tw17784522201281872271:True:=⟨⟩
theorem tw17821319399108415887:True:=⟨⟩
theorem tw14643560169476415855:True:=⟨⟩
theorem tw4975070653579243887:True:=⟨⟩
theorem tw12310735299239354703:True:=⟨⟩
theorem tw3794523003379204399:True:=⟨⟩
theorem tw18165431152234640623:True:=⟨⟩
theorem tw1620002657737552111:True:=⟨⟩
theorem tw8715499118904818895:True:=⟨⟩
theorem tw18215824643853355119:True:=⟨⟩
theorem tw4090201507572337743:True:=⟨⟩
theorem tw16640130746408290383:True:=⟨⟩
theorem tw8586521899292070991:True:=⟨⟩
theorem tw10116942457455264815:True:=⟨⟩
theorem tw1398043889541792783:True:=⟨⟩
theorem tw1524684057812940815:True:=⟨⟩
theorem tw14234965402570480558:True:=⟨⟩
theorem tw15520248196984853422:True:=⟨⟩
theorem tw3089916443595474862:True:=⟨⟩
theorem tw13180129090757240718:True:=⟨⟩
theorem tw9746458257258439470:True:=⟨⟩
theorem tw6053997905714604814:True:=⟨⟩
theorem tw709382114072422158:True:=⟨⟩
theorem tw10431609616501453582:True:=⟨⟩
theorem tw16128420640991077102:True:=⟨⟩
theorem tw8866670633112419022:True:=⟨⟩
theorem tw9374387883903384206:True:=⟨⟩
theorem tw17093656651364094606:True:=⟨⟩
theorem tw7309950759910210094:True:=⟨⟩
theorem tw13750642191701924398:True:=⟨⟩
theorem tw5271886537152271918:True:=⟨⟩
theorem tw12362083183470981646:True:=⟨⟩
theorem tw1495726902847802894:True:=⟨⟩
theorem tw16474958459275807246:True:=⟨⟩
theorem tw7616930195647119758:True:=⟨⟩
theorem tw12359489953124434286:True:=⟨⟩
theorem tw12704426703380559182:True:=⟨⟩
theorem tw18416563613846182222:True:=⟨⟩
theorem tw11426403942048686318:True:=⟨⟩
theorem tw300626226527484142:True:=⟨⟩
theorem tw10389290468125465742:True:=⟨⟩
theorem tw12328230846540189838:True:=⟨⟩
theorem tw6074800462829891694:True:=⟨⟩
theorem tw16659920880120507502:True:=⟨⟩
theorem tw3659646283403374670:True:=⟨⟩
theorem tw17332727794074296334:True:=⟨⟩
theorem tw3122906425038022637:True:=⟨⟩
theorem tw13600378441667735501:True:=⟨⟩
theorem tw9644850379433450445:True:=⟨⟩
theorem tw6237802210402583469:True:=⟨⟩
theorem tw12601080634535202701:True:=⟨⟩
theorem tw7599496313472250701:True:=⟨⟩
theorem tw6751290297309308749:True:=⟨⟩
theorem tw16572314662081343053:True:=⟨⟩
theorem tw8838475285390394957:True:=⟨⟩
theorem tw8402214883040486957:True:=⟨⟩
theorem tw14139617269561922093:True:=⟨⟩
theorem tw16817119741492734445:True:=⟨⟩
theorem tw15781038721244158349:True:=⟨⟩
theorem tw7272792461964422541:True:=⟨⟩
theorem tw5870146547769353613:True:=⟨⟩
theorem tw6153569298028143949:True:=⟨⟩
theorem tw12330954535739239725:True:=⟨⟩
theorem tw11241476830008268045:True:=⟨⟩
theorem tw8812732774380208333:True:=⟨⟩
theorem tw7805308653706644653:True:=⟨⟩
theorem tw1318689175770300589:True:=⟨⟩
theorem tw15148963937461231693:True:=⟨⟩
theorem tw5392078452651409485:True:=⟨⟩
theorem tw9701577420580846637:True:=⟨⟩
theorem tw6121141971511671821:True:=⟨⟩
theorem tw14432977821161478157:True:=⟨⟩
theorem tw14127983276867164173:True:=⟨⟩
theorem tw10205530081349824492:True:=⟨⟩
theorem tw15845715064670954444:True:=⟨⟩
theorem tw3991279037241028524:True:=⟨⟩
theorem tw9325057278558614444:True:=⟨⟩
theorem tw7256407767356113836:True:=⟨⟩
theorem tw16847831306532103052:True:=⟨⟩
theorem tw6110071263904590700:True:=⟨⟩
theorem tw7659462814917621580:True:=⟨⟩
theorem tw1216361941278037836:True:=⟨⟩
theorem tw14306030232151103276:True:=⟨⟩
theorem tw6891450509433485068:True:=⟨⟩
theorem tw7090939061502383884:True:=⟨⟩
theorem tw11484358847640170188:True:=⟨⟩
theorem tw12203989073614783180:True:=⟨⟩
theorem tw3547240966391284428:True:=⟨⟩
theorem tw9082462177598256812:True:=⟨⟩
theorem tw2764016085172604524:True:=⟨⟩
theorem tw3790771472595898956:True:=⟨⟩
theorem tw48543519692965452:True:=⟨⟩
theorem tw14139502460874162764:True:=⟨⟩
theorem tw17789423225533864492:True:=⟨⟩
theorem tw16845296645482713644:True:=⟨⟩
theorem tw7156519585557434892:True:=⟨⟩
theorem tw12417293695627231756:True:=⟨⟩
theorem tw14699528089545365996:True:=⟨⟩
theorem tw2857895335220236748:True:=⟨⟩
theorem tw15638870477510070732:True:=⟨⟩
theorem tw17854896373637125580:True:=⟨⟩
theorem tw6522505103286579628:True:=⟨⟩
theorem tw12287978374625458572:True:=⟨⟩
theorem tw7575806435727305068:True:=⟨⟩
theorem tw2588942769649879372:True:=⟨⟩
theorem tw6602476347957198060:True:=⟨⟩
theorem tw9464831228461672588:True:=⟨⟩
theorem tw4708111749353345164:True:=⟨⟩
theorem tw1506576300011279404:True:=⟨⟩
theorem tw7512725033676591148:True:=⟨⟩
theorem tw14969872817325187116:True:=⟨⟩
theorem tw5380383263664398348:True:=⟨⟩
theorem tw10270352894671993868:True:=⟨⟩
theorem tw5479459121986351116:True:=⟨⟩
theorem tw14488727979953464203:True:=⟨⟩
theorem tw8097174177036852075:True:=⟨⟩
theorem tw1172538174109094731:True:=⟨⟩
theorem tw16769997242578385675:True:=⟨⟩
theorem tw3404819636646143723:True:=⟨⟩
theorem tw6388477656530123435:True:=⟨⟩
theorem tw5506250874072839755:True:=⟨⟩
theorem tw8796753266530204203:True:=⟨⟩
theorem tw14667470093908496907:True:=⟨⟩
theorem tw15468718075485040107:True:=⟨⟩
theorem tw13743032657059413451:True:=⟨⟩
theorem tw11569442021236766091:True:=⟨⟩
theorem tw15305915472762889579:True:=⟨⟩
theorem tw14679116673082234219:True:=⟨⟩
theorem tw5927865893512547691:True:=⟨⟩
theorem tw14768688571040804171:True:=⟨⟩
theorem tw6379358179555706155:True:=⟨⟩
theorem tw8172283286065499403:True:=⟨⟩
theorem tw9625377726130185387:True:=⟨⟩
theorem tw4405531762615560363:True:=⟨⟩
theorem tw15676425527210111115:True:=⟨⟩
theorem tw17339705970751849611:True:=⟨⟩
theorem tw17007033763367706731:True:=⟨⟩
theorem tw2753283235347674219:True:=⟨⟩
theorem tw6099028997845504075:True:=⟨⟩
theorem tw3127049524044150859:True:=⟨⟩
theorem tw14843749296085226474:True:=⟨⟩
theorem tw6518409114910312394:True:=⟨⟩
theorem tw5487235932777146282:True:=⟨⟩
theorem tw6968674436765558698:True:=⟨⟩
theorem tw17844492200522320778:True:=⟨⟩
theorem tw7928285938522686346:True:=⟨⟩
theorem tw9717200733822644074:True:=⟨⟩
theorem tw6684978435548883818:True:=⟨⟩
theorem tw18254194996027185994:True:=⟨⟩
theorem tw17453365369857097546:True:=⟨⟩
theorem tw13896987355042952010:True:=⟨⟩
theorem tw3021114989795446570:True:=⟨⟩
theorem tw6526830475164118762:True:=⟨⟩
theorem tw13917482298092908234:True:=⟨⟩
theorem tw5996384718915585738:True:=⟨⟩
theorem tw18080951475816111786:True:=⟨⟩
theorem tw69809265629811306:True:=⟨⟩
theorem tw5061997093462229610:True:=⟨⟩
theorem tw9318794584737855082:True:=⟨⟩
theorem tw8182079617134344778:True:=⟨⟩
theorem tw14149492867418468938:True:=⟨⟩
theorem tw6211381574409162282:True:=⟨⟩
theorem tw17836260108008149386:True:=⟨⟩
theorem tw10706776884845955466:True:=⟨⟩
theorem tw5418945672586834282:True:=⟨⟩
theorem tw17113217626458354986:True:=⟨⟩
theorem tw9103479521544129834:True:=⟨⟩
theorem tw16894393574925625578:True:=⟨⟩
theorem tw10128820837102578890:True:=⟨⟩
theorem tw5096742575497195690:True:=⟨⟩
theorem tw380116879960591498:True:=⟨⟩
theorem tw12668424612319814730:True:=⟨⟩
theorem tw15782939476341012554:True:=⟨⟩
theorem tw13910694723763315657:True:=⟨⟩
theorem tw17486074103640542121:True:=⟨⟩
theorem tw18419137052163196841:True:=⟨⟩
theorem tw315434073420411817:True:=⟨⟩
theorem tw2976249973925969801:True:=⟨⟩
theorem tw16652688526520581961:True:=⟨⟩
theorem tw5407718363533321033:True:=⟨⟩
theorem tw7961726388155042601:True:=⟨⟩
theorem tw4377270945021899497:True:=⟨⟩
theorem tw2241628862621589225:True:=⟨⟩
theorem tw7421959067914383049:True:=⟨⟩
theorem tw11305582741114486441:True:=⟨⟩
theorem tw9646481798937456297:True:=⟨⟩
theorem tw10472834687351259785:True:=⟨⟩
theorem tw4554283584077286953:True:=⟨⟩
theorem tw5015311536963163689:True:=⟨⟩
theorem tw2340069552987342377:True:=⟨⟩
theorem tw820421773197932041:True:=⟨⟩
theorem tw17894702793023417833:True:=⟨⟩
theorem tw15647610678857825673:True:=⟨⟩
theorem tw18176413224385145225:True:=⟨⟩
theorem tw14168692526580214153:True:=⟨⟩
theorem tw17539234302018041193:True:=⟨⟩
theorem tw11862927689305589065:True:=⟨⟩
theorem tw7833285031277912329:True:=⟨⟩
theorem tw17377423518514600169:True:=⟨⟩
theorem tw4964814941381164201:True:=⟨⟩
theorem tw10018764681926925449:True:=⟨⟩
theorem tw11005904730967762025:True:=⟨⟩
theorem tw1588943658860677225:True:=⟨⟩
theorem tw14956371261235936329:True:=⟨⟩
theorem tw780477332936465449:True:=⟨⟩
theorem tw5788964047882338313:True:=⟨⟩
theorem tw2825341998796452840:True:=⟨⟩
theorem tw3581614266968435656:True:=⟨⟩
theorem tw8549075639274686408:True:=⟨⟩
theorem tw2864405669816312776:True:=⟨⟩
theorem tw14637134836413734856:True:=⟨⟩
theorem tw7656372460463219624:True:=⟨⟩
theorem tw13801937863458859944:True:=⟨⟩
theorem tw11097941207591946120:True:=⟨⟩
theorem tw17674571679781333832:True:=⟨⟩
theorem tw13932022402069264104:True:=⟨⟩
theorem tw1276956409769668328:True:=⟨⟩
theorem tw8169693465737517768:True:=⟨⟩
theorem tw17109638464079675080:True:=⟨⟩
theorem tw7876399200375917224:True:=⟨⟩
theorem tw14565420633037775528:True:=⟨⟩
theorem tw2437478716016495240:True:=⟨⟩
theorem tw17698105195316432488:True:=⟨⟩
theorem tw2154566216772986472:True:=⟨⟩
theorem tw16441004959143088680:True:=⟨⟩
theorem tw14943480678444902952:True:=⟨⟩
theorem tw14631306762972528136:True:=⟨⟩
theorem tw11308087075614649832:True:=⟨⟩
theorem tw3304075619188804072:True:=⟨⟩
theorem tw1894759731626308040:True:=⟨⟩
theorem tw4834694072379752904:True:=⟨⟩
theorem tw2066564036433440168:True:=⟨⟩
theorem tw14412733801367601576:True:=⟨⟩
theorem tw3164961170700492040:True:=⟨⟩
theorem tw12870424476946447624:True:=⟨⟩
theorem tw14969395210118534408:True:=⟨⟩
theorem tw10366927770000222440:True:=⟨⟩
theorem tw15253147559959296200:True:=⟨⟩
theorem tw13353151263460963528:True:=⟨⟩
theorem tw2591067827882107080:True:=⟨⟩
theorem tw14699756766385990792:True:=⟨⟩
theorem tw9997931420998421608:True:=⟨⟩
theorem tw6226413525154113608:True:=⟨⟩
theorem tw6265338273532641288:True:=⟨⟩
theorem tw262713603470380999:True:=⟨⟩
theorem tw8408249889716310983:True:=⟨⟩
theorem tw18125128294737035143:True:=⟨⟩
theorem tw5973763720392745831:True:=⟨⟩
theorem tw13605870324054321959:True:=⟨⟩
theorem tw8409189969818401543:True:=⟨⟩
theorem tw1272635626206103303:True:=⟨⟩
theorem tw10988817232074504935:True:=⟨⟩
theorem tw8041981036286801607:True:=⟨⟩
theorem tw18014224886719972007:True:=⟨⟩
theorem tw1319983325249436295:True:=⟨⟩
theorem tw7680146299302783591:True:=⟨⟩
theorem tw14385403278947933607:True:=⟨⟩
theorem tw15001418939266856263:True:=⟨⟩
theorem tw11582096051123008839:True:=⟨⟩
theorem tw4693820183103290663:True:=⟨⟩
theorem tw14090159008775844135:True:=⟨⟩
theorem tw8185714761375850791:True:=⟨⟩
theorem tw5987550445186205895:True:=⟨⟩
theorem tw2529948359932261575:True:=⟨⟩
theorem tw18007968972792079559:True:=⟨⟩
theorem tw14112020806712329415:True:=⟨⟩
theorem tw1906429620130506887:True:=⟨⟩
theorem tw1062042127530464391:True:=⟨⟩
theorem tw11105056867450500199:True:=⟨⟩
theorem tw2260579728952749127:True:=⟨⟩
theorem tw6212921109956642855:True:=⟨⟩
theorem tw16984083398119652359:True:=⟨⟩
theorem tw15840312062823119879:True:=⟨⟩
theorem tw9101448428047585222:True:=⟨⟩
theorem tw4053978428183960486:True:=⟨⟩
theorem tw4991397462208424806:True:=⟨⟩
theorem tw13276723143375012678:True:=⟨⟩
theorem tw13295082483830516422:True:=⟨⟩
theorem tw18384547517478447814:True:=⟨⟩
theorem tw18364922244981856966:True:=⟨⟩
theorem tw13537664574400122534:True:=⟨⟩
theorem tw10521553517811329670:True:=⟨⟩
theorem tw14512941343882779238:True:=⟨⟩
theorem tw16874305072444578374:True:=⟨⟩
theorem tw1689142752476645926:True:=⟨⟩
theorem tw1909714482019496454:True:=⟨⟩
theorem tw16111715859725283846:True:=⟨⟩
theorem tw4017301010375394790:True:=⟨⟩
theorem tw1457377512435260902:True:=⟨⟩
theorem tw6640010369347007910:True:=⟨⟩
theorem tw2326617092838664518:True:=⟨⟩
theorem tw17988201657351507238:True:=⟨⟩
theorem tw15827502805916655846:True:=⟨⟩
theorem tw1748456618969930982:True:=⟨⟩
theorem tw5906749814970224870:True:=⟨⟩
theorem tw9515422150858430662:True:=⟨⟩
theorem tw1673358830478937286:True:=⟨⟩
theorem tw10573961123116132518:True:=⟨⟩
theorem tw13508044439285423174:True:=⟨⟩
theorem tw16078238667976319046:True:=⟨⟩
theorem tw3860651933079915558:True:=⟨⟩
theorem tw807299193193998342:True:=⟨⟩
theorem tw14349913743752837093:True:=⟨⟩
theorem tw12344544660321961925:True:=⟨⟩
theorem tw13906610036690215845:True:=⟨⟩
theorem tw16695014060947850149:True:=⟨⟩
theorem tw10010264046613662565:True:=⟨⟩
theorem tw3980653432952411973:True:=⟨⟩
theorem tw8187629637223713605:True:=⟨⟩
theorem tw12182850187970735909:True:=⟨⟩
theorem tw9197122456581196581:True:=⟨⟩
theorem tw7661765248129044261:True:=⟨⟩
theorem tw3405375401864073989:True:=⟨⟩
theorem tw11255790879490906821:True:=⟨⟩
theorem tw14149427978524627653:True:=⟨⟩
theorem tw5080737588221150853:True:=⟨⟩
theorem tw8603420104599213669:True:=⟨⟩
theorem tw4311042196063409733:True:=⟨⟩
theorem tw1660877005871194693:True:=⟨⟩
theorem tw5593727005144783397:True:=⟨⟩
theorem tw7404141018258913797:True:=⟨⟩
theorem tw10265929125382437317:True:=⟨⟩
theorem tw1211024037004892549:True:=⟨⟩
theorem tw4839655697589452165:True:=⟨⟩
theorem tw1519320592345488741:True:=⟨⟩
theorem tw14078167904914714981:True:=⟨⟩
theorem tw13955511503576765797:True:=⟨⟩
theorem tw12602330955789569381:True:=⟨⟩
theorem tw7605166074885289285:True:=⟨⟩
theorem tw10786079294511566085:True:=⟨⟩
theorem tw1522823579158628613:True:=⟨⟩
theorem tw16576625349610184965:True:=⟨⟩
theorem tw11923155195566972133:True:=⟨⟩
theorem tw4196546014268931301:True:=⟨⟩
theorem tw14796412885826930917:True:=⟨⟩
theorem tw15796087645652482245:True:=⟨⟩
theorem tw10021064610941686981:True:=⟨⟩
theorem tw8216834362191484069:True:=⟨⟩
theorem tw6536181036136497285:True:=⟨⟩
theorem tw6161856959107265637:True:=⟨⟩
theorem tw17850378814381688901:True:=⟨⟩
theorem tw7096138990903361605:True:=⟨⟩
theorem tw15895748673760503845:True:=⟨⟩
theorem tw6846866878297920324:True:=⟨⟩
theorem tw1503407388533364548:True:=⟨⟩
theorem tw15506723302920939300:True:=⟨⟩
theorem tw10059252607514160932:True:=⟨⟩
theorem tw9495540839478616804:True:=⟨⟩
theorem tw9838509708139735780:True:=⟨⟩
theorem tw6489421142724028100:True:=⟨⟩
theorem tw16922147877168347812:True:=⟨⟩
theorem tw17015032458148788900:True:=⟨⟩
theorem tw3863384581746538084:True:=⟨⟩
theorem tw9273958884904355332:True:=⟨⟩
theorem tw999222835498014148:True:=⟨⟩
theorem tw578259024812056932:True:=⟨⟩
theorem tw16014373381606645092:True:=⟨⟩
theorem tw14241001667801471300:True:=⟨⟩
theorem tw3368030927266983236:True:=⟨⟩
theorem tw8414573866900348196:True:=⟨⟩
theorem tw14999265807660949796:True:=⟨⟩
theorem tw13397106695672350980:True:=⟨⟩
theorem tw7498250532897285284:True:=⟨⟩
theorem tw9083612298779875492:True:=⟨⟩
theorem tw4607607821588926596:True:=⟨⟩
theorem tw11180365069992382532:True:=⟨⟩
theorem tw11060938730435951684:True:=⟨⟩
theorem tw15410735652082386980:True:=⟨⟩
theorem tw11081218982966106116:True:=⟨⟩
theorem tw10900948863051656163:True:=⟨⟩
theorem tw976808484645153763:True:=⟨⟩
theorem tw2694075680205673411:True:=⟨⟩
theorem tw2393098407364606883:True:=⟨⟩
theorem tw17905491414393134947:True:=⟨⟩
theorem tw3665506230870052707:True:=⟨⟩
theorem tw2415559669582209859:True:=⟨⟩
theorem tw17577399041416155939:True:=⟨⟩
theorem tw8541356943393881859:True:=⟨⟩
theorem tw4415685298772064003:True:=⟨⟩
theorem tw9658139154387788515:True:=⟨⟩
theorem tw1917425121527220963:True:=⟨⟩
theorem tw851385035628625539:True:=⟨⟩
theorem tw6088685845774392931:True:=⟨⟩
theorem tw12581593161143036515:True:=⟨⟩
theorem tw15894371620910866019:True:=⟨⟩
theorem tw14597329475937083939:True:=⟨⟩
theorem tw12763952150808568291:True:=⟨⟩
theorem tw13086575352542018947:True:=⟨⟩
theorem tw17725469503822016867:True:=⟨⟩
theorem tw7179252675378151715:True:=⟨⟩
theorem tw2728595385866086531:True:=⟨⟩
theorem tw2355103038987944067:True:=⟨⟩
theorem tw10746725682022337571:True:=⟨⟩
theorem tw10533634037010066435:True:=⟨⟩
theorem tw5986637957666399235:True:=⟨⟩
theorem tw6521490308693473283:True:=⟨⟩
theorem tw8182465387277545410:True:=⟨⟩
theorem tw18331532914195504034:True:=⟨⟩
theorem tw18051680202136193954:True:=⟨⟩
theorem tw3083302935323014018:True:=⟨⟩
theorem tw12478146576626367362:True:=⟨⟩
theorem tw5187041380464763778:True:=⟨⟩
theorem tw14983349147647662914:True:=⟨⟩
theorem tw6369041477666114370:True:=⟨⟩
theorem tw1056085985882870562:True:=⟨⟩
theorem tw7523532297153676066:True:=⟨⟩
theorem tw13488047542759136002:True:=⟨⟩
theorem tw9820158181544301314:True:=⟨⟩
theorem tw3160712208675142370:True:=⟨⟩
theorem tw7802898811600756450:True:=⟨⟩
theorem tw11820730986300896962:True:=⟨⟩
theorem tw17993767162375566018:True:=⟨⟩
theorem tw12841863872788715202:True:=⟨⟩
theorem tw11448457236735557282:True:=⟨⟩
theorem tw5019597260055213698:True:=⟨⟩
theorem tw6858743491597560450:True:=⟨⟩
theorem tw15253846138512369154:True:=⟨⟩
theorem tw7658410731251134818:True:=⟨⟩
theorem tw16172356507618199906:True:=⟨⟩
theorem tw1134157569726261602:True:=⟨⟩
theorem tw8101760021730824546:True:=⟨⟩
theorem tw3696042808614700290:True:=⟨⟩
theorem tw11692735721529064706:True:=⟨⟩
theorem tw4965378191221513410:True:=⟨⟩
theorem tw14676189674455941282:True:=⟨⟩
theorem tw12875325457547866274:True:=⟨⟩
theorem tw12472887615940459650:True:=⟨⟩
theorem tw2525317073905713282:True:=⟨⟩
theorem tw6588589085864783938:True:=⟨⟩
theorem tw17658000642845759554:True:=⟨⟩
theorem tw8402328212356670530:True:=⟨⟩
theorem tw9743709737119245314:True:=⟨⟩
theorem tw5650451955626385410:True:=⟨⟩
theorem tw17538388429313760193:True:=⟨⟩
theorem tw3270352941656771521:True:=⟨⟩
theorem tw7161073391023584161:True:=⟨⟩
theorem tw7277520189549225825:True:=⟨⟩
theorem tw9062998866958442273:True:=⟨⟩
theorem tw4419558321834357505:True:=⟨⟩
theorem tw10936905620487946977:True:=⟨⟩
theorem tw12727220549172885185:True:=⟨⟩
theorem tw15064752311394979489:True:=⟨⟩
theorem tw1499353310998574721:True:=⟨⟩
theorem tw3500380475922496097:True:=⟨⟩
theorem tw3088210815446039105:True:=⟨⟩
theorem tw5865467396996320769:True:=⟨⟩
theorem tw11819297519747316193:True:=⟨⟩
theorem tw1976755195193171425:True:=⟨⟩
theorem tw3690969761935527329:True:=⟨⟩
theorem tw6240353410654795137:True:=⟨⟩
theorem tw12998212659555988865:True:=⟨⟩
theorem tw5792407227767346561:True:=⟨⟩
theorem tw1929634836878124385:True:=⟨⟩
theorem tw15052771764104931649:True:=⟨⟩
theorem tw10356212845559719233:True:=⟨⟩
theorem tw10258521583956687137:True:=⟨⟩
theorem tw16545597347906280737:True:=⟨⟩
theorem tw4764554697811233:True:=⟨⟩
theorem tw4160124254940468481:True:=⟨⟩
theorem tw9388430590476628193:True:=⟨⟩
theorem tw13846591363081406657:True:=⟨⟩
theorem tw3615648651819825313:True:=⟨⟩
theorem tw11998209505049934977:True:=⟨⟩
theorem tw9592777112578238593:True:=⟨⟩
theorem tw16470739840699324481:True:=⟨⟩
theorem tw14527164170590304321:True:=⟨⟩
theorem tw17525636777796739105:True:=⟨⟩
theorem tw15898970277018273793:True:=⟨⟩
theorem tw1992862871153497056:True:=⟨⟩
theorem tw18332285231265401824:True:=⟨⟩
theorem tw7046380642943354848:True:=⟨⟩
theorem tw10242447542790323104:True:=⟨⟩
theorem tw12795389718870424448:True:=⟨⟩
theorem tw7417405269818204032:True:=⟨⟩
theorem tw3496171461512900480:True:=⟨⟩
theorem tw5467695095851852608:True:=⟨⟩
theorem tw12460202669355646752:True:=⟨⟩
theorem tw13999681649124312864:True:=⟨⟩
theorem tw290710125855613696:True:=⟨⟩
theorem tw9380374249521086144:True:=⟨⟩
theorem tw4357005996527412928:True:=⟨⟩
theorem tw2428695696106030784:True:=⟨⟩
theorem tw11402027661713467040:True:=⟨⟩
theorem tw2096541523181747872:True:=⟨⟩
theorem tw9074772780463953568:True:=⟨⟩
theorem tw16172288393029767808:True:=⟨⟩
theorem tw6202090305015876224:True:=⟨⟩
theorem tw14086173767186703872:True:=⟨⟩
theorem tw7450023128482652576:True:=⟨⟩
theorem tw15037083628117588352:True:=⟨⟩
theorem tw13294958713779813728:True:=⟨⟩
theorem tw5944575059761466720:True:=⟨⟩
theorem tw11628534518673281344:True:=⟨⟩
theorem tw4473611206160876864:True:=⟨⟩
theorem tw1985537357303476512:True:=⟨⟩
theorem tw18123143868385100064:True:=⟨⟩
theorem tw2554682012703037696:True:=⟨⟩
theorem tw9234455393454914656:True:=⟨⟩
theorem tw17972497016974392416:True:=⟨⟩
theorem tw17238610979035211840:True:=⟨⟩
theorem tw7732209734871044160:True:=⟨⟩
theorem tw15898109809663626304:True:=⟨⟩
theorem tw17784925447008408576:True:=⟨⟩
theorem tw16894197260953374720:True:=⟨⟩
theorem tw5207666765276788736:True:=⟨⟩
theorem tw16072502192527678464:True:=⟨⟩
theorem tw12711419669710604993:True:=⟨⟩
theorem tw6564211139401968916:True:=⟨⟩
theorem tw14622370560607771284:True:=⟨⟩
theorem tw13878165676719939863:True:=⟨⟩
theorem tw9505938122459767141:True:=⟨⟩
theorem tw17307377611955334799:True:=⟨⟩
theorem tw8423381764743328025:True:=⟨⟩
theorem tw624207075365396820:True:=⟨⟩
theorem tw2386160858604645468:True:=⟨⟩
theorem tw7186359912698719287:True:=⟨⟩
theorem tw4965229178558685494:True:=⟨⟩
theorem tw15881151413450892135:True:=⟨⟩
theorem tw12480992522654615295:True:=⟨⟩
theorem tw7571121800136207637:True:=⟨⟩
theorem tw9273458967167524031:True:=⟨⟩
theorem tw5126042685161816208:True:=⟨⟩
theorem tw1199649898441859501:True:=⟨⟩
theorem tw12729216178547133499:True:=⟨⟩
theorem tw5331137831679937033:True:=⟨⟩
theorem tw5253091568745631028:True:=⟨⟩
theorem tw748731779930912776:True:=⟨⟩
theorem tw11280357031166471375:True:=⟨⟩
theorem tw4277740039236721715:True:=⟨⟩
theorem tw1674916153312227138:True:=⟨⟩
theorem tw5177318636201182102:True:=⟨⟩
theorem tw12076887017831592465:True:=⟨⟩
end Mine.head
set_option Elab.async true
theorem Mine.head : PySem.Challenge.rw_xw0126_01.Holds := by
  w_on; o_law; k_head; (case hw => w_witness2)
  intro w s₀ s₁ mg mb G Y fa o pm cd doc dV kV ho hdd hcd hD hmg hg args vals as hpre hlay hrd hwl hlo
  have KX := kIn_of Y
  obtain ⟨ns, rfl, hns⟩ := Mine.script_of hpre
  have e2 : mg "law" = some (.ref fa) := hmg
  have e := mg_of KX G.T.g (n := "law") (v := .ref 972) (by kernel_rfl)
  rw [e] at e2
  cases e2
  have h := Mine.law_call (w := w) hns ⟨Mine.sub_of (K' := Mine.KF w.params) (by kernel_rfl) KX, _, _, _, _, topRead_of G.T⟩ hg hwl
  rw [Mine.PG_eq] at h
  exact wpAny_mono h (fun v s' ⟨ev, K, ho, hg⟩ => by subst ev; exact Mine.good_of K ho hg) fun _ _ z => z.elim
theorem PySem.Challenge.cw_xw0126_01_holds : PySem.Challenge.rw_xw0126_01.Holds := by
  exact Mine.head

