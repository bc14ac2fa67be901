import PyProof.Rows.All
import Wide.All
import OpenK.AllK
import Wide.FinOn
import PySem.Challenge.RW_pq0154_01
open PySem PySem.W PyProof.Rows
set_option Elab.async false
set_option maxRecDepth 100000
set_option maxHeartbeats 0
set_option linter.all false
namespace Mine
namespace hd
noncomputable abbrev P0 : Program := PySem.Challenge.rw_pq0154_01.row.toRowW.1
noncomputable def st (i : Nat) : Stmt := ((behindTheImports P0)[i]?).getD (.Pass ⟨0, 0, 0, 0⟩)
noncomputable def meth (i j : Nat) : Stmt := match st i with
  | .ClassDef _ _ _ b _ _ _ _ _ _ _ => (b[j]?).getD (.Pass ⟨0, 0, 0, 0⟩)
  | x => x
noncomputable def s (x : String) (t : Nat) : Value := .str (Str.ofString x) t
noncomputable def tp (l : List Value) : Obj := { cls := .type "tuple", data := .seq ⟨l⟩ }
noncomputable def fl (l : List Value) : Obj := { cls := .none, data := .fields ⟨l⟩ }
noncomputable def en (P : Params) (x : String) (t : Nat) (v : Value) : DictEntry := ⟨PyData.keyHash P (Str.ofString x), s x t, v⟩
noncomputable def fd (x : Stmt) (q : String) (g : Nat) (cl : List (Str × Addr)) (df mod code ct : Value) : FuncData := match x with
  | .FunctionDef nm ps b _ _ _ sc _ _ _ => { name := nm, qualname := Str.ofString q, params := ps, body := .stmts b, scope := sc, globals := g, closure := cl, defaults := df, kwdefaults := .none, pyModule := mod, code := code, closureTuple := ct }
  | _ => default
noncomputable def nm : Nat → List String → List Value
  | _, [] => []
  | t, x :: r => s x t :: nm (t + 1) r
noncomputable def g7 (q : String) (x : Stmt) (a t ln na : Nat) (vars : List String) (mod : Value) : List Obj :=
  [tp [], fl [], tp (nm (t + 3) vars), tp [], { cls := .none, data := .func (fd x q 0 [] .none .none .none .none) },
   { cls := .type "code", data := .fields ⟨[s q t, s q (t + 1), s "/claim/cut.py" (t + 2), .int ln 0, .int na 0, .int 0 0, .int 0 0, .int 3 0, .ref a, .bool true, .int 181 0, .ref (a + 1), .none, .ref (a + 2), .ref (a + 3), .ref (a + 4), .int ((t + 3 + vars.length : Nat) : Int) 0, .int ln 0, s "/claim/cut.py" (t + 4 + vars.length)]⟩ },
   { cls := .type "function", data := .func (fd x q 3 [] .none mod (.ref (a + 5)) .none) }]
noncomputable def g5 (q : String) (x : Stmt) (a t ln na : Nat) (mod : Value) : List Obj :=
  [tp [], fl [], { cls := .none, data := .func (fd x q 0 [] .none .none .none .none) },
   { cls := .type "code", data := .fields ⟨[s q t, s q (t + 1), s "/claim/cut.py" (t + 2), .int ln 0, .int na 0, .int 0 0, .int 0 0, .int 3 0, .ref a, .bool true, .int 181 0, .ref (a + 1), .none, .none, .none, .ref (a + 2), .int ((t + 3 : Nat) : Int) 0, .int ln 0, s "/claim/cut.py" (t + 4)]⟩ },
   { cls := .type "function", data := .func (fd x q 3 [] .none mod (.ref (a + 3)) .none) }]
noncomputable def nsO (l : List DictEntry) : Obj := { cls := .type "dict", data := .dict ⟨l⟩ l.length }
noncomputable def ents (P : Params) : List DictEntry := List.flatten [
  [en P "__name__" 165 (s "law_pq0154_01" 1425), en P "__doc__" 166 (.none), en P "__package__" 167 (.none), en P "__loader__" 168 (.builtin "__main__.__loader__#opaque"), en P "__spec__" 169 (.none), en P "__annotations__" 170 (.ref 6), en P "__builtins__" 171 (.ref 4), en P "__file__" 173 (s "/claim/cut.py" 172), en P "__cached__" 174 (.none), en P "MOST_EXPONENT" 190 (.int 99 189), en P "BasicError" 224 (.ref 34), en P "figures_of" 233 (.ref 44)],
  [en P "MOST_SIGNS" 237 (.int 255 236), en P "MOST_FIGURES_tokens" 239 (.int 40 238), en P "SIGNS" 241 (s "+-*/\\^(),;:#&@" 240), en P "ORDERS" 243 (s "<=>" 242), en P "PAIRS" 262 (.ref 45), en P "WORDS" 264 (s "LET PRINT USING INPUT LINE IF THEN ELSE GOTO GOSUB ON RETURN FOR TO STEP NEXT WHILE WEND DEF FNEND READ DATA RESTORE DIM ERASE OPTION BASE SWAP ERROR RESUME STOP END REM RANDOMIZE DEFINT DEFSNG DEFSTR MAT ZER CON IDN INV TRN OPEN OUTPUT APPEND RANDOM AS CLOSE FIELD LSET RSET GET PUT WRITE CHAIN COMMON TRON TROFF AND OR XOR EQV IMP NOT MOD" 263), en P "FUNCTION_WORDS" 266 (s "ABS ASC CHR$ CINT CSNG CVI CVS EDIT$ EOF ERL ERR FIX FRE HEX$ INSTR INT LCASE$ LEFT$ LEN LOC LOF LPOS LTRIM$ MAX MID$ MIN MKI$ MKS$ OCT$ PI POS RIGHT$ RND RTRIM$ SEG$ SGN SPACE$ SPC SQR STR$ STRING$ SWAP% TAB UCASE$ VAL XLATE$" 265), en P "functions" 272 (.ref 52), en P "is_word" 279 (.ref 306), en P "is_word_tokens" 280 (.ref 59), en P "is_letter" 287 (.ref 66), en P "is_figure" 294 (.ref 73)],
  [en P "capital" 300 (.ref 78), en P "figures_end" 308 (.ref 85), en P "skipped" 316 (.ref 92), en P "power_end" 326 (.ref 99), en P "number_at" 338 (.ref 106), en P "name_end" 346 (.ref 113), en P "text_at" 355 (.ref 120), en P "order_at" 365 (.ref 127), en P "data_end" 374 (.ref 134), en P "remark_of" 381 (.ref 141), en P "word_at" 392 (.ref 148), en P "tokens_at" 403 (.ref 155)],
  [en P "tokens_of" 413 (.ref 162), en P "STRENGTH" 470 (.ref 163), en P "NOT_STRENGTH" 472 (.int 6 471), en P "MINUS_STRENGTH" 474 (.int 12 473), en P "MOST_OPEN" 476 (.int 60 475), en P "NO_ARGS" 483 (.ref 165), en P "NO_TOKEN" 486 (.ref 166), en P "MOST_FIGURES_exprread" 488 (.int 60 487), en P "MOST_POWER" 490 (.int 999 489), en P "token_at" 498 (.ref 173), en P "is_sign" 507 (.ref 180), en P "expect" 516 (.ref 187)],
  [en P "figures_at" 526 (.ref 194), en P "power_at" 538 (.ref 201), en P "told_exactly" 547 (.ref 208), en P "number_tree" 560 (.ref 215), en P "Level" 594 (.ref 232), en P "join_up" 604 (.ref 243), en P "finished" 612 (.ref 250), en P "opened" 621 (.ref 257), en P "plain_operand" 631 (.ref 264), en P "take_operand" 644 (.ref 271), en P "take_operator" 656 (.ref 278), en P "expression" 668 (.ref 285)],
  [en P "expressions" 678 (.ref 292), en P "target" 689 (.ref 299), en P "MOST_LINE" 693 (.int 65529 692), en P "is_word_stmtparts" 703 (.ref 306), en P "is_end" 713 (.ref 313), en P "need_word" 722 (.ref 320), en P "line_number" 734 (.ref 327), en P "line_numbers" 744 (.ref 334), en P "plain_name" 754 (.ref 341), en P "plain_names" 764 (.ref 348), en P "targets" 774 (.ref 355), en P "channel_at" 783 (.ref 362)],
  [en P "read_def" 797 (.ref 369), en P "read_dim" 807 (.ref 376), en P "read_erase" 816 (.ref 383), en P "read_option" 825 (.ref 390), en P "pieces_of" 836 (.ref 397), en P "read_data" 846 (.ref 404), en P "read_read" 855 (.ref 411), en P "letter_at" 864 (.ref 418), en P "read_kinds" 870 (.ref 423), en P "read_swap" 880 (.ref 430), en P "read_error" 889 (.ref 437), en P "read_randomize" 898 (.ref 444)],
  [en P "declarations" 904 (.ref 451), en P "MODES" 919 (.ref 452), en P "numbered_channel" 927 (.ref 459), en P "read_open" 942 (.ref 466), en P "read_close" 952 (.ref 473), en P "read_field" 964 (.ref 480), en P "read_set" 975 (.ref 487), en P "read_lset" 983 (.ref 494), en P "read_rset" 991 (.ref 501), en P "read_move" 1002 (.ref 508), en P "read_get" 1010 (.ref 515), en P "read_put" 1018 (.ref 522)],
  [en P "read_write" 1028 (.ref 529), en P "read_chain" 1038 (.ref 536), en P "read_common" 1048 (.ref 543), en P "file_statements" 1054 (.ref 550), en P "FILLS" 1060 (.ref 551), en P "SIGNS_OF_TWO" 1064 (.ref 552), en P "bounds_at" 1073 (.ref 559), en P "read_rows" 1085 (.ref 566), en P "read_shown" 1098 (.ref 573), en P "read_of_one" 1107 (.ref 580), en P "read_form" 1121 (.ref 587), en P "read_mat" 1133 (.ref 594)],
  [en P "MOST_NESTED" 1137 (.int 12 1136), en P "ONE_WORD" 1156 (.ref 595), en P "KIND_WORDS" 1166 (.ref 596), en P "read_let" 1178 (.ref 603), en P "read_middle" 1190 (.ref 610), en P "item_at" 1200 (.ref 617), en P "read_print" 1211 (.ref 624), en P "read_using" 1224 (.ref 631), en P "prompt_at" 1234 (.ref 638), en P "read_input" 1246 (.ref 645), en P "read_line" 1258 (.ref 652), en P "read_goto" 1267 (.ref 659)],
  [en P "read_gosub" 1276 (.ref 666), en P "read_on" 1288 (.ref 673), en P "line_or_none" 1296 (.ref 680), en P "read_return" 1305 (.ref 687), en P "read_restore" 1314 (.ref 694), en P "read_resume" 1323 (.ref 701), en P "read_for" 1335 (.ref 708), en P "read_next" 1344 (.ref 715), en P "read_while" 1353 (.ref 722), en P "statement_readers" 1360 (.ref 729), en P "read_one" 1373 (.ref 736), en P "read_part" 1386 (.ref 743)],
  [en P "read_if" 1400 (.ref 750), en P "read_some" 1414 (.ref 757), en P "read_row" 1424 (.ref 764), en P "_law_grab" 1434 (.ref 771), en P "_law_heard" 1442 (.ref 778), en P "_law_events" 1454 (.ref 785), en P "_law_deed" 1462 (.ref 792), en P "_law_row" 1472 (.ref 799), en P "_law_due" 1485 (.ref 806), en P "law" 1491 (.ref 811)]]
noncomputable def flds : List Value := List.flatten [
  [.int 3 0, .int 0 0, .ref 21, .int 9 0, .int 0 0, .ref 43, .int 23 0, .int 0 0, .ref 51, .int 25 0, .int 0 0, .ref 58, .int 28 0, .int 0 0, .ref 65, .int 30 0, .int 0 0, .ref 72, .int 32 0, .int 0 0, .ref 77, .int 34 0, .int 0 0, .ref 84, .int 38 0, .int 0 0, .ref 91, .int 42 0, .int 0 0, .ref 98],
  [.int 50 0, .int 0 0, .ref 105, .int 62 0, .int 0 0, .ref 112, .int 66 0, .int 0 0, .ref 119, .int 71 0, .int 0 0, .ref 126, .int 77 0, .int 0 0, .ref 133, .int 84 0, .int 0 0, .ref 140, .int 86 0, .int 0 0, .ref 147, .int 95 0, .int 0 0, .ref 154, .int 115 0, .int 0 0, .ref 161, .int 133 0, .int 0 0, .ref 172],
  [.int 135 0, .int 0 0, .ref 179, .int 137 0, .int 0 0, .ref 186, .int 141 0, .int 0 0, .ref 193, .int 149 0, .int 0 0, .ref 200, .int 157 0, .int 0 0, .ref 207, .int 166 0, .int 0 0, .ref 214, .int 175 0, .int 0 0, .ref 221, .int 183 0, .int 0 0, .ref 242, .int 191 0, .int 0 0, .ref 249, .int 197 0, .int 0 0, .ref 256],
  [.int 201 0, .int 0 0, .ref 263, .int 212 0, .int 0 0, .ref 270, .int 230 0, .int 0 0, .ref 277, .int 247 0, .int 0 0, .ref 284, .int 256 0, .int 0 0, .ref 291, .int 263 0, .int 0 0, .ref 298, .int 273 0, .int 0 0, .ref 305, .int 276 0, .int 0 0, .ref 312, .int 279 0, .int 0 0, .ref 319, .int 283 0, .int 0 0, .ref 326],
  [.int 295 0, .int 0 0, .ref 333, .int 302 0, .int 0 0, .ref 340, .int 307 0, .int 0 0, .ref 347, .int 314 0, .int 0 0, .ref 354, .int 321 0, .int 0 0, .ref 361, .int 327 0, .int 0 0, .ref 368, .int 339 0, .int 0 0, .ref 375, .int 349 0, .int 0 0, .ref 382, .int 352 0, .int 0 0, .ref 389, .int 357 0, .int 0 0, .ref 396],
  [.int 368 0, .int 0 0, .ref 403, .int 371 0, .int 0 0, .ref 410, .int 374 0, .int 0 0, .ref 417, .int 379 0, .int 0 0, .ref 422, .int 392 0, .int 0 0, .ref 429, .int 396 0, .int 0 0, .ref 436, .int 399 0, .int 0 0, .ref 443, .int 402 0, .int 0 0, .ref 450, .int 406 0, .int 0 0, .ref 458, .int 408 0, .int 0 0, .ref 465],
  [.int 425 0, .int 0 0, .ref 472, .int 434 0, .int 0 0, .ref 479, .int 444 0, .int 0 0, .ref 486, .int 448 0, .int 0 0, .ref 493, .int 450 0, .int 0 0, .ref 500, .int 452 0, .int 0 0, .ref 507, .int 458 0, .int 0 0, .ref 514, .int 460 0, .int 0 0, .ref 521, .int 462 0, .int 0 0, .ref 528, .int 469 0, .int 0 0, .ref 535],
  [.int 475 0, .int 0 0, .ref 542, .int 485 0, .int 0 0, .ref 549, .int 490 0, .int 0 0, .ref 558, .int 495 0, .int 0 0, .ref 565, .int 504 0, .int 0 0, .ref 572, .int 517 0, .int 0 0, .ref 579, .int 520 0, .int 0 0, .ref 586, .int 538 0, .int 0 0, .ref 593, .int 551 0, .int 0 0, .ref 602, .int 559 0, .int 0 0, .ref 609],
  [.int 568 0, .int 0 0, .ref 616, .int 579 0, .int 0 0, .ref 623, .int 588 0, .int 0 0, .ref 630, .int 602 0, .int 0 0, .ref 637, .int 609 0, .int 0 0, .ref 644, .int 614 0, .int 0 0, .ref 651, .int 619 0, .int 0 0, .ref 658, .int 622 0, .int 0 0, .ref 665, .int 625 0, .int 0 0, .ref 672, .int 633 0, .int 0 0, .ref 679],
  [.int 635 0, .int 0 0, .ref 686, .int 638 0, .int 0 0, .ref 693, .int 641 0, .int 0 0, .ref 700, .int 646 0, .int 0 0, .ref 707, .int 654 0, .int 0 0, .ref 714, .int 657 0, .int 0 0, .ref 721, .int 660 0, .int 0 0, .ref 728, .int 665 0, .int 0 0, .ref 735, .int 683 0, .int 0 0, .ref 742, .int 692 0, .int 0 0, .ref 749],
  [.int 702 0, .int 0 0, .ref 756, .int 714 0, .int 0 0, .ref 763, .int 719 0, .int 0 0, .ref 770, .int 724 0, .int 0 0, .ref 777, .int 729 0, .int 0 0, .ref 784, .int 743 0, .int 0 0, .ref 791, .int 746 0, .int 0 0, .ref 798, .int 757 0, .int 0 0, .ref 805, .int 771 0, .int 0 0, .ref 810]]
noncomputable def fo (x : Stmt) (q : String) (cl : List (Str × Addr)) (df mod code ct : Value) : Obj := { cls := .type "function", data := .func (fd x q 3 cl df mod code ct) }
noncomputable def objs (P : Params) : List Obj := List.flatten [
  [boot_o_0 P],
  [boot_o_1 P],
  [{ cls := .none, data := .dict ⟨[en P "type.__subclasses__.Exception.0" 221 (.int 34 0), en P "type.__subclasses__.Exception.n" 222 (.int 1 0)]⟩ 2 }],
  [nsO (ents P)],
  [boot_o_4 P],
  [boot_o_5 P],
  [boot_o_6 P],
  [boot_o_7 P],
  [boot_o_8 P],
  [boot_o_9 P],
  [boot_o_10 P],
  [tp []],
  [fl flds],
  [{ cls := .type "code", data := .fields ⟨[s "<module>" 182, s "<module>" 183, s "/claim/cut.py" 184, .int 1 0, .int 0 0, .int 0 0, .int 0 0, .int 0 0, .ref 11, .bool false, .int 181 0, .ref 12, .none, .none, .none, .none, .int 185 0, .int 1 0, s "/claim/cut.py" 186]⟩ }],
  [{ cls := .type "frame", slots := ⟨[some (.ref 13), some (.ref 3), some (.ref 3), none, some (s "__main__" 164), none, some (.ref 0)]⟩ }],
  [tp [.type "Exception"]],
  [{ cls := .type "builtin_function_or_method", data := .fields ⟨[.builtin "type.__prepare__", .type "type"]⟩ }],
  [{ cls := .type "dict", data := .dict ⟨[en P "__module__" 198 (s "basicplus.values" 187), en P "__qualname__" 200 (s "BasicError" 199), en P "__firstlineno__" 202 (.int 3 201), en P "__init__" 213 (.ref 31), en P "__static_attributes__" 216 (.ref 32), en P "__classcell__" 217 (.ref 18)]⟩ 6 }],
  [{ cls := .type "cell", data := .cell (some (.ref 34)) }],
  [tp []],
  [fl [.int 5 0, .int 4 0, .ref 30]],
  [{ cls := .type "code", data := .fields ⟨[s "BasicError" 193, s "BasicError" 194, s "/claim/cut.py" 195, .int 3 0, .int 0 0, .int 0 0, .int 0 0, .int 0 0, .ref 19, .bool false, .int 181 0, .ref 20, .none, .none, .none, .none, .int 196 0, .int 3 0, s "/claim/cut.py" 197]⟩ }],
  [{ cls := .type "frame", slots := ⟨[some (.ref 21), some (.ref 3), some (.ref 17), none, some (s "basicplus.values" 187), none, some (.ref 0)]⟩ }],
  [tp [s "" 203]],
  [tp [.ref 18]],
  [tp [s "__class__" 207]],
  [fl []],
  [tp [s "self" 208, s "code" 209, s "told" 210]],
  [tp []],
  [{ cls := .none, data := .func (fd (meth 2 0) "BasicError.__init__" 0 [] (.none) (.none) (.none) (.none)) }],
  [{ cls := .type "code", data := .fields ⟨[s "__init__" 204, s "BasicError.__init__" 205, s "/claim/cut.py" 206, .int 5 0, .int 3 0, .int 0 0, .int 0 0, .int 3 0, .ref 25, .bool true, .int 181 0, .ref 26, .none, .ref 27, .ref 28, .ref 29, .int 211 0, .int 5 0, s "/claim/cut.py" 212]⟩ }],
  [{ cls := .type "function", data := .func (fd (meth 2 0) "BasicError.__init__" 3 [(Str.ofString "__class__", 18)] (.ref 23) (s "basicplus.values" 187) (.ref 30) (.ref 24)) }],
  [tp [s "code" 214, s "told" 215]],
  [{ cls := .type "dict", data := .dict ⟨[en P "__module__" 198 (s "basicplus.values" 187), en P "__firstlineno__" 202 (.int 3 201), en P "__init__" 213 (.ref 31), en P "__static_attributes__" 216 (.ref 32), en P "__weakref__" 219 (.ref 35), en P "__doc__" 220 (.none)]⟩ 4 }],
  [{ cls := .type "type", data := .cls { name := Str.ofString "BasicError", bases := [.type "Exception"], mro := [.ref 34, .type "Exception", .type "BaseException", .type "object"], ns := 33, qualname := Str.ofString "BasicError" }, slots := ⟨[some (.ref 15), none, some (s "BasicError" 191), some (s "BasicError" 199), some (.builtin "Exception.__new__"), some (.bool true)]⟩ }],
  [{ cls := .type "getset_descriptor", data := .fields ⟨[s "__weakref__" 218, .ref 34, .builtin "ExceptionGroup.__weakref__", .none]⟩ }],
  [{ cls := .type "super", data := .fields ⟨[.ref 34, .ref 34, .ref 34]⟩ }],
  [{ cls := .type "builtin_function_or_method", data := .fields ⟨[.builtin "object.__init_subclass__", .ref 34]⟩ }],
  g7 "figures_of" (st 3) 38 225 9 1 ["number", "many", "bound"] (s "basicplus.values" 187),
  [{ cls := .type "dict", data := .dict ⟨[en P "<=" 244 (s "<=" 245), en P "=<" 246 (s "<=" 247), en P ">=" 248 (s ">=" 249), en P "=>" 250 (s ">=" 251), en P "<>" 252 (s "<>" 253), en P "><" 254 (s "<>" 255)]⟩ 6 }],
  g7 "functions" (st 12) 46 267 23 0 [] (s "basicplus.tokens" 234),
  g7 "is_word" (st 13) 53 273 25 1 ["told"] (s "basicplus.tokens" 234),
  g7 "is_letter" (st 15) 60 281 28 1 ["sign"] (s "basicplus.tokens" 234),
  g7 "is_figure" (st 16) 67 288 30 1 ["sign"] (s "basicplus.tokens" 234),
  g5 "capital" (st 17) 74 295 32 1 (s "basicplus.tokens" 234),
  g7 "figures_end" (st 18) 79 301 34 2 ["row", "at"] (s "basicplus.tokens" 234),
  g7 "skipped" (st 19) 86 309 38 2 ["row", "at"] (s "basicplus.tokens" 234),
  g7 "power_end" (st 20) 93 317 42 2 ["row", "at", "begin", "end"] (s "basicplus.tokens" 234),
  g7 "number_at" (st 21) 100 327 50 2 ["row", "at", "end", "is_plain", "behind", "last"] (s "basicplus.tokens" 234),
  g7 "name_end" (st 22) 107 339 62 2 ["row", "at"] (s "basicplus.tokens" 234),
  g7 "text_at" (st 23) 114 347 66 2 ["row", "at", "end"] (s "basicplus.tokens" 234),
  g7 "order_at" (st 24) 121 356 71 2 ["row", "at", "later", "both"] (s "basicplus.tokens" 234),
  g7 "data_end" (st 25) 128 366 77 2 ["row", "at", "is_quoted"] (s "basicplus.tokens" 234),
  g7 "remark_of" (st 26) 135 375 84 1 ["text"] (s "basicplus.tokens" 234),
  g7 "word_at" (st 27) 142 382 86 2 ["row", "at", "end", "told", "last"] (s "basicplus.tokens" 234),
  g7 "tokens_at" (st 28) 149 393 95 2 ["row", "at", "sign", "told", "end"] (s "basicplus.tokens" 234),
  g7 "tokens_of" (st 29) 156 404 115 1 ["row", "found", "at", "told"] (s "basicplus.tokens" 234),
  [{ cls := .type "dict", data := .dict ⟨[en P "IMP" 416 (.int 1 417), en P "EQV" 419 (.int 2 420), en P "XOR" 422 (.int 3 423), en P "OR" 425 (.int 4 426), en P "AND" 428 (.int 5 429), en P "=" 431 (.int 7 432), en P "<>" 434 (.int 7 435), en P "<" 437 (.int 7 438), en P ">" 440 (.int 7 441), en P "<=" 443 (.int 7 444), en P ">=" 446 (.int 7 447), en P "+" 449 (.int 8 450), en P "-" 452 (.int 8 453), en P "MOD" 455 (.int 9 456), en P "\\" 458 (.int 10 459), en P "*" 461 (.int 11 462), en P "/" 464 (.int 11 465), en P "^" 467 (.int 13 468)]⟩ 18 }],
  [{ cls := .type "dict", data := .dict ⟨[en P "^" 467 (.int 13 468)]⟩ 1 }],
  [tp [s "ERL" 477, s "ERR" 478, s "FRE" 479, s "PI" 480, s "POS" 481, s "RND" 482]],
  [tp [s "end" 484, s "" 485]],
  g7 "token_at" (st 39) 167 491 133 2 ["tokens", "at"] (s "basicplus.exprread" 414),
  g7 "is_sign" (st 40) 174 499 135 3 ["tokens", "at", "sign"] (s "basicplus.exprread" 414),
  g7 "expect" (st 41) 181 508 137 3 ["tokens", "at", "sign"] (s "basicplus.exprread" 414),
  g7 "figures_at" (st 42) 188 517 141 2 ["text", "at", "found", "begin"] (s "basicplus.exprread" 414),
  g7 "power_at" (st 43) 195 527 149 2 ["text", "at", "sign", "found", "many", "end"] (s "basicplus.exprread" 414),
  g7 "told_exactly" (st 44) 202 539 157 2 ["coefficient", "exponent", "first"] (s "basicplus.exprread" 414),
  g7 "number_tree" (st 45) 209 548 166 1 ["text", "front", "many", "at", "behind", "places", "power"] (s "basicplus.exprread" 414),
  [tp []],
  [{ cls := .type "builtin_function_or_method", data := .fields ⟨[.builtin "type.__prepare__", .type "type"]⟩ }],
  [{ cls := .type "dict", data := .dict ⟨[en P "__module__" 568 (s "basicplus.exprread" 414), en P "__qualname__" 570 (s "Level" 569), en P "__firstlineno__" 572 (.int 175 571), en P "__init__" 581 (.ref 229), en P "__static_attributes__" 587 (.ref 230)]⟩ 5 }],
  [tp []],
  [fl [.int 177 0, .int 4 0, .ref 228]],
  [{ cls := .type "code", data := .fields ⟨[s "Level" 563, s "Level" 564, s "/claim/cut.py" 565, .int 175 0, .int 0 0, .int 0 0, .int 0 0, .int 0 0, .ref 219, .bool false, .int 181 0, .ref 220, .none, .none, .none, .none, .int 566 0, .int 175 0, s "/claim/cut.py" 567]⟩ }],
  [{ cls := .type "frame", slots := ⟨[some (.ref 221), some (.ref 3), some (.ref 218), none, some (s "basicplus.exprread" 414), none, some (.ref 0)]⟩ }],
  [tp []],
  [fl []],
  [tp [s "self" 576, s "kind" 577, s "word" 578]],
  [tp []],
  [{ cls := .none, data := .func (fd (meth 46 0) "Level.__init__" 0 [] (.none) (.none) (.none) (.none)) }],
  [{ cls := .type "code", data := .fields ⟨[s "__init__" 573, s "Level.__init__" 574, s "/claim/cut.py" 575, .int 177 0, .int 3 0, .int 0 0, .int 0 0, .int 3 0, .ref 223, .bool true, .int 181 0, .ref 224, .none, .ref 225, .ref 226, .ref 227, .int 579 0, .int 177 0, s "/claim/cut.py" 580]⟩ }],
  [{ cls := .type "function", data := .func (fd (meth 46 0) "Level.__init__" 3 [] (.none) (s "basicplus.exprread" 414) (.ref 228) (.none)) }],
  [tp [s "args" 582, s "kind" 583, s "operands" 584, s "operators" 585, s "word" 586]],
  [{ cls := .type "dict", data := .dict ⟨[en P "__module__" 568 (s "basicplus.exprread" 414), en P "__firstlineno__" 572 (.int 175 571), en P "__init__" 581 (.ref 229), en P "__static_attributes__" 587 (.ref 230), en P "__dict__" 589 (.ref 233), en P "__weakref__" 591 (.ref 234), en P "__doc__" 592 (.none)]⟩ 4 }],
  [{ cls := .type "type", data := .cls { name := Str.ofString "Level", bases := [.type "object"], mro := [.ref 232, .type "object"], ns := 231, qualname := Str.ofString "Level" }, slots := ⟨[none, none, some (s "Level" 561), some (s "Level" 569), some (.builtin "object.__new__"), some (.bool true)]⟩ }],
  [{ cls := .type "getset_descriptor", data := .fields ⟨[s "__dict__" 588, .ref 232, .builtin "function.__dict__", .builtin "function.__dict__#set"]⟩ }],
  [{ cls := .type "getset_descriptor", data := .fields ⟨[s "__weakref__" 590, .ref 232, .builtin "ExceptionGroup.__weakref__", .none]⟩ }],
  [{ cls := .type "super", data := .fields ⟨[.ref 232, .ref 232, .ref 232]⟩ }],
  [{ cls := .type "builtin_function_or_method", data := .fields ⟨[.builtin "object.__init_subclass__", .ref 232]⟩ }],
  g7 "join_up" (st 47) 237 595 183 2 ["level", "strength", "op", "last"] (s "basicplus.exprread" 414),
  g7 "finished" (st 48) 244 605 191 1 ["level", "last"] (s "basicplus.exprread" 414),
  g7 "opened" (st 49) 251 613 197 3 ["levels", "kind", "word"] (s "basicplus.exprread" 414),
  g7 "plain_operand" (st 50) 258 622 201 2 ["tokens", "at", "kind", "told"] (s "basicplus.exprread" 414),
  g7 "take_operand" (st 51) 265 632 212 4 ["levels", "tokens", "at", "known", "kind", "told", "found"] (s "basicplus.exprread" 414),
  g7 "take_operator" (st 52) 272 645 230 3 ["levels", "tokens", "at", "kind", "told", "here"] (s "basicplus.exprread" 414),
  g7 "expression" (st 53) 279 657 247 2 ["tokens", "at", "levels", "due", "known", "is_whole"] (s "basicplus.exprread" 414),
  g7 "expressions" (st 54) 286 669 256 2 ["tokens", "at", "found", "some"] (s "basicplus.exprread" 414),
  g7 "target" (st 55) 293 679 263 2 ["tokens", "at", "kind", "word", "subs"] (s "basicplus.exprread" 414),
  g7 "is_word" (st 58) 300 694 273 3 ["tokens", "at", "word"] (s "basicplus.stmtparts" 690),
  g7 "is_end" (st 60) 307 704 276 2 ["tokens", "at", "kind", "told"] (s "basicplus.stmtparts" 690),
  g7 "need_word" (st 61) 314 714 279 3 ["tokens", "at", "word"] (s "basicplus.stmtparts" 690),
  g7 "line_number" (st 62) 321 723 283 2 ["tokens", "at", "kind", "told", "found", "sign"] (s "basicplus.stmtparts" 690),
  g7 "line_numbers" (st 63) 328 735 295 2 ["tokens", "at", "found", "some"] (s "basicplus.stmtparts" 690),
  g7 "plain_name" (st 64) 335 745 302 2 ["tokens", "at", "kind", "told"] (s "basicplus.stmtparts" 690),
  g7 "plain_names" (st 65) 342 755 307 2 ["tokens", "at", "found", "some"] (s "basicplus.stmtparts" 690),
  g7 "targets" (st 66) 349 765 314 2 ["tokens", "at", "found", "some"] (s "basicplus.stmtparts" 690),
  g7 "channel_at" (st 67) 356 775 321 2 ["tokens", "at", "found"] (s "basicplus.stmtparts" 690),
  g7 "read_def" (st 69) 363 786 327 2 ["tokens", "at", "kind", "name", "params", "value"] (s "basicplus.declread" 784),
  g7 "read_dim" (st 70) 370 798 339 2 ["tokens", "at", "some", "found"] (s "basicplus.declread" 784),
  g7 "read_erase" (st 71) 377 808 349 2 ["tokens", "at", "names"] (s "basicplus.declread" 784),
  g7 "read_option" (st 72) 384 817 352 2 ["tokens", "at", "base"] (s "basicplus.declread" 784),
  g7 "pieces_of" (st 73) 391 826 357 1 ["text", "found", "here", "is_quoted", "sign"] (s "basicplus.declread" 784),
  g7 "read_data" (st 74) 398 837 368 2 ["tokens", "at", "kind", "told"] (s "basicplus.declread" 784),
  g7 "read_read" (st 75) 405 847 371 2 ["tokens", "at", "some"] (s "basicplus.declread" 784),
  g7 "letter_at" (st 76) 412 856 374 2 ["tokens", "at", "name"] (s "basicplus.declread" 784),
  g5 "read_kinds" (st 77) 419 865 379 3 (s "basicplus.declread" 784),
  g7 "read_swap" (st 78) 424 871 392 2 ["tokens", "at", "one", "other"] (s "basicplus.declread" 784),
  g7 "read_error" (st 79) 431 881 396 2 ["tokens", "at", "value"] (s "basicplus.declread" 784),
  g7 "read_randomize" (st 80) 438 890 399 2 ["tokens", "at", "value"] (s "basicplus.declread" 784),
  g7 "declarations" (st 81) 445 899 402 0 [] (s "basicplus.declread" 784),
  [{ cls := .type "dict", data := .dict ⟨[en P "INPUT" 907 (s "I" 908), en P "OUTPUT" 909 (s "O" 910), en P "APPEND" 911 (s "A" 912), en P "RANDOM" 913 (s "R" 914)]⟩ 4 }],
  g7 "numbered_channel" (st 84) 453 920 406 2 ["tokens", "at"] (s "basicplus.fileread" 905),
  g7 "read_open" (st 85) 460 928 408 2 ["tokens", "at", "name", "mode", "kind", "told", "behind", "channel", "size"] (s "basicplus.fileread" 905),
  g7 "read_close" (st 86) 467 943 425 2 ["tokens", "at", "found", "some"] (s "basicplus.fileread" 905),
  g7 "read_field" (st 87) 474 953 434 2 ["tokens", "at", "channel", "some", "size", "name"] (s "basicplus.fileread" 905),
  g7 "read_set" (st 88) 481 965 444 3 ["tokens", "at", "word", "name", "value"] (s "basicplus.fileread" 905),
  g7 "read_lset" (st 89) 488 976 448 2 ["tokens", "at"] (s "basicplus.fileread" 905),
  g7 "read_rset" (st 90) 495 984 450 2 ["tokens", "at"] (s "basicplus.fileread" 905),
  g7 "read_move" (st 91) 502 992 452 3 ["tokens", "at", "word", "channel", "record"] (s "basicplus.fileread" 905),
  g7 "read_get" (st 92) 509 1003 458 2 ["tokens", "at"] (s "basicplus.fileread" 905),
  g7 "read_put" (st 93) 516 1011 460 2 ["tokens", "at"] (s "basicplus.fileread" 905),
  g7 "read_write" (st 94) 523 1019 462 2 ["tokens", "at", "channel", "values"] (s "basicplus.fileread" 905),
  g7 "read_chain" (st 95) 530 1029 469 2 ["tokens", "at", "name", "line"] (s "basicplus.fileread" 905),
  g7 "read_common" (st 96) 537 1039 475 2 ["tokens", "at", "some", "name"] (s "basicplus.fileread" 905),
  g7 "file_statements" (st 97) 544 1049 485 0 [] (s "basicplus.fileread" 905),
  [tp [s "ZER" 1057, s "CON" 1058, s "IDN" 1059]],
  [tp [s "+" 1061, s "-" 1062, s "*" 1063]],
  g7 "bounds_at" (st 101) 553 1065 490 2 ["tokens", "at", "found"] (s "basicplus.matread" 1055),
  g7 "read_rows" (st 102) 560 1074 495 3 ["tokens", "at", "word", "some", "name", "bounds"] (s "basicplus.matread" 1055),
  g7 "read_shown" (st 103) 567 1086 504 2 ["tokens", "at", "some", "name", "kind", "told", "sign"] (s "basicplus.matread" 1055),
  g7 "read_of_one" (st 104) 574 1099 517 2 ["tokens", "at", "name"] (s "basicplus.matread" 1055),
  g7 "read_form" (st 105) 581 1108 520 2 ["tokens", "at", "kind", "told", "bounds", "name", "value", "other"] (s "basicplus.matread" 1055),
  g7 "read_mat" (st 106) 588 1122 538 2 ["tokens", "at", "kind", "told", "name", "form"] (s "basicplus.matread" 1055),
  [{ cls := .type "dict", data := .dict ⟨[en P "WEND" 1138 (s "WEND" 1139), en P "FNEND" 1140 (s "FNEND" 1141), en P "STOP" 1142 (s "STOP" 1143), en P "END" 1144 (s "END" 1145), en P "TRON" 1146 (s "TRON" 1147), en P "TROFF" 1148 (s "TROFF" 1149)]⟩ 6 }],
  [{ cls := .type "dict", data := .dict ⟨[en P "DEFINT" 1157 (s "whole" 1158), en P "DEFSNG" 1159 (s "decimal" 1160), en P "DEFSTR" 1161 (s "text" 1162)]⟩ 3 }],
  g7 "read_let" (st 111) 597 1167 551 2 ["tokens", "at", "kind", "told", "goal", "value"] (s "basicplus.stmtread" 1134),
  g7 "read_middle" (st 112) 604 1179 559 2 ["tokens", "at", "goal", "begin", "many", "value"] (s "basicplus.stmtread" 1134),
  g7 "item_at" (st 113) 611 1191 568 2 ["tokens", "at", "word", "value"] (s "basicplus.stmtread" 1134),
  g7 "read_print" (st 114) 618 1201 579 2 ["tokens", "at", "channel", "items", "found"] (s "basicplus.stmtread" 1134),
  g7 "read_using" (st 115) 625 1212 588 3 ["tokens", "at", "channel", "picture", "values", "is_open", "found"] (s "basicplus.stmtread" 1134),
  g7 "prompt_at" (st 116) 632 1225 602 2 ["tokens", "at", "kind", "told"] (s "basicplus.stmtread" 1134),
  g7 "read_input" (st 117) 639 1235 609 2 ["tokens", "at", "channel", "prompt", "is_marked", "some"] (s "basicplus.stmtread" 1134),
  g7 "read_line" (st 118) 646 1247 614 2 ["tokens", "at", "channel", "prompt", "is_marked", "goal"] (s "basicplus.stmtread" 1134),
  g7 "read_goto" (st 119) 653 1259 619 2 ["tokens", "at", "goal"] (s "basicplus.stmtread" 1134),
  g7 "read_gosub" (st 120) 660 1268 622 2 ["tokens", "at", "goal"] (s "basicplus.stmtread" 1134),
  g7 "read_on" (st 121) 667 1277 625 2 ["tokens", "at", "goal", "value", "word", "goals"] (s "basicplus.stmtread" 1134),
  g7 "line_or_none" (st 122) 674 1289 633 2 ["tokens", "at"] (s "basicplus.stmtread" 1134),
  g7 "read_return" (st 123) 681 1297 635 2 ["tokens", "at", "goal"] (s "basicplus.stmtread" 1134),
  g7 "read_restore" (st 124) 688 1306 638 2 ["tokens", "at", "goal"] (s "basicplus.stmtread" 1134),
  g7 "read_resume" (st 125) 695 1315 641 2 ["tokens", "at", "goal"] (s "basicplus.stmtread" 1134),
  g7 "read_for" (st 126) 702 1324 646 2 ["tokens", "at", "name", "begin", "end", "pace"] (s "basicplus.stmtread" 1134),
  g7 "read_next" (st 127) 709 1336 654 2 ["tokens", "at", "names"] (s "basicplus.stmtread" 1134),
  g7 "read_while" (st 128) 716 1345 657 2 ["tokens", "at", "value"] (s "basicplus.stmtread" 1134),
  g7 "statement_readers" (st 129) 723 1354 660 0 ["found"] (s "basicplus.stmtread" 1134),
  g7 "read_one" (st 130) 730 1361 665 4 ["tokens", "at", "readers", "nested", "kind", "told", "work"] (s "basicplus.stmtread" 1134),
  g7 "read_part" (st 131) 737 1374 683 4 ["tokens", "at", "readers", "nested", "ahead", "goal", "found"] (s "basicplus.stmtread" 1134),
  g7 "read_if" (st 132) 744 1387 692 4 ["tokens", "at", "readers", "nested", "value", "begin", "ahead", "behind"] (s "basicplus.stmtread" 1134),
  g7 "read_some" (st 133) 751 1401 702 4 ["tokens", "at", "readers", "nested", "found", "kind", "told", "tree"] (s "basicplus.stmtread" 1134),
  g7 "read_row" (st 134) 758 1415 714 1 ["text", "tokens", "found", "at"] (s "basicplus.stmtread" 1134),
  g7 "_law_grab" (st 136) 765 1427 719 2 ["shelf", "many"] (s "law_pq0154_01" 1425),
  g7 "_law_heard" (st 137) 772 1435 724 1 ["row", "e"] (s "law_pq0154_01" 1425),
  g7 "_law_events" (st 138) 779 1443 729 1 ["shelf", "events", "is_open", "lacking", "turn", "form"] (s "law_pq0154_01" 1425),
  g7 "_law_deed" (st 139) 786 1455 743 1 ["shelf", "n"] (s "law_pq0154_01" 1425),
  g7 "_law_row" (st 140) 793 1463 746 1 ["events", "row", "is_first", "event"] (s "law_pq0154_01" 1425),
  g7 "_law_due" (st 141) 800 1473 757 1 ["events", "pile", "told", "at", "event", "name", "first"] (s "law_pq0154_01" 1425),
  g5 "law" (st 142) 807 1486 771 1 (s "law_pq0154_01" 1425)]
noncomputable def build : List Obj → Nat → BT → BT
  | [], _, t => t
  | o :: r, n, t => build r (n + 1) (t.ins n o)
noncomputable def tree (P : Params) : BT := build (objs P) 0 .nil
noncomputable def H1 (P : Params) : Heap := ⟨⟨objs P⟩, {}⟩

noncomputable def env : Env := { scope := P0.main.scope, locals := mainNs, globals := mainNs, cells := [], code := .ref 13, frame := some 14 }
noncomputable abbrev cE : Code := .body (behindTheImports P0) env
noncomputable abbrev q0 : Pos := ⟨0, 0, 0, 0⟩
noncomputable abbrev B0 : List Frame := [topFrame q0]
noncomputable def o46 (P : Params) : List Obj := [boot_o_0 P, boot_o_1 P, boot_o_2 P, boot_o_3 P, boot_o_4 P, boot_o_5 P, boot_o_6 P, boot_o_7 P, boot_o_8 P, boot_o_9 P, boot_o_10 P] ++ [tp [], fl []] ++ ((objs P).drop 13).take 2
noncomputable def h46 (P : Params) : Heap := ⟨⟨o46 P⟩, {}⟩
noncomputable def t46 (P : Params) : BT := build (o46 P) 0 .nil
noncomputable abbrev row0 : String := "special-get-raises"
noncomputable def patch : List DictEntry → List (Nat × DictEntry) → List DictEntry
  | l, [] => l
  | l, (i, e) :: r => patch (l.set i e) r
noncomputable def cutO (P : Params) (n m f : Nat) (ps : List (Nat × DictEntry)) (old : Bool) : List Obj :=
  let l := ((((objs P).take n).set 3 (nsO (patch ((ents P).take m) ps))).set 12 (fl (flds.take f)))
  if old then l.set 2 (boot_o_2 P) else l
noncomputable def tr9 (P : Params) : BT := build (cutO P 45 16 6 [(0, en P "__name__" 165 (s "basicplus.tokens" 234))] false) 0 .nil
noncomputable def tr10 (P : Params) : BT := build (cutO P 46 17 6 [(0, en P "__name__" 165 (s "basicplus.tokens" 234))] false) 0 .nil
noncomputable def tr25 (P : Params) : BT := build (cutO P 128 32 42 [(0, en P "__name__" 165 (s "basicplus.tokens" 234)), (20, en P "is_word" 279 (.ref 59))] false) 0 .nil
noncomputable def tr31 (P : Params) : BT := build (cutO P 163 37 57 [(0, en P "__name__" 165 (s "basicplus.exprread" 414)), (20, en P "is_word" 279 (.ref 59))] false) 0 .nil
noncomputable def tr32 (P : Params) : BT := build (cutO P 165 38 57 [(0, en P "__name__" 165 (s "basicplus.exprread" 414)), (20, en P "is_word" 279 (.ref 59))] false) 0 .nil
noncomputable def tr46 (P : Params) : BT := build (cutO P 216 52 78 [(0, en P "__name__" 165 (s "basicplus.exprread" 414)), (20, en P "is_word" 279 (.ref 59))] false) 0 .nil
noncomputable def tr52 (P : Params) : BT := build (cutO P 272 58 96 [(0, en P "__name__" 165 (s "basicplus.exprread" 414)), (20, en P "is_word" 279 (.ref 59))] false) 0 .nil
noncomputable def tr66 (P : Params) : BT := build (cutO P 349 70 129 [(0, en P "__name__" 165 (s "basicplus.stmtparts" 690)), (20, en P "is_word" 279 (.ref 306))] false) 0 .nil
noncomputable def tr79 (P : Params) : BT := build (cutO P 431 82 165 [(0, en P "__name__" 165 (s "basicplus.declread" 784)), (20, en P "is_word" 279 (.ref 306))] false) 0 .nil
noncomputable def tr83 (P : Params) : BT := build (cutO P 452 85 174 [(0, en P "__name__" 165 (s "basicplus.fileread" 905)), (20, en P "is_word" 279 (.ref 306))] false) 0 .nil
noncomputable def tr84 (P : Params) : BT := build (cutO P 453 86 174 [(0, en P "__name__" 165 (s "basicplus.fileread" 905)), (20, en P "is_word" 279 (.ref 306))] false) 0 .nil
noncomputable def tr96 (P : Params) : BT := build (cutO P 537 98 210 [(0, en P "__name__" 165 (s "basicplus.fileread" 905)), (20, en P "is_word" 279 (.ref 306))] false) 0 .nil
noncomputable def tr109 (P : Params) : BT := build (cutO P 595 109 234 [(0, en P "__name__" 165 (s "basicplus.stmtread" 1134)), (20, en P "is_word" 279 (.ref 306))] false) 0 .nil
noncomputable def tr110 (P : Params) : BT := build (cutO P 596 110 234 [(0, en P "__name__" 165 (s "basicplus.stmtread" 1134)), (20, en P "is_word" 279 (.ref 306))] false) 0 .nil
noncomputable def tr111 (P : Params) : BT := build (cutO P 597 111 234 [(0, en P "__name__" 165 (s "basicplus.stmtread" 1134)), (20, en P "is_word" 279 (.ref 306))] false) 0 .nil
noncomputable def tr123 (P : Params) : BT := build (cutO P 681 123 270 [(0, en P "__name__" 165 (s "basicplus.stmtread" 1134)), (20, en P "is_word" 279 (.ref 306))] false) 0 .nil
noncomputable def tr135 (P : Params) : BT := build (cutO P 765 135 306 [(0, en P "__name__" 165 (s "basicplus.stmtread" 1134)), (20, en P "is_word" 279 (.ref 306))] false) 0 .nil
theorem sg0 : ∀ w : World, (fun os => PySem.W.Fast.tw10110043849684766642 PySem.W.Fast.tw14364793385576792824 P0 w 11 (some (.ref 6)) 1 352 (⟨t46 w.params, 15, {}, #[], {}, 187, os⟩ : SharedT) (piecesOf (((behindTheImports P0).drop 0).take 9) env cE q0 B0)) = fun os => some (Flow.next, (⟨tr9 w.params, 45, {}, #[], {}, 244, os⟩ : SharedT), cE, ⟨19, 0, 19, 6⟩) := by
  intro w; kernel_rfl
theorem sg1f : ∀ w : World, (fun os => PySem.W.Fast.tw10110043849684766642 PySem.W.Fast.tw14364793385576792824 P0 (w.withFollow row0 false) 11 (some (.ref 6)) 1 110 (⟨tr9 (w.withFollow row0 false).params, 45, {}, #[], {}, 244, os⟩ : SharedT) (piecesOf (((behindTheImports P0).drop 9).take 1) env cE ⟨19, 0, 19, 6⟩ B0)) = fun os => some (Flow.next, (⟨tr10 (w.withFollow row0 false).params, 46, {}, #[], {}, 263, os⟩ : SharedT), cE, ⟨20, 0, 20, 5⟩) := by
  intro w; kernel_rfl
theorem sg1t : ∀ w : World, (fun os => PySem.W.Fast.tw10110043849684766642 PySem.W.Fast.tw14364793385576792824 P0 (w.withFollow row0 true) 11 (some (.ref 6)) 1 110 (⟨tr9 (w.withFollow row0 true).params, 45, {}, #[], {}, 244, os⟩ : SharedT) (piecesOf (((behindTheImports P0).drop 9).take 1) env cE ⟨19, 0, 19, 6⟩ B0)) = fun os => some (Flow.next, (⟨tr10 (w.withFollow row0 true).params, 46, {}, #[], {}, 263, os⟩ : SharedT), cE, ⟨20, 0, 20, 5⟩) := by
  intro w; kernel_rfl
theorem sg2 : ∀ w : World, (fun os => PySem.W.Fast.tw10110043849684766642 PySem.W.Fast.tw14364793385576792824 P0 w 11 (some (.ref 6)) 1 398 (⟨tr10 w.params, 46, {}, #[], {}, 263, os⟩ : SharedT) (piecesOf (((behindTheImports P0).drop 10).take 15) env cE ⟨20, 0, 20, 5⟩ B0)) = fun os => some (Flow.next, (⟨tr25 w.params, 128, {}, #[], {}, 366, os⟩ : SharedT), cE, ⟨71, 0, 76, 38⟩) := by
  intro w; kernel_rfl
theorem sg3 : ∀ w : World, (fun os => PySem.W.Fast.tw10110043849684766642 PySem.W.Fast.tw14364793385576792824 P0 w 11 (some (.ref 6)) 1 177 (⟨tr25 w.params, 128, {}, #[], {}, 366, os⟩ : SharedT) (piecesOf (((behindTheImports P0).drop 25).take 6) env cE ⟨71, 0, 76, 38⟩ B0)) = fun os => some (Flow.next, (⟨tr31 w.params, 163, {}, #[], {}, 416, os⟩ : SharedT), cE, ⟨124, 0, 124, 8⟩) := by
  intro w; kernel_rfl
theorem sg4f : ∀ w : World, (fun os => PySem.W.Fast.tw10110043849684766642 PySem.W.Fast.tw14364793385576792824 P0 (w.withFollow row0 false) 11 (some (.ref 6)) 1 303 (⟨tr31 (w.withFollow row0 false).params, 163, {}, #[], {}, 416, os⟩ : SharedT) (piecesOf (((behindTheImports P0).drop 31).take 1) env cE ⟨124, 0, 124, 8⟩ B0)) = fun os => some (Flow.next, (⟨tr32 (w.withFollow row0 false).params, 165, {}, #[], {}, 471, os⟩ : SharedT), cE, ⟨125, 0, 125, 8⟩) := by
  intro w; kernel_rfl
theorem sg4t : ∀ w : World, (fun os => PySem.W.Fast.tw10110043849684766642 PySem.W.Fast.tw14364793385576792824 P0 (w.withFollow row0 true) 11 (some (.ref 6)) 1 303 (⟨tr31 (w.withFollow row0 true).params, 163, {}, #[], {}, 416, os⟩ : SharedT) (piecesOf (((behindTheImports P0).drop 31).take 1) env cE ⟨124, 0, 124, 8⟩ B0)) = fun os => some (Flow.next, (⟨tr32 (w.withFollow row0 true).params, 165, {}, #[], {}, 471, os⟩ : SharedT), cE, ⟨125, 0, 125, 8⟩) := by
  intro w; kernel_rfl
theorem sg5 : ∀ w : World, (fun os => PySem.W.Fast.tw10110043849684766642 PySem.W.Fast.tw14364793385576792824 P0 w 11 (some (.ref 6)) 1 307 (⟨tr32 w.params, 165, {}, #[], {}, 471, os⟩ : SharedT) (piecesOf (((behindTheImports P0).drop 32).take 14) env cE ⟨125, 0, 125, 8⟩ B0)) = fun os => some (Flow.next, (⟨tr46 w.params, 216, {}, #[], {}, 561, os⟩ : SharedT), cE, ⟨166, 0, 174, 83⟩) := by
  intro w; kernel_rfl
theorem sg6 : ∀ w : World, (fun os => PySem.W.Fast.tw10110043849684766642 PySem.W.Fast.tw14364793385576792824 P0 w 11 (some (.ref 6)) 1 397 (⟨tr46 w.params, 216, {}, #[], {}, 561, os⟩ : SharedT) (piecesOf (((behindTheImports P0).drop 46).take 6) env cE ⟨166, 0, 174, 83⟩ B0)) = fun os => some (Flow.next, (⟨tr52 w.params, 272, {}, #[], {}, 645, os⟩ : SharedT), cE, ⟨212, 0, 229, 26⟩) := by
  intro w; kernel_rfl
theorem sg7 : ∀ w : World, (fun os => PySem.W.Fast.tw10110043849684766642 PySem.W.Fast.tw14364793385576792824 P0 w 11 (some (.ref 6)) 1 395 (⟨tr52 w.params, 272, {}, #[], {}, 645, os⟩ : SharedT) (piecesOf (((behindTheImports P0).drop 52).take 14) env cE ⟨212, 0, 229, 26⟩ B0)) = fun os => some (Flow.next, (⟨tr66 w.params, 349, {}, #[], {}, 765, os⟩ : SharedT), cE, ⟨307, 0, 313, 21⟩) := by
  intro w; kernel_rfl
theorem sg8 : ∀ w : World, (fun os => PySem.W.Fast.tw10110043849684766642 PySem.W.Fast.tw14364793385576792824 P0 w 11 (some (.ref 6)) 1 395 (⟨tr66 w.params, 349, {}, #[], {}, 765, os⟩ : SharedT) (piecesOf (((behindTheImports P0).drop 66).take 13) env cE ⟨307, 0, 313, 21⟩ B0)) = fun os => some (Flow.next, (⟨tr79 w.params, 431, {}, #[], {}, 881, os⟩ : SharedT), cE, ⟨392, 0, 395, 37⟩) := by
  intro w; kernel_rfl
theorem sg9 : ∀ w : World, (fun os => PySem.W.Fast.tw10110043849684766642 PySem.W.Fast.tw14364793385576792824 P0 w 11 (some (.ref 6)) 1 109 (⟨tr79 w.params, 431, {}, #[], {}, 881, os⟩ : SharedT) (piecesOf (((behindTheImports P0).drop 79).take 4) env cE ⟨392, 0, 395, 37⟩ B0)) = fun os => some (Flow.next, (⟨tr83 w.params, 452, {}, #[], {}, 907, os⟩ : SharedT), cE, ⟨404, 0, 404, 8⟩) := by
  intro w; kernel_rfl
theorem sg10f : ∀ w : World, (fun os => PySem.W.Fast.tw10110043849684766642 PySem.W.Fast.tw14364793385576792824 P0 (w.withFollow row0 false) 11 (some (.ref 6)) 1 80 (⟨tr83 (w.withFollow row0 false).params, 452, {}, #[], {}, 907, os⟩ : SharedT) (piecesOf (((behindTheImports P0).drop 83).take 1) env cE ⟨404, 0, 404, 8⟩ B0)) = fun os => some (Flow.next, (⟨tr84 (w.withFollow row0 false).params, 453, {}, #[], {}, 920, os⟩ : SharedT), cE, ⟨405, 0, 405, 5⟩) := by
  intro w; kernel_rfl
theorem sg10t : ∀ w : World, (fun os => PySem.W.Fast.tw10110043849684766642 PySem.W.Fast.tw14364793385576792824 P0 (w.withFollow row0 true) 11 (some (.ref 6)) 1 80 (⟨tr83 (w.withFollow row0 true).params, 452, {}, #[], {}, 907, os⟩ : SharedT) (piecesOf (((behindTheImports P0).drop 83).take 1) env cE ⟨404, 0, 404, 8⟩ B0)) = fun os => some (Flow.next, (⟨tr84 (w.withFollow row0 true).params, 453, {}, #[], {}, 920, os⟩ : SharedT), cE, ⟨405, 0, 405, 5⟩) := by
  intro w; kernel_rfl
theorem sg11 : ∀ w : World, (fun os => PySem.W.Fast.tw10110043849684766642 PySem.W.Fast.tw14364793385576792824 P0 w 11 (some (.ref 6)) 1 393 (⟨tr84 w.params, 453, {}, #[], {}, 920, os⟩ : SharedT) (piecesOf (((behindTheImports P0).drop 84).take 12) env cE ⟨405, 0, 405, 5⟩ B0)) = fun os => some (Flow.next, (⟨tr96 w.params, 537, {}, #[], {}, 1039, os⟩ : SharedT), cE, ⟨469, 0, 474, 38⟩) := by
  intro w; kernel_rfl
theorem sg12 : ∀ w : World, (fun os => PySem.W.Fast.tw10110043849684766642 PySem.W.Fast.tw14364793385576792824 P0 w 11 (some (.ref 6)) 1 324 (⟨tr96 w.params, 537, {}, #[], {}, 1039, os⟩ : SharedT) (piecesOf (((behindTheImports P0).drop 96).take 13) env cE ⟨469, 0, 474, 38⟩ B0)) = fun os => some (Flow.next, (⟨tr109 w.params, 595, {}, #[], {}, 1138, os⟩ : SharedT), cE, ⟨548, 0, 548, 11⟩) := by
  intro w; kernel_rfl
theorem sg13f : ∀ w : World, (fun os => PySem.W.Fast.tw10110043849684766642 PySem.W.Fast.tw14364793385576792824 P0 (w.withFollow row0 false) 11 (some (.ref 6)) 1 110 (⟨tr109 (w.withFollow row0 false).params, 595, {}, #[], {}, 1138, os⟩ : SharedT) (piecesOf (((behindTheImports P0).drop 109).take 1) env cE ⟨548, 0, 548, 11⟩ B0)) = fun os => some (Flow.next, (⟨tr110 (w.withFollow row0 false).params, 596, {}, #[], {}, 1157, os⟩ : SharedT), cE, ⟨549, 0, 549, 8⟩) := by
  intro w; kernel_rfl
theorem sg13t : ∀ w : World, (fun os => PySem.W.Fast.tw10110043849684766642 PySem.W.Fast.tw14364793385576792824 P0 (w.withFollow row0 true) 11 (some (.ref 6)) 1 110 (⟨tr109 (w.withFollow row0 true).params, 595, {}, #[], {}, 1138, os⟩ : SharedT) (piecesOf (((behindTheImports P0).drop 109).take 1) env cE ⟨548, 0, 548, 11⟩ B0)) = fun os => some (Flow.next, (⟨tr110 (w.withFollow row0 true).params, 596, {}, #[], {}, 1157, os⟩ : SharedT), cE, ⟨549, 0, 549, 8⟩) := by
  intro w; kernel_rfl
theorem sg14f : ∀ w : World, (fun os => PySem.W.Fast.tw10110043849684766642 PySem.W.Fast.tw14364793385576792824 P0 (w.withFollow row0 false) 11 (some (.ref 6)) 1 65 (⟨tr110 (w.withFollow row0 false).params, 596, {}, #[], {}, 1157, os⟩ : SharedT) (piecesOf (((behindTheImports P0).drop 110).take 1) env cE ⟨549, 0, 549, 8⟩ B0)) = fun os => some (Flow.next, (⟨tr111 (w.withFollow row0 false).params, 597, {}, #[], {}, 1167, os⟩ : SharedT), cE, ⟨550, 0, 550, 10⟩) := by
  intro w; kernel_rfl
theorem sg14t : ∀ w : World, (fun os => PySem.W.Fast.tw10110043849684766642 PySem.W.Fast.tw14364793385576792824 P0 (w.withFollow row0 true) 11 (some (.ref 6)) 1 65 (⟨tr110 (w.withFollow row0 true).params, 596, {}, #[], {}, 1157, os⟩ : SharedT) (piecesOf (((behindTheImports P0).drop 110).take 1) env cE ⟨549, 0, 549, 8⟩ B0)) = fun os => some (Flow.next, (⟨tr111 (w.withFollow row0 true).params, 597, {}, #[], {}, 1167, os⟩ : SharedT), cE, ⟨550, 0, 550, 10⟩) := by
  intro w; kernel_rfl
theorem sg15 : ∀ w : World, (fun os => PySem.W.Fast.tw10110043849684766642 PySem.W.Fast.tw14364793385576792824 P0 w 11 (some (.ref 6)) 1 404 (⟨tr111 w.params, 597, {}, #[], {}, 1167, os⟩ : SharedT) (piecesOf (((behindTheImports P0).drop 111).take 12) env cE ⟨550, 0, 550, 10⟩ B0)) = fun os => some (Flow.next, (⟨tr123 w.params, 681, {}, #[], {}, 1297, os⟩ : SharedT), cE, ⟨633, 0, 634, 72⟩) := by
  intro w; kernel_rfl
theorem sg16 : ∀ w : World, (fun os => PySem.W.Fast.tw10110043849684766642 PySem.W.Fast.tw14364793385576792824 P0 w 11 (some (.ref 6)) 1 402 (⟨tr123 w.params, 681, {}, #[], {}, 1297, os⟩ : SharedT) (piecesOf (((behindTheImports P0).drop 123).take 12) env cE ⟨633, 0, 634, 72⟩ B0)) = fun os => some (Flow.next, (⟨tr135 w.params, 765, {}, #[], {}, 1425, os⟩ : SharedT), cE, ⟨714, 0, 717, 16⟩) := by
  intro w; kernel_rfl
theorem sg17 : ∀ w : World, (fun os => PySem.W.Fast.tw10110043849684766642 PySem.W.Fast.tw14364793385576792824 P0 w 11 (some (.ref 6)) 1 236 (⟨tr135 w.params, 765, {}, #[], {}, 1425, os⟩ : SharedT) (piecesOf (((behindTheImports P0).drop 135).take 8) env cE ⟨714, 0, 717, 16⟩ B0)) = fun os => some (Flow.next, (⟨tree w.params, 812, {}, #[], {}, 1492, os⟩ : SharedT), cE, ⟨771, 0, 786, 15⟩) := by
  intro w; kernel_rfl
theorem preT : ∀ w : World, (fun os => PySem.W.Fast.tw15667345088766844465 PySem.W.Fast.tw14364793385576792824 P0 w 11 (some (.ref 6)) 12 (⟨boot_heap w.params, #[], boot_drawn, boot_toks, os⟩ : Shared) (topStub P0)) =
    fun os => some ((⟨h46 w.params, #[], {}, 187, os⟩ : Shared), (⟨PySem.W.Fast.tw11892475500146522536 PySem.W.Fast.tw14364793385576792824 cE, cE, q0, B0⟩ : Thread)) := by
  intro w; kernel_rfl
theorem blockT : ∀ w : World, (fun os => PySem.W.Fast.tw14374325043358763698 PySem.W.Fast.tw14364793385576792824 P0 w 11 (some (.ref 6)) 1 1 (⟨h46 w.params, #[], {}, 187, os⟩ : Shared) (blockOf (behindTheImports P0) env cE q0 B0)) =
    fun os => some (Flow.next, (⟨t46 w.params, 15, {}, #[], {}, 187, os⟩ : SharedT).abs, cE, q0) := by
  intro w; kernel_rfl
theorem absH : ∀ P : Params, absHeap (tree P) 812 {} = H1 P := by
  intro P; kernel_rfl
theorem finT : ∀ w : World, (fun os => PySem.W.Fast.tw14082659384304107361 PySem.W.Fast.tw14364793385576792824 P0 w 11 (some (.ref 6)) 2 (⟨H1 w.params, #[], {}, 1492, os⟩ : Shared) (⟨doneF .next, cE, ⟨771, 0, 786, 15⟩, B0⟩ : Thread)) =
    fun os => some (⟨H1 w.params, #[], {}, 1492, os⟩ : Shared) := by
  intro w; kernel_rfl
theorem allT : (behindTheImports P0).drop 143 = [] := by kernel_rfl
theorem segE : segRunT treeTable = PySem.W.Fast.tw10110043849684766642 PySem.W.Fast.tw14364793385576792824 := congr PySem.W.Fast.te10110043849684766642 PySem.W.Fast.te14364793385576792824
theorem preE : topGo treeTable = PySem.W.Fast.tw15667345088766844465 PySem.W.Fast.tw14364793385576792824 := congr PySem.W.Fast.te15667345088766844465 PySem.W.Fast.te14364793385576792824
theorem denE : denote treeTable = PySem.W.Fast.tw11892475500146522536 PySem.W.Fast.tw14364793385576792824 := congr PySem.W.Fast.te11892475500146522536 PySem.W.Fast.te14364793385576792824
theorem blkE : segRun treeTable = PySem.W.Fast.tw14374325043358763698 PySem.W.Fast.tw14364793385576792824 := congr PySem.W.Fast.te14374325043358763698 PySem.W.Fast.te14364793385576792824
theorem finE : topRun treeTable = PySem.W.Fast.tw14082659384304107361 PySem.W.Fast.tw14364793385576792824 := congr PySem.W.Fast.te14082659384304107361 PySem.W.Fast.te14364793385576792824
section
variable {f₁ : Program → World → Nat → Option Value → Nat → Nat → SharedT → Thread → Option (Flow × SharedT × Code × Pos)}
variable {f₂ : Program → World → Nat → Option Value → Nat → Shared → Thread → Option (Shared × Thread)}
variable {f₃ : Code → Sem Fin}
variable {f₄ : Program → World → Nat → Option Value → Nat → Nat → Shared → Thread → Option (Flow × Shared × Code × Pos)}
variable {f₅ : Program → World → Nat → Option Value → Nat → Shared → Thread → Option Shared}
variable {T1 T2 : Params → BT} {H0 H46 H1v : Params → Heap} {env0 : Env} {b0 : List Stmt} {P1 : Program} {q q1 q2 : Pos} {k0 k1 k2 m n1 n2 N N' N1 N2 a b : Nat} {ann : Option Value} {d0 d1 : Drawn}
theorem two_rows (r : String) (h0 : ∀ w : World, (fun os => f₁ P1 (w.withFollow r false) m ann 1 N (⟨T1 (w.withFollow r false).params, n1, {}, #[], d1, k1, os⟩ : SharedT) (piecesOf ((b0.drop a).take b) env0 (.body b0 env0) q1 [topFrame q])) =
      fun os => some (Flow.next, (⟨T2 (w.withFollow r false).params, n2, {}, #[], d1, k2, os⟩ : SharedT), .body b0 env0, q2))
    (h1 : ∀ w : World, (fun os => f₁ P1 (w.withFollow r true) m ann 1 N (⟨T1 (w.withFollow r true).params, n1, {}, #[], d1, k1, os⟩ : SharedT) (piecesOf ((b0.drop a).take b) env0 (.body b0 env0) q1 [topFrame q])) =
      fun os => some (Flow.next, (⟨T2 (w.withFollow r true).params, n2, {}, #[], d1, k2, os⟩ : SharedT), .body b0 env0, q2)) :
    ∀ w : World, (fun os => f₁ P1 w m ann 1 N (⟨T1 w.params, n1, {}, #[], d1, k1, os⟩ : SharedT) (piecesOf ((b0.drop a).take b) env0 (.body b0 env0) q1 [topFrame q])) =
      fun os => some (Flow.next, (⟨T2 w.params, n2, {}, #[], d1, k2, os⟩ : SharedT), .body b0 env0, q2) :=
  byRow2 r (P := fun w => (fun os => f₁ P1 w m ann 1 N (⟨T1 w.params, n1, {}, #[], d1, k1, os⟩ : SharedT) (piecesOf ((b0.drop a).take b) env0 (.body b0 env0) q1 [topFrame q])) =
      fun os => some (Flow.next, (⟨T2 w.params, n2, {}, #[], d1, k2, os⟩ : SharedT), .body b0 env0, q2)) h0 h1
theorem step_seg (eS : segRunT treeTable = f₁) (h : ∀ w : World, (fun os => f₁ P1 w m ann 1 N (⟨T1 w.params, n1, {}, #[], d1, k1, os⟩ : SharedT) (piecesOf ((b0.drop a).take b) env0 (.body b0 env0) q1 [topFrame q])) =
      fun os => some (Flow.next, (⟨T2 w.params, n2, {}, #[], d1, k2, os⟩ : SharedT), .body b0 env0, q2))
    (k : ∀ (w : World) (os : OsState), topRun treeTable P1 w m ann N' (⟨T2 w.params, n2, {}, #[], d1, k2, os⟩ : SharedT).abs (restOf (b0.drop (a + b)) env0 (.body b0 env0) q2 [topFrame q]) = some (⟨H1v w.params, #[], d1, k0, os⟩ : Shared)) (w : World) (os : OsState) :
    topRun treeTable P1 w m ann (N + N') (⟨T1 w.params, n1, {}, #[], d1, k1, os⟩ : SharedT).abs (restOf (b0.drop a) env0 (.body b0 env0) q1 [topFrame q]) = some (⟨H1v w.params, #[], d1, k0, os⟩ : Shared) := by
  subst eS
  have := piece_app (segRun_of (congrFun (h w) os)) (k w os)
  rwa [show b0.drop (a + b) = (b0.drop a).drop b from by rw [List.drop_drop], List.take_append_drop] at this
theorem step_end (eF : topRun treeTable = f₅) (aH : ∀ P : Params, absHeap (T2 P) n2 {} = H1v P) (hb : b0.drop a = [])
    (fin : ∀ w : World, (fun os => f₅ P1 w m ann N (⟨H1v w.params, #[], d1, k2, os⟩ : Shared) (⟨doneF .next, .body b0 env0, q2, [topFrame q]⟩ : Thread)) = fun os => some (⟨H1v w.params, #[], d1, k2, os⟩ : Shared)) (w : World) (os : OsState) :
    topRun treeTable P1 w m ann N (⟨T2 w.params, n2, {}, #[], d1, k2, os⟩ : SharedT).abs (restOf (b0.drop a) env0 (.body b0 env0) q2 [topFrame q]) = some (⟨H1v w.params, #[], d1, k2, os⟩ : Shared) := by
  subst eF
  have e : (⟨H1v w.params, #[], d1, k2, os⟩ : Shared) = (⟨T2 w.params, n2, {}, #[], d1, k2, os⟩ : SharedT).abs := by unfold SharedT.abs; rw [aH]
  rw [← e, hb]
  exact piece_nil (congrFun (fin w) os)
theorem run_all (eP : topGo treeTable = f₂) (eD : denote treeTable = f₃) (eB : segRun treeTable = f₄)
    (pre : ∀ w : World, (fun os => f₂ P1 w m ann N1 (⟨H0 w.params, #[], d0, k0, os⟩ : Shared) (topStub P1)) = fun os => some ((⟨H46 w.params, #[], d1, k1, os⟩ : Shared), (⟨f₃ (.body b0 env0), .body b0 env0, q, [topFrame q]⟩ : Thread)))
    (blk : ∀ w : World, (fun os => f₄ P1 w m ann 1 N2 (⟨H46 w.params, #[], d1, k1, os⟩ : Shared) (blockOf b0 env0 (.body b0 env0) q [topFrame q])) = fun os => some (Flow.next, (⟨T1 w.params, n1, {}, #[], d1, k1, os⟩ : SharedT).abs, .body b0 env0, q))
    (k : ∀ (w : World) (os : OsState), topRun treeTable P1 w m ann N' (⟨T1 w.params, n1, {}, #[], d1, k1, os⟩ : SharedT).abs (restOf (b0.drop 0) env0 (.body b0 env0) q [topFrame q]) = some (⟨H1v w.params, #[], d1, k2, os⟩ : Shared))
    (w : World) (os : OsState) : topRun treeTable P1 w m ann (N1 + (N2 + N')) (⟨H0 w.params, #[], d0, k0, os⟩ : Shared) (topStub P1) = some (⟨H1v w.params, #[], d1, k2, os⟩ : Shared) := by
  subst eP eD eB
  exact go_top (congrFun (pre w) os) (piece_block (congrFun (blk w) os) (k w os))
end
theorem ch18 : ∀ (w : World) (os : OsState), topRun treeTable P0 w 11 (some (.ref 6)) 2 (⟨tree w.params, 812, {}, #[], {}, 1492, os⟩ : SharedT).abs (restOf ((behindTheImports P0).drop 143) env cE ⟨771, 0, 786, 15⟩ B0) = some (⟨H1 w.params, #[], {}, 1492, os⟩ : Shared) := step_end finE absH allT finT
theorem ch17 : ∀ (w : World) (os : OsState), topRun treeTable P0 w 11 (some (.ref 6)) (236 + 2) (⟨tr135 w.params, 765, {}, #[], {}, 1425, os⟩ : SharedT).abs (restOf ((behindTheImports P0).drop 135) env cE ⟨714, 0, 717, 16⟩ B0) = some (⟨H1 w.params, #[], {}, 1492, os⟩ : Shared) := step_seg segE sg17 ch18
theorem ch16 : ∀ (w : World) (os : OsState), topRun treeTable P0 w 11 (some (.ref 6)) (402 + (236 + 2)) (⟨tr123 w.params, 681, {}, #[], {}, 1297, os⟩ : SharedT).abs (restOf ((behindTheImports P0).drop 123) env cE ⟨633, 0, 634, 72⟩ B0) = some (⟨H1 w.params, #[], {}, 1492, os⟩ : Shared) := step_seg segE sg16 ch17
theorem ch15 : ∀ (w : World) (os : OsState), topRun treeTable P0 w 11 (some (.ref 6)) (404 + (402 + (236 + 2))) (⟨tr111 w.params, 597, {}, #[], {}, 1167, os⟩ : SharedT).abs (restOf ((behindTheImports P0).drop 111) env cE ⟨550, 0, 550, 10⟩ B0) = some (⟨H1 w.params, #[], {}, 1492, os⟩ : Shared) := step_seg segE sg15 ch16
theorem ch14 : ∀ (w : World) (os : OsState), topRun treeTable P0 w 11 (some (.ref 6)) (65 + (404 + (402 + (236 + 2)))) (⟨tr110 w.params, 596, {}, #[], {}, 1157, os⟩ : SharedT).abs (restOf ((behindTheImports P0).drop 110) env cE ⟨549, 0, 549, 8⟩ B0) = some (⟨H1 w.params, #[], {}, 1492, os⟩ : Shared) := step_seg segE (two_rows row0 sg14f sg14t) ch15
theorem ch13 : ∀ (w : World) (os : OsState), topRun treeTable P0 w 11 (some (.ref 6)) (110 + (65 + (404 + (402 + (236 + 2))))) (⟨tr109 w.params, 595, {}, #[], {}, 1138, os⟩ : SharedT).abs (restOf ((behindTheImports P0).drop 109) env cE ⟨548, 0, 548, 11⟩ B0) = some (⟨H1 w.params, #[], {}, 1492, os⟩ : Shared) := step_seg segE (two_rows row0 sg13f sg13t) ch14
theorem ch12 : ∀ (w : World) (os : OsState), topRun treeTable P0 w 11 (some (.ref 6)) (324 + (110 + (65 + (404 + (402 + (236 + 2)))))) (⟨tr96 w.params, 537, {}, #[], {}, 1039, os⟩ : SharedT).abs (restOf ((behindTheImports P0).drop 96) env cE ⟨469, 0, 474, 38⟩ B0) = some (⟨H1 w.params, #[], {}, 1492, os⟩ : Shared) := step_seg segE sg12 ch13
theorem ch11 : ∀ (w : World) (os : OsState), topRun treeTable P0 w 11 (some (.ref 6)) (393 + (324 + (110 + (65 + (404 + (402 + (236 + 2))))))) (⟨tr84 w.params, 453, {}, #[], {}, 920, os⟩ : SharedT).abs (restOf ((behindTheImports P0).drop 84) env cE ⟨405, 0, 405, 5⟩ B0) = some (⟨H1 w.params, #[], {}, 1492, os⟩ : Shared) := step_seg segE sg11 ch12
theorem ch10 : ∀ (w : World) (os : OsState), topRun treeTable P0 w 11 (some (.ref 6)) (80 + (393 + (324 + (110 + (65 + (404 + (402 + (236 + 2)))))))) (⟨tr83 w.params, 452, {}, #[], {}, 907, os⟩ : SharedT).abs (restOf ((behindTheImports P0).drop 83) env cE ⟨404, 0, 404, 8⟩ B0) = some (⟨H1 w.params, #[], {}, 1492, os⟩ : Shared) := step_seg segE (two_rows row0 sg10f sg10t) ch11
theorem ch9 : ∀ (w : World) (os : OsState), topRun treeTable P0 w 11 (some (.ref 6)) (109 + (80 + (393 + (324 + (110 + (65 + (404 + (402 + (236 + 2))))))))) (⟨tr79 w.params, 431, {}, #[], {}, 881, os⟩ : SharedT).abs (restOf ((behindTheImports P0).drop 79) env cE ⟨392, 0, 395, 37⟩ B0) = some (⟨H1 w.params, #[], {}, 1492, os⟩ : Shared) := step_seg segE sg9 ch10
theorem ch8 : ∀ (w : World) (os : OsState), topRun treeTable P0 w 11 (some (.ref 6)) (395 + (109 + (80 + (393 + (324 + (110 + (65 + (404 + (402 + (236 + 2)))))))))) (⟨tr66 w.params, 349, {}, #[], {}, 765, os⟩ : SharedT).abs (restOf ((behindTheImports P0).drop 66) env cE ⟨307, 0, 313, 21⟩ B0) = some (⟨H1 w.params, #[], {}, 1492, os⟩ : Shared) := step_seg segE sg8 ch9
theorem ch7 : ∀ (w : World) (os : OsState), topRun treeTable P0 w 11 (some (.ref 6)) (395 + (395 + (109 + (80 + (393 + (324 + (110 + (65 + (404 + (402 + (236 + 2))))))))))) (⟨tr52 w.params, 272, {}, #[], {}, 645, os⟩ : SharedT).abs (restOf ((behindTheImports P0).drop 52) env cE ⟨212, 0, 229, 26⟩ B0) = some (⟨H1 w.params, #[], {}, 1492, os⟩ : Shared) := step_seg segE sg7 ch8
theorem ch6 : ∀ (w : World) (os : OsState), topRun treeTable P0 w 11 (some (.ref 6)) (397 + (395 + (395 + (109 + (80 + (393 + (324 + (110 + (65 + (404 + (402 + (236 + 2)))))))))))) (⟨tr46 w.params, 216, {}, #[], {}, 561, os⟩ : SharedT).abs (restOf ((behindTheImports P0).drop 46) env cE ⟨166, 0, 174, 83⟩ B0) = some (⟨H1 w.params, #[], {}, 1492, os⟩ : Shared) := step_seg segE sg6 ch7
theorem ch5 : ∀ (w : World) (os : OsState), topRun treeTable P0 w 11 (some (.ref 6)) (307 + (397 + (395 + (395 + (109 + (80 + (393 + (324 + (110 + (65 + (404 + (402 + (236 + 2))))))))))))) (⟨tr32 w.params, 165, {}, #[], {}, 471, os⟩ : SharedT).abs (restOf ((behindTheImports P0).drop 32) env cE ⟨125, 0, 125, 8⟩ B0) = some (⟨H1 w.params, #[], {}, 1492, os⟩ : Shared) := step_seg segE sg5 ch6
theorem ch4 : ∀ (w : World) (os : OsState), topRun treeTable P0 w 11 (some (.ref 6)) (303 + (307 + (397 + (395 + (395 + (109 + (80 + (393 + (324 + (110 + (65 + (404 + (402 + (236 + 2)))))))))))))) (⟨tr31 w.params, 163, {}, #[], {}, 416, os⟩ : SharedT).abs (restOf ((behindTheImports P0).drop 31) env cE ⟨124, 0, 124, 8⟩ B0) = some (⟨H1 w.params, #[], {}, 1492, os⟩ : Shared) := step_seg segE (two_rows row0 sg4f sg4t) ch5
theorem ch3 : ∀ (w : World) (os : OsState), topRun treeTable P0 w 11 (some (.ref 6)) (177 + (303 + (307 + (397 + (395 + (395 + (109 + (80 + (393 + (324 + (110 + (65 + (404 + (402 + (236 + 2))))))))))))))) (⟨tr25 w.params, 128, {}, #[], {}, 366, os⟩ : SharedT).abs (restOf ((behindTheImports P0).drop 25) env cE ⟨71, 0, 76, 38⟩ B0) = some (⟨H1 w.params, #[], {}, 1492, os⟩ : Shared) := step_seg segE sg3 ch4
theorem ch2 : ∀ (w : World) (os : OsState), topRun treeTable P0 w 11 (some (.ref 6)) (398 + (177 + (303 + (307 + (397 + (395 + (395 + (109 + (80 + (393 + (324 + (110 + (65 + (404 + (402 + (236 + 2)))))))))))))))) (⟨tr10 w.params, 46, {}, #[], {}, 263, os⟩ : SharedT).abs (restOf ((behindTheImports P0).drop 10) env cE ⟨20, 0, 20, 5⟩ B0) = some (⟨H1 w.params, #[], {}, 1492, os⟩ : Shared) := step_seg segE sg2 ch3
theorem ch1 : ∀ (w : World) (os : OsState), topRun treeTable P0 w 11 (some (.ref 6)) (110 + (398 + (177 + (303 + (307 + (397 + (395 + (395 + (109 + (80 + (393 + (324 + (110 + (65 + (404 + (402 + (236 + 2))))))))))))))))) (⟨tr9 w.params, 45, {}, #[], {}, 244, os⟩ : SharedT).abs (restOf ((behindTheImports P0).drop 9) env cE ⟨19, 0, 19, 6⟩ B0) = some (⟨H1 w.params, #[], {}, 1492, os⟩ : Shared) := step_seg segE (two_rows row0 sg1f sg1t) ch2
theorem ch0 : ∀ (w : World) (os : OsState), topRun treeTable P0 w 11 (some (.ref 6)) (352 + (110 + (398 + (177 + (303 + (307 + (397 + (395 + (395 + (109 + (80 + (393 + (324 + (110 + (65 + (404 + (402 + (236 + 2)))))))))))))))))) (⟨t46 w.params, 15, {}, #[], {}, 187, os⟩ : SharedT).abs (restOf ((behindTheImports P0).drop 0) env cE q0 B0) = some (⟨H1 w.params, #[], {}, 1492, os⟩ : Shared) := step_seg segE sg0 ch1
theorem run (w : World) (os : OsState) : topRun treeTable P0 w 11 (some (.ref 6)) (12 + (1 + (352 + (110 + (398 + (177 + (303 + (307 + (397 + (395 + (395 + (109 + (80 + (393 + (324 + (110 + (65 + (404 + (402 + (236 + 2)))))))))))))))))))) (⟨boot_heap w.params, #[], boot_drawn, boot_toks, os⟩ : Shared) (topStub P0) = some (⟨H1 w.params, #[], {}, 1492, os⟩ : Shared) :=
  run_all preE denE blkE preT blockT ch0 w os
noncomputable def heap_39 (P : Params) : Frag := (nat_lit 2, { cls := .none, data := .dict #[⟨PyData.keyHash P (Str.ofString "type.__subclasses__.Exception.0"), .str (Str.ofString "type.__subclasses__.Exception.0") 221, .int 34 0⟩, ⟨PyData.keyHash P (Str.ofString "type.__subclasses__.Exception.n"), .str (Str.ofString "type.__subclasses__.Exception.n") 222, .int 1 0⟩] 2 }) ::
  (nat_lit 3, { cls := .type "dict", data := .dict #[⟨PyData.keyHash P (Str.ofString "__name__"), .str (Str.ofString "__name__") 165, .str (Str.ofString "law_pq0154_01") 1425⟩, ⟨PyData.keyHash P (Str.ofString "__doc__"), .str (Str.ofString "__doc__") 166, .none⟩, ⟨PyData.keyHash P (Str.ofString "__package__"), .str (Str.ofString "__package__") 167, .none⟩, ⟨PyData.keyHash P (Str.ofString "__loader__"), .str (Str.ofString "__loader__") 168, .builtin "__main__.__loader__#opaque"⟩, ⟨PyData.keyHash P (Str.ofString "__spec__"), .str (Str.ofString "__spec__") 169, .none⟩, ⟨PyData.keyHash P (Str.ofString "__annotations__"), .str (Str.ofString "__annotations__") 170, .ref 6⟩, ⟨PyData.keyHash P (Str.ofString "__builtins__"), .str (Str.ofString "__builtins__") 171, .ref 4⟩, ⟨PyData.keyHash P (Str.ofString "__file__"), .str (Str.ofString "__file__") 173, .str (Str.ofString "/claim/cut.py") 172⟩, ⟨PyData.keyHash P (Str.ofString "__cached__"), .str (Str.ofString "__cached__") 174, .none⟩, ⟨PyData.keyHash P (Str.ofString "MOST_EXPONENT"), .str (Str.ofString "MOST_EXPONENT") 190, .int 99 189⟩, ⟨PyData.keyHash P (Str.ofString "BasicError"), .str (Str.ofString "BasicError") 224, .ref 34⟩, ⟨PyData.keyHash P (Str.ofString "figures_of"), .str (Str.ofString "figures_of") 233, .ref 44⟩, ⟨PyData.keyHash P (Str.ofString "MOST_SIGNS"), .str (Str.ofString "MOST_SIGNS") 237, .int 255 236⟩, ⟨PyData.keyHash P (Str.ofString "MOST_FIGURES_tokens"), .str (Str.ofString "MOST_FIGURES_tokens") 239, .int 40 238⟩, ⟨PyData.keyHash P (Str.ofString "SIGNS"), .str (Str.ofString "SIGNS") 241, .str (Str.ofString "+-*/\\^(),;:#&@") 240⟩, ⟨PyData.keyHash P (Str.ofString "ORDERS"), .str (Str.ofString "ORDERS") 243, .str (Str.ofString "<=>") 242⟩, ⟨PyData.keyHash P (Str.ofString "PAIRS"), .str (Str.ofString "PAIRS") 262, .ref 45⟩, ⟨PyData.keyHash P (Str.ofString "WORDS"), .str (Str.ofString "WORDS") 264, .str (Str.ofString "LET PRINT USING INPUT LINE IF THEN ELSE GOTO GOSUB ON RETURN FOR TO STEP NEXT WHILE WEND DEF FNEND READ DATA RESTORE DIM ERASE OPTION BASE SWAP ERROR RESUME STOP END REM RANDOMIZE DEFINT DEFSNG DEFSTR MAT ZER CON IDN INV TRN OPEN OUTPUT APPEND RANDOM AS CLOSE FIELD LSET RSET GET PUT WRITE CHAIN COMMON TRON TROFF AND OR XOR EQV IMP NOT MOD") 263⟩, ⟨PyData.keyHash P (Str.ofString "FUNCTION_WORDS"), .str (Str.ofString "FUNCTION_WORDS") 266, .str (Str.ofString "ABS ASC CHR$ CINT CSNG CVI CVS EDIT$ EOF ERL ERR FIX FRE HEX$ INSTR INT LCASE$ LEFT$ LEN LOC LOF LPOS LTRIM$ MAX MID$ MIN MKI$ MKS$ OCT$ PI POS RIGHT$ RND RTRIM$ SEG$ SGN SPACE$ SPC SQR STR$ STRING$ SWAP% TAB UCASE$ VAL XLATE$") 265⟩, ⟨PyData.keyHash P (Str.ofString "functions"), .str (Str.ofString "functions") 272, .ref 52⟩, ⟨PyData.keyHash P (Str.ofString "is_word"), .str (Str.ofString "is_word") 279, .ref 306⟩, ⟨PyData.keyHash P (Str.ofString "is_word_tokens"), .str (Str.ofString "is_word_tokens") 280, .ref 59⟩, ⟨PyData.keyHash P (Str.ofString "is_letter"), .str (Str.ofString "is_letter") 287, .ref 66⟩, ⟨PyData.keyHash P (Str.ofString "is_figure"), .str (Str.ofString "is_figure") 294, .ref 73⟩, ⟨PyData.keyHash P (Str.ofString "capital"), .str (Str.ofString "capital") 300, .ref 78⟩, ⟨PyData.keyHash P (Str.ofString "figures_end"), .str (Str.ofString "figures_end") 308, .ref 85⟩, ⟨PyData.keyHash P (Str.ofString "skipped"), .str (Str.ofString "skipped") 316, .ref 92⟩, ⟨PyData.keyHash P (Str.ofString "power_end"), .str (Str.ofString "power_end") 326, .ref 99⟩, ⟨PyData.keyHash P (Str.ofString "number_at"), .str (Str.ofString "number_at") 338, .ref 106⟩, ⟨PyData.keyHash P (Str.ofString "name_end"), .str (Str.ofString "name_end") 346, .ref 113⟩, ⟨PyData.keyHash P (Str.ofString "text_at"), .str (Str.ofString "text_at") 355, .ref 120⟩, ⟨PyData.keyHash P (Str.ofString "order_at"), .str (Str.ofString "order_at") 365, .ref 127⟩, ⟨PyData.keyHash P (Str.ofString "data_end"), .str (Str.ofString "data_end") 374, .ref 134⟩, ⟨PyData.keyHash P (Str.ofString "remark_of"), .str (Str.ofString "remark_of") 381, .ref 141⟩, ⟨PyData.keyHash P (Str.ofString "word_at"), .str (Str.ofString "word_at") 392, .ref 148⟩, ⟨PyData.keyHash P (Str.ofString "tokens_at"), .str (Str.ofString "tokens_at") 403, .ref 155⟩, ⟨PyData.keyHash P (Str.ofString "tokens_of"), .str (Str.ofString "tokens_of") 413, .ref 162⟩, ⟨PyData.keyHash P (Str.ofString "STRENGTH"), .str (Str.ofString "STRENGTH") 470, .ref 163⟩, ⟨PyData.keyHash P (Str.ofString "NOT_STRENGTH"), .str (Str.ofString "NOT_STRENGTH") 472, .int 6 471⟩, ⟨PyData.keyHash P (Str.ofString "MINUS_STRENGTH"), .str (Str.ofString "MINUS_STRENGTH") 474, .int 12 473⟩, ⟨PyData.keyHash P (Str.ofString "MOST_OPEN"), .str (Str.ofString "MOST_OPEN") 476, .int 60 475⟩, ⟨PyData.keyHash P (Str.ofString "NO_ARGS"), .str (Str.ofString "NO_ARGS") 483, .ref 165⟩, ⟨PyData.keyHash P (Str.ofString "NO_TOKEN"), .str (Str.ofString "NO_TOKEN") 486, .ref 166⟩, ⟨PyData.keyHash P (Str.ofString "MOST_FIGURES_exprread"), .str (Str.ofString "MOST_FIGURES_exprread") 488, .int 60 487⟩, ⟨PyData.keyHash P (Str.ofString "MOST_POWER"), .str (Str.ofString "MOST_POWER") 490, .int 999 489⟩, ⟨PyData.keyHash P (Str.ofString "token_at"), .str (Str.ofString "token_at") 498, .ref 173⟩, ⟨PyData.keyHash P (Str.ofString "is_sign"), .str (Str.ofString "is_sign") 507, .ref 180⟩, ⟨PyData.keyHash P (Str.ofString "expect"), .str (Str.ofString "expect") 516, .ref 187⟩, ⟨PyData.keyHash P (Str.ofString "figures_at"), .str (Str.ofString "figures_at") 526, .ref 194⟩, ⟨PyData.keyHash P (Str.ofString "power_at"), .str (Str.ofString "power_at") 538, .ref 201⟩, ⟨PyData.keyHash P (Str.ofString "told_exactly"), .str (Str.ofString "told_exactly") 547, .ref 208⟩, ⟨PyData.keyHash P (Str.ofString "number_tree"), .str (Str.ofString "number_tree") 560, .ref 215⟩, ⟨PyData.keyHash P (Str.ofString "Level"), .str (Str.ofString "Level") 594, .ref 232⟩, ⟨PyData.keyHash P (Str.ofString "join_up"), .str (Str.ofString "join_up") 604, .ref 243⟩, ⟨PyData.keyHash P (Str.ofString "finished"), .str (Str.ofString "finished") 612, .ref 250⟩, ⟨PyData.keyHash P (Str.ofString "opened"), .str (Str.ofString "opened") 621, .ref 257⟩, ⟨PyData.keyHash P (Str.ofString "plain_operand"), .str (Str.ofString "plain_operand") 631, .ref 264⟩, ⟨PyData.keyHash P (Str.ofString "take_operand"), .str (Str.ofString "take_operand") 644, .ref 271⟩, ⟨PyData.keyHash P (Str.ofString "take_operator"), .str (Str.ofString "take_operator") 656, .ref 278⟩, ⟨PyData.keyHash P (Str.ofString "expression"), .str (Str.ofString "expression") 668, .ref 285⟩, ⟨PyData.keyHash P (Str.ofString "expressions"), .str (Str.ofString "expressions") 678, .ref 292⟩, ⟨PyData.keyHash P (Str.ofString "target"), .str (Str.ofString "target") 689, .ref 299⟩, ⟨PyData.keyHash P (Str.ofString "MOST_LINE"), .str (Str.ofString "MOST_LINE") 693, .int 65529 692⟩, ⟨PyData.keyHash P (Str.ofString "is_word_stmtparts"), .str (Str.ofString "is_word_stmtparts") 703, .ref 306⟩, ⟨PyData.keyHash P (Str.ofString "is_end"), .str (Str.ofString "is_end") 713, .ref 313⟩, ⟨PyData.keyHash P (Str.ofString "need_word"), .str (Str.ofString "need_word") 722, .ref 320⟩, ⟨PyData.keyHash P (Str.ofString "line_number"), .str (Str.ofString "line_number") 734, .ref 327⟩, ⟨PyData.keyHash P (Str.ofString "line_numbers"), .str (Str.ofString "line_numbers") 744, .ref 334⟩, ⟨PyData.keyHash P (Str.ofString "plain_name"), .str (Str.ofString "plain_name") 754, .ref 341⟩, ⟨PyData.keyHash P (Str.ofString "plain_names"), .str (Str.ofString "plain_names") 764, .ref 348⟩, ⟨PyData.keyHash P (Str.ofString "targets"), .str (Str.ofString "targets") 774, .ref 355⟩, ⟨PyData.keyHash P (Str.ofString "channel_at"), .str (Str.ofString "channel_at") 783, .ref 362⟩, ⟨PyData.keyHash P (Str.ofString "read_def"), .str (Str.ofString "read_def") 797, .ref 369⟩, ⟨PyData.keyHash P (Str.ofString "read_dim"), .str (Str.ofString "read_dim") 807, .ref 376⟩, ⟨PyData.keyHash P (Str.ofString "read_erase"), .str (Str.ofString "read_erase") 816, .ref 383⟩, ⟨PyData.keyHash P (Str.ofString "read_option"), .str (Str.ofString "read_option") 825, .ref 390⟩, ⟨PyData.keyHash P (Str.ofString "pieces_of"), .str (Str.ofString "pieces_of") 836, .ref 397⟩, ⟨PyData.keyHash P (Str.ofString "read_data"), .str (Str.ofString "read_data") 846, .ref 404⟩, ⟨PyData.keyHash P (Str.ofString "read_read"), .str (Str.ofString "read_read") 855, .ref 411⟩, ⟨PyData.keyHash P (Str.ofString "letter_at"), .str (Str.ofString "letter_at") 864, .ref 418⟩, ⟨PyData.keyHash P (Str.ofString "read_kinds"), .str (Str.ofString "read_kinds") 870, .ref 423⟩, ⟨PyData.keyHash P (Str.ofString "read_swap"), .str (Str.ofString "read_swap") 880, .ref 430⟩, ⟨PyData.keyHash P (Str.ofString "read_error"), .str (Str.ofString "read_error") 889, .ref 437⟩, ⟨PyData.keyHash P (Str.ofString "read_randomize"), .str (Str.ofString "read_randomize") 898, .ref 444⟩, ⟨PyData.keyHash P (Str.ofString "declarations"), .str (Str.ofString "declarations") 904, .ref 451⟩, ⟨PyData.keyHash P (Str.ofString "MODES"), .str (Str.ofString "MODES") 919, .ref 452⟩, ⟨PyData.keyHash P (Str.ofString "numbered_channel"), .str (Str.ofString "numbered_channel") 927, .ref 459⟩, ⟨PyData.keyHash P (Str.ofString "read_open"), .str (Str.ofString "read_open") 942, .ref 466⟩, ⟨PyData.keyHash P (Str.ofString "read_close"), .str (Str.ofString "read_close") 952, .ref 473⟩, ⟨PyData.keyHash P (Str.ofString "read_field"), .str (Str.ofString "read_field") 964, .ref 480⟩, ⟨PyData.keyHash P (Str.ofString "read_set"), .str (Str.ofString "read_set") 975, .ref 487⟩, ⟨PyData.keyHash P (Str.ofString "read_lset"), .str (Str.ofString "read_lset") 983, .ref 494⟩, ⟨PyData.keyHash P (Str.ofString "read_rset"), .str (Str.ofString "read_rset") 991, .ref 501⟩, ⟨PyData.keyHash P (Str.ofString "read_move"), .str (Str.ofString "read_move") 1002, .ref 508⟩, ⟨PyData.keyHash P (Str.ofString "read_get"), .str (Str.ofString "read_get") 1010, .ref 515⟩, ⟨PyData.keyHash P (Str.ofString "read_put"), .str (Str.ofString "read_put") 1018, .ref 522⟩, ⟨PyData.keyHash P (Str.ofString "read_write"), .str (Str.ofString "read_write") 1028, .ref 529⟩, ⟨PyData.keyHash P (Str.ofString "read_chain"), .str (Str.ofString "read_chain") 1038, .ref 536⟩, ⟨PyData.keyHash P (Str.ofString "read_common"), .str (Str.ofString "read_common") 1048, .ref 543⟩, ⟨PyData.keyHash P (Str.ofString "file_statements"), .str (Str.ofString "file_statements") 1054, .ref 550⟩, ⟨PyData.keyHash P (Str.ofString "FILLS"), .str (Str.ofString "FILLS") 1060, .ref 551⟩, ⟨PyData.keyHash P (Str.ofString "SIGNS_OF_TWO"), .str (Str.ofString "SIGNS_OF_TWO") 1064, .ref 552⟩, ⟨PyData.keyHash P (Str.ofString "bounds_at"), .str (Str.ofString "bounds_at") 1073, .ref 559⟩, ⟨PyData.keyHash P (Str.ofString "read_rows"), .str (Str.ofString "read_rows") 1085, .ref 566⟩, ⟨PyData.keyHash P (Str.ofString "read_shown"), .str (Str.ofString "read_shown") 1098, .ref 573⟩, ⟨PyData.keyHash P (Str.ofString "read_of_one"), .str (Str.ofString "read_of_one") 1107, .ref 580⟩, ⟨PyData.keyHash P (Str.ofString "read_form"), .str (Str.ofString "read_form") 1121, .ref 587⟩, ⟨PyData.keyHash P (Str.ofString "read_mat"), .str (Str.ofString "read_mat") 1133, .ref 594⟩, ⟨PyData.keyHash P (Str.ofString "MOST_NESTED"), .str (Str.ofString "MOST_NESTED") 1137, .int 12 1136⟩, ⟨PyData.keyHash P (Str.ofString "ONE_WORD"), .str (Str.ofString "ONE_WORD") 1156, .ref 595⟩, ⟨PyData.keyHash P (Str.ofString "KIND_WORDS"), .str (Str.ofString "KIND_WORDS") 1166, .ref 596⟩, ⟨PyData.keyHash P (Str.ofString "read_let"), .str (Str.ofString "read_let") 1178, .ref 603⟩, ⟨PyData.keyHash P (Str.ofString "read_middle"), .str (Str.ofString "read_middle") 1190, .ref 610⟩, ⟨PyData.keyHash P (Str.ofString "item_at"), .str (Str.ofString "item_at") 1200, .ref 617⟩, ⟨PyData.keyHash P (Str.ofString "read_print"), .str (Str.ofString "read_print") 1211, .ref 624⟩, ⟨PyData.keyHash P (Str.ofString "read_using"), .str (Str.ofString "read_using") 1224, .ref 631⟩, ⟨PyData.keyHash P (Str.ofString "prompt_at"), .str (Str.ofString "prompt_at") 1234, .ref 638⟩, ⟨PyData.keyHash P (Str.ofString "read_input"), .str (Str.ofString "read_input") 1246, .ref 645⟩, ⟨PyData.keyHash P (Str.ofString "read_line"), .str (Str.ofString "read_line") 1258, .ref 652⟩, ⟨PyData.keyHash P (Str.ofString "read_goto"), .str (Str.ofString "read_goto") 1267, .ref 659⟩, ⟨PyData.keyHash P (Str.ofString "read_gosub"), .str (Str.ofString "read_gosub") 1276, .ref 666⟩, ⟨PyData.keyHash P (Str.ofString "read_on"), .str (Str.ofString "read_on") 1288, .ref 673⟩, ⟨PyData.keyHash P (Str.ofString "line_or_none"), .str (Str.ofString "line_or_none") 1296, .ref 680⟩, ⟨PyData.keyHash P (Str.ofString "read_return"), .str (Str.ofString "read_return") 1305, .ref 687⟩, ⟨PyData.keyHash P (Str.ofString "read_restore"), .str (Str.ofString "read_restore") 1314, .ref 694⟩, ⟨PyData.keyHash P (Str.ofString "read_resume"), .str (Str.ofString "read_resume") 1323, .ref 701⟩, ⟨PyData.keyHash P (Str.ofString "read_for"), .str (Str.ofString "read_for") 1335, .ref 708⟩, ⟨PyData.keyHash P (Str.ofString "read_next"), .str (Str.ofString "read_next") 1344, .ref 715⟩, ⟨PyData.keyHash P (Str.ofString "read_while"), .str (Str.ofString "read_while") 1353, .ref 722⟩, ⟨PyData.keyHash P (Str.ofString "statement_readers"), .str (Str.ofString "statement_readers") 1360, .ref 729⟩, ⟨PyData.keyHash P (Str.ofString "read_one"), .str (Str.ofString "read_one") 1373, .ref 736⟩, ⟨PyData.keyHash P (Str.ofString "read_part"), .str (Str.ofString "read_part") 1386, .ref 743⟩, ⟨PyData.keyHash P (Str.ofString "read_if"), .str (Str.ofString "read_if") 1400, .ref 750⟩, ⟨PyData.keyHash P (Str.ofString "read_some"), .str (Str.ofString "read_some") 1414, .ref 757⟩, ⟨PyData.keyHash P (Str.ofString "read_row"), .str (Str.ofString "read_row") 1424, .ref 764⟩, ⟨PyData.keyHash P (Str.ofString "_law_grab"), .str (Str.ofString "_law_grab") 1434, .ref 771⟩, ⟨PyData.keyHash P (Str.ofString "_law_heard"), .str (Str.ofString "_law_heard") 1442, .ref 778⟩, ⟨PyData.keyHash P (Str.ofString "_law_events"), .str (Str.ofString "_law_events") 1454, .ref 785⟩, ⟨PyData.keyHash P (Str.ofString "_law_deed"), .str (Str.ofString "_law_deed") 1462, .ref 792⟩, ⟨PyData.keyHash P (Str.ofString "_law_row"), .str (Str.ofString "_law_row") 1472, .ref 799⟩, ⟨PyData.keyHash P (Str.ofString "_law_due"), .str (Str.ofString "_law_due") 1485, .ref 806⟩, ⟨PyData.keyHash P (Str.ofString "law"), .str (Str.ofString "law") 1491, .ref 811⟩] 142 }) ::
  (nat_lit 18, { cls := .type "cell", data := .cell (some (.ref 34)) }) ::
  (nat_lit 23, { cls := .type "tuple", data := .seq #[.str (Str.ofString "") 203] 0 }) ::
  (nat_lit 24, { cls := .type "tuple", data := .seq #[.ref 18] 0 }) ::
  (nat_lit 30, { cls := .type "code", data := .fields #[.str (Str.ofString "__init__") 204, .str (Str.ofString "BasicError.__init__") 205, .str (Str.ofString "/claim/cut.py") 206, .int 5 0, .int 3 0, .int 0 0, .int 0 0, .int 3 0, .ref 25, .bool true, .int 181 0, .ref 26, .none, .ref 27, .ref 28, .ref 29, .int 211 0, .int 5 0, .str (Str.ofString "/claim/cut.py") 212] }) ::
  (nat_lit 31, fo (meth 2 0) "BasicError.__init__" [(Str.ofString "__class__", 18)] (.ref 23) (.str (Str.ofString "basicplus.values") 187) (.ref 30) (.ref 24)) ::
  (nat_lit 33, { cls := .type "dict", data := .dict #[⟨PyData.keyHash P (Str.ofString "__module__"), .str (Str.ofString "__module__") 198, .str (Str.ofString "basicplus.values") 187⟩, ⟨PyData.keyHash P (Str.ofString "__firstlineno__"), .str (Str.ofString "__firstlineno__") 202, .int 3 201⟩, ⟨PyData.keyHash P (Str.ofString "__init__"), .str (Str.ofString "__init__") 213, .ref 31⟩, ⟨PyData.keyHash P (Str.ofString "__static_attributes__"), .str (Str.ofString "__static_attributes__") 216, .ref 32⟩, ⟨PyData.keyHash P (Str.ofString "__weakref__"), .str (Str.ofString "__weakref__") 219, .ref 35⟩, ⟨PyData.keyHash P (Str.ofString "__doc__"), .str (Str.ofString "__doc__") 220, .none⟩] 4 }) ::
  (nat_lit 34, { cls := .type "type", data := .cls { name := Str.ofString "BasicError", bases := [.type "Exception"], mro := [.ref 34, .type "Exception", .type "BaseException", .type "object"], ns := 33, qualname := Str.ofString "BasicError" }, slots := #[some (.ref 15), none, some (.str (Str.ofString "BasicError") 191), some (.str (Str.ofString "BasicError") 199), some (.builtin "Exception.__new__"), some (.bool true)] }) ::
  (nat_lit 45, { cls := .type "dict", data := .dict #[⟨PyData.keyHash P (Str.ofString "<="), .str (Str.ofString "<=") 244, .str (Str.ofString "<=") 245⟩, ⟨PyData.keyHash P (Str.ofString "=<"), .str (Str.ofString "=<") 246, .str (Str.ofString "<=") 247⟩, ⟨PyData.keyHash P (Str.ofString ">="), .str (Str.ofString ">=") 248, .str (Str.ofString ">=") 249⟩, ⟨PyData.keyHash P (Str.ofString "=>"), .str (Str.ofString "=>") 250, .str (Str.ofString ">=") 251⟩, ⟨PyData.keyHash P (Str.ofString "<>"), .str (Str.ofString "<>") 252, .str (Str.ofString "<>") 253⟩, ⟨PyData.keyHash P (Str.ofString "><"), .str (Str.ofString "><") 254, .str (Str.ofString "<>") 255⟩] 6 }) ::
  (nat_lit 51, { cls := .type "code", data := .fields #[.str (Str.ofString "functions") 267, .str (Str.ofString "functions") 268, .str (Str.ofString "/claim/cut.py") 269, .int 23 0, .int 0 0, .int 0 0, .int 0 0, .int 3 0, .ref 46, .bool true, .int 181 0, .ref 47, .none, .ref 48, .ref 49, .ref 50, .int 270 0, .int 23 0, .str (Str.ofString "/claim/cut.py") 271] }) ::
  (nat_lit 52, fo (st 12) "functions" [] (.none) (.str (Str.ofString "basicplus.tokens") 234) (.ref 51) (.none)) ::
  (nat_lit 58, { cls := .type "code", data := .fields #[.str (Str.ofString "is_word") 273, .str (Str.ofString "is_word") 274, .str (Str.ofString "/claim/cut.py") 275, .int 25 0, .int 1 0, .int 0 0, .int 0 0, .int 3 0, .ref 53, .bool true, .int 181 0, .ref 54, .none, .ref 55, .ref 56, .ref 57, .int 277 0, .int 25 0, .str (Str.ofString "/claim/cut.py") 278] }) ::
  (nat_lit 59, fo (st 13) "is_word" [] (.none) (.str (Str.ofString "basicplus.tokens") 234) (.ref 58) (.none)) ::
  (nat_lit 65, { cls := .type "code", data := .fields #[.str (Str.ofString "is_letter") 281, .str (Str.ofString "is_letter") 282, .str (Str.ofString "/claim/cut.py") 283, .int 28 0, .int 1 0, .int 0 0, .int 0 0, .int 3 0, .ref 60, .bool true, .int 181 0, .ref 61, .none, .ref 62, .ref 63, .ref 64, .int 285 0, .int 28 0, .str (Str.ofString "/claim/cut.py") 286] }) ::
  (nat_lit 66, fo (st 15) "is_letter" [] (.none) (.str (Str.ofString "basicplus.tokens") 234) (.ref 65) (.none)) ::
  (nat_lit 72, { cls := .type "code", data := .fields #[.str (Str.ofString "is_figure") 288, .str (Str.ofString "is_figure") 289, .str (Str.ofString "/claim/cut.py") 290, .int 30 0, .int 1 0, .int 0 0, .int 0 0, .int 3 0, .ref 67, .bool true, .int 181 0, .ref 68, .none, .ref 69, .ref 70, .ref 71, .int 292 0, .int 30 0, .str (Str.ofString "/claim/cut.py") 293] }) ::
  (nat_lit 73, fo (st 16) "is_figure" [] (.none) (.str (Str.ofString "basicplus.tokens") 234) (.ref 72) (.none)) ::
  (nat_lit 77, { cls := .type "code", data := .fields #[.str (Str.ofString "capital") 295, .str (Str.ofString "capital") 296, .str (Str.ofString "/claim/cut.py") 297, .int 32 0, .int 1 0, .int 0 0, .int 0 0, .int 3 0, .ref 74, .bool true, .int 181 0, .ref 75, .none, .none, .none, .ref 76, .int 298 0, .int 32 0, .str (Str.ofString "/claim/cut.py") 299] }) ::
  (nat_lit 78, fo (st 17) "capital" [] (.none) (.str (Str.ofString "basicplus.tokens") 234) (.ref 77) (.none)) ::
  (nat_lit 84, { cls := .type "code", data := .fields #[.str (Str.ofString "figures_end") 301, .str (Str.ofString "figures_end") 302, .str (Str.ofString "/claim/cut.py") 303, .int 34 0, .int 2 0, .int 0 0, .int 0 0, .int 3 0, .ref 79, .bool true, .int 181 0, .ref 80, .none, .ref 81, .ref 82, .ref 83, .int 306 0, .int 34 0, .str (Str.ofString "/claim/cut.py") 307] }) ::
  (nat_lit 85, fo (st 18) "figures_end" [] (.none) (.str (Str.ofString "basicplus.tokens") 234) (.ref 84) (.none)) ::
  (nat_lit 91, { cls := .type "code", data := .fields #[.str (Str.ofString "skipped") 309, .str (Str.ofString "skipped") 310, .str (Str.ofString "/claim/cut.py") 311, .int 38 0, .int 2 0, .int 0 0, .int 0 0, .int 3 0, .ref 86, .bool true, .int 181 0, .ref 87, .none, .ref 88, .ref 89, .ref 90, .int 314 0, .int 38 0, .str (Str.ofString "/claim/cut.py") 315] }) ::
  (nat_lit 92, fo (st 19) "skipped" [] (.none) (.str (Str.ofString "basicplus.tokens") 234) (.ref 91) (.none)) ::
  (nat_lit 98, { cls := .type "code", data := .fields #[.str (Str.ofString "power_end") 317, .str (Str.ofString "power_end") 318, .str (Str.ofString "/claim/cut.py") 319, .int 42 0, .int 2 0, .int 0 0, .int 0 0, .int 3 0, .ref 93, .bool true, .int 181 0, .ref 94, .none, .ref 95, .ref 96, .ref 97, .int 324 0, .int 42 0, .str (Str.ofString "/claim/cut.py") 325] }) ::
  (nat_lit 99, fo (st 20) "power_end" [] (.none) (.str (Str.ofString "basicplus.tokens") 234) (.ref 98) (.none)) ::
  (nat_lit 105, { cls := .type "code", data := .fields #[.str (Str.ofString "number_at") 327, .str (Str.ofString "number_at") 328, .str (Str.ofString "/claim/cut.py") 329, .int 50 0, .int 2 0, .int 0 0, .int 0 0, .int 3 0, .ref 100, .bool true, .int 181 0, .ref 101, .none, .ref 102, .ref 103, .ref 104, .int 336 0, .int 50 0, .str (Str.ofString "/claim/cut.py") 337] }) ::
  (nat_lit 106, fo (st 21) "number_at" [] (.none) (.str (Str.ofString "basicplus.tokens") 234) (.ref 105) (.none)) ::
  (nat_lit 112, { cls := .type "code", data := .fields #[.str (Str.ofString "name_end") 339, .str (Str.ofString "name_end") 340, .str (Str.ofString "/claim/cut.py") 341, .int 62 0, .int 2 0, .int 0 0, .int 0 0, .int 3 0, .ref 107, .bool true, .int 181 0, .ref 108, .none, .ref 109, .ref 110, .ref 111, .int 344 0, .int 62 0, .str (Str.ofString "/claim/cut.py") 345] }) ::
  (nat_lit 113, fo (st 22) "name_end" [] (.none) (.str (Str.ofString "basicplus.tokens") 234) (.ref 112) (.none)) ::
  (nat_lit 147, { cls := .type "code", data := .fields #[.str (Str.ofString "word_at") 382, .str (Str.ofString "word_at") 383, .str (Str.ofString "/claim/cut.py") 384, .int 86 0, .int 2 0, .int 0 0, .int 0 0, .int 3 0, .ref 142, .bool true, .int 181 0, .ref 143, .none, .ref 144, .ref 145, .ref 146, .int 390 0, .int 86 0, .str (Str.ofString "/claim/cut.py") 391] }) ::
  (nat_lit 148, fo (st 27) "word_at" [] (.none) (.str (Str.ofString "basicplus.tokens") 234) (.ref 147) (.none)) ::
  (nat_lit 154, { cls := .type "code", data := .fields #[.str (Str.ofString "tokens_at") 393, .str (Str.ofString "tokens_at") 394, .str (Str.ofString "/claim/cut.py") 395, .int 95 0, .int 2 0, .int 0 0, .int 0 0, .int 3 0, .ref 149, .bool true, .int 181 0, .ref 150, .none, .ref 151, .ref 152, .ref 153, .int 401 0, .int 95 0, .str (Str.ofString "/claim/cut.py") 402] }) ::
  (nat_lit 155, fo (st 28) "tokens_at" [] (.none) (.str (Str.ofString "basicplus.tokens") 234) (.ref 154) (.none)) ::
  (nat_lit 161, { cls := .type "code", data := .fields #[.str (Str.ofString "tokens_of") 404, .str (Str.ofString "tokens_of") 405, .str (Str.ofString "/claim/cut.py") 406, .int 115 0, .int 1 0, .int 0 0, .int 0 0, .int 3 0, .ref 156, .bool true, .int 181 0, .ref 157, .none, .ref 158, .ref 159, .ref 160, .int 411 0, .int 115 0, .str (Str.ofString "/claim/cut.py") 412] }) ::
  (nat_lit 162, fo (st 29) "tokens_of" [] (.none) (.str (Str.ofString "basicplus.tokens") 234) (.ref 161) (.none)) ::
  (nat_lit 163, { cls := .type "dict", data := .dict #[⟨PyData.keyHash P (Str.ofString "IMP"), .str (Str.ofString "IMP") 416, .int 1 417⟩, ⟨PyData.keyHash P (Str.ofString "EQV"), .str (Str.ofString "EQV") 419, .int 2 420⟩, ⟨PyData.keyHash P (Str.ofString "XOR"), .str (Str.ofString "XOR") 422, .int 3 423⟩, ⟨PyData.keyHash P (Str.ofString "OR"), .str (Str.ofString "OR") 425, .int 4 426⟩, ⟨PyData.keyHash P (Str.ofString "AND"), .str (Str.ofString "AND") 428, .int 5 429⟩, ⟨PyData.keyHash P (Str.ofString "="), .str (Str.ofString "=") 431, .int 7 432⟩, ⟨PyData.keyHash P (Str.ofString "<>"), .str (Str.ofString "<>") 434, .int 7 435⟩, ⟨PyData.keyHash P (Str.ofString "<"), .str (Str.ofString "<") 437, .int 7 438⟩, ⟨PyData.keyHash P (Str.ofString ">"), .str (Str.ofString ">") 440, .int 7 441⟩, ⟨PyData.keyHash P (Str.ofString "<="), .str (Str.ofString "<=") 443, .int 7 444⟩, ⟨PyData.keyHash P (Str.ofString ">="), .str (Str.ofString ">=") 446, .int 7 447⟩, ⟨PyData.keyHash P (Str.ofString "+"), .str (Str.ofString "+") 449, .int 8 450⟩, ⟨PyData.keyHash P (Str.ofString "-"), .str (Str.ofString "-") 452, .int 8 453⟩, ⟨PyData.keyHash P (Str.ofString "MOD"), .str (Str.ofString "MOD") 455, .int 9 456⟩, ⟨PyData.keyHash P (Str.ofString "\\"), .str (Str.ofString "\\") 458, .int 10 459⟩, ⟨PyData.keyHash P (Str.ofString "*"), .str (Str.ofString "*") 461, .int 11 462⟩, ⟨PyData.keyHash P (Str.ofString "/"), .str (Str.ofString "/") 464, .int 11 465⟩, ⟨PyData.keyHash P (Str.ofString "^"), .str (Str.ofString "^") 467, .int 13 468⟩] 18 }) ::
  (nat_lit 165, { cls := .type "tuple", data := .seq #[.str (Str.ofString "ERL") 477, .str (Str.ofString "ERR") 478, .str (Str.ofString "FRE") 479, .str (Str.ofString "PI") 480, .str (Str.ofString "POS") 481, .str (Str.ofString "RND") 482] 0 }) ::
  (nat_lit 166, { cls := .type "tuple", data := .seq #[.str (Str.ofString "end") 484, .str (Str.ofString "") 485] 0 }) ::
  (nat_lit 172, { cls := .type "code", data := .fields #[.str (Str.ofString "token_at") 491, .str (Str.ofString "token_at") 492, .str (Str.ofString "/claim/cut.py") 493, .int 133 0, .int 2 0, .int 0 0, .int 0 0, .int 3 0, .ref 167, .bool true, .int 181 0, .ref 168, .none, .ref 169, .ref 170, .ref 171, .int 496 0, .int 133 0, .str (Str.ofString "/claim/cut.py") 497] }) ::
  (nat_lit 173, fo (st 39) "token_at" [] (.none) (.str (Str.ofString "basicplus.exprread") 414) (.ref 172) (.none)) ::
  (nat_lit 179, { cls := .type "code", data := .fields #[.str (Str.ofString "is_sign") 499, .str (Str.ofString "is_sign") 500, .str (Str.ofString "/claim/cut.py") 501, .int 135 0, .int 3 0, .int 0 0, .int 0 0, .int 3 0, .ref 174, .bool true, .int 181 0, .ref 175, .none, .ref 176, .ref 177, .ref 178, .int 505 0, .int 135 0, .str (Str.ofString "/claim/cut.py") 506] }) ::
  (nat_lit 180, fo (st 40) "is_sign" [] (.none) (.str (Str.ofString "basicplus.exprread") 414) (.ref 179) (.none)) ::
  (nat_lit 186, { cls := .type "code", data := .fields #[.str (Str.ofString "expect") 508, .str (Str.ofString "expect") 509, .str (Str.ofString "/claim/cut.py") 510, .int 137 0, .int 3 0, .int 0 0, .int 0 0, .int 3 0, .ref 181, .bool true, .int 181 0, .ref 182, .none, .ref 183, .ref 184, .ref 185, .int 514 0, .int 137 0, .str (Str.ofString "/claim/cut.py") 515] }) ::
  (nat_lit 187, fo (st 41) "expect" [] (.none) (.str (Str.ofString "basicplus.exprread") 414) (.ref 186) (.none)) ::
  (nat_lit 214, { cls := .type "code", data := .fields #[.str (Str.ofString "number_tree") 548, .str (Str.ofString "number_tree") 549, .str (Str.ofString "/claim/cut.py") 550, .int 166 0, .int 1 0, .int 0 0, .int 0 0, .int 3 0, .ref 209, .bool true, .int 181 0, .ref 210, .none, .ref 211, .ref 212, .ref 213, .int 558 0, .int 166 0, .str (Str.ofString "/claim/cut.py") 559] }) ::
  (nat_lit 215, fo (st 45) "number_tree" [] (.none) (.str (Str.ofString "basicplus.exprread") 414) (.ref 214) (.none)) ::
  (nat_lit 228, { cls := .type "code", data := .fields #[.str (Str.ofString "__init__") 573, .str (Str.ofString "Level.__init__") 574, .str (Str.ofString "/claim/cut.py") 575, .int 177 0, .int 3 0, .int 0 0, .int 0 0, .int 3 0, .ref 223, .bool true, .int 181 0, .ref 224, .none, .ref 225, .ref 226, .ref 227, .int 579 0, .int 177 0, .str (Str.ofString "/claim/cut.py") 580] }) ::
  (nat_lit 229, fo (meth 46 0) "Level.__init__" [] (.none) (.str (Str.ofString "basicplus.exprread") 414) (.ref 228) (.none)) ::
  (nat_lit 231, { cls := .type "dict", data := .dict #[⟨PyData.keyHash P (Str.ofString "__module__"), .str (Str.ofString "__module__") 568, .str (Str.ofString "basicplus.exprread") 414⟩, ⟨PyData.keyHash P (Str.ofString "__firstlineno__"), .str (Str.ofString "__firstlineno__") 572, .int 175 571⟩, ⟨PyData.keyHash P (Str.ofString "__init__"), .str (Str.ofString "__init__") 581, .ref 229⟩, ⟨PyData.keyHash P (Str.ofString "__static_attributes__"), .str (Str.ofString "__static_attributes__") 587, .ref 230⟩, ⟨PyData.keyHash P (Str.ofString "__dict__"), .str (Str.ofString "__dict__") 589, .ref 233⟩, ⟨PyData.keyHash P (Str.ofString "__weakref__"), .str (Str.ofString "__weakref__") 591, .ref 234⟩, ⟨PyData.keyHash P (Str.ofString "__doc__"), .str (Str.ofString "__doc__") 592, .none⟩] 4 }) ::
  (nat_lit 232, { cls := .type "type", data := .cls { name := Str.ofString "Level", bases := [.type "object"], mro := [.ref 232, .type "object"], ns := 231, qualname := Str.ofString "Level" }, slots := #[none, none, some (.str (Str.ofString "Level") 561), some (.str (Str.ofString "Level") 569), some (.builtin "object.__new__"), some (.bool true)] }) ::
  (nat_lit 242, { cls := .type "code", data := .fields #[.str (Str.ofString "join_up") 595, .str (Str.ofString "join_up") 596, .str (Str.ofString "/claim/cut.py") 597, .int 183 0, .int 2 0, .int 0 0, .int 0 0, .int 3 0, .ref 237, .bool true, .int 181 0, .ref 238, .none, .ref 239, .ref 240, .ref 241, .int 602 0, .int 183 0, .str (Str.ofString "/claim/cut.py") 603] }) ::
  (nat_lit 243, fo (st 47) "join_up" [] (.none) (.str (Str.ofString "basicplus.exprread") 414) (.ref 242) (.none)) ::
  (nat_lit 249, { cls := .type "code", data := .fields #[.str (Str.ofString "finished") 605, .str (Str.ofString "finished") 606, .str (Str.ofString "/claim/cut.py") 607, .int 191 0, .int 1 0, .int 0 0, .int 0 0, .int 3 0, .ref 244, .bool true, .int 181 0, .ref 245, .none, .ref 246, .ref 247, .ref 248, .int 610 0, .int 191 0, .str (Str.ofString "/claim/cut.py") 611] }) ::
  (nat_lit 250, fo (st 48) "finished" [] (.none) (.str (Str.ofString "basicplus.exprread") 414) (.ref 249) (.none)) ::
  (nat_lit 256, { cls := .type "code", data := .fields #[.str (Str.ofString "opened") 613, .str (Str.ofString "opened") 614, .str (Str.ofString "/claim/cut.py") 615, .int 197 0, .int 3 0, .int 0 0, .int 0 0, .int 3 0, .ref 251, .bool true, .int 181 0, .ref 252, .none, .ref 253, .ref 254, .ref 255, .int 619 0, .int 197 0, .str (Str.ofString "/claim/cut.py") 620] }) ::
  (nat_lit 257, fo (st 49) "opened" [] (.none) (.str (Str.ofString "basicplus.exprread") 414) (.ref 256) (.none)) ::
  (nat_lit 263, { cls := .type "code", data := .fields #[.str (Str.ofString "plain_operand") 622, .str (Str.ofString "plain_operand") 623, .str (Str.ofString "/claim/cut.py") 624, .int 201 0, .int 2 0, .int 0 0, .int 0 0, .int 3 0, .ref 258, .bool true, .int 181 0, .ref 259, .none, .ref 260, .ref 261, .ref 262, .int 629 0, .int 201 0, .str (Str.ofString "/claim/cut.py") 630] }) ::
  (nat_lit 264, fo (st 50) "plain_operand" [] (.none) (.str (Str.ofString "basicplus.exprread") 414) (.ref 263) (.none)) ::
  (nat_lit 270, { cls := .type "code", data := .fields #[.str (Str.ofString "take_operand") 632, .str (Str.ofString "take_operand") 633, .str (Str.ofString "/claim/cut.py") 634, .int 212 0, .int 4 0, .int 0 0, .int 0 0, .int 3 0, .ref 265, .bool true, .int 181 0, .ref 266, .none, .ref 267, .ref 268, .ref 269, .int 642 0, .int 212 0, .str (Str.ofString "/claim/cut.py") 643] }) ::
  (nat_lit 271, fo (st 51) "take_operand" [] (.none) (.str (Str.ofString "basicplus.exprread") 414) (.ref 270) (.none)) ::
  (nat_lit 277, { cls := .type "code", data := .fields #[.str (Str.ofString "take_operator") 645, .str (Str.ofString "take_operator") 646, .str (Str.ofString "/claim/cut.py") 647, .int 230 0, .int 3 0, .int 0 0, .int 0 0, .int 3 0, .ref 272, .bool true, .int 181 0, .ref 273, .none, .ref 274, .ref 275, .ref 276, .int 654 0, .int 230 0, .str (Str.ofString "/claim/cut.py") 655] }) ::
  (nat_lit 278, fo (st 52) "take_operator" [] (.none) (.str (Str.ofString "basicplus.exprread") 414) (.ref 277) (.none)) ::
  (nat_lit 284, { cls := .type "code", data := .fields #[.str (Str.ofString "expression") 657, .str (Str.ofString "expression") 658, .str (Str.ofString "/claim/cut.py") 659, .int 247 0, .int 2 0, .int 0 0, .int 0 0, .int 3 0, .ref 279, .bool true, .int 181 0, .ref 280, .none, .ref 281, .ref 282, .ref 283, .int 666 0, .int 247 0, .str (Str.ofString "/claim/cut.py") 667] }) ::
  (nat_lit 285, fo (st 53) "expression" [] (.none) (.str (Str.ofString "basicplus.exprread") 414) (.ref 284) (.none)) ::
  (nat_lit 305, { cls := .type "code", data := .fields #[.str (Str.ofString "is_word") 694, .str (Str.ofString "is_word") 695, .str (Str.ofString "/claim/cut.py") 696, .int 273 0, .int 3 0, .int 0 0, .int 0 0, .int 3 0, .ref 300, .bool true, .int 181 0, .ref 301, .none, .ref 302, .ref 303, .ref 304, .int 700 0, .int 273 0, .str (Str.ofString "/claim/cut.py") 701] }) ::
  (nat_lit 306, fo (st 58) "is_word" [] (.none) (.str (Str.ofString "basicplus.stmtparts") 690) (.ref 305) (.none)) ::
  (nat_lit 312, { cls := .type "code", data := .fields #[.str (Str.ofString "is_end") 704, .str (Str.ofString "is_end") 705, .str (Str.ofString "/claim/cut.py") 706, .int 276 0, .int 2 0, .int 0 0, .int 0 0, .int 3 0, .ref 307, .bool true, .int 181 0, .ref 308, .none, .ref 309, .ref 310, .ref 311, .int 711 0, .int 276 0, .str (Str.ofString "/claim/cut.py") 712] }) ::
  (nat_lit 313, fo (st 60) "is_end" [] (.none) (.str (Str.ofString "basicplus.stmtparts") 690) (.ref 312) (.none)) ::
  (nat_lit 319, { cls := .type "code", data := .fields #[.str (Str.ofString "need_word") 714, .str (Str.ofString "need_word") 715, .str (Str.ofString "/claim/cut.py") 716, .int 279 0, .int 3 0, .int 0 0, .int 0 0, .int 3 0, .ref 314, .bool true, .int 181 0, .ref 315, .none, .ref 316, .ref 317, .ref 318, .int 720 0, .int 279 0, .str (Str.ofString "/claim/cut.py") 721] }) ::
  (nat_lit 320, fo (st 61) "need_word" [] (.none) (.str (Str.ofString "basicplus.stmtparts") 690) (.ref 319) (.none)) ::
  (nat_lit 326, { cls := .type "code", data := .fields #[.str (Str.ofString "line_number") 723, .str (Str.ofString "line_number") 724, .str (Str.ofString "/claim/cut.py") 725, .int 283 0, .int 2 0, .int 0 0, .int 0 0, .int 3 0, .ref 321, .bool true, .int 181 0, .ref 322, .none, .ref 323, .ref 324, .ref 325, .int 732 0, .int 283 0, .str (Str.ofString "/claim/cut.py") 733] }) ::
  (nat_lit 327, fo (st 62) "line_number" [] (.none) (.str (Str.ofString "basicplus.stmtparts") 690) (.ref 326) (.none)) ::
  (nat_lit 450, { cls := .type "code", data := .fields #[.str (Str.ofString "declarations") 899, .str (Str.ofString "declarations") 900, .str (Str.ofString "/claim/cut.py") 901, .int 402 0, .int 0 0, .int 0 0, .int 0 0, .int 3 0, .ref 445, .bool true, .int 181 0, .ref 446, .none, .ref 447, .ref 448, .ref 449, .int 902 0, .int 402 0, .str (Str.ofString "/claim/cut.py") 903] }) ::
  (nat_lit 451, fo (st 81) "declarations" [] (.none) (.str (Str.ofString "basicplus.declread") 784) (.ref 450) (.none)) ::
  (nat_lit 549, { cls := .type "code", data := .fields #[.str (Str.ofString "file_statements") 1049, .str (Str.ofString "file_statements") 1050, .str (Str.ofString "/claim/cut.py") 1051, .int 485 0, .int 0 0, .int 0 0, .int 0 0, .int 3 0, .ref 544, .bool true, .int 181 0, .ref 545, .none, .ref 546, .ref 547, .ref 548, .int 1052 0, .int 485 0, .str (Str.ofString "/claim/cut.py") 1053] }) ::
  (nat_lit 550, fo (st 97) "file_statements" [] (.none) (.str (Str.ofString "basicplus.fileread") 905) (.ref 549) (.none)) ::
  (nat_lit 595, { cls := .type "dict", data := .dict #[⟨PyData.keyHash P (Str.ofString "WEND"), .str (Str.ofString "WEND") 1138, .str (Str.ofString "WEND") 1139⟩, ⟨PyData.keyHash P (Str.ofString "FNEND"), .str (Str.ofString "FNEND") 1140, .str (Str.ofString "FNEND") 1141⟩, ⟨PyData.keyHash P (Str.ofString "STOP"), .str (Str.ofString "STOP") 1142, .str (Str.ofString "STOP") 1143⟩, ⟨PyData.keyHash P (Str.ofString "END"), .str (Str.ofString "END") 1144, .str (Str.ofString "END") 1145⟩, ⟨PyData.keyHash P (Str.ofString "TRON"), .str (Str.ofString "TRON") 1146, .str (Str.ofString "TRON") 1147⟩, ⟨PyData.keyHash P (Str.ofString "TROFF"), .str (Str.ofString "TROFF") 1148, .str (Str.ofString "TROFF") 1149⟩] 6 }) ::
  (nat_lit 596, { cls := .type "dict", data := .dict #[⟨PyData.keyHash P (Str.ofString "DEFINT"), .str (Str.ofString "DEFINT") 1157, .str (Str.ofString "whole") 1158⟩, ⟨PyData.keyHash P (Str.ofString "DEFSNG"), .str (Str.ofString "DEFSNG") 1159, .str (Str.ofString "decimal") 1160⟩, ⟨PyData.keyHash P (Str.ofString "DEFSTR"), .str (Str.ofString "DEFSTR") 1161, .str (Str.ofString "text") 1162⟩] 3 }) ::
  (nat_lit 658, { cls := .type "code", data := .fields #[.str (Str.ofString "read_goto") 1259, .str (Str.ofString "read_goto") 1260, .str (Str.ofString "/claim/cut.py") 1261, .int 619 0, .int 2 0, .int 0 0, .int 0 0, .int 3 0, .ref 653, .bool true, .int 181 0, .ref 654, .none, .ref 655, .ref 656, .ref 657, .int 1265 0, .int 619 0, .str (Str.ofString "/claim/cut.py") 1266] }) ::
  (nat_lit 659, fo (st 119) "read_goto" [] (.none) (.str (Str.ofString "basicplus.stmtread") 1134) (.ref 658) (.none)) ::
  (nat_lit 665, { cls := .type "code", data := .fields #[.str (Str.ofString "read_gosub") 1268, .str (Str.ofString "read_gosub") 1269, .str (Str.ofString "/claim/cut.py") 1270, .int 622 0, .int 2 0, .int 0 0, .int 0 0, .int 3 0, .ref 660, .bool true, .int 181 0, .ref 661, .none, .ref 662, .ref 663, .ref 664, .int 1274 0, .int 622 0, .str (Str.ofString "/claim/cut.py") 1275] }) ::
  (nat_lit 666, fo (st 120) "read_gosub" [] (.none) (.str (Str.ofString "basicplus.stmtread") 1134) (.ref 665) (.none)) ::
  (nat_lit 714, { cls := .type "code", data := .fields #[.str (Str.ofString "read_next") 1336, .str (Str.ofString "read_next") 1337, .str (Str.ofString "/claim/cut.py") 1338, .int 654 0, .int 2 0, .int 0 0, .int 0 0, .int 3 0, .ref 709, .bool true, .int 181 0, .ref 710, .none, .ref 711, .ref 712, .ref 713, .int 1342 0, .int 654 0, .str (Str.ofString "/claim/cut.py") 1343] }) ::
  (nat_lit 715, fo (st 127) "read_next" [] (.none) (.str (Str.ofString "basicplus.stmtread") 1134) (.ref 714) (.none)) ::
  (nat_lit 728, { cls := .type "code", data := .fields #[.str (Str.ofString "statement_readers") 1354, .str (Str.ofString "statement_readers") 1355, .str (Str.ofString "/claim/cut.py") 1356, .int 660 0, .int 0 0, .int 0 0, .int 0 0, .int 3 0, .ref 723, .bool true, .int 181 0, .ref 724, .none, .ref 725, .ref 726, .ref 727, .int 1358 0, .int 660 0, .str (Str.ofString "/claim/cut.py") 1359] }) ::
  (nat_lit 729, fo (st 129) "statement_readers" [] (.none) (.str (Str.ofString "basicplus.stmtread") 1134) (.ref 728) (.none)) ::
  (nat_lit 735, { cls := .type "code", data := .fields #[.str (Str.ofString "read_one") 1361, .str (Str.ofString "read_one") 1362, .str (Str.ofString "/claim/cut.py") 1363, .int 665 0, .int 4 0, .int 0 0, .int 0 0, .int 3 0, .ref 730, .bool true, .int 181 0, .ref 731, .none, .ref 732, .ref 733, .ref 734, .int 1371 0, .int 665 0, .str (Str.ofString "/claim/cut.py") 1372] }) ::
  (nat_lit 736, fo (st 130) "read_one" [] (.none) (.str (Str.ofString "basicplus.stmtread") 1134) (.ref 735) (.none)) ::
  (nat_lit 742, { cls := .type "code", data := .fields #[.str (Str.ofString "read_part") 1374, .str (Str.ofString "read_part") 1375, .str (Str.ofString "/claim/cut.py") 1376, .int 683 0, .int 4 0, .int 0 0, .int 0 0, .int 3 0, .ref 737, .bool true, .int 181 0, .ref 738, .none, .ref 739, .ref 740, .ref 741, .int 1384 0, .int 683 0, .str (Str.ofString "/claim/cut.py") 1385] }) ::
  (nat_lit 743, fo (st 131) "read_part" [] (.none) (.str (Str.ofString "basicplus.stmtread") 1134) (.ref 742) (.none)) ::
  (nat_lit 749, { cls := .type "code", data := .fields #[.str (Str.ofString "read_if") 1387, .str (Str.ofString "read_if") 1388, .str (Str.ofString "/claim/cut.py") 1389, .int 692 0, .int 4 0, .int 0 0, .int 0 0, .int 3 0, .ref 744, .bool true, .int 181 0, .ref 745, .none, .ref 746, .ref 747, .ref 748, .int 1398 0, .int 692 0, .str (Str.ofString "/claim/cut.py") 1399] }) ::
  (nat_lit 750, fo (st 132) "read_if" [] (.none) (.str (Str.ofString "basicplus.stmtread") 1134) (.ref 749) (.none)) ::
  (nat_lit 756, { cls := .type "code", data := .fields #[.str (Str.ofString "read_some") 1401, .str (Str.ofString "read_some") 1402, .str (Str.ofString "/claim/cut.py") 1403, .int 702 0, .int 4 0, .int 0 0, .int 0 0, .int 3 0, .ref 751, .bool true, .int 181 0, .ref 752, .none, .ref 753, .ref 754, .ref 755, .int 1412 0, .int 702 0, .str (Str.ofString "/claim/cut.py") 1413] }) ::
  (nat_lit 757, fo (st 133) "read_some" [] (.none) (.str (Str.ofString "basicplus.stmtread") 1134) (.ref 756) (.none)) ::
  (nat_lit 763, { cls := .type "code", data := .fields #[.str (Str.ofString "read_row") 1415, .str (Str.ofString "read_row") 1416, .str (Str.ofString "/claim/cut.py") 1417, .int 714 0, .int 1 0, .int 0 0, .int 0 0, .int 3 0, .ref 758, .bool true, .int 181 0, .ref 759, .none, .ref 760, .ref 761, .ref 762, .int 1422 0, .int 714 0, .str (Str.ofString "/claim/cut.py") 1423] }) ::
  (nat_lit 764, fo (st 134) "read_row" [] (.none) (.str (Str.ofString "basicplus.stmtread") 1134) (.ref 763) (.none)) ::
  (nat_lit 770, { cls := .type "code", data := .fields #[.str (Str.ofString "_law_grab") 1427, .str (Str.ofString "_law_grab") 1428, .str (Str.ofString "/claim/cut.py") 1429, .int 719 0, .int 2 0, .int 0 0, .int 0 0, .int 3 0, .ref 765, .bool true, .int 181 0, .ref 766, .none, .ref 767, .ref 768, .ref 769, .int 1432 0, .int 719 0, .str (Str.ofString "/claim/cut.py") 1433] }) ::
  (nat_lit 771, fo (st 136) "_law_grab" [] (.none) (.str (Str.ofString "law_pq0154_01") 1425) (.ref 770) (.none)) ::
  (nat_lit 777, { cls := .type "code", data := .fields #[.str (Str.ofString "_law_heard") 1435, .str (Str.ofString "_law_heard") 1436, .str (Str.ofString "/claim/cut.py") 1437, .int 724 0, .int 1 0, .int 0 0, .int 0 0, .int 3 0, .ref 772, .bool true, .int 181 0, .ref 773, .none, .ref 774, .ref 775, .ref 776, .int 1440 0, .int 724 0, .str (Str.ofString "/claim/cut.py") 1441] }) ::
  (nat_lit 778, fo (st 137) "_law_heard" [] (.none) (.str (Str.ofString "law_pq0154_01") 1425) (.ref 777) (.none)) ::
  (nat_lit 784, { cls := .type "code", data := .fields #[.str (Str.ofString "_law_events") 1443, .str (Str.ofString "_law_events") 1444, .str (Str.ofString "/claim/cut.py") 1445, .int 729 0, .int 1 0, .int 0 0, .int 0 0, .int 3 0, .ref 779, .bool true, .int 181 0, .ref 780, .none, .ref 781, .ref 782, .ref 783, .int 1452 0, .int 729 0, .str (Str.ofString "/claim/cut.py") 1453] }) ::
  (nat_lit 785, fo (st 138) "_law_events" [] (.none) (.str (Str.ofString "law_pq0154_01") 1425) (.ref 784) (.none)) ::
  (nat_lit 791, { cls := .type "code", data := .fields #[.str (Str.ofString "_law_deed") 1455, .str (Str.ofString "_law_deed") 1456, .str (Str.ofString "/claim/cut.py") 1457, .int 743 0, .int 1 0, .int 0 0, .int 0 0, .int 3 0, .ref 786, .bool true, .int 181 0, .ref 787, .none, .ref 788, .ref 789, .ref 790, .int 1460 0, .int 743 0, .str (Str.ofString "/claim/cut.py") 1461] }) ::
  (nat_lit 792, fo (st 139) "_law_deed" [] (.none) (.str (Str.ofString "law_pq0154_01") 1425) (.ref 791) (.none)) ::
  (nat_lit 798, { cls := .type "code", data := .fields #[.str (Str.ofString "_law_row") 1463, .str (Str.ofString "_law_row") 1464, .str (Str.ofString "/claim/cut.py") 1465, .int 746 0, .int 1 0, .int 0 0, .int 0 0, .int 3 0, .ref 793, .bool true, .int 181 0, .ref 794, .none, .ref 795, .ref 796, .ref 797, .int 1470 0, .int 746 0, .str (Str.ofString "/claim/cut.py") 1471] }) ::
  (nat_lit 799, fo (st 140) "_law_row" [] (.none) (.str (Str.ofString "law_pq0154_01") 1425) (.ref 798) (.none)) ::
  (nat_lit 805, { cls := .type "code", data := .fields #[.str (Str.ofString "_law_due") 1473, .str (Str.ofString "_law_due") 1474, .str (Str.ofString "/claim/cut.py") 1475, .int 757 0, .int 1 0, .int 0 0, .int 0 0, .int 3 0, .ref 800, .bool true, .int 181 0, .ref 801, .none, .ref 802, .ref 803, .ref 804, .int 1483 0, .int 757 0, .str (Str.ofString "/claim/cut.py") 1484] }) ::
  (nat_lit 806, fo (st 141) "_law_due" [] (.none) (.str (Str.ofString "law_pq0154_01") 1425) (.ref 805) (.none)) ::
  (nat_lit 810, { cls := .type "code", data := .fields #[.str (Str.ofString "law") 1486, .str (Str.ofString "law") 1487, .str (Str.ofString "/claim/cut.py") 1488, .int 771 0, .int 1 0, .int 0 0, .int 0 0, .int 3 0, .ref 807, .bool true, .int 181 0, .ref 808, .none, .none, .none, .ref 809, .int 1489 0, .int 771 0, .str (Str.ofString "/claim/cut.py") 1490] }) ::
  (nat_lit 811, fo (st 142) "law" [] (.none) (.str (Str.ofString "law_pq0154_01") 1425) (.ref 810) (.none)) :: []
noncomputable def as_39 : List Addr := [2, 3, 18, 23, 24, 30, 31, 33, 34, 45, 51, 52, 58, 59, 65, 66, 72, 73, 77, 78, 84, 85, 91, 92, 98, 99, 105, 106, 112, 113, 147, 148, 154, 155, 161, 162, 163, 165, 166, 172, 173, 179, 180, 186, 187, 214, 215, 228, 229, 231, 232, 242, 243, 249, 250, 256, 257, 263, 264, 270, 271, 277, 278, 284, 285, 305, 306, 312, 313, 319, 320, 326, 327, 450, 451, 549, 550, 595, 596, 658, 659, 665, 666, 714, 715, 728, 729, 735, 736, 742, 743, 749, 750, 756, 757, 763, 764, 770, 771, 777, 778, 784, 785, 791, 792, 798, 799, 805, 806, 810, 811]
theorem both {a b : Bool} (x : a = true) (y : b = true) : (a && b) = true := by rw [x, y]; rfl
noncomputable def lk0 : Look := { strict := false, foot := none, bare := [] }
theorem nr_app {lk : Look} : ∀ {x y : List Stmt}, noRoadLSs lk x = true → noRoadLSs lk y = true → noRoadLSs lk (x ++ y) = true
  | [], _, _, h => h
  | s :: r, y, h, k => by
    rw [List.cons_append]
    unfold noRoadLSs at h ⊢
    exact both (Bool.and_eq_true_iff.mp h).1 (nr_app (Bool.and_eq_true_iff.mp h).2 k)
theorem nr_step {lk : Look} {f : Look → List Stmt → Bool} (e : noRoadLSs = f) {l : List Stmt} {a b : Nat} (h : f lk ((l.drop a).take b) = true) (k : noRoadLSs lk (l.drop (a + b)) = true) : noRoadLSs lk (l.drop a) = true := by
  subst e
  have := nr_app h k
  rwa [show l.drop (a + b) = (l.drop a).drop b from by rw [List.drop_drop], List.take_append_drop] at this
theorem nr_of {lk lk' : Look} {f : Look → List Stmt → Bool} (e : noRoadLSs = f) {l l' : List Stmt} (h1 : lk = lk') (h2 : l = l') (h : noRoadLSs lk' l' = true) : f lk l = true := by
  subst e h1 h2; exact h
theorem lk_of {s : Bool} {b : List Str} (h1 : s = false) (h2 : b = []) : ({ strict := s, foot := none, bare := b } : Look) = lk0 := by subst h1 h2; rfl
theorem fil3 {f : Str → Bool} {a b c : Str} (h1 : f a = false) (h2 : f b = false) (h3 : f c = false) : PySem.W.R.filterR f [a, b, c] = [] := by
  rw [← PySem.W.R.filterR_eq]
  simp [h1, h2, h3]
theorem nr18 : noRoadLSs lk0 (P0.main.body.drop 143) = true := by kernel_rfl
theorem nc17 : PySem.W.Fast.tw8326940854005059898 lk0 ((P0.main.body.drop 136).take 7) = true := by kernel_rfl
theorem nr17 : noRoadLSs lk0 (P0.main.body.drop 136) = true := nr_step PySem.W.Fast.te8326940854005059898 nc17 nr18
theorem nc16 : PySem.W.Fast.tw8326940854005059898 lk0 ((P0.main.body.drop 128).take 8) = true := by kernel_rfl
theorem nr16 : noRoadLSs lk0 (P0.main.body.drop 128) = true := nr_step PySem.W.Fast.te8326940854005059898 nc16 nr17
theorem nc15 : PySem.W.Fast.tw8326940854005059898 lk0 ((P0.main.body.drop 120).take 8) = true := by kernel_rfl
theorem nr15 : noRoadLSs lk0 (P0.main.body.drop 120) = true := nr_step PySem.W.Fast.te8326940854005059898 nc15 nr16
theorem nc14 : PySem.W.Fast.tw8326940854005059898 lk0 ((P0.main.body.drop 112).take 8) = true := by kernel_rfl
theorem nr14 : noRoadLSs lk0 (P0.main.body.drop 112) = true := nr_step PySem.W.Fast.te8326940854005059898 nc14 nr15
theorem nc13 : PySem.W.Fast.tw8326940854005059898 lk0 ((P0.main.body.drop 104).take 8) = true := by kernel_rfl
theorem nr13 : noRoadLSs lk0 (P0.main.body.drop 104) = true := nr_step PySem.W.Fast.te8326940854005059898 nc13 nr14
theorem nc12 : PySem.W.Fast.tw8326940854005059898 lk0 ((P0.main.body.drop 96).take 8) = true := by kernel_rfl
theorem nr12 : noRoadLSs lk0 (P0.main.body.drop 96) = true := nr_step PySem.W.Fast.te8326940854005059898 nc12 nr13
theorem nc11 : PySem.W.Fast.tw8326940854005059898 lk0 ((P0.main.body.drop 88).take 8) = true := by kernel_rfl
theorem nr11 : noRoadLSs lk0 (P0.main.body.drop 88) = true := nr_step PySem.W.Fast.te8326940854005059898 nc11 nr12
theorem nc10 : PySem.W.Fast.tw8326940854005059898 lk0 ((P0.main.body.drop 80).take 8) = true := by kernel_rfl
theorem nr10 : noRoadLSs lk0 (P0.main.body.drop 80) = true := nr_step PySem.W.Fast.te8326940854005059898 nc10 nr11
theorem nc9 : PySem.W.Fast.tw8326940854005059898 lk0 ((P0.main.body.drop 72).take 8) = true := by kernel_rfl
theorem nr9 : noRoadLSs lk0 (P0.main.body.drop 72) = true := nr_step PySem.W.Fast.te8326940854005059898 nc9 nr10
theorem nc8 : PySem.W.Fast.tw8326940854005059898 lk0 ((P0.main.body.drop 64).take 8) = true := by kernel_rfl
theorem nr8 : noRoadLSs lk0 (P0.main.body.drop 64) = true := nr_step PySem.W.Fast.te8326940854005059898 nc8 nr9
theorem nc7 : PySem.W.Fast.tw8326940854005059898 lk0 ((P0.main.body.drop 56).take 8) = true := by kernel_rfl
theorem nr7 : noRoadLSs lk0 (P0.main.body.drop 56) = true := nr_step PySem.W.Fast.te8326940854005059898 nc7 nr8
theorem nc6 : PySem.W.Fast.tw8326940854005059898 lk0 ((P0.main.body.drop 48).take 8) = true := by kernel_rfl
theorem nr6 : noRoadLSs lk0 (P0.main.body.drop 48) = true := nr_step PySem.W.Fast.te8326940854005059898 nc6 nr7
theorem nc5 : PySem.W.Fast.tw8326940854005059898 lk0 ((P0.main.body.drop 40).take 8) = true := by kernel_rfl
theorem nr5 : noRoadLSs lk0 (P0.main.body.drop 40) = true := nr_step PySem.W.Fast.te8326940854005059898 nc5 nr6
theorem nc4 : PySem.W.Fast.tw8326940854005059898 lk0 ((P0.main.body.drop 32).take 8) = true := by kernel_rfl
theorem nr4 : noRoadLSs lk0 (P0.main.body.drop 32) = true := nr_step PySem.W.Fast.te8326940854005059898 nc4 nr5
theorem nc3 : PySem.W.Fast.tw8326940854005059898 lk0 ((P0.main.body.drop 24).take 8) = true := by kernel_rfl
theorem nr3 : noRoadLSs lk0 (P0.main.body.drop 24) = true := nr_step PySem.W.Fast.te8326940854005059898 nc3 nr4
theorem nc2 : PySem.W.Fast.tw8326940854005059898 lk0 ((P0.main.body.drop 16).take 8) = true := by kernel_rfl
theorem nr2 : noRoadLSs lk0 (P0.main.body.drop 16) = true := nr_step PySem.W.Fast.te8326940854005059898 nc2 nr3
theorem nc1 : PySem.W.Fast.tw8326940854005059898 lk0 ((P0.main.body.drop 8).take 8) = true := by kernel_rfl
theorem nr1 : noRoadLSs lk0 (P0.main.body.drop 8) = true := nr_step PySem.W.Fast.te8326940854005059898 nc1 nr2
theorem nc0 : PySem.W.Fast.tw8326940854005059898 lk0 ((P0.main.body.drop 0).take 8) = true := by kernel_rfl
theorem nr0 : noRoadLSs lk0 (P0.main.body.drop 0) = true := nr_step PySem.W.Fast.te8326940854005059898 nc0 nr1
theorem said_ok : PySem.Challenge.rw_pq0154_01.wellSaid = true := by
  rw [PySem.W.Fast.te9446332074065402090]
  unfold PySem.W.Fast.tw9446332074065402090 PySem.W.Fast.tw17960256430627541270 PySem.W.Fast.tw2436336058641802641 PySem.W.Fast.tw12908688711261696721
  repeat' (with_reducible refine both ?_ ?_)
  rotate_left 4
  refine nr_of PySem.W.Fast.te8326940854005059898 (lk' := lk0) (l' := P0.main.body) ?_ ?_ nr0
  refine lk_of ?_ ?_
  rotate_left
  refine fil3 ?_ ?_ ?_
  all_goals (as_aux_lemma => kernel_rfl)
noncomputable def view_39 : Program := view P0 [142]
noncomputable def lo_39 : List Str := [Str.ofString "MOST_EXPONENT", Str.ofString "BasicError", Str.ofString "figures_of", Str.ofString "MOST_SIGNS", Str.ofString "MOST_FIGURES_tokens", Str.ofString "SIGNS", Str.ofString "ORDERS", Str.ofString "PAIRS", Str.ofString "WORDS", Str.ofString "FUNCTION_WORDS", Str.ofString "functions", Str.ofString "is_word", Str.ofString "is_word_tokens", Str.ofString "is_letter", Str.ofString "is_figure", Str.ofString "capital", Str.ofString "figures_end", Str.ofString "skipped", Str.ofString "power_end", Str.ofString "number_at", Str.ofString "name_end", Str.ofString "text_at", Str.ofString "order_at", Str.ofString "data_end", Str.ofString "remark_of", Str.ofString "word_at", Str.ofString "tokens_at", Str.ofString "tokens_of", Str.ofString "STRENGTH", Str.ofString "NOT_STRENGTH", Str.ofString "MINUS_STRENGTH", Str.ofString "MOST_OPEN", Str.ofString "NO_ARGS", Str.ofString "NO_TOKEN", Str.ofString "MOST_FIGURES_exprread", Str.ofString "MOST_POWER", Str.ofString "token_at", Str.ofString "is_sign", Str.ofString "expect", Str.ofString "figures_at", Str.ofString "power_at", Str.ofString "told_exactly", Str.ofString "number_tree", Str.ofString "Level", Str.ofString "join_up", Str.ofString "finished", Str.ofString "opened", Str.ofString "plain_operand", Str.ofString "take_operand", Str.ofString "take_operator", Str.ofString "expression", Str.ofString "expressions", Str.ofString "target", Str.ofString "MOST_LINE", Str.ofString "is_word_stmtparts", Str.ofString "is_end", Str.ofString "need_word", Str.ofString "line_number", Str.ofString "line_numbers", Str.ofString "plain_name", Str.ofString "plain_names", Str.ofString "targets", Str.ofString "channel_at", Str.ofString "read_def", Str.ofString "read_dim", Str.ofString "read_erase", Str.ofString "read_option", Str.ofString "pieces_of", Str.ofString "read_data", Str.ofString "read_read", Str.ofString "letter_at", Str.ofString "read_kinds", Str.ofString "read_swap", Str.ofString "read_error", Str.ofString "read_randomize", Str.ofString "declarations", Str.ofString "MODES", Str.ofString "numbered_channel", Str.ofString "read_open", Str.ofString "read_close", Str.ofString "read_field", Str.ofString "read_set", Str.ofString "read_lset", Str.ofString "read_rset", Str.ofString "read_move", Str.ofString "read_get", Str.ofString "read_put", Str.ofString "read_write", Str.ofString "read_chain", Str.ofString "read_common", Str.ofString "file_statements", Str.ofString "FILLS", Str.ofString "SIGNS_OF_TWO", Str.ofString "bounds_at", Str.ofString "read_rows", Str.ofString "read_shown", Str.ofString "read_of_one", Str.ofString "read_form", Str.ofString "read_mat", Str.ofString "MOST_NESTED", Str.ofString "ONE_WORD", Str.ofString "KIND_WORDS", Str.ofString "read_let", Str.ofString "read_middle", Str.ofString "item_at", Str.ofString "read_print", Str.ofString "read_using", Str.ofString "prompt_at", Str.ofString "read_input", Str.ofString "read_line", Str.ofString "read_goto", Str.ofString "read_gosub", Str.ofString "read_on", Str.ofString "line_or_none", Str.ofString "read_return", Str.ofString "read_restore", Str.ofString "read_resume", Str.ofString "read_for", Str.ofString "read_next", Str.ofString "read_while", Str.ofString "statement_readers", Str.ofString "read_one", Str.ofString "read_part", Str.ofString "read_if", Str.ofString "read_some", Str.ofString "read_row", Str.ofString "_law_grab", Str.ofString "_law_heard", Str.ofString "_law_events", Str.ofString "_law_deed", Str.ofString "_law_row", Str.ofString "_law_due"]
theorem as_ok : ∀ P, as_39 = (heap_39 P).map (·.1) := by intro P; kernel_rfl
noncomputable def kh : Hook := kHook heap_39 as_39 as_ok
theorem open_ok : ∀ w : World, (fencedOpening treeTable P0 w 9680).map (fun s => (s.heap, s.gens, s.drawn, s.toks)) = some (boot_heap w.params, #[], boot_drawn, boot_toks) :=
  boot_open (by kernel_rfl) (by decide) (fun s => by kernel_rfl)
theorem size_ok : ∀ w : World, ((boot_heap w.params).isNs mainGlobals && (#[] : Array GenState).size == 0, (boot_heap w.params).objs.size, (boot_heap w.params).nsMap mainGlobals "__annotations__") = (true, 11, some (.ref 6)) := by
  intro w; kernel_rfl
noncomputable abbrev fin1 (w : World) (os : OsState) : Shared := ⟨H1 w.params, #[], {}, 1492, os⟩
noncomputable abbrev xt : Shared → Bool := fun s => xlAt view_39 [] s && recOk (RowW.records PySem.Challenge.rw_pq0154_01.row.toRowW) s
theorem look1 : ∀ (w : World) (os : OsState), (staticsOk (importedModules P0.main.body) (boot_heap w.params) (H1 w.params) && namesBound P0 (H1 w.params) && gensDone (fin1 w os) && laidKept (boot_heap w.params) (H1 w.params)) = true := by
  intro w os; kernel_rfl
theorem look3 : ∀ (w : World) (os : OsState), kh.obs (fin1 w os) = kh.val w := by
  intro w os; kernel_rfl
theorem pr {α β : Type} {a a' : α} {b b' : β} (x : a = a') (y : b = b') : (a, b) = (a', b') := by rw [x, y]
theorem look2 : ∀ (w : World) (os : OsState), openSeen view_39 lo_39 (importedModules P0.main.body) xt true (fin1 w os) = openGood view_39 lo_39 := by
  intro w os
  rw [PySem.W.Fast.te4187177175401517315]
  unfold PySem.W.Fast.tw4187177175401517315 openGood
  repeat' (with_reducible refine pr ?_ ?_)
  all_goals (as_aux_lemma => kernel_rfl)
theorem left : LeftO P0 view_39 lo_39 xt kh.obs kh.val 9680 true :=
  LeftO.of_pieces open_ok size_ok run (by decide) fun w => funext fun os => pr (look1 w os) (pr (look2 w os) (look3 w os))
theorem tab_ok : PySem.Challenge.rw_pq0154_01.row.prog.tablesWhole = true := by
  unfold Program.tablesWhole TablesWhole.wProgram TablesWhole.holds
  rw [PySem.W.Fast.te6116379765354995101, PySem.W.Fast.te15985051520779696433]
  kernel_rfl
theorem ok_ok : (chainsOk view_39 && opensWell PySem.Challenge.rw_pq0154_01.row.prog && (frees PySem.Challenge.rw_pq0154_01.row.toRowW && PySem.Challenge.rw_pq0154_01.row.within.isEmpty)) = true := by kernel_rfl
theorem wit_ok : PySem.Challenge.rw_pq0154_01.row.toRowW.promised := by
  refine ⟨[.list []], ?_, ?_⟩ <;> decide +kernel
end hd
theorem lk_fn {K : Frag} {a : Addr} {x : Stmt} {q : String} {cl : List (Str × Addr)} {df mod code ct : Value} {nm : Str} {ps : Arguments} {b : List Stmt} {ds : List Expr} {rt : Option Expr} {tp : List TypeParam} {sc : Scope} {ts : Option Scope} {bn : Str} {pos : Pos}
    (h : K.lookup a = some (hd.fo x q cl df mod code ct)) (h3 : x = .FunctionDef nm ps b ds rt tp sc ts bn pos) :
    K.lookup a = some ⟨.type "function", none, .func { name := nm, qualname := Str.ofString q, params := ps, body := .stmts b, scope := sc, globals := 3, closure := cl, defaults := df, kwdefaults := .none, pyModule := mod, code := code, closureTuple := ct }, #[]⟩ := by subst h3; exact h
theorem hd {d : DefRec} {kwd : List (Str × Expr)} (hdef : defOf hd.view_39 PySem.Challenge.rw_pq0154_01.row.name = some (d, kwd)) (hp : PySem.Challenge.rw_pq0154_01.row.prog.theDef PySem.Challenge.rw_pq0154_01.row.name = some (d.params, d.body, d.scope))
    (hk : kwWritten? d.params.kwonlyargs d.params.kw_defaults = some kwd) (walk : WalkO hd.view_39 hd.lo_39 (XL hd.view_39 []) hd.kh.says PySem.Challenge.rw_pq0154_01.row.toRowW d kwd fun f vs => call f vs) : PySem.Challenge.rw_pq0154_01.Holds :=
  holds_law hd.said_ok fun said => holds_open (q := hd.view_39) (loose := hd.lo_39) (Xt := hd.xt) (XP := XL hd.view_39 []) (Yf := hd.kh.obs) (Ya := hd.kh.val) (YP := hd.kh.says) (N := 9680) hd.left hd.kh.of hd.kh.keeps
    (fun s e => xl_of s (Bool.and_eq_true_iff.mp e).1) XL.keeps hdef hp hk (fun s e => recFacts_of (Bool.and_eq_true_iff.mp e).2) rfl said hd.ok_ok ⟨rfl, rfl, rfl, rfl, rfl, hd.tab_ok⟩ hd.wit_ok walk

open PySem.Calls PySem.Spec
-- ===== Lg

noncomputable abbrev Led := List (Addr × Obj)
noncomputable abbrev Loc := List (Str × Option Value)

structure Cx where
  A : Around
  h₀ : Heap
  L : Addr
  s₀ : Shared
  cs : Scope
  k : Nat

structure Amb (K : Frag) (p : Program) (loose : List Str) (c : Cx) : Prop where
  X : K.In c.h₀
  T : ∃ mean mg mb, Top p loose mean mg mb c.h₀
  B : ∃ A₀ base outer env, Below A₀ base outer c.h₀ ∧ c.A.frames = some (env :: outer) ∧ env.frame = some c.L ∧ env.scope.kind = .function
  hd : c.A.handled = none
  dep : c.A.depth + c.k < recursionLimit
  un : c.A.units + 16 * c.k + 200 < cLine

structure LocOk (cs : Scope) (l : Loc) : Prop where
  fn : cs.kind = .function
  loc : ∀ q ∈ l, cs.names.lookup q.1 = some .local
  nd : (l.map (·.1)).Nodup

structure St (c : Cx) (l : Loc) (n : Led) (s : Shared) : Prop where
  gens : s.gens = c.s₀.gens
  drawn : s.drawn = c.s₀.drawn
  os : s.os = c.s₀.os
  fr : ∃ m, Fr c.h₀ c.L s.heap m ∧ ∀ q ∈ l, m q.1 = q.2
  nw : News c.h₀ c.L s.heap n
  nd : (n.map (·.1)).Nodup
  lk : LocOk c.cs l

theorem St.put {c : Cx} {l l' : Loc} {n n' : Led} {s : Shared} {h' : Heap} {tk : Nat} (S : St c l n s) (F : ∃ m, Fr c.h₀ c.L h' m ∧ ∀ q ∈ l', m q.1 = q.2)
    (N : News c.h₀ c.L h' n') (nd : (n'.map (·.1)).Nodup) (lk : LocOk c.cs l') : St c l' n' { s with heap := h', toks := tk } :=
  ⟨S.gens, S.drawn, S.os, F, N, nd, lk⟩
theorem St.tok {c : Cx} {l : Loc} {n : Led} {s : Shared} {tk : Nat} (S : St c l n s) : St c l n { s with toks := tk } := ⟨S.gens, S.drawn, S.os, S.fr, S.nw, S.nd, S.lk⟩
theorem St.tok' {c : Cx} {l : Loc} {n : Led} {s s' : Shared} (S : St c l n s) (h : ∃ tk, s' = { s with toks := tk }) : St c l n s' := by
  obtain ⟨tk, rfl⟩ := h; exact S.tok

section
variable {prog : Program} {w : World} {K : Frag} {p : Program} {loose : List Str}

noncomputable def W (prog : Program) (w : World) {α : Type} (c : Cx) (t : Sem α) (Q : α → Loc → Led → Prop) (E : Value → Shared → Prop) (l : Loc) (n : Led) : Prop :=
  ∀ s, St c l n s → wpAny (model prog w) c.A t (fun a s' => ∃ l' n', St c l' n' s' ∧ Q a l' n') E s

variable {c : Cx} {E : Value → Shared → Prop} {l : Loc} {n : Led}

theorem W.mono {α : Type} {t : Sem α} {Q Q' : α → Loc → Led → Prop} (h : W prog w c t Q E l n) (q : ∀ a l' n', Q a l' n' → Q' a l' n') : W prog w c t Q' E l n :=
  fun s S => wpAny_mono (h s S) (fun a _ ⟨l', n', S', x⟩ => ⟨l', n', S', q a l' n' x⟩) fun _ _ x => x
theorem W.mono2 {α : Type} {t : Sem α} {Q Q' : α → Loc → Led → Prop} {E' : Value → Shared → Prop} (h : W prog w c t Q E l n) (q : ∀ a l' n', Q a l' n' → Q' a l' n') (e : ∀ v s, E v s → E' v s) : W prog w c t Q' E' l n :=
  fun s S => wpAny_mono (h s S) (fun a _ ⟨l', n', S', x⟩ => ⟨l', n', S', q a l' n' x⟩) e
theorem W.pure {α : Type} {a : α} {Q : α → Loc → Led → Prop} (h : Q a l n) : W prog w c (pure a) Q E l n := fun _ S => wpAny_pure ⟨l, n, S, h⟩
theorem W.bind {α β : Type} {t : Sem α} {f : α → Sem β} {Q : β → Loc → Led → Prop} (h : W prog w c t (fun a l' n' => W prog w c (f a) Q E l' n') E l n) : W prog w c (t >>= f) Q E l n :=
  fun s S => wpAny_bind (wpAny_mono (h s S) (fun _ _ ⟨_, _, S', x⟩ => x _ S') fun _ _ x => x)
/-- go from a W to the postcondition that a rule of the library wants -/
theorem W.go {α : Type} {t : Sem α} {Q : α → Loc → Led → Prop} {s : Shared} (h : W prog w c t Q E l n) (S : St c l n s) {Q' : α → Shared → Prop}
    (q : ∀ a s' l' n', St c l' n' s' → Q a l' n' → Q' a s') : wpAny (model prog w) c.A t Q' E s :=
  wpAny_mono (h s S) (fun a s' ⟨l', n', S', x⟩ => q a s' l' n' S' x) fun _ _ x => x
theorem W.go2 {α : Type} {t : Sem α} {Q : α → Loc → Led → Prop} {s : Shared} {E' : Value → Shared → Prop} (h : W prog w c t Q E l n) (S : St c l n s) {Q' : α → Shared → Prop}
    (q : ∀ a s' l' n', St c l' n' s' → Q a l' n' → Q' a s') (e : ∀ v s, E v s → E' v s) : wpAny (model prog w) c.A t Q' E' s :=
  wpAny_mono (h s S) (fun a s' ⟨l', n', S', x⟩ => q a s' l' n' S' x) e
theorem W.fin {α : Type} {Q : α → Loc → Led → Prop} {a : α} {s : Shared} (S : St c l n s) (q : Q a l n) : ∃ l' n', St c l' n' s ∧ Q a l' n' := ⟨l, n, S, q⟩

-- ===== statements
variable {env : Env}
theorem w_nil {Q : Flow → Loc → Led → Prop} (h : Q .next l n) : W prog w c (execs [] env) Q E l n := fun _ S => wpAny_execs_nil (W.fin S h)
noncomputable def Sq (R : Loc → Led → Prop) (Q : Flow → Loc → Led → Prop) (f : Flow) (l : Loc) (n : Led) : Prop := match f with | .next => R l n | f => Q f l n
theorem sq_next {R : Loc → Led → Prop} {Q : Flow → Loc → Led → Prop} (h : R l n) : Sq R Q .next l n := h
theorem sq_ret {R : Loc → Led → Prop} {Q : Flow → Loc → Led → Prop} {v : Value} (h : Q (.ret v) l n) : Sq R Q (.ret v) l n := h
theorem sq_cont {R : Loc → Led → Prop} {Q : Flow → Loc → Led → Prop} (h : Q .cont l n) : Sq R Q .cont l n := h
theorem w_cons {st : Stmt} {rest : List Stmt} {Q : Flow → Loc → Led → Prop}
    (h : W prog w c (exec st env) (Sq (fun l' n' => W prog w c (execs rest env) Q E l' n') Q) E l n) : W prog w c (execs (st :: rest) env) Q E l n :=
  fun s S => wpAny_execs_cons (h.go S fun f s' l' n' S' x => by cases f <;> first | exact x s' S' | exact W.fin S' x)
theorem w_last {st : Stmt} {Q : Flow → Loc → Led → Prop} (h : W prog w c (exec st env) Q E l n) : W prog w c (execs [st] env) Q E l n :=
  w_cons (h.mono fun f l' n' x => by cases f <;> first | exact x | exact w_nil x)
theorem w_ret {e : Expr} {pos : Pos} {Q : Flow → Loc → Led → Prop} (h : W prog w c (eval e env) (fun v l' n' => Q (.ret v) l' n') E l n) : W prog w c (exec (.Return (some e) pos) env) Q E l n :=
  fun _ S => wpAny_Return_some (h.go S fun _ _ _ _ S' x => W.fin S' x)
theorem w_if {test : Expr} {body orelse : List Stmt} {pos : Pos} {Q : Flow → Loc → Led → Prop}
    (h : W prog w c (isTrue test env (eval test env)) (fun b l' n' => if b then W prog w c (execs body env) Q E l' n' else W prog w c (execs orelse env) Q E l' n') E l n) :
    W prog w c (exec (.If test body orelse pos) env) Q E l n :=
  fun _ S => wpAny_If (h.go S fun b s' _ _ S' x => by cases b <;> exact x s' S')
theorem w_assign {x : Str} {pos' pos : Pos} {value : Expr} {Q : Flow → Loc → Led → Prop}
    (hs : swapsWith value (some (.Name x pos')) pos.line env = pure false)
    (h : W prog w c (eval value env) (fun v l' n' => W prog w c (storeName env x v) (fun _ l' n' => Q .next l' n') E l' n') E l n) : W prog w c (exec (.Assign [.Name x pos'] value pos) env) Q E l n :=
  fun _ S => wpAny_Assign_Name (h.go S fun _ _ _ _ S' x => x.go S' fun _ _ _ _ S' x => W.fin S' x) hs
theorem w_aug {x : Str} {pos' pos : Pos} {op : Operator} {value : Expr} {Q : Flow → Loc → Led → Prop}
    (h : W prog w c (loadName env x) (fun old l' n' => W prog w c (eval value env) (fun v l' n' => W prog w c (inplaceOp op old v) (fun r l' n' => W prog w c (storeName env x r) (fun _ l' n' => Q .next l' n') E l' n') E l' n') E l' n') E l n) :
    W prog w c (exec (.AugAssign (.Name x pos') op value pos) env) Q E l n :=
  fun _ S => wpAny_AugAssign_Name (h.go S fun _ _ _ _ S' x => x.go S' fun _ _ _ _ S' x => x.go S' fun _ _ _ _ S' x => x.go S' fun _ _ _ _ S' x => W.fin S' x)
theorem w_expr {e : Expr} {pos : Pos} {Q : Flow → Loc → Led → Prop} (hi : interactive env = false) (hs : swapsWith e none pos.line env = pure false)
    (h : W prog w c (eval e env) (fun _ l' n' => Q .next l' n') E l n) : W prog w c (exec (.Expr e pos) env) Q E l n :=
  fun _ S => wpAny_Expr_any (h.go S fun _ _ _ _ S' x => W.fin S' x) hi hs
theorem w_cont {pos : Pos} {Q : Flow → Loc → Led → Prop} (h : Q .cont l n) : W prog w c (exec (.Continue pos) env) Q E l n := fun _ S => wpAny_Continue (W.fin S h)
theorem w_assignT {elts : List Expr} {k : Nat} {tpos pos : Pos} {value : Expr} {Q : Flow → Loc → Led → Prop}
    (h1 : swapsWithSole [Expr.Tuple elts k tpos] value pos.line env = pure false) (h2 : swappedStores [Expr.Tuple elts k tpos] value env = pure none)
    (h : W prog w c (eval value env) (fun v l' n' => W prog w c (assign (.Tuple elts k tpos) env v) (fun _ l' n' => Q .next l' n') E l' n') E l n) : W prog w c (exec (.Assign [.Tuple elts k tpos] value pos) env) Q E l n :=
  fun _ S => Assign_Tuple (h.go S fun _ _ _ _ S' x => x.go S' fun _ _ _ _ S' x => W.fin S' x) h1 h2

-- ===== expressions
theorem w_cint {i : Int} {k : Nat} {pos : Pos} {Q : Value → Loc → Led → Prop} (h : ∀ t, Q (.int i t) l n) : W prog w c (eval (.Constant (.int i) k pos) env) Q E l n := fun _ S => wpAny_Constant_int (W.fin S.tok (h _))
theorem w_cstr {x : Str} {k : Nat} {pos : Pos} {Q : Value → Loc → Led → Prop} (h : ∀ t, Q (.str x t) l n) : W prog w c (eval (.Constant (.str x) k pos) env) Q E l n := fun _ S => Calls.Constant_str (W.fin S.tok (h _))
theorem w_cbool {b : Bool} {k : Nat} {pos : Pos} {Q : Value → Loc → Led → Prop} (h : Q (.bool b) l n) : W prog w c (eval (.Constant (.bool b) k pos) env) Q E l n := fun _ S => Constant_bool (W.fin S h)
theorem w_cnone {k : Nat} {pos : Pos} {Q : Value → Loc → Led → Prop} (h : Q .none l n) : W prog w c (eval (.Constant .none k pos) env) Q E l n := fun _ S => Constant_none (W.fin S h)
theorem w_bin {a b : Expr} {op : Operator} {pos : Pos} {Q : Value → Loc → Led → Prop}
    (h : W prog w c (eval a env) (fun u l' n' => W prog w c (eval b env) (fun v l' n' => W prog w c (binaryOp op u v) Q E l' n') E l' n') E l n) : W prog w c (eval (.BinOp a op b pos) env) Q E l n :=
  fun _ S => wpAny_BinOp (h.go S fun _ _ _ _ S' x => x.go S' fun _ _ _ _ S' x => x _ S')
theorem w_un {a : Expr} {op : UnaryOp} {pos : Pos} {Q : Value → Loc → Led → Prop}
    (h : W prog w c (eval a env) (fun u l' n' => W prog w c (unaryOp op u) Q E l' n') E l n) : W prog w c (eval (.UnaryOp op a pos) env) Q E l n :=
  fun _ S => UnaryOp_ (h.go S fun _ _ _ _ S' x => x _ S')
theorem w_not {v : Value} {Q : Value → Loc → Led → Prop} (h : W prog w c (truthy v) (fun b l' n' => Q (.bool (!b)) l' n') E l n) : W prog w c (unaryOp .Not v) Q E l n :=
  fun _ S => not_of (h.go S fun _ _ _ _ S' x => W.fin S' x)
theorem w_cmp {a b : Expr} {op : CmpOp} {pos : Pos} {Q : Value → Loc → Led → Prop} (hm : behindInMarks op b = false)
    (h : W prog w c (eval a env) (fun u l' n' => W prog w c (eval b env) (fun v l' n' => W prog w c (compareOp op u v) Q E l' n') E l' n') E l n) : W prog w c (eval (.Compare a [op] [b] pos) env) Q E l n :=
  fun _ S => wpAny_Compare1 (h.go S fun _ _ _ _ S' x => x.go S' fun _ _ _ _ S' x => x _ S') hm
theorem w_chain {a b d : Expr} {op op' : CmpOp} {pos : Pos} {Q : Value → Loc → Led → Prop} (hm : lastMarks [op, op'] [b, d] = false)
    (h : W prog w c (eval a env) (fun u l' n' => W prog w c (eval b env) (fun v l' n' => W prog w c (compareOp op u v) (fun r l' n' => W prog w c (truthy r) (fun t l' n' =>
      if t then W prog w c (eval d env) (fun x l' n' => W prog w c (compareOp op' v x) Q E l' n') E l' n' else Q r l' n') E l' n') E l' n') E l' n') E l n) :
    W prog w c (eval (.Compare a [op, op'] [b, d] pos) env) Q E l n :=
  fun _ S => Compare_chain (h.go S fun _ _ _ _ S' x => chain_link (x.go S' fun _ _ _ _ S' x => x.go S' fun _ _ _ _ S' x => x.go S' fun t _ _ _ S' x => by
    cases t with
    | true => exact chain_last (x.go S' fun _ _ _ _ S' x => x _ S')
    | false => exact W.fin S' x)) hm
theorem w_and {a b : Expr} {rest : List Expr} {pos : Pos} {Q : Value → Loc → Led → Prop}
    (h : W prog w c (eval a env) (fun v l' n' => W prog w c (truthy v) (fun t l' n' => if t then W prog w c (eval (.BoolOp .And (b :: rest) pos) env) Q E l' n' else Q v l' n') E l' n') E l n) :
    W prog w c (eval (.BoolOp .And (a :: b :: rest) pos) env) Q E l n :=
  fun _ S => BoolOp_and (h.go S fun _ _ _ _ S' x => x.go S' fun t s' _ _ S' x => by cases t <;> first | exact x s' S' | exact W.fin S' x)
theorem w_or {a b : Expr} {rest : List Expr} {pos : Pos} {Q : Value → Loc → Led → Prop}
    (h : W prog w c (eval a env) (fun v l' n' => W prog w c (truthy v) (fun t l' n' => if t then Q v l' n' else W prog w c (eval (.BoolOp .Or (b :: rest) pos) env) Q E l' n') E l' n') E l n) :
    W prog w c (eval (.BoolOp .Or (a :: b :: rest) pos) env) Q E l n :=
  fun _ S => BoolOp_or (h.go S fun _ _ _ _ S' x => x.go S' fun t s' _ _ S' x => by cases t <;> first | exact x s' S' | exact W.fin S' x)
theorem w_bone {op : BoolOp} {a : Expr} {pos : Pos} {Q : Value → Loc → Led → Prop} (h : W prog w c (eval a env) Q E l n) : W prog w c (eval (.BoolOp op [a] pos) env) Q E l n :=
  fun s S => BoolOp_one (h s S)
theorem w_ifexp {test body orelse : Expr} {pos : Pos} {Q : Value → Loc → Led → Prop}
    (h : W prog w c (isTrue test env (eval test env)) (fun b l' n' => if b then W prog w c (eval body env) Q E l' n' else W prog w c (eval orelse env) Q E l' n') E l n) :
    W prog w c (eval (.IfExp test body orelse pos) env) Q E l n :=
  fun _ S => IfExp_ (h.go S fun b s' _ _ S' x => by cases b <;> exact x s' S')
-- tests
theorem w_tplain {e : Expr} {whole : Sem Value} {Q : Bool → Loc → Led → Prop} (he : isTrue e env whole = (do let v ← whole; standAt e.pos; holding [v] (truthy v)))
    (h : W prog w c whole (fun v l' n' => W prog w c (truthy v) Q E l' n') E l n) : W prog w c (isTrue e env whole) Q E l n :=
  fun _ S => isTrue_plain (h.go S fun _ _ _ _ S' x => x _ S') he
theorem w_tnot {a : Expr} {pos : Pos} {whole : Sem Value} {Q : Bool → Loc → Led → Prop} (h : W prog w c (isTrue a env (eval a env)) (fun b l' n' => Q (!b) l' n') E l n) :
    W prog w c (isTrue (.UnaryOp .Not a pos) env whole) Q E l n := fun _ S => isTrue_not (h.go S fun _ _ _ _ S' x => W.fin S' x)
theorem w_tandnil {pos : Pos} {whole : Sem Value} {Q : Bool → Loc → Led → Prop} (h : Q true l n) : W prog w c (isTrue (.BoolOp .And [] pos) env whole) Q E l n := fun _ S => isTrue_and_nil (W.fin S h)
theorem w_tornil {pos : Pos} {whole : Sem Value} {Q : Bool → Loc → Led → Prop} (h : Q false l n) : W prog w c (isTrue (.BoolOp .Or [] pos) env whole) Q E l n := fun _ S => isTrue_or_nil (W.fin S h)
theorem w_tand {a : Expr} {rest : List Expr} {pos : Pos} {whole : Sem Value} {Q : Bool → Loc → Led → Prop}
    (h : W prog w c (isTrue a env (eval a env)) (fun t l' n' => if t then W prog w c (isTrue (.BoolOp .And rest pos) env whole) Q E l' n' else Q false l' n') E l n) :
    W prog w c (isTrue (.BoolOp .And (a :: rest) pos) env whole) Q E l n :=
  fun _ S => isTrue_and (h.go S fun t s' _ _ S' x => by cases t <;> first | exact x s' S' | exact W.fin S' x)
theorem w_tor {a : Expr} {rest : List Expr} {pos : Pos} {whole : Sem Value} {Q : Bool → Loc → Led → Prop}
    (h : W prog w c (isTrue a env (eval a env)) (fun t l' n' => if t then Q true l' n' else W prog w c (isTrue (.BoolOp .Or rest pos) env whole) Q E l' n') E l n) :
    W prog w c (isTrue (.BoolOp .Or (a :: rest) pos) env whole) Q E l n :=
  fun _ S => isTrue_or (h.go S fun t s' _ _ S' x => by cases t <;> first | exact x s' S' | exact W.fin S' x)
theorem w_tcmp {a b : Expr} {op : CmpOp} {pos : Pos} {whole : Sem Value} {Q : Bool → Loc → Led → Prop} (hm : behindInMarks op b = false)
    (h : W prog w c (eval a env) (fun u l' n' => W prog w c (eval b env) (fun v l' n' => W prog w c (compareOp op u v) (fun r l' n' => W prog w c (truthy r) Q E l' n') E l' n') E l' n') E l n) :
    W prog w c (isTrue (.Compare a [op] [b] pos) env whole) Q E l n :=
  fun _ S => wpAny_isTrue_Compare1 (h.go S fun _ _ _ _ S' x => x.go S' fun _ _ _ _ S' x => x.go S' fun _ _ _ _ S' x => x _ S') hm
theorem w_truthyb {b : Bool} {Q : Bool → Loc → Led → Prop} (h : Q b l n) : W prog w c (truthy (.bool b)) Q E l n := fun _ S => wpAny_truthy_bool (W.fin S h)
-- names
theorem w_local {cn : Str} {cs : Scope} {L a : Addr} {ccd : Value} {x : Str} {pos : Pos} {v : Value} {Q : Value → Loc → Led → Prop} (he : env = envOf cn cs L a ccd) (hc : c.cs = cs) (hL : c.L = L) (hm : (x, some v) ∈ l) (hd : (x == ("__debug__" : Str)) = false) (h : Q v l n) :
    W prog w c (eval (.Name x pos) env) Q E l n := fun s S => by
  subst he hc hL
  obtain ⟨m, F, hl⟩ := S.fr
  exact nameX_L F (hl _ hm) (W.fin S h) S.lk.fn (S.lk.loc _ hm) hd
theorem w_loadn {cn : Str} {cs : Scope} {L a : Addr} {ccd : Value} {x : Str} {v : Value} {Q : Value → Loc → Led → Prop} (he : env = envOf cn cs L a ccd) (hc : c.cs = cs) (hL : c.L = L) (hm : (x, some v) ∈ l) (h : Q v l n) :
    W prog w c (loadName env x) Q E l n := fun s S => by
  subst he hc hL
  obtain ⟨m, F, hl⟩ := S.fr
  exact ldn F (hl _ hm) (W.fin S h) S.lk.fn (S.lk.loc _ hm)
theorem w_global {cn : Str} {cs : Scope} {L a : Addr} {ccd : Value} {x : Str} {pos : Pos} {v : Value} {Q : Value → Loc → Led → Prop} (H : Amb K p loose c) (he : env = envOf cn cs L a ccd) (hL : c.L = L) (e : nsIn K mainGlobals x = some (some v))
    (hk : cs.kind = .function) (hx : cs.names.lookup x = some .globalImplicit) (hd : (x == ("__debug__" : Str)) = false) (h : Q v l n) :
    W prog w c (eval (.Name x pos) env) Q E l n := fun s S => by
  subst he hL
  obtain ⟨m, F, _⟩ := S.fr
  obtain ⟨_, _, _, T⟩ := H.T
  exact nameX_K F H.X (topRead_of T) e (W.fin S h) hk hx hd
theorem w_builtin {cn : Str} {cs : Scope} {L a : Addr} {ccd : Value} {x : Str} {pos : Pos} {v : Value} {Q : Value → Loc → Led → Prop} (H : Amb K p loose c) (he : env = envOf cn cs L a ccd) (hL : c.L = L) (e : nsIn K mainGlobals x = some none)
    (hv : bootBuiltins x = some v) (hn : x ≠ "__name__") (hk : cs.kind = .function) (hx : cs.names.lookup x = some .globalImplicit) (hd : (x == ("__debug__" : Str)) = false) (h : Q v l n) :
    W prog w c (eval (.Name x pos) env) Q E l n := fun s S => by
  subst he hL
  obtain ⟨m, F, _⟩ := S.fr
  obtain ⟨_, _, _, T⟩ := H.T
  exact nameX_B F H.X (topRead_of T) e hv hn (W.fin S h) hk hx hd

inductive SetAt (x : Str) (v : Value) : Loc → Loc → Prop
  | head {o r} : SetAt x v ((x, o) :: r) ((x, some v) :: r)
  | tail {q r r'} : SetAt x v r r' → SetAt x v (q :: r) (q :: r')
theorem SetAt.keys {x : Str} {v : Value} {l l' : Loc} (h : SetAt x v l l') : l'.map (·.1) = l.map (·.1) := by
  induction h with
  | head => rfl
  | tail _ ih => simp only [List.map_cons, ih]
theorem SetAt.mem {x : Str} {v : Value} {l l' : Loc} (h : SetAt x v l l') : x ∈ l.map (·.1) := by
  induction h with
  | head => exact .head _
  | tail _ ih => exact .tail _ ih
theorem SetAt.vals {x : Str} {v : Value} {l l' : Loc} (h : SetAt x v l l') (nd : (l.map (·.1)).Nodup) {m : Str → Option Value} (hm : ∀ q ∈ l, m q.1 = q.2) :
    ∀ q ∈ l', (if q.1 = x then some v else m q.1) = q.2 := by
  induction h with
  | head =>
    intro q hq
    rcases List.mem_cons.mp hq with rfl | hq
    · exact if_pos rfl
    · have : q.1 ≠ x := fun e => (List.nodup_cons.mp nd).1 (by rw [← e]; exact List.mem_map.mpr ⟨q, hq, rfl⟩)
      rw [if_neg this]; exact hm _ (.tail _ hq)
  | tail h ih =>
    intro q hq
    rcases List.mem_cons.mp hq with rfl | hq
    · have : q.1 ≠ x := fun e => (List.nodup_cons.mp nd).1 (by show q.1 ∈ _; rw [e]; exact h.mem)
      rw [if_neg this]; exact hm _ (.head _)
    · exact ih (List.nodup_cons.mp nd).2 (fun q hq => hm _ (.tail _ hq)) _ hq
theorem SetAt.loc {x : Str} {v : Value} {l l' : Loc} (h : SetAt x v l l') {P : Str → Prop} (hp : ∀ q ∈ l, P q.1) : ∀ q ∈ l', P q.1 := by
  intro q hq
  have : q.1 ∈ l.map (·.1) := h.keys ▸ List.mem_map_of_mem hq
  obtain ⟨q', hq', e⟩ := List.mem_map.mp this
  exact e ▸ hp _ hq'
theorem LocOk.set {cs : Scope} {x : Str} {v : Value} {l l' : Loc} (k : LocOk cs l) (h : SetAt x v l l') : LocOk cs l' :=
  ⟨k.fn, h.loc (P := fun y => cs.names.lookup y = some .local) k.loc, h.keys ▸ k.nd⟩
theorem w_store {cn : Str} {cs : Scope} {L a : Addr} {ccd : Value} {x : Str} {v : Value} {l' : Loc} {Q : Unit → Loc → Led → Prop} (he : env = envOf cn cs L a ccd) (hc : c.cs = cs) (hL : c.L = L) (hs : SetAt x v l l') (h : Q () l' n) :
    W prog w c (storeName env x v) Q E l n := fun s S => by
  subst he hc hL
  obtain ⟨m, F, hl⟩ := S.fr
  obtain ⟨q, hq, e⟩ := List.mem_map.mp hs.mem
  exact storeX_L F S.nw (fun h' F' N' => W.fin (S.put ⟨_, F', hs.vals S.lk.nd hl⟩ N' S.nd (S.lk.set hs)) h) S.lk.fn (e ▸ S.lk.loc q hq)
end

-- ===== Lh
section
variable {prog : Program} {w : World} {K : Frag} {p : Program} {loose : List Str}
variable {c : Cx} {E : Value → Shared → Prop} {l : Loc} {n : Led} {env : Env}

noncomputable def FnAt (K : Frag) (a : Addr) : Prop := ∃ o fd, K.lookup a = some o ∧ o.data = .func fd

noncomputable abbrev tupObj (vs : List Value) : Obj := { cls := .type "tuple", data := .seq vs.toArray }

-- ===== calls
theorem w_call {func : Expr} {args : List Expr} {pos : Pos} {Q : Value → Loc → Led → Prop}
    (he : eval (.Call func args [] pos) env = (do let f ← eval func env; callWith pos f [] (backTo pos (starEach args env)) (backToKw pos (keywordEach [] env))))
    (h : W prog w c (eval func env) (fun f l' n' => W prog w c (callWith pos f [] (backTo pos (starEach args env)) []) Q E l' n') E l n) : W prog w c (eval (.Call func args [] pos) env) Q E l n :=
  fun _ S => Call_ (h.go S fun _ _ _ _ S' x => x _ S') he
theorem w_callN {x : Str} {px : Pos} {args : List Expr} {pos : Pos} {Q : Value → Loc → Led → Prop}
    (h : W prog w c (eval (.Name x px) env) (fun f l' n' => W prog w c (callWith pos f [] (backTo pos (starEach args env)) []) Q E l' n') E l n) : W prog w c (eval (.Call (.Name x px) args [] pos) env) Q E l n :=
  fun _ S => wpAny_Call_Name_kw (h.go S fun _ _ _ _ S' x => x _ S')
theorem w_cw_ref {pos : Pos} {a : Addr} {e : Expr} {rest : List Expr} {Q : Value → Loc → Led → Prop} (H : Amb K p loose c) (hf : FnAt K a)
    (he : starEach (e :: rest) env = (false, eval e env) :: starEach rest env)
    (h : W prog w c (spliced (backTo pos (starEach (e :: rest) env))) (fun vs l' n' => W prog w c (call (.ref a) vs) Q E l' n') E l n) :
    W prog w c (callWith pos (.ref a) [] (backTo pos (starEach (e :: rest) env)) []) Q E l n := fun _ S => by
  obtain ⟨o, fd, h1, h2⟩ := hf
  refine PyProof.Rows.callWith_def h2 (h.go S fun _ _ _ _ S' x => ⟨?_, x _ S'⟩) he
  obtain ⟨m, F, _⟩ := S'.fr
  exact F.keep _ _ (H.X _ _ h1)
theorem w_cw_ref0 {pos : Pos} {a : Addr} {Q : Value → Loc → Led → Prop} (H : Amb K p loose c) (hf : FnAt K a)
    (h : W prog w c (call (.ref a) []) Q E l n) : W prog w c (callWith pos (.ref a) [] (backTo pos (starEach [] env)) []) Q E l n := fun s S => by
  obtain ⟨o, fd, h1, h2⟩ := hf
  obtain ⟨m, F, _⟩ := S.fr
  exact callWith_function (o := o) (fd := fd) (args := []) (PyProof.Rows.evalArgs_none ⟨⟨F.keep _ _ (H.X _ _ h1), h2⟩, h _ S⟩)
theorem w_cw_bi {pos : Pos} {id : String} {e : Expr} {rest : List Expr} {Q : Value → Loc → Led → Prop}
    (he : starEach (e :: rest) env = (false, eval e env) :: starEach rest env) (ha : ((backTo pos (starEach rest env)).any fun x => x.fst) = false)
    (h : W prog w c (spliced (backTo pos (starEach (e :: rest) env))) (fun vs l' n' => W prog w c (call (.builtin id) vs) Q E l' n') E l n) :
    W prog w c (callWith pos (.builtin id) [] (backTo pos (starEach (e :: rest) env)) []) Q E l n :=
  fun _ S => PyProof.Rows.callWith_builtin1 (h.go S fun _ _ _ _ S' x => x _ S') he ha
theorem w_cw_ty {pos : Pos} {T : String} {e : Expr} {rest : List Expr} {Q : Value → Loc → Led → Prop}
    (he : starEach (e :: rest) env = (false, eval e env) :: starEach rest env) (ha : ((backTo pos (starEach rest env)).any fun x => x.fst) = false)
    (h : W prog w c (spliced (backTo pos (starEach (e :: rest) env))) (fun vs l' n' => W prog w c (call (.type T) vs) Q E l' n') E l n) :
    W prog w c (callWith pos (.type T) [] (backTo pos (starEach (e :: rest) env)) []) Q E l n :=
  fun _ S => PyProof.Rows.callWith_type1 (h.go S fun _ _ _ _ S' x => x _ S') he ha
theorem w_cw_me {pos : Pos} {id : String} {first : List Value} {e : Expr} {rest : List Expr} {Q : Value → Loc → Led → Prop}
    (he : starEach (e :: rest) env = (false, eval e env) :: starEach rest env) (ha : ((backTo pos (starEach rest env)).any fun x => x.fst) = false)
    (h : W prog w c (spliced (backTo pos (starEach (e :: rest) env))) (fun vs l' n' => W prog w c (call (.builtin id) (first ++ vs)) Q E l' n') E l n) :
    W prog w c (callWith pos (.builtin id) first (backTo pos (starEach (e :: rest) env)) []) Q E l n :=
  fun _ S => callWith_method1 (h.go S fun _ _ _ _ S' x => x _ S') he ha
theorem w_cw_me0 {pos : Pos} {id : String} {first : List Value} {Q : Value → Loc → Led → Prop}
    (h : W prog w c (call (.builtin id) first) Q E l n) : W prog w c (callWith pos (.builtin id) first (backTo pos (starEach [] env)) []) Q E l n :=
  fun s S => callWith_method0 (h s S)
theorem w_spl {e : Expr} {rest : List Expr} {pos : Pos} {Q : List Value → Loc → Led → Prop} (he : starEach (e :: rest) env = (false, eval e env) :: starEach rest env)
    (h : W prog w c (eval e env) (fun v l' n' => W prog w c (spliced (backTo pos (starEach rest env))) (fun vs l' n' => Q (v :: vs) l' n') E l' n') E l n) :
    W prog w c (spliced (backTo pos (starEach (e :: rest) env))) Q E l n :=
  fun _ S => spliced_more (h.go S fun _ _ _ _ S' x => x.go S' fun _ _ _ _ S' x => W.fin S' x) he
theorem w_spl0 {pos : Pos} {Q : List Value → Loc → Led → Prop} (h : Q [] l n) : W prog w c (spliced (backTo pos (starEach [] env))) Q E l n := fun _ S => spliced_none (W.fin S h)
theorem w_meth {o : Expr} {name : Str} {apos pos : Pos} {args : List Expr} {pl : Sem Bool} {Q : Value → Loc → Led → Prop}
    (he : eval ((o.Attribute name apos).Call args [] pos) env = (do
          let ov ← eval o env
          standAt apos.atName
          let x ← holding [ov] (getMethod ov name pl)
          match x with
            | (f, first) => callWith pos f first (backTo pos (starEach args env)) []))
    (h : W prog w c (eval o env) (fun ov l' n' => W prog w c (getMethod ov name pl) (fun fx l' n' => W prog w c (callWith pos fx.1 fx.2 (backTo pos (starEach args env)) []) Q E l' n') E l' n') E l n) :
    W prog w c (eval ((o.Attribute name apos).Call args [] pos) env) Q E l n :=
  fun _ S => MethodCall_ (h.go S fun _ _ _ _ S' x => x.go S' fun _ _ _ _ S' x => x _ S') he

-- ===== entering a def
noncomputable abbrev zipL (ps : List Str) (vs : List Value) : List (Str × Value) := ps.zip vs
noncomputable abbrev locOf (ps : List Str) (vs : List Value) (rest : List Str) : Loc := (ps.zip vs).map (fun q => (q.1, some q.2)) ++ rest.map (fun x => (x, none))
noncomputable def retOf : Flow → Value
  | .ret v => v
  | _ => .none
theorem lookup_zip_none : ∀ {ps : List Str} {vs : List Value} {x : Str}, x ∉ ps → (ps.zip vs).lookup x = none
  | [], _, _, _ => rfl
  | _ :: _, [], _, _ => rfl
  | q :: ps, v :: vs, x, h => by
    rw [List.zip_cons_cons, List.lookup_cons]
    have : (x == q) = false := beq_eq_false_iff_ne.mpr fun e => h (e ▸ .head _)
    rw [this]
    exact lookup_zip_none fun m => h (.tail _ m)
theorem lookup_zip_mem : ∀ {ps : List Str} {vs : List Value}, ps.Nodup → ∀ q ∈ ps.zip vs, (ps.zip vs).lookup q.1 = some q.2
  | [], _, _, _, h => nomatch h
  | _ :: _, [], _, _, h => nomatch h
  | p :: ps, v :: vs, nd, q, h => by
    rw [List.zip_cons_cons] at h ⊢
    rw [List.lookup_cons]
    rcases List.mem_cons.mp h with rfl | h
    · simp
    · have : (q.1 == p) = false := beq_eq_false_iff_ne.mpr fun e => (List.nodup_cons.mp nd).1 (e ▸ (List.of_mem_zip h).1)
      rw [this]
      exact lookup_zip_mem (List.nodup_cons.mp nd).2 q h
theorem lookup_rev {α : Type} {l : List (Str × α)} (nd : (l.map (·.1)).Nodup) (x : Str) : l.reverse.lookup x = l.lookup x := by
  induction l with
  | nil => rfl
  | cons q l ih =>
    obtain ⟨k, v⟩ := q
    have nd' := List.nodup_cons.mp nd
    rw [List.reverse_cons, List.lookup_append, ih nd'.2, List.lookup_cons, List.lookup_cons, List.lookup_nil]
    by_cases e : x = k
    · subst e
      have : l.lookup x = none := by
        cases q : l.lookup x with
        | none => rfl
        | some v' =>
          exfalso
          have : x ∈ l.map (·.1) := by
            clear nd ih nd'
            induction l with
            | nil => cases q
            | cons r l ih2 =>
              obtain ⟨k2, v2⟩ := r
              rw [List.lookup_cons] at q
              by_cases e2 : x = k2
              · subst e2; exact .head _
              · have : (x == k2) = false := beq_eq_false_iff_ne.mpr e2
                rw [this] at q
                exact .tail _ (ih2 q)
          exact nd'.1 this
      rw [this]; simp
    · have : (x == k) = false := beq_eq_false_iff_ne.mpr e
      rw [this]; simp
theorem map_zip_fst : ∀ {ps : List Str} {vs : List Value}, ps.length = vs.length → (ps.zip vs).map (·.1) = ps
  | [], [], _ => rfl
  | _ :: _, v :: vs, h => by simp only [List.zip_cons_cons, List.map_cons]; rw [map_zip_fst (Nat.succ.inj h)]

/-- the locals of a scope behind its first k -/
inductive LocRest : List Arg → List (Str × NameKind) → List Str → Prop
  | nil {k} : LocRest k [] []
  | skip {a k x r rs} : LocRest k r rs → LocRest (a :: k) ((x, .local) :: r) rs
  | take {x r rs} : LocRest [] r rs → LocRest [] ((x, .local) :: r) (x :: rs)
  | glob {k x r rs} : LocRest k r rs → LocRest k ((x, .globalImplicit) :: r) rs
/-- what stands behind an exception that leaves a frame -/
noncomputable def Lv (prog : Program) (w : World) (c' : Cx) (env' : Env) (E : Value → Shared → Prop) : Value → Shared → Prop :=
  fun e s' => wpAny (model prog w) c'.A (leaving env' e) (fun _ s'' => E e s'') (fun e' s'' => E e' s'') s'

/-- the same for a code -/
noncomputable def WC (prog : Program) (w : World) (c : Cx) (t : Code) (Q : Value → Loc → Led → Prop) (E : Value → Shared → Prop) (l : Loc) (n : Led) : Prop :=
  ∀ s, St c l n s → codeAny (model prog w) c.A t (fun r s' => match r with | .ok (.ret v) => ∃ l' n', St c l' n' s' ∧ Q v l' n' | .ok _ => False | .error e => E e s') s
theorem WC.call {f : Value} {vs : List Value} {Q : Value → Loc → Led → Prop} (h : WC prog w c (.call f ⟨vs, []⟩) Q E l n) : W prog w c (call f vs) Q E l n := fun s S => wpAny_call (h s S)
theorem wc_enterX {name qual : Str} {params : Arguments} {body : List Stmt} {scope : Scope} {dV kV doc pm cdv ct oc : Value} {an od : Option Addr} {osl : Array (Option Value)} {f : Addr} {vs : List Value} {ps rest : List Str}
    {Q : Value → Loc → Led → Prop} (H : Amb K p loose c) (hk : 1 ≤ c.k)
    (ho : K.lookup f = some ⟨oc, od, .func (fnOf name qual params body scope dV kV doc pm an cdv ct), osl⟩) (hcd : codeIn K cdv qual = true)
    (_ : params.args.map (·.arg) = ps) (_ : LocRest params.args scope.names rest)
    (hb : bindArgs (fnOf name qual params body scope dV kV doc pm an cdv ct) ⟨vs, []⟩ = pure (ps.zip vs)) (hlen : ps.length = vs.length)
    (hnd : (ps ++ rest).Nodup) (hloc : ((ps ++ rest).all fun x => scope.names.lookup x == some .local) = true)
    (hco : scope.isCoroutine = false) (hgen : scope.isGenerator = false) (hfn : scope.kind = .function) (hcell : ∀ x ∈ scope.names, x.2 ≠ .cell)
    (h : ∀ (c' : Cx) (env' : Env), Amb K p loose c' → env' = envOf qual scope c'.L f cdv → c'.cs = scope → c'.k + 1 = c.k → W prog w c' (execs body env') (fun fl _ n' => Q (retOf fl) l n') (Lv prog w c' env' E) (locOf ps vs rest) n) :
    WC prog w c (.call (.ref f) ⟨vs, []⟩) Q E l n := fun s S => by
  obtain ⟨mean, mg, mb, T⟩ := H.T
  obtain ⟨A₀, base, outer, env, B, hA, hf, hke⟩ := H.B
  obtain ⟨m, F, hl⟩ := S.fr
  have hl1 : ∀ x ∈ ps ++ rest, scope.names.lookup x = some .local := fun x hx => by simpa using List.all_eq_true.mp hloc x hx
  have ndp : ps.Nodup := (List.nodup_append.mp hnd).1
  refine (code_def B F H.X S.nw T hA hf hke ho hcd (by have := H.dep; omega) (BindsTo.of_eq hb) (fun y hy => hl1 _ (List.mem_append_left _ (List.of_mem_zip hy).1)) (fun g L' h₁ FG F' N' B' X' T' => ?_) hco hgen hfn hcell)
  have keys : (locOf ps vs rest).map (·.1) = ps ++ rest := by
    simp only [locOf, List.map_append, List.map_map]
    congr 1
    · show (ps.zip vs).map (·.1) = ps; exact map_zip_fst hlen
    · exact List.map_id _
  have hW := h { A := c.A.deeper (envOf qual scope L' f cdv), h₀ := g, L := L', s₀ := c.s₀, cs := scope, k := c.k - 1 } (envOf qual scope L' f cdv)
    ⟨X', ⟨mean, mg, mb, T'⟩, ?_, H.hd, ?_, ?_⟩ rfl rfl (by show c.k - 1 + 1 = c.k; omega)
  · refine wpAny_mono (hW _ ⟨S.gens, S.drawn, S.os, ⟨_, F', fun q hq => ?_⟩, N', S.nd, ⟨hfn, fun q hq => ?_, by rw [keys]; exact hnd⟩⟩) (fun fl s' x => ?_) fun e s' x => x
    · show (ps.zip vs).reverse.lookup q.1 = q.2
      rw [lookup_rev (by rw [map_zip_fst hlen]; exact ndp)]
      rcases List.mem_append.mp hq with hq | hq
      · obtain ⟨r, hr, rfl⟩ := List.mem_map.mp hq
        exact lookup_zip_mem ndp r hr
      · obtain ⟨x, hx, rfl⟩ := List.mem_map.mp hq
        exact lookup_zip_none fun e => (List.nodup_append.mp hnd).2.2 _ e _ hx rfl
    · have : q.1 ∈ ps ++ rest := by rw [← keys]; exact List.mem_map_of_mem hq
      exact hl1 _ this
    · obtain ⟨l', n', S', q⟩ := x
      obtain ⟨m', F'', _⟩ := S'.fr
      refine ⟨L', m', n', F'', S'.nw, fun F0 N0 => ⟨l, n', ⟨S'.gens, S'.drawn, S'.os, ⟨m, F0, hl⟩, N0, S'.nd, S.lk⟩, ?_⟩⟩
      cases fl <;> exact q
  · exact ⟨c.A, base, env :: outer, envOf qual scope L' f cdv, B', by show (c.A.deeper _).frames = _; exact Around.frames_deeper hA, rfl, hfn⟩
  · have := H.dep; show (c.A.depth + 1) + (c.k - 1) < _; omega
  · have := H.un; show (c.A.units + 3) + 16 * (c.k - 1) + 200 < _; omega

theorem w_enterX {name qual : Str} {params : Arguments} {body : List Stmt} {scope : Scope} {dV kV doc pm cdv ct oc : Value} {an od : Option Addr} {osl : Array (Option Value)} {f : Addr} {vs : List Value} {ps rest : List Str}
    {Q : Value → Loc → Led → Prop} (H : Amb K p loose c) (hk : 1 ≤ c.k)
    (ho : K.lookup f = some ⟨oc, od, .func (fnOf name qual params body scope dV kV doc pm an cdv ct), osl⟩) (hcd : codeIn K cdv qual = true)
    (hps : params.args.map (·.arg) = ps) (hrest : LocRest params.args scope.names rest)
    (hb : bindArgs (fnOf name qual params body scope dV kV doc pm an cdv ct) ⟨vs, []⟩ = pure (ps.zip vs)) (hlen : ps.length = vs.length)
    (hnd : (ps ++ rest).Nodup) (hloc : ((ps ++ rest).all fun x => scope.names.lookup x == some .local) = true)
    (hco : scope.isCoroutine = false) (hgen : scope.isGenerator = false) (hfn : scope.kind = .function) (hcell : ∀ x ∈ scope.names, x.2 ≠ .cell)
    (h : ∀ (c' : Cx) (env' : Env), Amb K p loose c' → env' = envOf qual scope c'.L f cdv → c'.cs = scope → c'.k + 1 = c.k → W prog w c' (execs body env') (fun fl _ n' => Q (retOf fl) l n') (Lv prog w c' env' E) (locOf ps vs rest) n) :
    W prog w c (call (.ref f) vs) Q E l n :=
  WC.call (wc_enterX H hk ho hcd hps hrest hb hlen hnd hloc hco hgen hfn hcell h)
theorem w_enter {name qual : Str} {params : Arguments} {body : List Stmt} {scope : Scope} {dV kV doc pm cdv ct oc : Value} {an od : Option Addr} {osl : Array (Option Value)} {f : Addr} {vs : List Value} {ps rest : List Str}
    {Q : Value → Loc → Led → Prop} (H : Amb K p loose c) (hk : 1 ≤ c.k)
    (ho : K.lookup f = some ⟨oc, od, .func (fnOf name qual params body scope dV kV doc pm an cdv ct), osl⟩) (hcd : codeIn K cdv qual = true)
    (hps : params.args.map (·.arg) = ps) (hrest : LocRest params.args scope.names rest)
    (hb : bindArgs (fnOf name qual params body scope dV kV doc pm an cdv ct) ⟨vs, []⟩ = pure (ps.zip vs)) (hlen : ps.length = vs.length)
    (hnd : (ps ++ rest).Nodup) (hloc : ((ps ++ rest).all fun x => scope.names.lookup x == some .local) = true)
    (hco : scope.isCoroutine = false) (hgen : scope.isGenerator = false) (hfn : scope.kind = .function) (hcell : ∀ x ∈ scope.names, x.2 ≠ .cell)
    (h : ∀ (c' : Cx) (env' : Env) (E' : Value → Shared → Prop), Amb K p loose c' → env' = envOf qual scope c'.L f cdv → c'.cs = scope → c'.k + 1 = c.k → W prog w c' (execs body env') (fun fl _ n' => Q (retOf fl) l n') E' (locOf ps vs rest) n) :
    W prog w c (call (.ref f) vs) Q E l n :=
  w_enterX H hk ho hcd hps hrest hb hlen hnd hloc hco hgen hfn hcell fun c' env' => h c' env' _

-- ===== while
theorem w_whileX {test : Expr} {body orelse : List Stmt} {pos : Pos} {Q : Flow → Loc → Led → Prop} (I : Nat → Loc → Led → Prop) (i : Nat) (hi : I i l n)
    (turn : ∀ i l' n', I i l' n' → W prog w c (isTrue test env (eval test env)) (fun b l' n' =>
      if b then W prog w c (execs body env) (fun f l' n' => match f with
        | .next | .cont => ∃ j, j < i ∧ I j l' n'
        | .brk => Q .next l' n'
        | .ret v => Q (.ret v) l' n') (notedBy (model prog w) c.A env (cameBackBy (model prog w) c.A env E)) l' n'
      else W prog w c (execs orelse env) Q (notedBy (model prog w) c.A env (cameBackBy (model prog w) c.A env E)) l' n')
      (notedBy (model prog w) c.A env (cameBackBy (model prog w) c.A env E)) l' n') :
    W prog w c (exec (.While test body orelse pos) env) Q E l n := fun s S => by
  refine wpAny_While (codeAny_whileLoop (fun i s' => ∃ l' n', St c l' n' s' ∧ I i l' n') (fun i s' hI => ?_) i ⟨l, n, S, hi⟩)
  obtain ⟨l', n', S', x⟩ := hI
  refine (turn i l' n' x).go S' fun b s₂ l₂ n₂ S₂ y => ?_
  cases b with
  | true =>
    refine W.go y S₂ fun f s₃ l₃ n₃ S₃ z => ?_
    cases f with
    | next => obtain ⟨j, hj, z⟩ := z; exact ⟨j, hj, l₃, n₃, S₃, z⟩
    | cont => obtain ⟨j, hj, z⟩ := z; exact ⟨j, hj, l₃, n₃, S₃, z⟩
    | brk => exact ⟨l₃, n₃, S₃, z⟩
    | ret v => exact ⟨l₃, n₃, S₃, z⟩
  | false => exact W.go y S₂ fun f s₃ l₃ n₃ S₃ z => ⟨l₃, n₃, S₃, z⟩
theorem w_while {test : Expr} {body orelse : List Stmt} {pos : Pos} {Q : Flow → Loc → Led → Prop} (I : Nat → Loc → Led → Prop) (i : Nat) (hi : I i l n)
    (turn : ∀ (E' : Value → Shared → Prop) i l' n', I i l' n' → W prog w c (isTrue test env (eval test env)) (fun b l' n' =>
      if b then W prog w c (execs body env) (fun f l' n' => match f with
        | .next | .cont => ∃ j, j < i ∧ I j l' n'
        | .brk => Q .next l' n'
        | .ret v => Q (.ret v) l' n') E' l' n'
      else W prog w c (execs orelse env) Q E' l' n')
      E' l' n') :
    W prog w c (exec (.While test body orelse pos) env) Q E l n :=
  w_whileX I i hi fun i l' n' hI => turn _ i l' n' hI
/-- a while without else: the invariant, what holds behind it -/
theorem w_loop {test : Expr} {body : List Stmt} {pos : Pos} {Q : Flow → Loc → Led → Prop} (I : Nat → Loc → Led → Prop) (Ex : Loc → Led → Prop) (i : Nat) (hi : I i l n) (fin : ∀ l' n', Ex l' n' → Q .next l' n')
    (turn : ∀ (E' : Value → Shared → Prop) i l' n', I i l' n' → W prog w c (isTrue test env (eval test env)) (fun b l' n' =>
      if b then W prog w c (execs body env) (fun f l' n' => match f with
        | .next | .cont => ∃ j, j < i ∧ I j l' n'
        | .brk => Ex l' n'
        | .ret v => Q (.ret v) l' n') E' l' n'
      else Ex l' n') E' l' n') :
    W prog w c (exec (.While test body [] pos) env) Q E l n :=
  w_while I i hi fun E' i l' n' hI => (turn E' i l' n' hI).mono fun b l' n' x => by
    cases b with
    | true => exact W.mono x fun f l' n' y => by cases f <;> first | exact y | exact fin _ _ y
    | false => exact w_nil (fin _ _ x)
theorem w_loopP {test : Expr} {body : List Stmt} {pos : Pos} {Q : Flow → Loc → Led → Prop} (I : Nat → Loc → Led → Prop) (Ex : Loc → Led → Prop) (i : Nat) (hi : I i l n) (fin : ∀ l' n', Ex l' n' → Q .next l' n')
    (turn : ∀ (E' : Value → Shared → Prop) i l' n', I i l' n' → ∀ P : Flow → Loc → Led → Prop, (∀ j l' n', j < i → I j l' n' → P .next l' n') → (∀ j l' n', j < i → I j l' n' → P .cont l' n') → (∀ l' n', Ex l' n' → P .brk l' n') → (∀ v l' n', Q (.ret v) l' n' → P (.ret v) l' n') →
      W prog w c (isTrue test env (eval test env)) (fun b l' n' => if b then W prog w c (execs body env) P E' l' n' else Ex l' n') E' l' n') :
    W prog w c (exec (.While test body [] pos) env) Q E l n :=
  w_loop I Ex i hi fin fun E' i l' n' hI => turn E' i l' n' hI _ (fun j _ _ a b => ⟨j, a, b⟩) (fun j _ _ a b => ⟨j, a, b⟩) (fun _ _ x => x) fun _ _ _ x => x
theorem w_whileXP {test : Expr} {body orelse : List Stmt} {pos : Pos} {Q : Flow → Loc → Led → Prop} (I : Nat → Loc → Led → Prop) (i : Nat) (hi : I i l n)
    (turn : ∀ i l' n', I i l' n' → ∀ P : Flow → Loc → Led → Prop, (∀ j l' n', j < i → I j l' n' → P .next l' n') → (∀ j l' n', j < i → I j l' n' → P .cont l' n') → (∀ l' n', Q .next l' n' → P .brk l' n') → (∀ v l' n', Q (.ret v) l' n' → P (.ret v) l' n') →
      W prog w c (isTrue test env (eval test env)) (fun b l' n' =>
      if b then W prog w c (execs body env) P (notedBy (model prog w) c.A env (cameBackBy (model prog w) c.A env E)) l' n'
      else W prog w c (execs orelse env) Q (notedBy (model prog w) c.A env (cameBackBy (model prog w) c.A env E)) l' n')
      (notedBy (model prog w) c.A env (cameBackBy (model prog w) c.A env E)) l' n') :
    W prog w c (exec (.While test body orelse pos) env) Q E l n :=
  w_whileX I i hi fun i l' n' hI => turn i l' n' hI _ (fun j _ _ a b => ⟨j, a, b⟩) (fun j _ _ a b => ⟨j, a, b⟩) (fun _ _ x => x) fun _ _ _ x => x
end

-- ===== Li
section
variable {prog : Program} {w : World} {K : Frag} {p : Program} {loose : List Str}
variable {c : Cx} {E : Value → Shared → Prop} {l : Loc} {n : Led} {env : Env}

theorem line_is : sizeLine = 16777216 := rfl

-- ===== ops on ints
theorem w_add_int {a b : Int} {t u : Tok} {Q : Value → Loc → Led → Prop} (h : ∀ t, Q (.int (a + b) t) l n) : W prog w c (binaryOp .Add (.int a t) (.int b u)) Q E l n := fun _ S => by
  with_reducible refine add_int ?_
  exact ⟨l, n, S.tok, h _⟩
theorem w_iadd_int {a b : Int} {t u : Tok} {Q : Value → Loc → Led → Prop} (h : ∀ t, Q (.int (a + b) t) l n) : W prog w c (inplaceOp .Add (.int a t) (.int b u)) Q E l n := fun _ S => by
  with_reducible refine iadd_int ?_
  exact ⟨l, n, S.tok, h _⟩
theorem w_sub_int {a b : Int} {t u : Tok} {Q : Value → Loc → Led → Prop} (h : ∀ t, Q (.int (a - b) t) l n) : W prog w c (binaryOp .Sub (.int a t) (.int b u)) Q E l n := fun _ S => by
  with_reducible refine sub_int ?_
  exact ⟨l, n, S.tok, h _⟩
theorem w_mul_int {a b : Int} {t u : Tok} {Q : Value → Loc → Led → Prop} (hm : IntMulOk a b) (h : ∀ t, Q (.int (a * b) t) l n) : W prog w c (binaryOp .Mult (.int a t) (.int b u)) Q E l n := fun _ S => by
  with_reducible refine mul_int ?_ hm
  exact ⟨l, n, S.tok, h _⟩
theorem w_mod_int {a b : Int} {t u : Tok} {Q : Value → Loc → Led → Prop} (hb : b ≠ 0) (h : ∀ t, Q (.int (a.fmod b) t) l n) : W prog w c (binaryOp .Mod (.int a t) (.int b u)) Q E l n := fun _ S => by
  with_reducible refine mod_int' hb ?_
  exact ⟨l, n, S.tok, h _⟩
theorem w_div_int {a b : Int} {t u : Tok} {Q : Value → Loc → Led → Prop} (hb : b ≠ 0) (hp : Builtin.divisionGoesByPylong a b = false) (h : ∀ t, Q (.int (a.fdiv b) t) l n) : W prog w c (binaryOp .FloorDiv (.int a t) (.int b u)) Q E l n :=
  fun _ S => floordiv_int hb ⟨l, n, S.tok, h _⟩ (.inl hp)
-- ===== texts
theorem w_add_str {x y : Str} {t u : Tok} {Q : Value → Loc → Led → Prop} (hs : x.length + y.length ≤ sizeLine) (h : ∀ t, Q (.str (x ++ y) t) l n) : W prog w c (binaryOp .Add (.str x t) (.str y u)) Q E l n := fun _ S => add_str (fun _ _ => ⟨l, n, S.tok, h _⟩) hs
theorem w_mul_str {x : Str} {k : Int} {t u : Tok} {Q : Value → Loc → Led → Prop} (hs : MulOk x k) (h : ∀ t, Q (.str (Txt.mul x k) t) l n) : W prog w c (binaryOp .Mult (.str x t) (.int k u)) Q E l n := fun _ S => SB.mul hs (fun _ _ => ⟨l, n, S.tok, h _⟩)
-- ===== comparisons
section
variable {a b : Int} {x y : Str} {t u : Tok} {Q : Value → Loc → Led → Prop}
theorem w_lt_int (h : Q (.bool (decide (a < b))) l n) : W prog w c (compareOp .Lt (.int a t) (.int b u)) Q E l n := fun _ S => by
  with_reducible refine lt_int ?_
  exact ⟨l, n, S, h⟩
theorem w_gt_int (h : Q (.bool (decide (b < a))) l n) : W prog w c (compareOp .Gt (.int a t) (.int b u)) Q E l n := fun _ S => by
  with_reducible refine gt_int ?_
  exact ⟨l, n, S, h⟩
theorem w_le_int (h : Q (.bool (decide (a ≤ b))) l n) : W prog w c (compareOp .LtE (.int a t) (.int b u)) Q E l n := fun _ S => by
  with_reducible refine le_int ?_
  exact ⟨l, n, S, h⟩
theorem w_ge_int (h : Q (.bool (decide (b ≤ a))) l n) : W prog w c (compareOp .GtE (.int a t) (.int b u)) Q E l n := fun _ S => by
  with_reducible refine ge_int ?_
  exact ⟨l, n, S, h⟩
theorem w_eq_int (h : Q (.bool (a == b)) l n) : W prog w c (compareOp .Eq (.int a t) (.int b u)) Q E l n := fun _ S => by
  with_reducible refine eq_int ?_
  exact ⟨l, n, S, h⟩
theorem w_eq_str (h : Q (.bool (x == y)) l n) : W prog w c (compareOp .Eq (.str x t) (.str y u)) Q E l n := fun _ S => by
  with_reducible refine eq_str ?_
  exact ⟨l, n, S, h⟩
theorem w_ne_str (h : Q (.bool (x != y)) l n) : W prog w c (compareOp .NotEq (.str x t) (.str y u)) Q E l n := fun _ S => by
  with_reducible refine ne_str ?_
  exact ⟨l, n, S, h⟩
theorem w_le_str (h : Q (.bool (!decide (y.cps.toList < x.cps.toList))) l n) : W prog w c (compareOp .LtE (.str x t) (.str y u)) Q E l n := fun _ S => by
  with_reducible refine P.le_str ?_
  exact ⟨l, n, S, h⟩
theorem w_in_str (h : Q (.bool (!(Builtin.Str.occurrences x y 0 x.length 1).isEmpty)) l n) : W prog w c (compareOp .In (.str y u) (.str x t)) Q E l n := fun _ S => by
  with_reducible refine in_str ?_
  exact ⟨l, n, S, h⟩
theorem w_notin_str (h : Q (.bool (!!(Builtin.Str.occurrences x y 0 x.length 1).isEmpty)) l n) : W prog w c (compareOp .NotIn (.str y u) (.str x t)) Q E l n := fun _ S => by
  with_reducible refine notIn_str ?_
  exact ⟨l, n, S, h⟩
theorem w_isnot_refnone {a : Addr} (h : Q (.bool true) l n) : W prog w c (compareOp .IsNot (.ref a) .none) Q E l n := fun _ S => by
  with_reducible refine isnot_ref_none ?_
  exact ⟨l, n, S, h⟩
theorem w_is_refnone {a : Addr} (h : Q (.bool false) l n) : W prog w c (compareOp .Is (.ref a) .none) Q E l n := fun _ S => by
  with_reducible refine is_ref_none ?_
  exact ⟨l, n, S, h⟩
theorem w_isnot_nn (h : Q (.bool false) l n) : W prog w c (compareOp .IsNot .none .none) Q E l n := fun _ S => by
  with_reducible refine isnot_none_none ?_
  exact ⟨l, n, S, h⟩
theorem w_is_nn (h : Q (.bool true) l n) : W prog w c (compareOp .Is .none .none) Q E l n := fun _ S => by
  with_reducible refine is_none_none ?_
  exact ⟨l, n, S, h⟩
end
-- ===== made lists and tuples
theorem nd_new {n : Led} {a : Addr} {o : Obj} (nd : (n.map (·.1)).Nodup) (h : ∀ q ∈ n, q.1 < a) : (((a, o) :: n).map (·.1)).Nodup :=
  List.nodup_cons.mpr ⟨fun m => by obtain ⟨q, hq, e⟩ := List.mem_map.mp m; exact absurd (h q hq) (by rw [e]; exact Nat.lt_irrefl _), nd⟩
theorem w_newT {vs : List Value} {Q : Value → Loc → Led → Prop} (hsz : vs.length ≤ sizeLine) (h : ∀ a, (∀ q ∈ n, q.1 < a) → Q (.ref a) l ((a, tupObj vs) :: n)) : W prog w c (newTuple vs) Q E l n := fun _ S => by
  obtain ⟨m, F, hl⟩ := S.fr
  exact kup_newTuple F S.nw (fun D h' F' N' hlt => W.fin (S.put ⟨m, F', hl⟩ N' (nd_new S.nd hlt) S.lk) (h D hlt)) hsz
theorem w_newL {vs : List Value} {Q : Value → Loc → Led → Prop} (hsz : vs.length ≤ sizeLine) (h : ∀ a, (∀ q ∈ n, q.1 < a) → Q (.ref a) l ((a, W.listOf vs.toArray 0) :: n)) : W prog w c (newList vs) Q E l n := fun _ S => by
  obtain ⟨m, F, hl⟩ := S.fr
  exact newList_K F S.nw (fun D h' F' N' hlt => W.fin (S.put ⟨m, F', hl⟩ N' (nd_new S.nd hlt) S.lk) (h D hlt)) hsz
theorem w_tuple {elts : List Expr} {k : Nat} {pos : Pos} {Q : Value → Loc → Led → Prop}
    (h : W prog w c (spliced (backTo pos (starEach elts env))) (fun vs l' n' => W prog w c (newTuple vs) Q E l' n') E l n) : W prog w c (eval (.Tuple elts k pos) env) Q E l n :=
  fun _ S => Tuple_ (h.go S fun _ _ _ _ S' x => x _ S')
theorem w_list {elts : List Expr} {pos : Pos} {Q : Value → Loc → Led → Prop}
    (h : W prog w c (spliced (backTo pos (starEach elts env))) (fun vs l' n' => W prog w c (newList vs) Q E l' n') E l n) : W prog w c (eval (.List elts pos) env) Q E l n :=
  fun _ S => List_ (h.go S fun _ _ _ _ S' x => x _ S')
theorem w_len_str {x : Str} {t : Tok} {Q : Value → Loc → Led → Prop} (hx : x.length < 2 ^ 63) (h : ∀ t, Q (.int (x.length : Int) t) l n) : W prog w c (call (.builtin "len") [.str x t]) Q E l n :=
  fun _ S => len_str (by omega) ⟨l, n, S.tok, h _⟩
theorem isList_of {h₀ h : Heap} {L a : Addr} {n : Led} {its : Array Value} {k : Nat} (N : News h₀ L h n) (hm : (a, W.listOf its k) ∈ n) : h.IsList a its := ⟨_, (N _ hm).1, rfl, k, rfl⟩
theorem isTup_of {h₀ h : Heap} {L a : Addr} {n : Led} {vs : List Value} {k : Nat} (N : News h₀ L h n) (hm : (a, ({ cls := .type "tuple", data := .seq vs.toArray k } : Obj)) ∈ n) : IsTup h a vs.toArray := ⟨_, (N _ hm).1, rfl, k, rfl⟩
theorem w_len_list {a : Addr} {its : Array Value} {k : Nat} {Q : Value → Loc → Led → Prop} (hm : (a, W.listOf its k) ∈ n) (hx : its.size < 2 ^ 63) (h : ∀ t, Q (.int (its.size : Int) t) l n) :
    W prog w c (call (.builtin "len") [.ref a]) Q E l n := fun _ S => len_list (isList_of S.nw hm) (by omega) ⟨l, n, S.tok, h _⟩
-- ===== taking apart
theorem w_unpack {elts : List Expr} {k : Nat} {pos : Pos} {a : Addr} {vs : List Value} {j : Nat} {Q : Unit → Loc → Led → Prop} (H : Amb K p loose c) (hm : (a, ({ cls := .type "tuple", data := .seq vs.toArray j } : Obj)) ∈ n)
    (h1 : (assignEach elts env).length = vs.toArray.size) (h2 : (assignEach elts env).findIdx? (fun x => x.1) = none)
    (h : W prog w c (assignInOrder ((assignEach elts env).map (·.2)) vs) Q E l n) : W prog w c (assign (.Tuple elts k pos) env (.ref a)) Q E l n := fun s S => by
  obtain ⟨m, F, hl⟩ := S.fr
  exact unpackN_ F S.nw (isTup_of S.nw hm) H.hd h1 h2 fun h' F' N' => h _ ⟨S.gens, S.drawn, S.os, ⟨m, F', hl⟩, N', S.nd, S.lk⟩
theorem w_aio {t : Value → Sem Unit} {ts : List (Value → Sem Unit)} {x : Value} {xs : List Value} {Q : Unit → Loc → Led → Prop}
    (h : W prog w c (t x) (fun _ l' n' => W prog w c (assignInOrder ts xs) Q E l' n') E l n) : W prog w c (assignInOrder (t :: ts) (x :: xs)) Q E l n :=
  fun _ S => assignInOrder_cons (h.go S fun _ _ _ _ S' x => x _ S')
theorem w_aio0 {xs : List Value} {Q : Unit → Loc → Led → Prop} (h : Q () l n) : W prog w c (assignInOrder [] xs) Q E l n := fun _ S => assignInOrder_nil ⟨l, n, S, h⟩
-- ===== items and slices
theorem w_sub {value slice : Expr} {pos : Pos} {Q : Value → Loc → Led → Prop}
    (h : W prog w c (eval value env) (fun o l' n' => W prog w c (eval slice env) (fun i l' n' => W prog w c (subscriptTail value slice o i) Q E l' n') E l' n') E l n) :
    W prog w c (eval (.Subscript value slice pos) env) Q E l n :=
  fun _ S => Subscript_ (h.go S fun _ _ _ _ S' x => x.go S' fun _ _ _ _ S' x => x _ S')
theorem w_item_str {value slice : Expr} {x : Str} {t u : Tok} {i : Int} {Q : Value → Loc → Led → Prop}
    (hs : subscripted slice false (.str x t) (.int i u) = operate [.str x t, .int i u] (getItem (.str x t) (.int i u))) (hg : ∀ r, letTemporaryGo value (.str x t) r = pure ())
    (hx : x.length ≤ sizeLine) (h0 : 0 ≤ i) (h1 : i < x.length) (h : ∀ t, Q (.str (Txt.item x i) t) l n) : W prog w c (subscriptTail value slice (.str x t) (.int i u)) Q E l n :=
  fun _ S => item_str (fitsSsize_of (N := 16777216) (by omega) (by rw [line_is] at hx; omega) (by decide)) (by omega) h1 (fun _ => ⟨l, n, S.tok, h _⟩) hs hg
theorem w_item_tup {value slice : Expr} {a : Addr} {vs : List Value} {k : Nat} {i : Int} {u : Tok} {j : Nat} {v : Value} {Q : Value → Loc → Led → Prop} (hm : (a, ({ cls := .type "tuple", data := .seq vs.toArray k } : Obj)) ∈ n)
    (hs : subscripted slice false (.ref a) (.int i u) = operate [.ref a, .int i u] (getItem (.ref a) (.int i u)))
    (h0 : -(2 ^ 63) ≤ i) (h1 : i < 2 ^ 63) (hj : seqIndex? i vs.length = some j) (hv : vs[j]? = some v) (h : Q v l n) : W prog w c (subscriptTail value slice (.ref a) (.int i u)) Q E l n :=
  fun _ S => item_tupleT (isTup_of S.nw hm) h0 h1 hj hv ⟨l, n, S, h⟩ hs
theorem w_sl_ss {value lo hi : Expr} {q pos : Pos} {Q : Value → Loc → Led → Prop}
    (hs : ∀ x t a, subscripted (.Slice (some lo) (some hi) none q) false (.str x t) (.ref a) = operate [.ref a, .str x t] (getItem (.str x t) (.ref a))) (hg : ∀ x t r, letTemporaryGo value (.str x t) r = pure ())
    (h : W prog w c (eval value env) (fun o l' n' => ∃ x t, o = .str x t ∧ x.length ≤ sizeLine ∧ W prog w c (eval lo env) (fun i l' n' => ∃ a ta, i = .int a ta ∧
      W prog w c (eval hi env) (fun j l' n' => ∃ b tb, j = .int b tb ∧ ∀ t, Q (.str (Txt.slice x (some a) (some b)) t) l' n') E l' n') E l' n') E l n) :
    W prog w c (eval (.Subscript value (.Slice (some lo) (some hi) none q) pos) env) Q E l n := fun _ S => by
  refine Subscript_ (h.go S fun o s' l' n' S' x => ?_)
  obtain ⟨x, t, rfl, hx, k⟩ := x
  refine wpAny_Slice (evalPart_some_step (k.go S' fun i s2 l2 n2 S2 y => ?_))
  obtain ⟨a, ta, rfl, k⟩ := y
  refine evalPart_some_step (k.go S2 fun j s3 l3 n3 S3 z => ?_)
  obtain ⟨b, tb, rfl, k⟩ := z
  obtain ⟨m, F, hl⟩ := S3.fr
  exact evalPart_none_step (slice_strN_ss F S3.nw (fun h' t' _ F' N' => W.fin (S3.put ⟨m, F', hl⟩ N' S3.nd S3.lk) (k t')) (hs _ _ _) (hg _ _) hx)
theorem w_sl_sn {value lo : Expr} {q pos : Pos} {Q : Value → Loc → Led → Prop}
    (hs : ∀ x t a, subscripted (.Slice (some lo) none none q) false (.str x t) (.ref a) = operate [.ref a, .str x t] (getItem (.str x t) (.ref a))) (hg : ∀ x t r, letTemporaryGo value (.str x t) r = pure ())
    (h : W prog w c (eval value env) (fun o l' n' => ∃ x t, o = .str x t ∧ x.length ≤ sizeLine ∧ W prog w c (eval lo env) (fun i l' n' => ∃ a ta, i = .int a ta ∧
      ∀ t, Q (.str (Txt.slice x (some a) none) t) l' n') E l' n') E l n) :
    W prog w c (eval (.Subscript value (.Slice (some lo) none none q) pos) env) Q E l n := fun _ S => by
  refine Subscript_ (h.go S fun o s' l' n' S' x => ?_)
  obtain ⟨x, t, rfl, hx, k⟩ := x
  refine wpAny_Slice (evalPart_some_step (k.go S' fun i s2 l2 n2 S2 y => ?_))
  obtain ⟨a, ta, rfl, k⟩ := y
  obtain ⟨m, F, hl⟩ := S2.fr
  exact evalPart_none_step (evalPart_none_step (slice_strN_sn F S2.nw (fun h' t' _ F' N' => W.fin (S2.put ⟨m, F', hl⟩ N' S2.nd S2.lk) (k t')) (hs _ _ _) (hg _ _) hx))
theorem w_sl_ns {value hi : Expr} {q pos : Pos} {Q : Value → Loc → Led → Prop}
    (hs : ∀ x t a, subscripted (.Slice none (some hi) none q) false (.str x t) (.ref a) = operate [.ref a, .str x t] (getItem (.str x t) (.ref a))) (hg : ∀ x t r, letTemporaryGo value (.str x t) r = pure ())
    (h : W prog w c (eval value env) (fun o l' n' => ∃ x t, o = .str x t ∧ x.length ≤ sizeLine ∧ W prog w c (eval hi env) (fun i l' n' => ∃ a ta, i = .int a ta ∧
      ∀ t, Q (.str (Txt.slice x none (some a)) t) l' n') E l' n') E l n) :
    W prog w c (eval (.Subscript value (.Slice none (some hi) none q) pos) env) Q E l n := fun _ S => by
  refine Subscript_ (h.go S fun o s' l' n' S' x => ?_)
  obtain ⟨x, t, rfl, hx, k⟩ := x
  refine wpAny_Slice (evalPart_none_step (evalPart_some_step (k.go S' fun i s2 l2 n2 S2 y => ?_)))
  obtain ⟨a, ta, rfl, k⟩ := y
  obtain ⟨m, F, hl⟩ := S2.fr
  exact evalPart_none_step (slice_strN_ns F S2.nw (fun h' t' _ F' N' => W.fin (S2.put ⟨m, F', hl⟩ N' S2.nd S2.lk) (k t')) (hs _ _ _) (hg _ _) hx)
-- ===== data
theorem w_in_tupS {a : Addr} {vs : List Value} {k : Nat} {ys : List Str} {x : Str} {u : Tok} {Q : Value → Loc → Led → Prop} (hm : (a, ({ cls := .type "tuple", data := .seq vs.toArray k } : Obj)) ∈ n) (hy : StrsAre vs ys)
    (h : Q (.bool (ys.any fun y => y == x)) l n) : W prog w c (compareOp .In (.str x u) (.ref a)) Q E l n := fun _ S => in_tuple_strs (isTup_of S.nw hm) (by simpa using hy) ⟨l, n, S, h⟩
theorem w_notin_tupS {a : Addr} {vs : List Value} {k : Nat} {ys : List Str} {x : Str} {u : Tok} {Q : Value → Loc → Led → Prop} (hm : (a, ({ cls := .type "tuple", data := .seq vs.toArray k } : Obj)) ∈ n) (hy : StrsAre vs ys)
    (h : Q (.bool (!ys.any fun y => y == x)) l n) : W prog w c (compareOp .NotIn (.str x u) (.ref a)) Q E l n := fun _ S => notin_tuple_strs (isTup_of S.nw hm) (by simpa using hy) ⟨l, n, S, h⟩
theorem w_in_listS {a : Addr} {vs : List Value} {k : Nat} {ys : List Str} {x : Str} {u : Tok} {Q : Value → Loc → Led → Prop} (hm : (a, W.listOf vs.toArray k) ∈ n) (hy : StrsAre vs ys)
    (h : Q (.bool (ys.any fun y => y == x)) l n) : W prog w c (compareOp .In (.str x u) (.ref a)) Q E l n := fun _ S => in_list_strs (isList_of S.nw hm) hy ⟨l, n, S, h⟩
open Classical in
theorem w_eqD {u v : Value} {d e : Dat} {Q : Value → Loc → Led → Prop} (H : Amb K p loose c) (hu : DatIn n u d) (hv : DatIn n v e) (hd : kqdOk 60 d = true) (he : kqdOk 60 e = true) (h : Q (.bool (decide (d = e))) l n) :
    W prog w c (compareOp .Eq u v) Q E l n := fun _ S => by
  obtain ⟨as, ra⟩ := kqd_in S.nw 60 hu hd
  obtain ⟨bs, rb⟩ := kqd_in S.nw 60 hv he
  have la := kqd_lay 60 d hd
  have lb := kqd_lay 60 e he
  have q := kqd_eqv 60 d e 60 hd he
  have eq : PyData.eqv (kqdP d) (kqdP e) = decide (d = e) := by
    by_cases hq : d = e
    · rw [decide_eq_true hq]; exact q.mpr hq
    · rw [decide_eq_false hq]; exact Bool.eq_false_iff.mpr fun x => hq (q.mp x)
  refine eq_dataH ra rb ?_ ?_ (by have := H.un; omega) (by rw [eq]; exact W.fin S h)
  · unfold SeqAt.shaped; rw [la.1, Bool.true_and]; exact decide_eq_true (Nat.le_trans la.2 (by decide))
  · unfold SeqAt.shaped; rw [lb.1, Bool.true_and]; exact decide_eq_true (Nat.le_trans lb.2 (by decide))
open Classical in
theorem w_neD {u v : Value} {d e : Dat} {Q : Value → Loc → Led → Prop} (H : Amb K p loose c) (hu : DatIn n u d) (hv : DatIn n v e) (hd : kqdOk 60 d = true) (he : kqdOk 60 e = true) (h : Q (.bool (!decide (d = e))) l n) :
    W prog w c (compareOp .NotEq u v) Q E l n := fun _ S => by
  obtain ⟨as, ra⟩ := kqd_in S.nw 60 hu hd
  obtain ⟨bs, rb⟩ := kqd_in S.nw 60 hv he
  have la := kqd_lay 60 d hd
  have lb := kqd_lay 60 e he
  have q := kqd_eqv 60 d e 60 hd he
  have eq : PyData.eqv (kqdP d) (kqdP e) = decide (d = e) := by
    by_cases hq : d = e
    · rw [decide_eq_true hq]; exact q.mpr hq
    · rw [decide_eq_false hq]; exact Bool.eq_false_iff.mpr fun x => hq (q.mp x)
  refine ne_dataH ra rb ?_ ?_ (by have := H.un; omega) (by rw [eq]; exact W.fin S h)
  · unfold SeqAt.shaped; rw [la.1, Bool.true_and]; exact decide_eq_true (Nat.le_trans la.2 (by decide))
  · unfold SeqAt.shaped; rw [lb.1, Bool.true_and]; exact decide_eq_true (Nat.le_trans lb.2 (by decide))
end

-- ===== Lp
noncomputable abbrev S (cs : List Nat) : Str := ⟨cs.toArray⟩
theorem S_len (cs : List Nat) : (S cs).length = cs.length := by simp [Str.length]
theorem S_cps (cs : List Nat) : (S cs).cps.toList = cs := rfl
theorem S_inj {a b : List Nat} : S a = S b ↔ a = b := by
  constructor
  · intro h; have := congrArg (fun x : Str => x.cps.toList) h; simpa using this
  · rintro rfl; rfl
theorem S_beq (a b : List Nat) : (S a == S b) = decide (a = b) := by
  by_cases h : a = b
  · subst h; simp
  · rw [decide_eq_false h]; exact beq_eq_false_iff_ne.mpr fun e => h (S_inj.mp e)
theorem S_bne (a b : List Nat) : (S a != S b) = !decide (a = b) := by rw [bne, S_beq]
theorem S_app (a b : List Nat) : (S a ++ S b : Str) = S (a ++ b) := by
  show (⟨_⟩ : Str) = _
  congr 1; simp
theorem item_S {cs : List Nat} {i ch : Nat} (h : cs[i]? = some ch) : Txt.item (S cs) (i : Int) = S [ch] := by
  have hl : i < cs.length := (List.getElem?_eq_some_iff.mp h).1
  unfold Txt.item Txt.charAt seqIndex?
  have e : (S cs).length = cs.length := S_len cs
  rw [e]
  have h1 : ¬ ((i : Int) < 0) := by omega
  simp only [h1, if_false]
  have h2 : (decide ((0 : Int) ≤ i) && decide ((i : Int) < cs.length)) = true := by simp; omega
  rw [if_pos h2]
  show (⟨#[((S cs).cps[(i : Int).toNat]?).getD 0]⟩ : Str) = _
  have : (S cs).cps[(i : Int).toNat]? = some ch := by simpa using h
  rw [this]; rfl
theorem indices_ss (a b n : Nat) : Builtin.Str.strSliceIndices (some (a : Int)) (some (b : Int)) 1 n = (List.range (min b n - min a n)).map (min a n + ·) := by
  unfold Builtin.Str.strSliceIndices
  have h1 : ¬ ((a : Int) < 0) := by omega
  have h2 : ¬ ((b : Int) < 0) := by omega
  simp only [h1, h2, if_false, show (1 : Int) > 0 by decide, if_true]
  rw [show max 0 (min (a : Int) n) = ((min a n : Nat) : Int) by omega, show max 0 (min (b : Int) n) = ((min b n : Nat) : Int) by omega]
  exact sliceRange_one _ _
theorem indices_sn (a n : Nat) : Builtin.Str.strSliceIndices (some (a : Int)) none 1 n = (List.range (n - min a n)).map (min a n + ·) := by
  unfold Builtin.Str.strSliceIndices
  have h1 : ¬ ((a : Int) < 0) := by omega
  simp only [h1, if_false, show (1 : Int) > 0 by decide, if_true]
  rw [show max 0 (min (a : Int) n) = ((min a n : Nat) : Int) by omega]
  exact sliceRange_one _ _
theorem indices_ns (b n : Nat) : Builtin.Str.strSliceIndices none (some (b : Int)) 1 n = (List.range (min b n)).map (0 + ·) := by
  unfold Builtin.Str.strSliceIndices
  have h1 : ¬ ((b : Int) < 0) := by omega
  simp only [h1, if_false, show (1 : Int) > 0 by decide, if_true]
  rw [show max 0 (min (b : Int) n) = ((min b n : Nat) : Int) by omega, show (0 : Int) = ((0 : Nat) : Int) from rfl, sliceRange_one]
  simp
theorem picked {cs : List Nat} {a k : Nat} : (((List.range k).map (a + ·)).filterMap ((S cs).cps[·]?)) = (cs.drop a).take k := by
  rw [pick_run]
theorem slice_ss (cs : List Nat) (a b : Nat) : Txt.slice (S cs) (some (a : Int)) (some (b : Int)) = S ((cs.drop a).take (b - a)) := by
  unfold Txt.slice
  rw [indices_ss, S_len, picked]
  have e : (cs.drop (min a cs.length)).take (min b cs.length - min a cs.length) = (cs.drop a).take (b - a) := by
    by_cases ha : a ≤ cs.length
    · rw [Nat.min_eq_left ha]
      by_cases hb : b ≤ cs.length
      · rw [Nat.min_eq_left hb]
      · rw [Nat.min_eq_right (by omega), List.take_of_length_le (by simp), List.take_of_length_le (by simp; omega)]
    · have ha' : cs.length ≤ a := by omega
      rw [Nat.min_eq_right ha', List.drop_eq_nil_of_le (Nat.le_refl _), List.drop_eq_nil_of_le ha']; simp
  split
  · rename_i h
    have h' : min b cs.length - min a cs.length = cs.length := by simpa using h
    rw [← e]
    have : min a cs.length = 0 := by omega
    rw [this, List.drop_zero, List.take_of_length_le (by omega)]
  · rw [e]
theorem slice_sn (cs : List Nat) (a : Nat) : Txt.slice (S cs) (some (a : Int)) none = S (cs.drop a) := by
  unfold Txt.slice
  rw [indices_sn, S_len, picked]
  have e : (cs.drop (min a cs.length)).take (cs.length - min a cs.length) = cs.drop a := by
    rw [List.take_of_length_le (by simp)]
    by_cases ha : a ≤ cs.length
    · rw [Nat.min_eq_left ha]
    · rw [Nat.min_eq_right (by omega), List.drop_eq_nil_of_le (Nat.le_refl _), List.drop_eq_nil_of_le (by omega)]
  split
  · rename_i h
    have h' : cs.length - min a cs.length = cs.length := by simpa using h
    rw [← e]
    by_cases hz : cs.length = 0
    · have : cs = [] := List.length_eq_zero_iff.mp hz
      subst this; simp
    · have : min a cs.length = 0 := by omega
      rw [this, List.drop_zero, List.take_of_length_le (by omega)]
  · rw [e]
theorem slice_ns (cs : List Nat) (b : Nat) : Txt.slice (S cs) none (some (b : Int)) = S (cs.take b) := by
  unfold Txt.slice
  rw [indices_ns, S_len, picked]
  have e : (cs.drop 0).take (min b cs.length) = cs.take b := by
    rw [List.drop_zero]
    by_cases hb : b ≤ cs.length
    · rw [Nat.min_eq_left hb]
    · rw [Nat.min_eq_right (by omega), List.take_of_length_le (Nat.le_refl _), List.take_of_length_le (by omega)]
  split
  · rename_i h
    have h' : min b cs.length = cs.length := by simpa using h
    rw [← e, h', List.drop_zero, List.take_of_length_le (Nat.le_refl _)]
  · rw [e]
theorem in_S (cs : List Nat) (ch : Nat) : (!(Builtin.Str.occurrences (S cs) (S [ch]) 0 (S cs).length 1).isEmpty) = decide (ch ∈ cs) := StrLaws.found_one (S cs) ch

-- ===== Lq
section
variable {prog : Program} {w : World} {K : Frag} {p : Program} {loose : List Str}
variable {c : Cx} {E : Value → Shared → Prop} {l : Loc} {n : Led} {env : Env}

-- ===== methods of texts
theorem w_gm_find {x : Str} {t : Tok} {pl : Sem Bool} {Q : Value × List Value → Loc → Led → Prop} (h : Q (.builtin "str.find", [.str x t]) l n) : W prog w c (getMethod (.str x t) (Str.ofString "find") pl) Q E l n := fun _ S => by
  with_reducible refine GM.find ?_
  exact ⟨l, n, S, h⟩
theorem w_gm_split {x : Str} {t : Tok} {pl : Sem Bool} {Q : Value × List Value → Loc → Led → Prop} (h : Q (.builtin "str.split", [.str x t]) l n) : W prog w c (getMethod (.str x t) (Str.ofString "split") pl) Q E l n := fun _ S => by
  with_reducible refine GM.split ?_
  exact ⟨l, n, S, h⟩
theorem w_gm_join {x : Str} {t : Tok} {pl : Sem Bool} {Q : Value × List Value → Loc → Led → Prop} (h : Q (.builtin "str.join", [.str x t]) l n) : W prog w c (getMethod (.str x t) (Str.ofString "join") pl) Q E l n := fun _ S => by
  with_reducible refine GM.join ?_
  exact ⟨l, n, S, h⟩
theorem gives_find4 (x y : Str) (i j : Int) (t u v z : Tok) : ∃ r, Gives (Builtin.«str.find» ⟨[.str x t, .str y u, .int i v, .int j z], []⟩) (.int r) := by
  have key : ∃ lo hi, Builtin.«str.find» ⟨[.str x t, .str y u, .int i v, .int j z], []⟩ = (match Builtin.Str.occurrences x y lo hi 1 with | k :: _ => retInt k | [] => (do rule "str.find.not-found"; retInt (-1))) := ⟨_, _, rfl⟩
  obtain ⟨lo, hi, e⟩ := key
  rw [e]
  cases Builtin.Str.occurrences x y lo hi 1 with
  | nil => exact ⟨-1, .rule (.of_eq rfl)⟩
  | cons k _ => exact ⟨k, .of_eq rfl⟩
theorem w_find4 {x y : Str} {i j : Int} {t u v z : Tok} {Q : Value → Loc → Led → Prop} (h : ∀ r t, Q (.int r t) l n) : W prog w c (call (.builtin "str.find") [.str x t, .str y u, .int i v, .int j z]) Q E l n := fun _ S => by
  obtain ⟨r, hr⟩ := gives_find4 x y i j t u v z
  exact call_gives F.slot_str_find (typeIs_str _ _ _) F.entry_str_find (F.args_str_find_4 _ _ _ _) hr (W.fin S.tok (h r _))
theorem w_split1 {x y : Str} {t u : Tok} {Q : Value → Loc → Led → Prop} (hx : x.length + 2 ≤ sizeLine) (hy : (y.length == 0) = false)
    (h : ∀ a vs, (∀ q ∈ n, q.1 < a) → StrsAre vs (Txt.split x y) → Q (.ref a) l ((a, W.listOf vs.toArray 0) :: n)) : W prog w c (call (.builtin "str.split") [.str x t, .str y u]) Q E l n := fun s S => by
  obtain ⟨m, F, hl⟩ := S.fr
  refine splitN1A F S.nw hy (fun ls h' k e hs _ hi F' N' => ?_) hx
  have hlt : ∀ q ∈ n, q.1 < s.heap.objs.size := fun q hq => Heap.lt_size (S.nw q hq).1
  have e' : StrsAre (strValues ls) (Txt.split x y) := e ▸ hs
  exact W.fin (S.put ⟨m, F', hl⟩ N' (nd_new S.nd hlt) S.lk) (h _ _ hlt e')

-- ===== the ledger grows
noncomputable def Grown (n n' : Led) : Prop := ∃ tl, n' = tl ++ n
theorem Grown.refl : Grown n n := ⟨[], rfl⟩
theorem Grown.cons {n n' : Led} {q : Addr × Obj} (h : Grown n n') : Grown n (q :: n') := by obtain ⟨tl, rfl⟩ := h; exact ⟨q :: tl, rfl⟩
theorem Grown.app {n n' tl : Led} (h : Grown n n') : Grown n (tl ++ n') := by obtain ⟨tl', rfl⟩ := h; exact ⟨tl ++ tl', by rw [List.append_assoc]⟩
theorem Grown.trans {n n' n'' : Led} (h : Grown n n') (k : Grown n' n'') : Grown n n'' := by obtain ⟨a, rfl⟩ := h; obtain ⟨b, rfl⟩ := k; exact ⟨b ++ a, by rw [List.append_assoc]⟩
theorem Grown.mem {n n' : Led} (h : Grown n n') {q : Addr × Obj} (m : q ∈ n) : q ∈ n' := by obtain ⟨tl, rfl⟩ := h; exact List.mem_append_right _ m
theorem grown_all {N : Led} {G : Led → Prop} (h : ∀ tl, G (tl ++ N)) : ∀ n', Grown N n' → G n' := by rintro _ ⟨tl, rfl⟩; exact h tl
inductive GB : Led → Led → Led → Prop
  | refl {m : Led} : GB [] m m
  | cons {tl m m' : Led} {q : Addr × Obj} : GB tl m m' → GB (q :: tl) m (q :: m')
  | app {tl tl2 m m' : Led} : GB tl m m' → GB (tl2 ++ tl) m (tl2 ++ m')
theorem GB.app0 {tl m : Led} : GB tl m (tl ++ m) := by
  have := @GB.app [] tl m m .refl
  rwa [List.append_nil] at this
theorem GB.eq {tl n n' : Led} (h : GB tl n n') : n' = tl ++ n := by
  induction h with
  | refl => rfl
  | cons _ ih => rw [ih]; rfl
  | app _ ih => rw [ih, List.append_assoc]
theorem gb_all {N : Led} {G : Led → Led → Prop} (h : ∀ tl, G tl (tl ++ N)) : ∀ tl n', GB tl N n' → G tl n' := fun tl n' k => by rw [k.eq]; exact h tl
-- ===== changing a made object
inductive RepAt (D : Addr) (o o' : Obj) : Led → Led → Prop
  | head {r} : RepAt D o o' ((D, o) :: r) ((D, o') :: r)
  | tail {q r r'} : RepAt D o o' r r' → RepAt D o o' (q :: r) (q :: r')
  | app {tl r r'} : RepAt D o o' r r' → RepAt D o o' (tl ++ r) (tl ++ r')
theorem RepAt.split {D : Addr} {o o' : Obj} {n n' : Led} (h : RepAt D o o' n n') : ∃ pre post, n = pre ++ (D, o) :: post ∧ n' = pre ++ (D, o') :: post := by
  induction h with
  | head => exact ⟨[], _, rfl, rfl⟩
  | tail _ ih => obtain ⟨pre, post, rfl, rfl⟩ := ih; exact ⟨_ :: pre, post, rfl, rfl⟩
  | @app tl _ _ _ ih => obtain ⟨pre, post, rfl, rfl⟩ := ih; exact ⟨tl ++ pre, post, by rw [List.append_assoc], by rw [List.append_assoc]⟩
theorem upd_of {D : Addr} {o o' : Obj} : ∀ {pre post : Led}, (∀ q ∈ pre, q.1 ≠ D) → (∀ q ∈ post, q.1 ≠ D) → Upd D o o' (pre ++ (D, o) :: post) (pre ++ (D, o') :: post)
  | [], _, _, h => .head h
  | q :: pre, _, h1, h2 => .tail (h1 q (.head _)) (upd_of (fun r hr => h1 r (.tail _ hr)) h2)
theorem RepAt.upd {D : Addr} {o o' : Obj} {n n' : Led} (h : RepAt D o o' n n') (nd : (n.map (·.1)).Nodup) : Upd D o o' n n' ∧ (n'.map (·.1)).Nodup := by
  obtain ⟨pre, post, rfl, rfl⟩ := h.split
  rw [List.map_append, List.map_cons] at nd
  have h1 := List.nodup_append.mp nd
  have h2 := List.nodup_cons.mp h1.2.1
  refine ⟨upd_of (fun q hq e => ?_) (fun q hq e => ?_), by rw [List.map_append, List.map_cons]; exact nd⟩
  · exact h1.2.2 q.1 (List.mem_map_of_mem hq) D (.head _) e
  · exact h2.1 (by rw [← e]; exact List.mem_map.mpr ⟨q, hq, rfl⟩)
theorem w_gm_append {D : Addr} {its : Array Value} {k : Nat} {pl : Sem Bool} {Q : Value × List Value → Loc → Led → Prop} (hm : (D, W.listOf its k) ∈ n) (h : Q (.builtin "list.append", [.ref D]) l n) :
    W prog w c (getMethod (.ref D) (Str.ofString "append") pl) Q E l n := fun _ S => getMethod_append_N S.nw hm (W.fin S h)
theorem w_append {D : Addr} {vs : List Value} {k : Nat} {x : Value} {n' : Led} {Q : Value → Loc → Led → Prop} (hu : RepAt D (W.listOf vs.toArray k) (W.listOf (vs ++ [x]).toArray (k + 1)) n n') (hsz : vs.length ≤ sizeLine) (h : Q .none l n') :
    W prog w c (call (.builtin "list.append") [.ref D, x]) Q E l n := fun _ S => by
  obtain ⟨m, F, hl⟩ := S.fr
  obtain ⟨U, nd⟩ := hu.upd S.nd
  rw [← List.push_toArray] at U
  exact append_K F S.nw U (fun h' F' N' => W.fin (S.put ⟨m, F', hl⟩ N' nd S.lk) h) (by simpa using hsz)
theorem w_gm_extend {D : Addr} {its : Array Value} {k : Nat} {pl : Sem Bool} {Q : Value × List Value → Loc → Led → Prop} (hm : (D, W.listOf its k) ∈ n) (h : Q (.builtin "list.extend", [.ref D]) l n) :
    W prog w c (getMethod (.ref D) (Str.ofString "extend") pl) Q E l n := fun _ S => by
  refine kl_method S.nw hm PySem.F.slot_list_extend PySem.F.type_list_extend ?_
  exact ⟨l, n, S, h⟩
theorem w_extend {D b : Addr} {vs ws : List Value} {k j : Nat} {n' : Led} {Q : Value → Loc → Led → Prop} (hb : (b, W.listOf ws.toArray j) ∈ n) (hne : ws ≠ []) (hu : RepAt D (W.listOf vs.toArray k) (W.listOf (vs ++ ws).toArray (k + 1)) n n')
    (hsz : vs.length + ws.length ≤ 100000) (h : Q .none l n') : W prog w c (call (.builtin "list.extend") [.ref D, .ref b]) Q E l n := fun _ S => by
  obtain ⟨m, F, hl⟩ := S.fr
  obtain ⟨U, nd⟩ := hu.upd S.nd
  refine kl_extend F S.nw hb (by simp) (by simpa using hne) U ?_ (by rw [line_is]; simp; omega) (by rw [line_is]; simp; omega) (fun h' F' N' => W.fin (S.put ⟨m, F', hl⟩ N' nd S.lk) h)
  simp [Builtin.List.listTooLong, line_is]
  omega
end

-- ===== Lc
section
variable {prog : Program} {w : World} {K : Frag} {p : Program} {loose : List Str}
variable {c : Cx} {E : Value → Shared → Prop} {l : Loc} {n : Led} {env : Env}

/-- taking a run out of the ledger -/
inductive Cut (own : Led) : Led → Led → Prop
  | head {r} : Cut own (own ++ r) r
  | tail {q r r'} : Cut own r r' → Cut own (q :: r) (q :: r')
  | app {tl r r'} : Cut own r r' → Cut own (tl ++ r) (tl ++ r')
theorem Cut.split {own n n' : Led} (h : Cut own n n') : ∃ pre post, n = pre ++ (own ++ post) ∧ n' = pre ++ post := by
  induction h with
  | head => exact ⟨[], _, rfl, rfl⟩
  | tail _ ih => obtain ⟨pre, post, rfl, rfl⟩ := ih; exact ⟨_ :: pre, post, rfl, rfl⟩
  | @app tl _ _ _ ih => obtain ⟨pre, post, rfl, rfl⟩ := ih; exact ⟨tl ++ pre, post, by rw [List.append_assoc], by rw [List.append_assoc]⟩
theorem Cut.sub {own n n' : Led} (h : Cut own n n') : n'.Sublist n := by
  obtain ⟨pre, post, rfl, rfl⟩ := h.split
  exact List.Sublist.append_left (List.sublist_append_right _ _) _
theorem Cut.own {own n n' : Led} (h : Cut own n n') : ∀ q ∈ own, q ∈ n := by
  obtain ⟨pre, post, rfl, rfl⟩ := h.split
  exact fun q hq => List.mem_append_right _ (List.mem_append_left _ hq)
theorem Cut.apart {own n n' : Led} (h : Cut own n n') (nd : (n.map (·.1)).Nodup) : ∀ q ∈ n', ∀ r ∈ own, q.1 ≠ r.1 := by
  obtain ⟨pre, post, rfl, rfl⟩ := h.split
  simp only [List.map_append] at nd
  intro q hq r hr e
  rcases List.mem_append.mp hq with hq | hq
  · exact (List.nodup_append.mp nd).2.2 q.1 (List.mem_map_of_mem hq) r.1 (List.mem_append_left _ (List.mem_map_of_mem hr)) e
  · exact (List.nodup_append.mp (List.nodup_append.mp nd).2.1).2.2 r.1 (List.mem_map_of_mem hr) q.1 (List.mem_map_of_mem hq) e.symm

noncomputable def ownAt (wr : List Addr) (h : Heap) : Led := wr.filterMap fun b => (h.get? b).map fun o => (b, o)
theorem ownAt_mem {wr : List Addr} {h : Heap} {q : Addr × Obj} (m : q ∈ ownAt wr h) : q.1 ∈ wr ∧ h.get? q.1 = some q.2 := by
  obtain ⟨b, hb, e⟩ := List.mem_filterMap.mp m
  cases g : h.get? b with
  | none => rw [g] at e; cases e
  | some o => rw [g] at e; cases e; exact ⟨hb, g⟩
theorem mem_ownAt {wr : List Addr} {h : Heap} {b : Addr} {o : Obj} (hb : b ∈ wr) (e : h.get? b = some o) : (b, o) ∈ ownAt wr h :=
  List.mem_filterMap.mpr ⟨b, hb, by rw [e]; rfl⟩
theorem ownAt_nd {wr : List Addr} {h : Heap} (nd : wr.Nodup) : ((ownAt wr h).map (·.1)).Nodup := by
  induction wr with
  | nil => exact List.nodup_nil
  | cons b wr ih =>
    have nd' := List.nodup_cons.mp nd
    unfold ownAt
    rw [List.filterMap_cons]
    cases g : h.get? b with
    | none => exact ih nd'.2
    | some o =>
      show ((((b, o) :: ownAt wr h)).map (·.1)).Nodup
      refine List.nodup_cons.mpr ⟨fun m => ?_, ih nd'.2⟩
      obtain ⟨q, hq, e⟩ := List.mem_map.mp m
      have := (ownAt_mem hq).1
      rw [show q.1 = b from e] at this
      exact nd'.1 this

/-- a for loop over an iterator that walks -/
structure Turning (prog : Program) (w : World) (c : Cx) (env : Env) (target : Expr) (body : List Stmt) (Q : Flow → Loc → Led → Prop) (it : Value) (s₂ : Shared) : Prop where
  ex : ∃ (I : Addr) (fp wr : List Addr) (N : Nat) (P Md : Nat → Value → Heap → Prop) (Stt : Nat → Heap → Prop) (ext : Led) (l' : Loc) (n' : Led) (J : Nat → Loc → Led → Prop),
    it = .ref I ∧ KTurns prog w c.A target I fp wr N P Md Stt ∧ Stt 0 s₂.heap ∧ St c l' n' s₂ ∧ wr.Nodup ∧ (∀ i h, Stt i h → ∀ b ∈ wr, ∃ o, h.get? b = some o) ∧
    (∀ b ∈ wr, b ≠ c.L ∧ c.h₀.get? b = none ∧ ∀ q ∈ n', q.1 ≠ b) ∧ (∀ b ∈ fp, b ∈ wr ∨ (∃ o, c.h₀.get? b = some o) ∨ b ∈ ext.map (·.1)) ∧ J 0 l' n' ∧ (∀ i l n, J i l n → ∀ q ∈ ext, q ∈ n) ∧
    (∀ i v l₁ n₁ own (E' : Value → Shared → Prop) s, i < N → P i v s.heap → J i l₁ n₁ → St c l₁ (own ++ n₁) s → wpAny (model prog w) c.A (assign target env v) (fun _ s' => ∃ l₂ n₂, St c l₂ n₂ s' ∧ W prog w c (execs body env) (fun f l₃ n₃ => match f with
        | .next | .cont => ∃ n₄, Cut own n₃ n₄ ∧ J (i + 1) l₃ n₄
        | .brk => Q .next l₃ n₃
        | .ret v => Q (.ret v) l₃ n₃) E' l₂ n₂) E' s) ∧
    (∀ l₁ n₁, J N l₁ n₁ → Q .next l₁ n₁)
theorem w_forK {target iter : Expr} {body : List Stmt} {pos : Pos} {Q : Flow → Loc → Led → Prop} (hs : ∀ x, foldedSetIterable iter env x = pure x)
    (h : ∀ s, St c l n s → wpAny (model prog w) c.A (eval iter env) (fun xv s₁ => wpAny (model prog w) c.A (pyIter xv) (fun it s₂ => Turning prog w c env target body Q it s₂) E s₁) E s) :
    W prog w c (exec (.For target iter body [] pos) env) Q E l n := fun s S => by
  refine wpAny_For (wpAny_mono (h s S) (fun xv s₁ h₁ => wpAny_mono h₁ (fun it s₂ h₂ => ?_) fun _ _ e => e) fun _ _ e => e) hs
  obtain ⟨I, fp, wr, N, P, Md, Stt, ext, l', n', J, rfl, T, hst, S₂, hnd, live, hwr, hfp, h0, hext, step, fin⟩ := h₂.ex
  refine codeAny_forLoop_any (fun k s' => ∃ i l₁ n₁, St c l₁ n₁ s' ∧ Stt i s'.heap ∧ J i l₁ n₁ ∧ (∀ b ∈ wr, ∀ q ∈ n₁, q.1 ≠ b) ∧ i ≤ N ∧ k = N + 1 - i) ?_ (N + 1) ⟨0, l', n', S₂, hst, h0, fun b hb => (hwr b hb).2.2, Nat.zero_le _, rfl⟩
  rintro k s' ⟨i, l₁, n₁, S', hst', hJ, hoff, hi, rfl⟩
  have next : ∀ (h₁ : Heap) (tk : Nat) (own : Led), (∀ b o, b ∉ wr → s'.heap.get? b = some o → h₁.get? b = some o) → (∀ q ∈ own, q.1 ∈ wr ∧ h₁.get? q.1 = some q.2) → (own.map (·.1)).Nodup → St c l₁ (own ++ n₁) { s' with heap := h₁, toks := tk } := by
    intro h₁ tk own hk ho nd
    obtain ⟨m, F, hl⟩ := S'.fr
    refine S'.put ⟨m, ⟨F.ns.at' fun o e => hk _ o (fun x => (hwr _ x).1 rfl) e, fun b o e => hk b o (fun x => by rw [(hwr b x).2.1] at e; cases e) (F.keep b o e), F.above⟩, hl⟩ (fun q hq => ?_) ?_ S'.lk
    · rcases List.mem_append.mp hq with hq | hq
      · exact ⟨(ho q hq).2, (hwr _ (ho q hq).1).1, (hwr _ (ho q hq).1).2.1⟩
      · exact ⟨hk _ _ (fun x => hoff _ x q hq rfl) (S'.nw q hq).1, (S'.nw q hq).2⟩
    · rw [List.map_append]
      refine List.nodup_append.mpr ⟨nd, S'.nd, fun a ha b hb e => ?_⟩
      obtain ⟨q, hq, rfl⟩ := List.mem_map.mp ha
      obtain ⟨r, hr, rfl⟩ := List.mem_map.mp hb
      exact hoff _ (ho q hq).1 r hr e.symm
  by_cases hlt : i < N
  · refine T.item i _ _ _ hlt hst' fun v h₁ tk₁ hMd hk₁ => ?_
    refine T.go i v _ _ _ hMd fun h₂ hP hst₂ hk₂ => ?_
    have hk : ∀ b o, b ∉ wr → s'.heap.get? b = some o → h₂.get? b = some o := fun b o hb e => hk₂ b o hb (hk₁ b o hb e)
    have Sx := next h₂ tk₁ (ownAt wr h₂) hk (fun q hq => ownAt_mem hq) (ownAt_nd hnd)
    refine wpAny_mono (step i v l₁ n₁ (ownAt wr h₂) (notedBy (model prog w) c.A env fun e s' => cameBackBy (model prog w) c.A env E e s') _ hlt hP hJ Sx) (fun _ s₃ z => ?_) fun _ _ e => e
    obtain ⟨l₂, n₂, S₃, hW⟩ := z
    have last : ∀ s₄ l₃ n₃, St c l₃ n₃ s₄ → (∃ n₄, Cut (ownAt wr h₂) n₃ n₄ ∧ J (i + 1) l₃ n₄) → ∃ m, m < N + 1 - i ∧ ∃ i l₁ n₁, St c l₁ n₁ s₄ ∧ Stt i s₄.heap ∧ J i l₁ n₁ ∧ (∀ b ∈ wr, ∀ q ∈ n₁, q.1 ≠ b) ∧ i ≤ N ∧ m = N + 1 - i := by
      rintro s₄ l₃ n₃ S₄ ⟨n₄, hc, hJ'⟩
      have N₄ : News c.h₀ c.L s₄.heap n₄ := fun q hq => S₄.nw q (hc.sub.subset hq)
      have S₅ : St c l₃ n₄ s₄ := ⟨S₄.gens, S₄.drawn, S₄.os, S₄.fr, N₄, (hc.sub.map (·.1)).nodup S₄.nd, S₄.lk⟩
      refine ⟨N + 1 - (i + 1), by omega, i + 1, l₃, n₄, S₅, T.frame _ _ _ hst₂ (fun b hb o e => ?_), hJ', fun b hb q hq e => ?_, hlt, rfl⟩
      · rcases hfp b hb with hb | ⟨o', ho'⟩ | hb
        · exact (S₄.nw _ (hc.own _ (mem_ownAt hb e))).1
        · obtain ⟨m, F, _⟩ := S₄.fr
          obtain ⟨m2, F2, _⟩ := Sx.fr
          have : h₂.get? b = some o' := F2.keep _ _ ho'
          rw [this] at e; cases e
          exact F.keep _ _ ho'
        · obtain ⟨q, hq, rfl⟩ := List.mem_map.mp hb
          have h1 := (Sx.nw q (List.mem_append_right _ (hext _ _ _ hJ q hq))).1
          have h2 : h₂.get? q.1 = some q.2 := h1
          rw [h2] at e; cases e
          exact (N₄ q (hext _ _ _ hJ' q hq)).1
      · obtain ⟨o, g⟩ := live _ _ hst₂ b hb
        exact hc.apart S₄.nd q hq (b, o) (mem_ownAt hb g) e
    refine W.go hW S₃ fun f s₄ l₃ n₃ S₄ y => ?_
    cases f with
    | next => exact last s₄ l₃ n₃ S₄ y
    | cont => exact last s₄ l₃ n₃ S₄ y
    | brk => exact ⟨l₃, n₃, S₄, y⟩
    | ret v => exact ⟨l₃, n₃, S₄, y⟩
  · have hin : i = N := by omega
    subst hin
    refine T.done _ _ _ hst' fun h₁ tk₁ hk₁ => wpAny_execs_nil ?_
    have := next h₁ tk₁ [] hk₁ (fun q hq => nomatch hq) List.nodup_nil
    exact ⟨l₁, n₁, this, fin _ _ hJ⟩

theorem nd1 (a : Addr) : [a].Nodup := List.nodup_cons.mpr ⟨fun h => (nomatch h), List.nodup_nil⟩
theorem St.push {s : Shared} (S : St c l n s) (o : Obj) : St c l n { s with heap := s.heap.push o } := by
  obtain ⟨m, F, hl⟩ := S.fr
  exact S.put (tk := s.toks) ⟨m, F.keeps fun _ _ e => Heap.get?_push_of_some _ e, hl⟩ (S.nw.grown fun _ _ e => Heap.get?_push_of_some _ e) S.nd S.lk
theorem St.new {s : Shared} (S : St c l n s) : s.heap.objs.size ≠ c.L ∧ c.h₀.get? s.heap.objs.size = none ∧ ∀ q ∈ n, q.1 ≠ s.heap.objs.size := by
  obtain ⟨m, F, _⟩ := S.fr
  refine ⟨fun e => ?_, next_is_new F, fun q hq e => ?_⟩
  · have := F.ns.lt; rw [← e] at this; exact Nat.lt_irrefl _ this
  · have := Heap.lt_size (S.nw q hq).1; rw [e] at this; exact Nat.lt_irrefl _ this
theorem w_assignName {x : Str} {px : Pos} {v : Value} {Q : Unit → Loc → Led → Prop} (h : W prog w c (storeName env x v) Q E l n) : W prog w c (assign (.Name x px) env v) Q E l n :=
  fun s S => wpAny_assign_Name (h s S)

/-- what a turn of a for loop must show -/
noncomputable def Step (prog : Program) (w : World) (c : Cx) (env : Env) (target : Expr) (body : List Stmt) (Q : Flow → Loc → Led → Prop) (J : Nat → Loc → Led → Prop) (i : Nat) (v : Value) (l₁ : Loc) (n₁ : Led) : Prop :=
  ∀ own (E' : Value → Shared → Prop), W prog w c (assign target env v) (fun _ l₂ n₂ => W prog w c (execs body env) (fun f l₃ n₃ => match f with
        | .next | .cont => ∃ n₄, Cut own n₃ n₄ ∧ J (i + 1) l₃ n₄
        | .brk => Q .next l₃ n₃
        | .ret v => Q (.ret v) l₃ n₃) E' l₂ n₂) E' l₁ (own ++ n₁)
theorem Step.go {target : Expr} {body : List Stmt} {Q : Flow → Loc → Led → Prop} {J : Nat → Loc → Led → Prop} {i : Nat} {v : Value} {l₁ : Loc} {n₁ own : Led} {E' : Value → Shared → Prop} {s : Shared} (h : Step prog w c env target body Q J i v l₁ n₁) (S : St c l₁ (own ++ n₁) s) :
    wpAny (model prog w) c.A (assign target env v) (fun _ s' => ∃ l₂ n₂, St c l₂ n₂ s' ∧ W prog w c (execs body env) (fun f l₃ n₃ => match f with
        | .next | .cont => ∃ n₄, Cut own n₃ n₄ ∧ J (i + 1) l₃ n₄
        | .brk => Q .next l₃ n₃
        | .ret v => Q (.ret v) l₃ n₃) E' l₂ n₂) E' s := h own E' s S

theorem w_for_str {x : Str} {px : Pos} {iter : Expr} {body : List Stmt} {pos : Pos} {Q : Flow → Loc → Led → Prop} (hh : c.A.handled = none) (hs : ∀ x, foldedSetIterable iter env x = pure x)
    (h : W prog w c (eval iter env) (fun xv l' n' => ∃ tx t, xv = .str tx t ∧ ∃ J, J 0 l' n' ∧ (∀ i v l₁ n₁, SignAt tx i v → J i l₁ n₁ → Step prog w c env (.Name x px) body Q J i v l₁ n₁) ∧ (∀ l₁ n₁, J tx.cps.size l₁ n₁ → Q .next l₁ n₁)) E l n) :
    W prog w c (exec (.For (.Name x px) iter body [] pos) env) Q E l n := w_forK hs fun s S => h.go S fun xv s₁ l' n' S' z => by
  obtain ⟨tx, t, rfl, J, h0, step, fin⟩ := z
  have go : ∀ (T : String), (Walks prog w c.A s₁.heap.objs.size [s₁.heap.objs.size] [s₁.heap.objs.size] tx.cps.size (SignAt tx) (fun i h => h.IsStrIter s₁.heap.objs.size T tx t i)) →
      Turning prog w c env (.Name x px) body Q (.ref s₁.heap.objs.size) { s₁ with heap := s₁.heap.push { cls := .type T, data := .fields #[.str tx t, .int 0 0] } } := by
    intro T W
    refine ⟨s₁.heap.objs.size, _, _, _, _, _, _, [], l', n', J, rfl, KTurns.ofWalks W (fun i v s Q E _ q => wpAny_pure q), ⟨_, Heap.get?_push_size _ rfl, rfl, rfl⟩, S'.push _, nd1 _, ?_, ?_, ?_, h0, ?_, ?_, fin⟩
    · intro i h hst b hb
      rw [List.mem_singleton.mp hb]
      obtain ⟨o, e, _⟩ := hst; exact ⟨o, e⟩
    · intro b hb
      rw [List.mem_singleton.mp hb]; exact S'.new
    · intro b hb; exact .inl hb
    · intro i l₁ n₁ hJ q hq; cases hq
    · intro i v l₁ n₁ own E' s hi hP hJ Sx
      exact (step i v l₁ n₁ hP hJ).go Sx
  cases ha : tx.cps.all (· < 128)
  · exact wpAny_pyIter_wide ha (go _ (Walks.strWide hh _ tx t))
  · exact wpAny_pyIter_ascii ha (go _ (Walks.strAscii hh _ tx t))
theorem w_for_list {x : Str} {px : Pos} {iter : Expr} {body : List Stmt} {pos : Pos} {Q : Flow → Loc → Led → Prop} (hh : c.A.handled = none) (hs : ∀ x, foldedSetIterable iter env x = pure x)
    (h : W prog w c (eval iter env) (fun xv l' n' => ∃ a its k, xv = .ref a ∧ (a, W.listOf its k) ∈ n' ∧ ∃ J, J 0 l' n' ∧ (∀ i l₁ n₁, J i l₁ n₁ → (a, W.listOf its k) ∈ n₁) ∧ (∀ i v l₁ n₁, its[i]? = some v → J i l₁ n₁ → Step prog w c env (.Name x px) body Q J i v l₁ n₁) ∧ (∀ l₁ n₁, J its.size l₁ n₁ → Q .next l₁ n₁)) E l n) :
    W prog w c (exec (.For (.Name x px) iter body [] pos) env) Q E l n := w_forK hs fun s S => h.go S fun xv s₁ l' n' S' z => by
  obtain ⟨a, its, k, rfl, hm, J, h0, hJm, step, fin⟩ := z
  have hl := isList_of S'.nw hm
  have hlt : a < s₁.heap.objs.size := by obtain ⟨_, e, _⟩ := hl; exact Heap.lt_size e
  refine wpAny_pyIter_list hl ⟨s₁.heap.objs.size, _, _, _, _, _, _, [(a, W.listOf its k)], l', n', J, rfl, KTurns.ofWalks (Walks.list hh s₁.heap.objs.size a (Nat.ne_of_lt hlt) its) (fun i v s Q E _ q => wpAny_pure q),
    ⟨⟨_, Heap.get?_push_size _ rfl, rfl, rfl⟩, hl.push _⟩, S'.push _, nd1 _, ?_, ?_, ?_, h0, fun i l₁ n₁ hJ q hq => ?_, ?_, fin⟩
  · intro i h hst b hb
    rw [List.mem_singleton.mp hb]
    obtain ⟨o, e, _⟩ := hst.1; exact ⟨o, e⟩
  · intro b hb
    rw [List.mem_singleton.mp hb]; exact S'.new
  · intro b hb
    rcases List.mem_cons.mp hb with rfl | hb
    · exact .inl (.head _)
    · rw [List.mem_singleton.mp hb]; exact .inr (.inr (.head _))
  · rw [List.mem_singleton.mp hq]; exact hJm i l₁ n₁ hJ
  · intro i v l₁ n₁ own E' s hi hP hJ Sx
    exact (step i v l₁ n₁ hP hJ).go Sx
theorem w_for_tup {x : Str} {px : Pos} {iter : Expr} {body : List Stmt} {pos : Pos} {Q : Flow → Loc → Led → Prop} (hh : c.A.handled = none) (hs : ∀ x, foldedSetIterable iter env x = pure x)
    (h : W prog w c (eval iter env) (fun xv l' n' => ∃ a its k, xv = .ref a ∧ (a, ({ cls := .type "tuple", data := .seq its k } : Obj)) ∈ n' ∧ ∃ J, J 0 l' n' ∧ (∀ i l₁ n₁, J i l₁ n₁ → (a, ({ cls := .type "tuple", data := .seq its k } : Obj)) ∈ n₁) ∧ (∀ i v l₁ n₁, its[i]? = some v → J i l₁ n₁ → Step prog w c env (.Name x px) body Q J i v l₁ n₁) ∧ (∀ l₁ n₁, J its.size l₁ n₁ → Q .next l₁ n₁)) E l n) :
    W prog w c (exec (.For (.Name x px) iter body [] pos) env) Q E l n := w_forK hs fun s S => h.go S fun xv s₁ l' n' S' z => by
  obtain ⟨a, its, k, rfl, hm, J, h0, hJm, step, fin⟩ := z
  have hl : s₁.heap.IsTuple a its := ⟨_, (S'.nw _ hm).1, rfl, k, rfl⟩
  have hlt : a < s₁.heap.objs.size := by obtain ⟨_, e, _⟩ := hl; exact Heap.lt_size e
  refine wpAny_pyIter_tuple hl ⟨s₁.heap.objs.size, _, _, _, _, _, _, [(a, ({ cls := .type "tuple", data := .seq its k } : Obj))], l', n', J, rfl, KTurns.ofWalks (Walks.tuple hh s₁.heap.objs.size a (Nat.ne_of_lt hlt) its) (fun i v s Q E _ q => wpAny_pure q),
    ⟨⟨_, Heap.get?_push_size _ rfl, rfl, rfl⟩, hl.at fun _ e => Heap.get?_push_of_some _ e⟩, S'.push _, nd1 _, ?_, ?_, ?_, h0, fun i l₁ n₁ hJ q hq => ?_, ?_, fin⟩
  · intro i h hst b hb
    rw [List.mem_singleton.mp hb]
    obtain ⟨o, e, _⟩ := hst.1; exact ⟨o, e⟩
  · intro b hb
    rw [List.mem_singleton.mp hb]; exact S'.new
  · intro b hb
    rcases List.mem_cons.mp hb with rfl | hb
    · exact .inl (.head _)
    · rw [List.mem_singleton.mp hb]; exact .inr (.inr (.head _))
  · rw [List.mem_singleton.mp hq]; exact hJm i l₁ n₁ hJ
  · intro i v l₁ n₁ own E' s hi hP hJ Sx
    exact (step i v l₁ n₁ hP hJ).go Sx

noncomputable abbrev rangeObj (a b : Int) (t u v : Tok) : Obj := { cls := .type "range", data := .fields #[.int a t, .int b u, .int 1 v] }
theorem w_range1 {b : Int} {t : Tok} {Q : Value → Loc → Led → Prop} (h : ∀ a t u v, (∀ q ∈ n, q.1 < a) → Q (.ref a) l ((a, rangeObj 0 b t u v) :: n)) : W prog w c (call (.type "range") [.int b t]) Q E l n := fun s S => by
  refine call_range_1 ?_
  have S' := (S.push { cls := .type "range", data := .fields #[.int 0 s.toks, .int b t, .int 1 (s.toks + 1)] }).tok (tk := s.toks + 1 + 1)
  have hlt : ∀ q ∈ n, q.1 < s.heap.objs.size := fun q hq => Heap.lt_size (S.nw q hq).1
  refine ⟨l, _, ⟨S'.gens, S'.drawn, S'.os, S'.fr, fun q hq => ?_, nd_new S.nd hlt, S'.lk⟩, h s.heap.objs.size s.toks t (s.toks + 1) hlt⟩
  rcases List.mem_cons.mp hq with rfl | hq
  · exact ⟨Heap.get?_push_size _ rfl, S.new.1, S.new.2.1⟩
  · exact S'.nw q hq
theorem w_for_range {x : Str} {px : Pos} {iter : Expr} {body : List Stmt} {pos : Pos} {Q : Flow → Loc → Led → Prop} (hh : c.A.handled = none) (hs : ∀ x, foldedSetIterable iter env x = pure x)
    (h : W prog w c (eval iter env) (fun xv l' n' => ∃ a t u v, ∃ m : Nat, xv = .ref a ∧ m < 2 ^ 62 ∧ (a, rangeObj 0 (m : Int) t u v) ∈ n' ∧ ∃ J, J 0 l' n' ∧ (∀ i v l₁ n₁, (∃ t, v = .int (i : Nat) t) → i < m → J i l₁ n₁ → Step prog w c env (.Name x px) body Q J i v l₁ n₁) ∧ (∀ l₁ n₁, J m l₁ n₁ → Q .next l₁ n₁)) E l n) :
    W prog w c (exec (.For (.Name x px) iter body [] pos) env) Q E l n := w_forK hs fun s S => h.go S fun xv s₁ l' n' S' z => by
  obtain ⟨a, t, u, v, m, rfl, hlt, hm, J, h0, step, fin⟩ := z
  have hr : IsRange s₁.heap a 0 (m : Int) 1 t u v := (S'.nw _ hm).1
  have hz : Builtin.Range.rangeSize 0 (m : Int) 1 = (m : Int) := by rw [rangeSize_one]; split <;> omega
  refine wpAny_pyIter_range hr (small_one (by decide) (by decide) (by omega) (by omega)) ⟨s₁.heap.objs.size, _, _, _, _, _, _, [], l', n', J, rfl, KTurns.ofWalks ((Walks.range hh s₁.heap.objs.size 0 1 m).bound) (fun i v s Q E _ q => wpAny_pure q),
    ?_, S'.push _, nd1 _, ?_, ?_, ?_, h0, fun i l₁ n₁ hJ q hq => (by cases hq), ?_, fin⟩
  · rw [hz]
    show IsRangeIter _ _ _ _ _
    simpa using Heap.get?_push_size _ rfl
  · intro i h hst b hb
    rw [List.mem_singleton.mp hb]
    exact ⟨_, hst⟩
  · intro b hb
    rw [List.mem_singleton.mp hb]; exact S'.new
  · intro b hb; exact .inl hb
  · intro i v l₁ n₁ own E' s hi hP hJ Sx
    obtain ⟨hi', t', rfl⟩ := hP
    refine (step i _ l₁ n₁ ⟨t', ?_⟩ hi' hJ).go Sx
    congr 1; omega

-- ===== comprehensions
/-- what a for loop over a list asks, its turn's end as a letter -/
inductive ForL (prog : Program) (w : World) (c : Cx) (E : Value → Shared → Prop) (env : Env) (tg : Expr) (body : List Stmt) (Q : Flow → Loc → Led → Prop) : Value → Loc → Led → Prop
  | mk {a : Addr} {its : Array Value} {k : Nat} {l' : Loc} {n' : Led} (J : Nat → Loc → Led → Prop) (hm : (a, W.listOf its k) ∈ n') (h0 : J 0 l' n') (hJm : ∀ i l₁ n₁, J i l₁ n₁ → (a, W.listOf its k) ∈ n₁)
    (step : ∀ i v l₁ n₁, its[i]? = some v → J i l₁ n₁ → ∀ own (E' : Value → Shared → Prop) (P : Flow → Loc → Led → Prop), (∀ l₃ n₃ n₄, Cut own n₃ n₄ → J (i + 1) l₃ n₄ → P .next l₃ n₃) → W prog w c (assign tg env v) (fun _ l₂ n₂ => W prog w c (execs body env) P E' l₂ n₂) E' l₁ (own ++ n₁))
    (fin : ∀ l₁ n₁, J its.size l₁ n₁ → Q .next l₁ n₁) : ForL prog w c E env tg body Q (.ref a) l' n'
theorem w_for_listP {x : Str} {px : Pos} {iter : Expr} {body : List Stmt} {pos : Pos} {Q : Flow → Loc → Led → Prop} (hh : c.A.handled = none) (hs : ∀ x, foldedSetIterable iter env x = pure x)
    (h : W prog w c (eval iter env) (ForL prog w c E env (.Name x px) body Q) E l n) : W prog w c (exec (.For (.Name x px) iter body [] pos) env) Q E l n :=
  w_for_list hh hs (h.mono fun xv l' n' z => by
    cases z with
    | mk J hm h0 hJm step fin => exact ⟨_, _, _, rfl, hm, J, h0, hJm, fun i v l₁ n₁ hv hJ own E' => step i v l₁ n₁ hv hJ own E' _ fun _ _ n₄ a b => ⟨n₄, a, b⟩, fin⟩)
inductive ForR (prog : Program) (w : World) (c : Cx) (E : Value → Shared → Prop) (env : Env) (tg : Expr) (body : List Stmt) (Q : Flow → Loc → Led → Prop) : Value → Loc → Led → Prop
  | mk {a : Addr} {t u v : Tok} {m : Nat} {l' : Loc} {n' : Led} (J : Nat → Loc → Led → Prop) (hlt : m < 2 ^ 62) (hm : (a, rangeObj 0 (m : Int) t u v) ∈ n') (h0 : J 0 l' n')
    (step : ∀ i t l₁ n₁, i < m → J i l₁ n₁ → ∀ own (E' : Value → Shared → Prop) (P : Flow → Loc → Led → Prop), (∀ l₃ n₃ n₄, Cut own n₃ n₄ → J (i + 1) l₃ n₄ → P .next l₃ n₃) → W prog w c (assign tg env (.int (i : Nat) t)) (fun _ l₂ n₂ => W prog w c (execs body env) P E' l₂ n₂) E' l₁ (own ++ n₁))
    (fin : ∀ l₁ n₁, J m l₁ n₁ → Q .next l₁ n₁) : ForR prog w c E env tg body Q (.ref a) l' n'
theorem w_for_rangeP {x : Str} {px : Pos} {iter : Expr} {body : List Stmt} {pos : Pos} {Q : Flow → Loc → Led → Prop} (hh : c.A.handled = none) (hs : ∀ x, foldedSetIterable iter env x = pure x)
    (h : W prog w c (eval iter env) (ForR prog w c E env (.Name x px) body Q) E l n) : W prog w c (exec (.For (.Name x px) iter body [] pos) env) Q E l n :=
  w_for_range hh hs (h.mono fun xv l' n' z => by
    cases z with
    | mk J hlt hm h0 step fin => exact ⟨_, _, _, _, _, rfl, hlt, hm, J, h0, fun i v l₁ n₁ hv hi hJ own E' => by
        obtain ⟨t, rfl⟩ := hv
        exact step i t l₁ n₁ hi hJ own E' _ fun _ _ n₄ a b => ⟨n₄, a, b⟩, fin⟩)
theorem nd_newN {n : Led} {a : Addr} {o : Obj} (nd : (n.map (·.1)).Nodup) (h : ∀ q ∈ n, q.1 ≠ a) : (((a, o) :: n).map (·.1)).Nodup :=
  List.nodup_cons.mpr ⟨fun m => by obtain ⟨q, hq, e⟩ := List.mem_map.mp m; exact h q hq e, nd⟩
structure Kept (c : Cx) (n : Led) (s : Shared) : Prop where
  base : ∀ b o, c.h₀.get? b = some o → s.heap.get? b = some o
  led : ∀ q ∈ n, s.heap.get? q.1 = some q.2
theorem w_comp_str {elt iter : Expr} {x : Str} {px : Pos} {scope : Scope} {cl : List (Str × Addr)} {pos : Pos} {Q : Value → Loc → Led → Prop} (F : Value → Value → Prop) (hh : c.A.handled = none)
    (hclos : closureFor scope env = pure cl) (hcell : ∀ y ∈ scope.names, y.2 ≠ .cell) (hkind : scope.kind = .function)
    (hnames : ∀ y ∈ scope.names, y.2 = .local → scope.names.lookup y.1 = some .local) (hx : scope.names.lookup x = some .local) (hs : ∀ x, foldedSetIterable iter env x = pure x)
    (h : W prog w c (eval iter env) (fun xv l' n' => ∃ tx t, xv = .str tx t ∧ tx.cps.size ≤ sizeLine ∧
      (∀ C i v s₃ m₃ (E' : Value → Shared → Prop), SignAt tx i v → s₃.heap.Ns C m₃ → m₃ x = some v → Kept c n' s₃ → wpAny (model prog w) c.A (eval elt (compEnvC scope cl C env)) (fun y s₄ => F v y ∧ Keeps s₃ s₄) E' s₃) ∧
      (∀ D ys (vs : List Value) j, (∀ q ∈ n', q.1 ≠ D) → vs.length = tx.cps.size → (∀ j v, vs[j]? = some v → SignAt tx j v) → Paired F vs ys → Q (.ref D) l' ((D, W.listOf ys.toArray j) :: n'))) E l n) :
    W prog w c (eval (.ListComp elt [⟨.Name x px, iter, [], 0⟩] scope pos) env) Q E l n := fun s S => by
  refine wpAny_ListComp_free (cl := cl) (fun _ => true) F hclos hcell hkind hnames hx (h.go S fun xv s₁ l' n' S' z => ?_) hs
  obtain ⟨tx, t, rfl, hsz, helt, hq⟩ := z
  have hlt : ∀ q ∈ n', q.1 < s₁.heap.objs.size := fun q hq => Heap.lt_size (S'.nw q hq).1
  refine wpAny_pyIter_str fun o Stt Wk hst => ⟨s₁.heap.objs.size, _, _, _, _, _, rfl, Wk c.A hh, hsz, hst, ?_, ⟨?_, ?_⟩, ?_⟩
  · intro b hb
    rw [List.mem_singleton.mp hb]; show _ < (s₁.heap.push _).objs.size; rw [Heap.size_push]; exact Nat.lt_succ_self _
  · intro C i v s₃ m₃ E' _ _ _ _ _ _
    exact wpAny_tests_nil ⟨rfl, s₃.heap, s₃.toks, rfl, fun _ _ e => e⟩
  · intro C i v s₃ m₃ E' hC hP _ hn hm hk _
    have S2 := S'.push o
    obtain ⟨m, F2, _⟩ := S2.fr
    refine helt C i v s₃ m₃ E' hP hn hm ⟨fun b o' e => hk b o' (fun hb => ?_) (F2.keep _ _ e), fun q hq => hk _ _ (fun hb => ?_) (S2.nw q hq).1⟩
    · rw [List.mem_singleton.mp hb, S'.new.2.1] at e; cases e
    · exact S'.new.2.2 q hq (List.mem_singleton.mp hb)
  · intro D h' tk ys vs hD hl hpl hlen hP hF hk
    obtain ⟨k, he⟩ := hpl
    have S2 := S'.push o
    obtain ⟨m, F2, hl2⟩ := S2.fr
    have hk2 : ∀ b o', b ≠ s₁.heap.objs.size → (s₁.heap.push o).get? b = some o' → h'.get? b = some o' := fun b o' hb e => hk b o' (fun x => hb (List.mem_singleton.mp x)) e
    have hDL : D ≠ c.L := fun e => by
      obtain ⟨_, _, _, e2, _⟩ := F2.ns
      have hD' : (s₁.heap.push o).get? D = none := hD
      rw [← e, hD'] at e2; cases e2
    have hD0 : c.h₀.get? D = none := by
      cases g : c.h₀.get? D with
      | none => rfl
      | some o' => rw [F2.keep _ _ g] at hD; cases hD
    have hDlt : ∀ q ∈ n', q.1 ≠ D := fun q hq e => by
      have e2 := (S2.nw q hq).1
      have hD' : (s₁.heap.push o).get? D = none := hD
      rw [e, hD'] at e2; cases e2
    rw [List.filter_eq_self.mpr fun _ _ => rfl] at hF
    refine ⟨l', _, S'.put (tk := tk) ⟨m, ⟨F2.ns.at' fun o' e => hk2 _ o' (Ne.symm S'.new.1) e, fun b o' e => hk2 b o' (fun x => by rw [x, S'.new.2.1] at e; cases e) (F2.keep b o' e), F2.above⟩, hl2⟩ (n' := (D, W.listOf ys.toList.toArray k) :: n') (fun q hq => ?_) (nd_newN S'.nd hDlt) S'.lk, hq D ys.toList vs k hDlt hlen hP hF⟩
    rcases List.mem_cons.mp hq with rfl | hq
    · exact ⟨by rw [Array.toArray_toList]; exact he, hDL, hD0⟩
    · exact ⟨hk2 _ _ (S'.new.2.2 q hq) (S2.nw q hq).1, (S2.nw q hq).2⟩
theorem w_comp_list {elt iter : Expr} {ifs : List Expr} {x : Str} {px : Pos} {scope : Scope} {cl : List (Str × Addr)} {pos : Pos} {Q : Value → Loc → Led → Prop} (pz : Value → Bool) (F : Value → Value → Prop) (hh : c.A.handled = none)
    (hclos : closureFor scope env = pure cl) (hcell : ∀ y ∈ scope.names, y.2 ≠ .cell) (hkind : scope.kind = .function)
    (hnames : ∀ y ∈ scope.names, y.2 = .local → scope.names.lookup y.1 = some .local) (hx : scope.names.lookup x = some .local) (hs : ∀ x, foldedSetIterable iter env x = pure x)
    (h : W prog w c (eval iter env) (fun xv l' n' => ∃ a its k, xv = .ref a ∧ (a, PySem.W.listOf its k) ∈ n' ∧ its.size ≤ sizeLine ∧
      (∀ C v s₃ m₃ (E' : Value → Shared → Prop), v ∈ its → s₃.heap.Ns C m₃ → m₃ x = some v → Kept c n' s₃ → wpAny (model prog w) c.A (forIn ifs true fun c r => if r = true then do let ok ← isTrue c (compEnvC scope cl C env) (eval c (compEnvC scope cl C env)); pure (ForInStep.yield ok) else pure (ForInStep.yield r)) (fun ok s₄ => ok = pz v ∧ Keeps s₃ s₄) E' s₃) ∧
      (∀ C v s₃ m₃ (E' : Value → Shared → Prop), v ∈ its → pz v = true → s₃.heap.Ns C m₃ → m₃ x = some v → Kept c n' s₃ → wpAny (model prog w) c.A (eval elt (compEnvC scope cl C env)) (fun y s₄ => F v y ∧ Keeps s₃ s₄) E' s₃) ∧
      (∀ D ys j, (∀ q ∈ n', q.1 ≠ D) → Paired F (its.toList.filter pz) ys → Q (.ref D) l' ((D, W.listOf ys.toArray j) :: n'))) E l n) :
    W prog w c (eval (.ListComp elt [⟨.Name x px, iter, ifs, 0⟩] scope pos) env) Q E l n := fun s S => by
  refine wpAny_ListComp_free (cl := cl) pz F hclos hcell hkind hnames hx (h.go S fun xv s₁ l' n' S' z => ?_) hs
  obtain ⟨a, its, k0, rfl, hma, hsz, htest, helt, hq⟩ := z
  have hl0 := isList_of S'.nw hma
  have hlt0 : a < s₁.heap.objs.size := by obtain ⟨_, e, _⟩ := hl0; exact Heap.lt_size e
  generalize ho : ({ cls := .type "list_iterator", data := .fields #[.ref a, .int 0 0] } : Obj) = o
  have hlt : ∀ q ∈ n', q.1 < s₁.heap.objs.size := fun q hq => Heap.lt_size (S'.nw q hq).1
  refine wpAny_pyIter_list hl0 ?_
  rw [ho]
  refine ⟨s₁.heap.objs.size, _, _, _, _, _, rfl, Walks.list hh s₁.heap.objs.size a (Nat.ne_of_lt hlt0) its, hsz, ⟨⟨_, Heap.get?_push_size _ (by rw [← ho]; rfl), ho ▸ rfl, ho ▸ rfl⟩, hl0.push _⟩, ?_, ⟨?_, ?_⟩, ?_⟩
  · intro b hb
    show _ < (s₁.heap.push _).objs.size
    rw [Heap.size_push]
    rcases List.mem_cons.mp hb with rfl | hb
    · exact Nat.lt_succ_self _
    · rw [List.mem_singleton.mp hb]; exact Nat.lt_succ_of_lt hlt0
  · intro C i v s₃ m₃ E' hC hP hn hm hk _
    have S2 := S'.push o
    obtain ⟨m, F2, _⟩ := S2.fr
    refine htest C v s₃ m₃ E' (Array.mem_of_getElem? hP) hn hm ⟨fun b o' e => hk b o' (fun hb => ?_) (F2.keep _ _ e), fun q hq => hk _ _ (fun hb => ?_) (S2.nw q hq).1⟩
    · rw [List.mem_singleton.mp hb, S'.new.2.1] at e; cases e
    · exact S'.new.2.2 q hq (List.mem_singleton.mp hb)
  · intro C i v s₃ m₃ E' hC hP hpz hn hm hk _
    have S2 := S'.push o
    obtain ⟨m, F2, _⟩ := S2.fr
    refine helt C v s₃ m₃ E' (Array.mem_of_getElem? hP) hpz hn hm ⟨fun b o' e => hk b o' (fun hb => ?_) (F2.keep _ _ e), fun q hq => hk _ _ (fun hb => ?_) (S2.nw q hq).1⟩
    · rw [List.mem_singleton.mp hb, S'.new.2.1] at e; cases e
    · exact S'.new.2.2 q hq (List.mem_singleton.mp hb)
  · intro D h' tk ys vs hD hl hpl hlen hP hF hk
    obtain ⟨k, he⟩ := hpl
    have S2 := S'.push o
    obtain ⟨m, F2, hl2⟩ := S2.fr
    have hk2 : ∀ b o', b ≠ s₁.heap.objs.size → (s₁.heap.push o).get? b = some o' → h'.get? b = some o' := fun b o' hb e => hk b o' (fun x => hb (List.mem_singleton.mp x)) e
    have hDL : D ≠ c.L := fun e => by
      obtain ⟨_, _, _, e2, _⟩ := F2.ns
      have hD' : (s₁.heap.push o).get? D = none := hD
      rw [← e, hD'] at e2; cases e2
    have hD0 : c.h₀.get? D = none := by
      cases g : c.h₀.get? D with
      | none => rfl
      | some o' => rw [F2.keep _ _ g] at hD; cases hD
    have hDlt : ∀ q ∈ n', q.1 ≠ D := fun q hq e => by
      have e2 := (S2.nw q hq).1
      have hD' : (s₁.heap.push o).get? D = none := hD
      rw [e, hD'] at e2; cases e2
    have e : vs = its.toList := list_of_places hlen hP
    subst e
    refine ⟨l', _, S'.put (tk := tk) ⟨m, ⟨F2.ns.at' fun o' e => hk2 _ o' (Ne.symm S'.new.1) e, fun b o' e => hk2 b o' (fun x => by rw [x, S'.new.2.1] at e; cases e) (F2.keep b o' e), F2.above⟩, hl2⟩ (n' := (D, W.listOf ys.toList.toArray k) :: n') (fun q hq => ?_) (nd_newN S'.nd hDlt) S'.lk, hq D ys.toList k hDlt hF⟩
    rcases List.mem_cons.mp hq with rfl | hq
    · exact ⟨by rw [Array.toArray_toList]; exact he, hDL, hD0⟩
    · exact ⟨hk2 _ _ (S'.new.2.2 q hq) (S2.nw q hq).1, (S2.nw q hq).2⟩
theorem w_join {D : Addr} {its : Array Value} {k : Nat} {x : Str} {t : Tok} {ys : List Str} {Q : Value → Loc → Led → Prop} (hm : (D, PySem.W.listOf its k) ∈ n) (hi : StrsAre its.toList ys) (hsep : x.length ≤ 16) (hw : (ys.map (·.length)).sum + ys.length ≤ 1048576)
    (h : ∀ t, Q (.str (Txt.join x ys) t) l n) : W prog w c (call (.builtin "str.join") [.str x t, .ref D]) Q E l n := fun s S =>
  PyProof.Rows.join_listW (isList_of S.nw hm) hi hsep hw fun t' _ => W.fin S.tok (h t')
theorem join_chars (cs : List Nat) : Txt.join (Str.ofString "") (cs.map fun ch => S [ch]) = S cs := by
  show Builtin.Str.glued (Str.ofString "") _ = _
  have e : Str.ofString "" = S [] := by decide +kernel
  rw [e]
  cases cs with
  | nil => rfl
  | cons ch r =>
    show (⟨(r.map fun ch => S [ch]).foldl (fun acc p => acc ++ (S []).cps ++ p.cps) (S [ch]).cps⟩ : Str) = _
    have key : ∀ (r acc : List Nat), (r.map fun ch => S [ch]).foldl (fun acc p => acc ++ (S []).cps ++ p.cps) acc.toArray = (acc ++ r).toArray := by
      intro r
      induction r with
      | nil => intro acc; simp
      | cons ch r ih =>
        intro acc
        rw [List.map_cons, List.foldl_cons]
        rw [show acc.toArray ++ (S []).cps ++ (S [ch]).cps = (acc ++ [ch]).toArray by simp, ih]
        simp
    rw [key r [ch]]
    rfl
theorem w_ae {e : Expr} {es : List Expr} {x : Value} {xs : List Value} {f : Value → Sem Unit} {st : Bool} {Q : Unit → Loc → Led → Prop} (he : assignEach (e :: es) env = (st, f) :: assignEach es env)
    (h : W prog w c (f x) (fun _ l' n' => W prog w c (assignInOrder ((assignEach es env).map (·.2)) xs) Q E l' n') E l n) : W prog w c (assignInOrder ((assignEach (e :: es) env).map (·.2)) (x :: xs)) Q E l n := by
  rw [he]; exact w_aio h
theorem w_ae0 {xs : List Value} {Q : Unit → Loc → Led → Prop} (h : Q () l n) : W prog w c (assignInOrder ((assignEach [] env).map (·.2)) xs) Q E l n := w_aio0 h
/-- a made tuple of names.length things -/
noncomputable def IsT (k : Nat) (v : Value) (n : Led) (G : List Value → Prop) : Prop := ∃ (a : Addr) (vs : List Value) (j : Nat), v = .ref a ∧ (a, ({ cls := .type "tuple", data := .seq vs.toArray j } : Obj)) ∈ n ∧ vs.length = k ∧ G vs.reverse
theorem isT_mk {k : Nat} {a : Addr} {n : Led} {vs rv : List Value} {j : Nat} {G : List Value → Prop} (hm : (a, ({ cls := .type "tuple", data := .seq vs.toArray j } : Obj)) ∈ n) (hl : vs.length = k) (hr : vs.reverse = rv) (h : G rv) : IsT k (.ref a) n G :=
  ⟨a, vs, j, rfl, hm, hl, by rw [hr]; exact h⟩
noncomputable def nmOf : List Expr → List Str
  | .Name x _ :: r => x :: nmOf r
  | _ => []
theorem w_assignS {elts : List Expr} {k : Nat} {tpos pos : Pos} {value : Expr} {rn : List Str} {kk : Nat} {Q : Flow → Loc → Led → Prop} (hh : c.A.handled = none)
    (h1 : swapsWithSole [Expr.Tuple elts k tpos] value pos.line env = pure false) (h2 : swappedStores [Expr.Tuple elts k tpos] value env = pure (some (nmOf elts))) (hr : (nmOf elts).reverse = rn) (hkk : (nmOf elts).length = kk)
    (h : W prog w c (eval value env) (fun v l' n' => IsT kk v n' fun rv => W prog w c (assignInOrder (rn.map fun n => bindName env n) rv) (fun _ l' n' => Q .next l' n') E l' n') E l n) :
    W prog w c (exec (.Assign [.Tuple elts k tpos] value pos) env) Q E l n := fun s S => by
  subst hr hkk
  refine Assign_Tuple_swapped (h.go S fun v s' l' n' S' z => ?_) h1 h2
  obtain ⟨a, vs, j, rfl, hm, hl, x⟩ := z
  obtain ⟨m, F, hlc⟩ := S'.fr
  refine unpackItemsN_ F S'.nw (isTup_of S'.nw hm) hh (by simpa using hl.symm) fun h' F' N' => ?_
  have S2 : St c l' n' { s' with heap := h' } := ⟨S'.gens, S'.drawn, S'.os, ⟨m, F', hlc⟩, N', S'.nd, S'.lk⟩
  rw [List.toList_toArray]
  exact W.go x S2 fun _ _ l2 n2 S3 y => ⟨l2, n2, S3, y⟩
theorem w_bn {x : Str} {xs : List Str} {v : Value} {vs : List Value} {Q : Unit → Loc → Led → Prop} (h : W prog w c (storeName env x v) (fun _ l' n' => W prog w c (assignInOrder (xs.map fun n => bindName env n) vs) Q E l' n') E l n) :
    W prog w c (assignInOrder ((x :: xs).map fun n => bindName env n) (v :: vs)) Q E l n := w_aio fun s S => bindName_ (h s S)
theorem w_bn0 {vs : List Value} {Q : Unit → Loc → Led → Prop} (h : Q () l n) : W prog w c (assignInOrder (([] : List Str).map fun n => bindName env n) vs) Q E l n := w_aio0 h
theorem w_tchain {a b d : Expr} {op op' : CmpOp} {pos : Pos} {whole : Sem Value} {Q : Bool → Loc → Led → Prop} (hm : lastMarks [op, op'] [b, d] = false)
    (h : W prog w c (eval a env) (fun u l' n' => W prog w c (eval b env) (fun v l' n' => W prog w c (compareOp op u v) (fun r l' n' => W prog w c (truthy r) (fun t l' n' =>
      if t then W prog w c (eval d env) (fun x l' n' => W prog w c (compareOp op' v x) (fun r l' n' => W prog w c (truthy r) Q E l' n') E l' n') E l' n' else Q false l' n') E l' n') E l' n') E l' n') E l n) :
    W prog w c (isTrue (.Compare a [op, op'] [b, d] pos) env whole) Q E l n :=
  fun _ S => isTrue_chain (h.go S fun _ _ _ _ S' x => test_link (x.go S' fun _ _ _ _ S' x => x.go S' fun _ _ _ _ S' x => x.go S' fun t _ _ _ S' x => by
    cases t with
    | true => exact test_last (x.go S' fun _ _ _ _ S' x => x.go S' fun _ _ _ _ S' x => x _ S')
    | false => exact W.fin S' x)) hm
end

-- ===== Lo
section
variable {prog : Program} {w : World} {K : Frag} {p : Program} {loose : List Str}
variable {c : Cx} {E : Value → Shared → Prop} {l : Loc} {n : Led} {env : Env}

-- ===== calls of classes
theorem w_cw_K {pos : Pos} {f : Value} {e : Expr} {rest : List Expr} {Q : Value → Loc → Led → Prop} (H : Amb K p loose c) (hk : keepIn K f = true)
    (he : starEach (e :: rest) env = (false, eval e env) :: starEach rest env) (ha : ((backTo pos (starEach rest env)).any fun x => x.fst) = false)
    (h : W prog w c (spliced (backTo pos (starEach (e :: rest) env))) (fun vs l' n' => W prog w c (call f vs) Q E l' n') E l n) :
    W prog w c (callWith pos f [] (backTo pos (starEach (e :: rest) env)) []) Q E l n := fun _ S => by
  refine callWith_K H.X hk (h.go S fun _ _ _ _ S' x => ⟨?_, x _ S'⟩) he ha
  obtain ⟨m, F, _⟩ := S'.fr
  exact H.X.keeps F.keep
theorem Amb.under {C : Addr} {vals : List Value} (H : Amb K p loose c) (hk : 1 ≤ c.k) : Amb K p loose { c with A := c.A.under (.builtin "type.__call__" ⟨.ref C :: vals, []⟩), k := c.k - 1 } := by
  obtain ⟨A₀, base, outer, env, B, hA, hf, hke⟩ := H.B
  refine ⟨H.X, H.T, ⟨A₀, base, outer, env, B, ?_, hf, hke⟩, H.hd, ?_, ?_⟩
  · exact hA
  · have := H.dep; show c.A.depth + 1 + (c.k - 1) < _; omega
  · have := H.un; show c.A.units + _ + 16 * (c.k - 1) + 200 < _
    have e : (Code.builtin "type.__call__" ⟨.ref C :: vals, []⟩).cUnits ≤ 3 := by rw [show (Code.builtin "type.__call__" ⟨.ref C :: vals, []⟩).cUnits = 1 from rfl]; decide
    omega
theorem w_inst {C fI : Addr} {vals : List Value} {Q : Value → Loc → Led → Prop} (H : Amb K p loose c) (hk : 1 ≤ c.k) (hm : makesIn K C = true) (hi : findIn K (.ref C) "__init__" = some (some (.ref fI))) (hf : isFn K (.ref fI) = true)
    (h : ∀ c' x dx, Amb K p loose c' → c'.k + 1 = c.k → WC prog w c' (.call (.ref fI) ⟨.ref x :: vals, []⟩) (fun v l' n' => v = .none ∧ Q (.ref x) l' n') E l ((x, instObj C dx) :: (dx, dictOf [] 0) :: n)) :
    W prog w c (call (.ref C) vals) Q E l n := fun s S => by
  obtain ⟨m, F, hl⟩ := S.fr
  refine call_cls F H.X S.nw hm hi hf fun x dx h' F' N' hlt hdx => ?_
  have S' : St c l ((x, instObj C dx) :: (dx, dictOf [] 0) :: n) { s with heap := h' } := by
    refine ⟨S.gens, S.drawn, S.os, ⟨m, F', hl⟩, N', ?_, S.lk⟩
    refine List.nodup_cons.mpr ⟨fun hm => ?_, nd_new S.nd hlt⟩
    obtain ⟨q, hq, e⟩ := List.mem_map.mp hm
    rcases List.mem_cons.mp hq with rfl | hq
    · exact Nat.ne_of_lt hdx e
    · exact absurd (Nat.lt_trans (hlt q hq) hdx) (by rw [show q.1 = x from e]; exact Nat.lt_irrefl _)
  have hW := h { c with A := c.A.under (.builtin "type.__call__" ⟨.ref C :: vals, []⟩), k := c.k - 1 } x dx (H.under hk) (by show c.k - 1 + 1 = c.k; omega)
  have := hW _ ⟨S'.gens, S'.drawn, S'.os, S'.fr, S'.nw, S'.nd, S'.lk⟩
  refine codeAny_mono this fun r s' z => ?_
  rcases r with e | (v | _ | _ | _) <;> first | exact z | exact z.elim | skip
  obtain ⟨l', n', S2, rfl, q⟩ := z
  exact ⟨rfl, l', n', ⟨S2.gens, S2.drawn, S2.os, S2.fr, S2.nw, S2.nd, S2.lk⟩, q⟩

-- ===== dictionaries with text keys
inductive EsAre (w : World) : List DictEntry → List (Str × Value) → Prop
  | nil : EsAre w [] []
  | cons {x : Str} {t : Tok} {v : Value} {es : List DictEntry} {as : List (Str × Value)} : EsAre w es as → EsAre w (⟨hashStr w x, .str x t, v⟩ :: es) ((x, v) :: as)
theorem EsAre.cons' {hh : Int} {x : Str} {t : Tok} {v : Value} {es : List DictEntry} {as : List (Str × Value)} (e : hh = hashStr w x) (h : EsAre w es as) : EsAre w (⟨hh, .str x t, v⟩ :: es) ((x, v) :: as) := e ▸ .cons h
inductive GoodEs (w : World) : List DictEntry → Prop
  | nil : GoodEs w []
  | cons {hh : Int} {x : Str} {t : Tok} {v : Value} {es : List DictEntry} : hh = hashStr w x → GoodEs w es → GoodEs w (⟨hh, .str x t, v⟩ :: es)
noncomputable def asOf : List DictEntry → List (Str × Value)
  | [] => []
  | e :: es => (match e.key with | .str x _ => x | _ => Str.empty, e.val) :: asOf es
theorem GoodEs.are {es : List DictEntry} (h : GoodEs w es) : EsAre w es (asOf es) := by
  induction h with
  | nil => exact .nil
  | cons e _ ih => exact .cons' e ih
theorem EsAre.getL {es : List DictEntry} {as : List (Str × Value)} (h : EsAre w es as) (x : Str) : PySem.W.getL x es = some (as.lookup x) := by
  unfold PySem.W.getL
  have key : ∀ {es : List DictEntry} {as : List (Str × Value)}, EsAre w es as → es.any (·.refKey) = false := by
    intro es as h
    induction h with
    | nil => rfl
    | cons _ ih => rw [List.any_cons, ih]; rfl
  rw [key h]
  have find : (es.find? (·.key.isStr x)).map (·.val) = as.lookup x := by
    clear key
    induction h with
    | nil => rfl
    | @cons y t v es as h ih =>
      rw [List.find?_cons, List.lookup_cons]
      have ei : (DictEntry.mk (hashStr w y) (.str y t) v).key.isStr x = (y == x) := rfl
      rw [ei]
      by_cases e : y = x
      · subst e; simp
      · have e1 : (y == x) = false := beq_eq_false_iff_ne.mpr e
        have e2 : (x == y) = false := beq_eq_false_iff_ne.mpr (Ne.symm e)
        rw [e1, e2]; exact ih
  rw [← find]
  cases es.find? (·.key.isStr x) <;> rfl
theorem EsAre.put {es : List DictEntry} {as : List (Str × Value)} (h : EsAre w es as) {x : Str} (hx : as.lookup x = none) (t : Tok) (v : Value) :
    EsAre w (putL x (hashStr w x) (.str x t) v es) (as ++ [(x, v)]) ∧ (putL x (hashStr w x) (.str x t) v es).length = es.length + 1 := by
  induction h with
  | nil => exact ⟨.cons .nil, rfl⟩
  | @cons y u z es as h ih =>
    rw [List.lookup_cons] at hx
    have e : (x == y) = false := by cases e : x == y with | true => rw [e] at hx; cases hx | false => rfl
    rw [e] at hx
    have e2 : (y == x) = false := beq_eq_false_iff_ne.mpr (Ne.symm (beq_eq_false_iff_ne.mp e))
    unfold putL
    show EsAre w (if (y == x) = true then _ else _) _ ∧ _
    have hn : ¬ (Value.str y u).isStr x = true := by show ¬ (y == x) = true; rw [e2]; decide
    rw [if_neg (by rw [e2]; decide), if_neg hn]
    obtain ⟨a, b⟩ := ih hx
    exact ⟨.cons a, by rw [List.length_cons, b, List.length_cons]⟩
theorem EsAre.len {es : List DictEntry} {as : List (Str × Value)} (h : EsAre w es as) : es.length = as.length := by
  induction h with
  | nil => rfl
  | cons _ ih => rw [List.length_cons, List.length_cons, ih]
theorem EsAre.dict {es : List DictEntry} {as : List (Str × Value)} {k : Nat} (h : EsAre w es as) (nd : (as.map (·.1)).Nodup) : (dictOf es k).IsDictOf (strKind prog w) as := by
  refine ⟨es.toArray, k, ⟨rfl, rfl, rfl⟩, rfl, fun e he => ?_, ?_, nd⟩
  · have he' : e ∈ es := by simpa using he
    clear he nd
    induction h with
    | nil => cases he'
    | @cons x t v es as _ ih =>
      rcases List.mem_cons.mp he' with rfl | he'
      · exact ⟨x, strKind_is prog w x t, rfl⟩
      · exact ih he'
  · rw [List.toList_toArray]
    clear nd
    induction h with
    | nil => exact .nil
    | cons _ ih => exact .cons (strKind_is prog w _ _) rfl ih
theorem valueAt_lookup (as : List (Str × Value)) (x : Str) : valueAt as x = as.lookup x := by
  induction as with
  | nil => rfl
  | cons q r ih =>
    obtain ⟨y, v⟩ := q
    unfold valueAt at ih ⊢
    rw [List.find?_cons, List.lookup_cons]
    by_cases e : y = x
    · subst e; simp
    · have e2 : (x == y) = false := beq_eq_false_iff_ne.mpr (Ne.symm e)
      rw [e2]; simp only [e, decide_false]; exact ih
/-- a dictionary of the ledger or of the program's own heap -/
noncomputable def DicV (prog : Program) (K : Frag) (w : World) (n : Led) (d : Addr) (as : List (Str × Value)) : Prop := ∃ o : Obj, o.IsDictOf (strKind prog w) as ∧ ((d, o) ∈ n ∨ K.lookup d = some o)
theorem DicV.mono {n n' : Led} {d : Addr} {as : List (Str × Value)} (h : DicV prog K w n d as) (hs : ∀ q ∈ n, q ∈ n') : DicV prog K w n' d as := by
  obtain ⟨o, ho, h⟩ := h; exact ⟨o, ho, h.imp (hs _) id⟩
theorem DicV.at {n : Led} {d : Addr} {as : List (Str × Value)} {s : Shared} (H : Amb K p loose c) (S : St c l n s) (h : DicV prog K w n d as) : s.heap.DictOf (strKind prog w) d as := by
  obtain ⟨o, ho, h⟩ := h
  refine Heap.dictOf_iff.mpr ⟨o, ?_, ho⟩
  rcases h with h | h
  · exact (S.nw _ h).1
  · obtain ⟨m, F, _⟩ := S.fr; exact F.keep _ _ (H.X _ _ h)
theorem w_inD {d : Addr} {as : List (Str × Value)} {x : Str} {t : Tok} {na : Led} {Q : Value → Loc → Led → Prop} (H : Amb K p loose c) (hd : DicV prog K w na d as) (hs : ∀ q ∈ na, q ∈ n) (hm : (d == sysModules) = false) (h : Q (.bool (as.lookup x).isSome) l n) :
    W prog w c (compareOp .In (.str x t) (.ref d)) Q E l n := fun _ S => wpAny_in_of (strKind_is prog w x t) hm ((hd.mono hs).at H S).mapOf (by rw [valueAt_lookup]; exact W.fin S.tok h)
theorem w_notinD {d : Addr} {as : List (Str × Value)} {x : Str} {t : Tok} {na : Led} {Q : Value → Loc → Led → Prop} (H : Amb K p loose c) (hd : DicV prog K w na d as) (hs : ∀ q ∈ na, q ∈ n) (hm : (d == sysModules) = false) (h : Q (.bool (!(as.lookup x).isSome)) l n) :
    W prog w c (compareOp .NotIn (.str x t) (.ref d)) Q E l n := fun _ S => wpAny_notIn_of (strKind_is prog w x t) hm ((hd.mono hs).at H S).mapOf (by rw [valueAt_lookup]; exact W.fin S.tok h)
theorem w_itemD {value slice : Expr} {d : Addr} {as : List (Str × Value)} {x : Str} {t : Tok} {v : Value} {na : Led} {Q : Value → Loc → Led → Prop} (H : Amb K p loose c) (hd : DicV prog K w na d as) (hs' : ∀ q ∈ na, q ∈ n) (hv : as.lookup x = some v)
    (hs : subscripted slice false (.ref d) (.str x t) = operate [.ref d, .str x t] (getItem (.ref d) (.str x t))) (hg : ∀ r, letTemporaryGo value (.ref d) r = pure ()) (h : Q v l n) : W prog w c (subscriptTail value slice (.ref d) (.str x t)) Q E l n := fun _ S => by
  have D := (hd.mono hs').at H S
  exact subscriptTail_builtin D.typeIs slot_dict_getitem.lookup (wpAny_getItem_of (strKind_is prog w x t) D.mapOf (by rw [valueAt_lookup]; exact hv) (W.fin S.tok h)) hs hg
-- ===== attributes of instances
structure AttrOk (K : Frag) (C : Addr) (name : Str) : Prop where
  pg : plainGet K C name = true
  hd : hasDictIn K C = true
  fd : findIn K (.ref C) name = some none
  st : findIn K (.ref C) "__setattr__" = some (some (.builtin "object.__setattr__"))
  po : plainOver K C = true
theorem AttrOk.taker {C : Addr} {name : Str} (h : AttrOk K C name) : takerIn K C name = some none := by unfold takerIn; rw [h.fd]; rfl
noncomputable abbrev instO (C dx : Addr) (sl : Array (Option Value)) : Obj := ⟨.ref C, some dx, .plain, sl⟩
theorem w_attr {value : Expr} {attr : Str} {pos : Pos} {Q : Value → Loc → Led → Prop} (he : eval (.Attribute value attr pos) env = (do
      let o ← eval value env
      standAt pos.atName
      let r ← holding [o] (getAttr o attr true)
      letTemporaryGo value o r
      pure r)) (h : W prog w c (eval value env) (fun o l' n' => W prog w c (getAttr o attr true) Q E l' n') E l n) : W prog w c (eval (.Attribute value attr pos) env) Q E l n :=
  fun _ S => Attribute_any_ (h.go S fun _ _ _ _ S' x => x _ S') he
theorem w_getattr {C x dx : Addr} {sl : Array (Option Value)} {es : List DictEntry} {k : Nat} {as : List (Str × Value)} {name : Str} {ex : Bool} {v : Value} {Q : Value → Loc → Led → Prop} (H : Amb K p loose c) (ho : AttrOk K C name)
    (hx : (x, instO C dx sl) ∈ n) (hd : (dx, dictOf es k) ∈ n) (he : EsAre w es as) (hl : as.lookup name = some v) (hv : handedIn v = true) (h : Q v l n) : W prog w c (getAttr (.ref x) name ex) Q E l n := fun s S => by
  obtain ⟨m, F, _⟩ := S.fr
  exact get_own F H.X (InstAt.of_news S.nw hx hd) ho.pg ho.hd ho.fd rfl (by rw [he.getL, hl]) hv (W.fin S.tok h)
theorem w_setattr {C x dx : Addr} {sl : Array (Option Value)} {es : List DictEntry} {k : Nat} {as : List (Str × Value)} {name : Str} {v : Value} {n' : List DictEntry → Nat → Led} {Q : Unit → Loc → Led → Prop} (H : Amb K p loose c) (ho : AttrOk K C name)
    (hx : (x, instO C dx sl) ∈ n) (hd : (dx, dictOf es k) ∈ n) (he : EsAre w es as) (hl : as.lookup name = none) (hsz : as.length ≤ 100) (hu : ∀ es' k', RepAt dx (dictOf es k) (dictOf es' k') n (n' es' k'))
    (h : ∀ es' k', EsAre w es' (as ++ [(name, v)]) → Q () l (n' es' k')) : W prog w c (setAttr (.ref x) name v) Q E l n := fun s S => by
  obtain ⟨m, F, hlc⟩ := S.fr
  obtain ⟨a, b⟩ := he.put hl (s.toks + 1) v
  obtain ⟨U, nd⟩ := (hu (putL name (PyData.keyHash w.params name) (.str name (s.toks + 1)) v es) (putN name es k)).upd S.nd
  have := he.len
  exact set_dict F H.X S.nw (InstAt.of_news S.nw hx hd) rfl ho.st ho.po ho.taker ho.hd (by rw [he.getL]; rfl) rfl U (by show (putL name (hashStr w name) _ v es).length ≤ 1000; rw [b]; omega)
    fun h' F' N' => W.fin (S.put ⟨m, F', hlc⟩ N' nd S.lk) (h _ _ a)
theorem w_assignA {o : Expr} {attr : Str} {pos' pos : Pos} {value : Expr} {Q : Flow → Loc → Led → Prop} (hs : swapsWith value (some (.Attribute o attr pos')) pos.line env = pure false)
    (h : W prog w c (eval value env) (fun v l' n' => W prog w c (eval o env) (fun ov l' n' => W prog w c (setAttr ov attr v) (fun _ l' n' => Q .next l' n') E l' n') E l' n') E l n) : W prog w c (exec (.Assign [.Attribute o attr pos'] value pos) env) Q E l n :=
  fun _ S => plainObj_wpAny_Assign_Attribute (h.go S fun _ _ _ _ S' x => x.go S' fun _ _ _ _ S' x => x.go S' fun _ _ _ _ S' x => W.fin S' x) hs
-- ===== more of lists
theorem w_gm_pop {D : Addr} {its : Array Value} {k : Nat} {pl : Sem Bool} {Q : Value × List Value → Loc → Led → Prop} (hm : (D, PySem.W.listOf its k) ∈ n) (h : Q (.builtin "list.pop", [.ref D]) l n) :
    W prog w c (getMethod (.ref D) (Str.ofString "pop") pl) Q E l n := fun _ S => kl_method S.nw hm PySem.F.slot_list_pop PySem.F.type_list_pop (W.fin S h)
theorem kl_last_snoc (vs : List Value) (y : Value) : kl_last (vs ++ [y]) = some (vs, y) := by
  induction vs with
  | nil => rfl
  | cons a r ih => rw [List.cons_append]; unfold kl_last; rw [ih]
theorem w_pop {D : Addr} {vs ws : List Value} {y : Value} {k : Nat} {n' : Led} {Q : Value → Loc → Led → Prop} (e : ws = vs ++ [y]) (hu : RepAt D (PySem.W.listOf ws.toArray k) (PySem.W.listOf vs.toArray (k + 1)) n n') (hsz : vs.length + 1 ≤ sizeLine)
    (h : Q y l n') : W prog w c (call (.builtin "list.pop") [.ref D]) Q E l n := fun _ S => by
  subst e
  obtain ⟨m, F, hl⟩ := S.fr
  obtain ⟨U, nd⟩ := hu.upd S.nd
  exact kl_pop F S.nw (by rw [List.toList_toArray]; exact kl_last_snoc vs y) U (by simpa using hsz) fun h' F' N' => W.fin (S.put (tk := _) ⟨m, F', hl⟩ N' nd S.lk) h
theorem w_item_neg {value slice : Expr} {a : Addr} {its : Array Value} {k : Nat} {i : Int} {u : Tok} {v : Value} {Q : Value → Loc → Led → Prop} (hm : (a, PySem.W.listOf its k) ∈ n) (h0 : i < 0) (h1 : -(its.size : Int) ≤ i) (hfit : -(2 ^ 63) ≤ i) (hv : its[(i + its.size).toNat]? = some v)
    (hs : subscripted slice false (.ref a) (.int i u) = operate [.ref a, .int i u] (getItem (.ref a) (.int i u))) (hg : ∀ r, letTemporaryGo value (.ref a) r = pure ()) (h : Q v l n) : W prog w c (subscriptTail value slice (.ref a) (.int i u)) Q E l n :=
  fun _ S => subscriptTail_builtin (isList_of S.nw hm).typeIs slot_list_getitem.lookup (wpAny_getItem_list_neg (isList_of S.nw hm) h0 h1 hfit hv ⟨l, n, S, h⟩) hs hg
theorem w_neg_int {a : Int} {t : Tok} {Q : Value → Loc → Led → Prop} (h : ∀ t, Q (.int (-a) t) l n) : W prog w c (unaryOp .USub (.int a t)) Q E l n := fun _ S => by
  with_reducible refine neg_int ?_
  exact ⟨l, n, S.tok, h _⟩
theorem w_item_last1 {value slice : Expr} {a : Addr} {vs : List Value} {k : Nat} {u : Tok} {v : Value} {Q : Value → Loc → Led → Prop} (hm : (a, PySem.W.listOf vs.toArray k) ∈ n) (hv : vs.getLast? = some v)
    (hs : subscripted slice false (.ref a) (.int (-1) u) = operate [.ref a, .int (-1) u] (getItem (.ref a) (.int (-1) u))) (hg : ∀ r, letTemporaryGo value (.ref a) r = pure ()) (h : Q v l n) : W prog w c (subscriptTail value slice (.ref a) (.int (-1) u)) Q E l n := by
  have hl : 1 ≤ vs.length := by cases vs with | nil => cases hv | cons _ _ => simp
  refine w_item_neg hm (by decide) (by simp; omega) (by decide) ?_ hs hg h
  rw [List.getLast?_eq_getElem?] at hv
  rw [List.size_toArray, show ((-1 : Int) + (vs.length : Int)).toNat = vs.length - 1 by omega]
  simpa using hv
end

-- ===== Ld
section
variable {prog : Program} {w : World} {K : Frag} {p : Program} {loose : List Str}
variable {c : Cx} {E : Value → Shared → Prop} {l : Loc} {n : Led} {env : Env}
theorem w_evp {k v : Expr} {ks : List (Option Expr)} {vs : List Expr} {pos : Pos} {Q : List (Value × Value) → Loc → Led → Prop}
    (h : W prog w c (eval k env) (fun kv l' n' => W prog w c (eval v env) (fun vv l' n' => W prog w c (evalPairs (pairTrees ks vs env pos)) (fun r l' n' => Q ((kv, vv) :: r) l' n') E l' n') E l' n') E l n) : W prog w c (evalPairs (pairTrees (some k :: ks) (v :: vs) env pos)) Q E l n :=
  fun _ S => pairTrees_cons_walk (h.go S fun _ _ _ _ S' x => x.go S' fun _ _ _ _ S' x => x.go S' fun _ _ _ _ S' x => W.fin S' x)
theorem w_evp0 {pos : Pos} {Q : List (Value × Value) → Loc → Led → Prop} (h : Q [] l n) : W prog w c (evalPairs (pairTrees [] [] env pos)) Q E l n := fun _ S => pairTrees_nil_walk (W.fin S h)
noncomputable abbrev dict0 : Obj := { cls := .type "dict", data := .dict #[] }
theorem merged_new : ∀ {kvs acc : List (Str × Value)}, ((acc ++ kvs).map (·.1)).Nodup → merged acc kvs = acc ++ kvs
  | [], acc, _ => by simp [merged]
  | (k, v) :: r, acc, nd => by
    have hk : k ∉ acc.map (·.1) := by
      rw [List.map_append] at nd
      intro hm
      exact (List.nodup_append.mp nd).2.2 k hm k (.head _) rfl
    have st : stored acc k v = acc ++ [(k, v)] := by
      unfold stored
      rw [if_neg]
      intro h
      obtain ⟨q, hq, e⟩ := List.any_eq_true.mp h
      exact hk (by have e' : q.1 = k := by simpa using e
                   rw [← e']; exact List.mem_map_of_mem hq)
    show merged (stored acc k v) r = _
    rw [st, merged_new (by simpa using nd)]
    simp
theorem w_dict {keys : List (Option Expr)} {values : List Expr} {pos : Pos} {Q : Value → Loc → Led → Prop} (H : Amb K p loose c) (hall : keys.all (·.isSome) = true) (hl : keys.length = values.length) (h0 : keys ≠ []) (hlen : keys.length ≤ 15)
    (h : ∀ d, (∀ q ∈ n, q.1 < d) → (d == sysModules) = false → W prog w c (evalPairs (pairTrees keys values env pos)) (fun vs l' n' => ∃ kvs n2, Carries (strKind prog w) vs kvs ∧ n' = (d, dict0) :: n2 ∧ (kvs.map (·.1)).Nodup ∧
      ∀ o, o.IsDictOf (strKind prog w) kvs → Q (.ref d) l' ((d, o) :: n2)) E l ((d, dict0) :: n)) : W prog w c (eval (.Dict keys values pos) env) Q E l n := fun s S => by
  obtain ⟨m, F, hlc⟩ := S.fr
  obtain ⟨_, _, _, T⟩ := H.T
  have hlt : ∀ q ∈ n, q.1 < s.heap.objs.size := fun q hq => Heap.lt_size (S.nw q hq).1
  have hm := F.notModules (modules_low T.nolimit)
  have S0 : St c l ((s.heap.objs.size, dict0) :: n) { s with heap := s.heap.push dict0 } := by
    have S' := S.push dict0
    refine ⟨S'.gens, S'.drawn, S'.os, S'.fr, fun q hq => ?_, nd_new S.nd hlt, S'.lk⟩
    rcases List.mem_cons.mp hq with rfl | hq
    · exact ⟨Heap.get?_push_size _ rfl, S.new.1, S.new.2.1⟩
    · exact S'.nw q hq
  refine wpAny_Dict_walk (knd := strKind prog w) hall hl h0 hlen ((h _ hlt hm).go S0 fun vs s₁ l' n' S1 z => ?_)
  obtain ⟨kvs, n2, hc, rfl, nd, hq⟩ := z
  refine ⟨kvs, hc, ?_, fun h' hd hs => ?_⟩
  · refine Heap.dictOf_iff.mpr ⟨dict0, (S1.nw _ (.head _)).1, #[], 0, ⟨rfl, rfl, rfl⟩, rfl, fun e he => by simp at he, .nil, List.nodup_nil⟩
  · rw [merged_new (by simpa using nd), List.nil_append] at hd
    obtain ⟨o, ho, hdo⟩ := Heap.dictOf_iff.mp hd
    obtain ⟨m1, F1, hl1⟩ := S1.fr
    have D := S1.nw _ (List.mem_cons_self)
    have ndn := S1.nd
    refine ⟨l', (s.heap.objs.size, o) :: n2, S1.put ⟨m1, F1.change hs D.2.1 D.2.2, hl1⟩ (fun q hq => ?_) ndn S1.lk, hq o hdo⟩
    rcases List.mem_cons.mp hq with rfl | hq'
    · exact ⟨ho, D.2⟩
    · have q1 := S1.nw q (.tail _ hq')
      refine ⟨hs.extBut _ _ (fun e => ?_) q1.1, q1.2⟩
      have hm' : q.1 ∈ n2.map (·.1) := List.mem_map_of_mem hq'
      rw [show q.1 = s.heap.objs.size from e] at hm'
      exact (List.nodup_cons.mp ndn).1 hm'
theorem w_gm_update {d : Addr} {o : Obj} {kvs : List (Str × Value)} {pl : Sem Bool} {Q : Value × List Value → Loc → Led → Prop} (hm : (d, o) ∈ n) (ho : o.IsDictOf (strKind prog w) kvs) (h : Q (.builtin "dict.update", [.ref d]) l n) :
    W prog w c (getMethod (.ref d) (Str.ofString "update") pl) Q E l n := fun _ S => by
  have hd := Heap.dictOf_iff.mpr ⟨o, (S.nw _ hm).1, ho⟩
  exact getMethod_builtin hd.typeIs PySem.F.plainAttrs_dict PySem.F.slot_dict_update PySem.F.type_dict_update hd.mapOf.noDict (W.fin S h)
theorem w_update {d d2 : Addr} {o o2 : Obj} {kvs more : List (Str × Value)} {n' : Obj → Led} {Q : Value → Loc → Led → Prop} (hm : (d, o) ∈ n) (ho : o.IsDictOf (strKind prog w) kvs) (hm2 : (d2, o2) ∈ n) (ho2 : o2.IsDictOf (strKind prog w) more) (hne : d ≠ d2) (lo : (d2 == sysModules) = false)
    (hsz : kvs.length + more.length ≤ 1000) (nd : ((kvs ++ more).map (·.1)).Nodup) (hu : ∀ o', RepAt d o o' n (n' o')) (h : ∀ o', o'.IsDictOf (strKind prog w) (kvs ++ more) → Q .none l (n' o')) : W prog w c (call (.builtin "dict.update") [.ref d, .ref d2]) Q E l n := fun s S => by
  obtain ⟨m, F, hl⟩ := S.fr
  have hD := Heap.dictOf_iff.mpr ⟨o, (S.nw _ hm).1, ho⟩
  have hD2 := Heap.dictOf_iff.mpr ⟨o2, (S.nw _ hm2).1, ho2⟩
  refine call_meetsIn PySem.F.slot_dict_update hD.typeIs PySem.F.entry_dict_update (PySem.F.args_dict_update_2 _ _) (meets_dict_update (strKind prog w) d d2 hne lo)
    ⟨kvs, more, hD, hD2, by rw [line_is]; omega, fun h' hmm _ hs => ?_⟩
  rw [merged_new nd] at hmm
  obtain ⟨o', ho', hd'⟩ := Heap.dictOf_iff.mp hmm
  obtain ⟨U, ndn⟩ := (hu o').upd S.nd
  obtain ⟨pre, post, rfl, e, h1, h2⟩ := U.split
  have D := S.nw _ hm
  have N' : News c.h₀ c.L h' (n' o') := by rw [e]; exact S.nw.setIn h1 h2 hs ho'
  exact ⟨l, n' o', S.put (tk := s.toks) ⟨m, F.change hs D.2.1 D.2.2, hl⟩ N' ndn S.lk, h o' hd'⟩
theorem carr_nil : Carries (strKind prog w) [] [] := trivial
theorem carr_cons {x : Str} {t : Tok} {v : Value} {vs : List (Value × Value)} {kvs : List (Str × Value)} (h : Carries (strKind prog w) vs kvs) : Carries (strKind prog w) ((.str x t, v) :: vs) ((x, v) :: kvs) := ⟨strKind_is prog w x t, rfl, h⟩
theorem dict_fin {vs : List (Value × Value)} {kvs : List (Str × Value)} {d : Addr} {n2 : Led} {R : Obj → List (Str × Value) → Led → Prop} (hc : Carries (strKind prog w) vs kvs) (nd : (kvs.map (·.1)).Nodup) (h : ∀ o, o.IsDictOf (strKind prog w) kvs → R o kvs n2) :
    ∃ kvs n2', Carries (strKind prog w) vs kvs ∧ (d, dict0) :: n2 = (d, dict0) :: n2' ∧ (kvs.map (·.1)).Nodup ∧ ∀ o, o.IsDictOf (strKind prog w) kvs → R o kvs n2' := ⟨kvs, n2, hc, rfl, nd, h⟩
theorem lookup_no {as : List (Str × Value)} {x : Str} (h : x ∉ as.map (·.1)) : as.lookup x = none := by
  induction as with
  | nil => rfl
  | cons q r ih =>
    obtain ⟨y, v⟩ := q
    rw [List.map_cons, List.mem_cons] at h
    rw [List.lookup_cons, show (x == y) = false from beq_eq_false_iff_ne.mpr fun e => h (.inl e)]
    exact ih fun hm => h (.inr hm)
end

-- ===== Le
/-- an exception with attributes: its object keeps its class and its dictionary; its traceback's flag is fl -/
noncomputable def TrD (h base : Heap) (e dx : Addr) (cls fl : Value) : Prop :=
  ∃ sl vs T oT ts, h.get? e = some ⟨cls, some dx, .fields vs, sl⟩ ∧ vs[1]? = some (.ref T) ∧ base.get? T = none ∧ T ≠ e ∧ h.get? T = some oT ∧ oT.data = .fields ts ∧ ts[3]? = some fl
structure FlyD (base : Heap) (l : List Env) (e dx : Addr) (cls fl : Value) (h : Heap) : Prop where
  stays : base.StaysIn h
  fresh : base.get? e = none
  frames : h.FunFrames base l
  tr : TrD h base e dx cls fl
section
variable {M : Model} {A : Around} {E : Value → Shared → Prop} {s : Shared} {base : Heap} {env : Env} {outer : List Env} {L e dx : Addr} {cls : Value}
theorem obj_mf {cls : Value} {d : Option Addr} {vs : Array Value} {sl : Array (Option Value)} (f : Array Value → Array Value) : Obj.mapFields f ⟨cls, d, .fields vs, sl⟩ = ⟨cls, d, .fields (f vs), sl⟩ := rfl
theorem fd_entry {sl : Array (Option Value)} {vs : Array Value} {head : Value} {hadNext : Bool} {Q : Unit → Shared → Prop}
    (hfr : A.frames = some (env :: outer)) (hl : s.heap.FunFrames base (env :: outer)) (hf : env.frame = some L)
    (he : s.heap.get? e = some ⟨cls, some dx, .fields vs, sl⟩) (hkb : base.StaysIn s.heap) (hen : base.get? e = none) (hsz : 1 < vs.size)
    (h : ∀ h', FlyD base (env :: outer) e dx cls (rawInt L) h' → s.heap.UpToSlots h' → Q () { s with heap := h' }) :
    wpAny M A (do let a ← frameOf env; let pl ← entryPlaceOf L hadNext; let b ← EntryCells.newEntry head a .none (rawInt L) .none pl; setField (.ref e) 1 b) Q E s := by
  have hene : e ∉ (env :: outer).filterMap (·.frame) := fun hm => by
    obtain ⟨_, o, ho, hnf⟩ := hl.mem hm
    rw [he] at ho; injection ho with ho; subst ho; exact hnf vs rfl
  refine wpAny_bind (wpAny_frameOf_fun hfr hl hf fun h₁ hs₁ => ?_)
  refine wpAny_bind (wpAny_entryPlaceOf fun pl hpl => ?_)
  unfold EntryCells.newEntry newFields
  refine wpAny_bind (wpAny_newObj_type ?_ (hpl.sizeOk5 _ _ _ _ _))
  have he₁ : h₁.get? e = some ⟨cls, some dx, .fields vs, sl⟩ := (hs₁.2.1 e hene).trans he
  have kb₁ : base.StaysIn h₁ := fun b o hbo => (hs₁.2.1 b fun hm => by rw [(hl.mem hm).1] at hbo; cases hbo).trans (hkb b o hbo)
  generalize hT : ({ cls := .type "traceback", dict := none, data := .fields ([head, .ref L, .none, rawInt L, .none] ++ (if pl.isEmpty then List.replicate 6 Value.none else pl)).toArray } : Obj) = oT
  have hTf : oT.isFreed = false := by rw [← hT]; rfl
  have he₂ := Heap.get?_push_of_some (h := h₁) oT he₁
  refine wpAny_setField he₂ rfl hsz (h _ ?_ ?_)
  · have hTe : h₁.objs.size ≠ e := Nat.ne_of_gt (Heap.lt_size he₁)
    have he₃ := Heap.get?_update_self (Obj.mapFields (·.setIfInBounds 1 (Value.ref h₁.objs.size))) he₂ rfl
    have hT₃ := (Heap.get?_update_other (h₁.push oT) (Obj.mapFields (·.setIfInBounds 1 (Value.ref h₁.objs.size))) (Ne.symm hTe)).trans (Heap.get?_push_size h₁ hTf)
    have keep : ∀ b o, b ≠ e → h₁.get? b = some o → ((h₁.push oT).update e (Obj.mapFields (·.setIfInBounds 1 (Value.ref h₁.objs.size)))).get? b = some o := fun b o hbe hb => by
      rw [Heap.get?_update_other _ _ (Ne.symm hbe)]; exact Heap.get?_push_of_some _ hb
    have noRecord : ∀ b o, s.heap.get? b = some o → (∀ vs, o.data ≠ .fields vs) → b ≠ e := fun b o hb hnf q => by
      rw [q, he] at hb; injection hb with hb; subst hb; exact hnf vs rfl
    refine ⟨fun b o hbo => keep b o (fun q => by rw [q, hen] at hbo; cases hbo) (kb₁ b o hbo), hen, hl.of_keeps fun b o hb hnf => ?_, ?_⟩
    · obtain ⟨sl', hs⟩ := hs₁.2.2 b o hb
      exact ⟨_, keep b _ (noRecord b o hb hnf) hs, rfl⟩
    · refine ⟨sl, vs.setIfInBounds 1 (.ref h₁.objs.size), h₁.objs.size, oT, _, he₃, by simp [hsz], kb₁.fresh, hTe, hT₃, by rw [← hT], ?_⟩
      first | (simp; done) | (rcases hpl with rfl | ⟨_, _, _, _, _, _, _, rfl⟩ <;> simp)
  · intro b o hb hnf
    have hbe : b ≠ e := fun q => by rw [q, he] at hb; injection hb with hb; subst hb; exact hnf vs rfl
    obtain ⟨sl', hs⟩ := hs₁.2.2 b o hb
    exact ⟨sl', by rw [Heap.get?_update_other _ _ (Ne.symm hbe)]; exact Heap.get?_push_of_some _ hs⟩
/-- noting the frame of an exception that no frame has noted -/
theorem fd_note_first {sl : Array (Option Value)} {vs : Array Value} {Q : Unit → Shared → Prop} (hfr : A.frames = some (env :: outer)) (hl : s.heap.FunFrames base (env :: outer)) (hf : env.frame = some L)
    (he : s.heap.get? e = some ⟨cls, some dx, .fields vs, sl⟩) (hkb : base.StaysIn s.heap) (hen : base.get? e = none) (h1 : vs[1]? = some .none)
    (h : ∀ h', FlyD base (env :: outer) e dx cls (rawInt L) h' → s.heap.UpToSlots h' → Q () { s with heap := h' }) : wpAny M A (noteFrame (.ref e) env) Q E s := by
  unfold noteFrame
  simp only [hf]
  refine wpAny_bind (wpAny_field he rfl h1 ?_)
  rw [if_neg (by decide)]
  exact fd_entry hfr hl hf he hkb hen (Array.getElem?_eq_some_iff.mp h1).1 h
theorem fd_note_next {Q : Unit → Shared → Prop} (hfr : A.frames = some (env :: outer)) (hf : env.frame = some L) (hd : FlyD base (env :: outer) e dx cls .none s.heap)
    (h : ∀ h', FlyD base (env :: outer) e dx cls (rawInt L) h' → s.heap.UpToSlots h' → Q () { s with heap := h' }) : wpAny M A (noteFrame (.ref e) env) Q E s := by
  obtain ⟨sl, vs, T, oT, ts, he, h1, hnT, hTe, hT, hdT, h3⟩ := hd.tr
  unfold noteFrame
  simp only [hf]
  refine wpAny_bind (wpAny_field he rfl h1 ?_)
  rw [if_pos (show (Value.ref T != Value.none) = true from by simp)]
  refine wpAny_bind (wpAny_field hT hdT h3 ?_)
  rw [if_neg (show ¬ ((Value.none == rawInt L) = true) from by simp [rawInt])]
  refine wpAny_bind (wpAny_setField hT hdT (Array.getElem?_eq_some_iff.mp h3).1 ?_)
  have other : ∀ b, b ≠ T → (s.heap.update T (Obj.mapFields (·.setIfInBounds 3 Value.none))).get? b = s.heap.get? b := fun b hb => Heap.get?_update_other _ _ (Ne.symm hb)
  have noRecord : ∀ b o, s.heap.get? b = some o → (∀ vs, o.data ≠ .fields vs) → b ≠ T := fun b o hb hnf q => by
    rw [q, hT] at hb; injection hb with hb; subst hb; exact hnf ts hdT
  refine fd_entry hfr (hd.frames.of_keeps fun b o hb hnf => ⟨o, (other b (noRecord b o hb hnf)).trans hb, rfl⟩) hf ((other e (Ne.symm hTe)).trans he)
    (fun b o hbo => (other b fun q => by rw [q, hnT] at hbo; cases hbo).trans (hd.stays b o hbo)) hd.fresh (Array.getElem?_eq_some_iff.mp h1).1 fun h' x1 x2 => h h' x1 fun b o hb hn => ?_
  exact x2 b o ((other b (noRecord b o hb hn)).trans hb) hn
theorem fd_note_again {fl : Value} {Q : Unit → Shared → Prop} {l : List Env} (hf : env.frame = some L) (hfl : fl = rawInt L) (hd : FlyD base l e dx cls fl s.heap) (h : Q () s) : wpAny M A (noteFrame (.ref e) env) Q E s := by
  subst hfl
  obtain ⟨sl, vs, T, oT, ts, he, h1, hnT, hTe, hT, hdT, h3⟩ := hd.tr
  unfold noteFrame
  simp only [hf]
  refine wpAny_bind (wpAny_field he rfl h1 ?_)
  rw [if_pos (show (Value.ref T != Value.none) = true from by simp)]
  refine wpAny_bind (wpAny_field hT hdT h3 ?_)
  rw [if_pos (show (rawInt L == rawInt L) = true from by simp)]
  exact wpAny_pure h
theorem fd_flight {fr : Option Addr} {fl : Value} {Q : Unit → Shared → Prop} {l : List Env} (hd : FlyD base l e dx cls fl s.heap)
    (h : ∀ h', FlyD base l e dx cls (fr.elim .none fun f => rawInt f) h' → s.heap.UpToSlots h' → Q () { s with heap := h' }) : wpAny M A (setFlight (.ref e) fr) Q E s := by
  obtain ⟨sl, vs, T, oT, ts, he, h1, hnT, hTe, hT, hdT, h3⟩ := hd.tr
  have hsz3 : 3 < ts.size := (Array.getElem?_eq_some_iff.mp h3).1
  have other : ∀ b, b ≠ T → (s.heap.update T (Obj.mapFields (·.setIfInBounds 3 (fr.elim Value.none fun f => rawInt f)))).get? b = s.heap.get? b := fun b hb => Heap.get?_update_other _ _ (Ne.symm hb)
  have noRecord : ∀ b o, s.heap.get? b = some o → (∀ vs, o.data ≠ .fields vs) → b ≠ T := fun b o hb hnf q => by
    rw [q, hT] at hb; injection hb with hb; subst hb; exact hnf ts hdT
  unfold setFlight
  refine wpAny_bind (wpAny_field he rfl h1 ?_)
  rw [if_pos (show (Value.ref T != Value.none) = true from by simp)]
  refine wpAny_setField hT hdT hsz3 (h _ ⟨fun b o hbo => (other b fun q => by rw [q, hnT] at hbo; cases hbo).trans (hd.stays b o hbo), hd.fresh,
    hd.frames.of_keeps fun b o hb hnf => ⟨o, (other b (noRecord b o hb hnf)).trans hb, rfl⟩, ?_⟩ fun b o hb hn => ⟨o.slots, (other b (noRecord b o hb hn)).trans hb⟩)
  exact ⟨sl, vs, T, _, _, (other e (Ne.symm hTe)).trans he, h1, hnT, hTe, Heap.get?_update_self _ hT (Obj.isFreed_of_fields (Obj.data_mapFields hdT _)), Obj.data_mapFields hdT _, by simp [hsz3]⟩
/-- in a frame: not yet noted there, or noted there -/
noncomputable def AtD (base : Heap) (env : Env) (outer : List Env) (L e dx : Addr) (cls : Value) (h : Heap) : Prop :=
  FlyD base (env :: outer) e dx cls .none h ∨ FlyD base (env :: outer) e dx cls (rawInt L) h ∨
  (base.StaysIn h ∧ base.get? e = none ∧ h.FunFrames base (env :: outer) ∧ ∃ sl vs, h.get? e = some ⟨cls, some dx, .fields vs, sl⟩ ∧ vs[1]? = some .none)
theorem fd_leave {Q : Unit → Shared → Prop} (hfr : A.frames = some (env :: outer)) (hf : env.frame = some L) (hd : AtD base env outer L e dx cls s.heap)
    (h : ∀ h', FlyD base outer e dx cls .none h' → s.heap.UpToSlots h' → Q () { s with heap := h' }) : wpAny M A (leaving env (.ref e)) Q E s := by
  have fin : ∀ (s' : Shared), (∃ h', s' = { s with heap := h' }) → s.heap.UpToSlots s'.heap → FlyD base (env :: outer) e dx cls (rawInt L) s'.heap → wpAny M A (setFlight (.ref e) none) Q E s' := by
    rintro _ ⟨h₁, rfl⟩ u hd'
    exact fd_flight hd' fun h₂ hd2 u2 => h h₂ ⟨hd2.stays, hd2.fresh, hd2.frames.2.2, hd2.tr⟩ (u.trans u2)
  unfold leaving
  rcases hd with hd | hd | ⟨b1, b2, b3, sl, vs, b4, b5⟩
  · exact wpAny_bind (fd_note_next hfr hf hd fun h₁ hd1 u1 => fin _ ⟨h₁, rfl⟩ u1 hd1)
  · exact wpAny_bind (fd_note_again hf rfl hd (fin s ⟨s.heap, rfl⟩ (Heap.UpToSlots.refl _) hd))
  · exact wpAny_bind (fd_note_first hfr b3 hf b4 b1 b2 b5 fun h₁ hd1 u1 => fin _ ⟨h₁, rfl⟩ u1 hd1)
/-- what a loop does to an exception that passes: it stays in its frame -/
theorem fd_loop {Q : Value → Shared → Prop} (hfr : A.frames = some (env :: outer)) (hf : env.frame = some L) (hd : AtD base env outer L e dx cls s.heap)
    (h : ∀ h', AtD base env outer L e dx cls h' → s.heap.UpToSlots h' → Q (.ref e) { s with heap := h' }) : notedBy M A env (cameBackBy M A env Q) (.ref e) s := by
  have fin : ∀ (s' : Shared), (∃ h', s' = { s with heap := h' }) → s.heap.UpToSlots s'.heap → FlyD base (env :: outer) e dx cls (rawInt L) s'.heap → cameBackBy M A env Q (.ref e) s' := by
    rintro _ ⟨h₁, rfl⟩ u hd'
    obtain ⟨sl, vs, T, oT, ts, he, h1, hnT, hTe, hT, hdT, h3⟩ := hd'.tr
    unfold cameBackBy
    refine wpAny_bind (wpAny_field he rfl h1 ?_)
    rw [if_neg (show ¬ ((Value.ref T == Value.none) = true) from by simp)]
    refine fd_flight hd' fun h₂ hd2 u2 => h h₂ (.inr (.inl ?_)) (u.trans u2)
    rw [hf] at hd2; exact hd2
  unfold notedBy
  rcases hd with hd | hd | ⟨b1, b2, b3, sl, vs, b4, b5⟩
  · exact fd_note_next hfr hf hd fun h₁ hd1 u1 => fin _ ⟨h₁, rfl⟩ u1 hd1
  · exact fd_note_again hf rfl hd (fin s ⟨s.heap, rfl⟩ (Heap.UpToSlots.refl _) hd)
  · exact fd_note_first hfr b3 hf b4 b1 b2 b5 fun h₁ hd1 u1 => fin _ ⟨h₁, rfl⟩ u1 hd1
end

/-- the exception that the program raises: its class, and a dictionary that tells the code -/
noncomputable def ExcIs (_ : World) (B : Heap) (dx : Addr) (x : Str) : Prop := ∃ mA t, B.Ns1 dx mA ∧ mA (Str.ofString "code") = some (.str x t)
/-- an exception on its way, seen from a frame -/
structure InFlight (w : World) (C : Addr) (c : Cx) (l : Loc) (n : Led) (x : Str) (ev : Value) (s : Shared) : Prop where
  gens : s.gens = c.s₀.gens
  drawn : s.drawn = c.s₀.drawn
  os : s.os = c.s₀.os
  ns : ∃ m, s.heap.Ns c.L m ∧ ∀ q ∈ l, m q.1 = q.2
  lk : LocOk c.cs l
  up : c.h₀.UpToSlots s.heap
  ex : ∃ e dx B env outer, ev = .ref e ∧ c.A.frames = some (env :: outer) ∧ env.frame = some c.L ∧ AtD B env outer c.L e dx (.ref C) s.heap ∧ ExcIs w B dx x ∧ c.h₀.get? e = none ∧ c.h₀.get? dx = none ∧ (∀ q ∈ n, q.1 ≠ e ∧ q.1 ≠ dx) ∧
    (∀ b o, c.h₀.get? b = some o → b ∉ (env :: outer).filterMap (·.frame) → B.get? b = some o) ∧ (∀ q ∈ n, B.get? q.1 = some q.2 ∧ q.1 ≠ c.L ∧ c.h₀.get? q.1 = none)
theorem InFlight.sub {w : World} {C : Addr} {c : Cx} {l : Loc} {n n' : Led} {x : Str} {ev : Value} {s : Shared} (h : InFlight w C c l n' x ev s) (hs : ∀ q ∈ n, q ∈ n') : InFlight w C c l n x ev s := by
  obtain ⟨e, dx, B, env, outer, a1, a2, a3, a4, a5, a6, a7, a8, a9, a10⟩ := h.ex
  exact ⟨h.gens, h.drawn, h.os, h.ns, h.lk, h.up, e, dx, B, env, outer, a1, a2, a3, a4, a5, a6, a7, fun q hq => a8 q (hs q hq), a9, fun q hq => a10 q (hs q hq)⟩
theorem InFlight.loop {prog : Program} {w : World} {C : Addr} {c : Cx} {l : Loc} {n : Led} {x : Str} {ev : Value} {s : Shared} {E : Value → Shared → Prop} {env : Env} {rest : List Env} (h : InFlight w C c l n x ev s) (hfr : c.A.frames = some (env :: rest))
    (hE : ∀ ev s, InFlight w C c l n x ev s → E ev s) : notedBy (model prog w) c.A env (cameBackBy (model prog w) c.A env E) ev s := by
  obtain ⟨e, dx, B, env', outer, rfl, a2, a3, a4, a5, a6, a7, a8, a9, a10⟩ := h.ex
  rw [hfr] at a2
  obtain ⟨rfl, rfl⟩ := List.cons.inj (Option.some.inj a2)
  refine fd_loop hfr a3 a4 fun h' hd u => hE _ _ ?_
  obtain ⟨m, hm, hl⟩ := h.ns
  exact ⟨h.gens, h.drawn, h.os, ⟨m, u.ns hm, hl⟩, h.lk, h.up.trans u, e, dx, B, env, rest, rfl, hfr, a3, hd, a5, a6, a7, a8, a9, a10⟩
section
variable {prog : Program} {w : World} {K : Frag} {p : Program} {loose : List Str}
variable {c : Cx} {E : Value → Shared → Prop} {l : Loc} {n : Led} {env : Env}
theorem wc_enterY {name qual : Str} {params : Arguments} {body : List Stmt} {scope : Scope} {dV kV doc pm cdv ct oc : Value} {an od : Option Addr} {osl : Array (Option Value)} {f : Addr} {vs : List Value} {ps rest : List Str}
    {Q : Value → Loc → Led → Prop} {XP : Str → Prop} {C : Addr} (H : Amb K p loose c) (hk : 1 ≤ c.k)
    (ho : K.lookup f = some ⟨oc, od, .func (fnOf name qual params body scope dV kV doc pm an cdv ct), osl⟩) (hcd : codeIn K cdv qual = true)
    (_ : params.args.map (·.arg) = ps) (_ : LocRest params.args scope.names rest)
    (hb : bindArgs (fnOf name qual params body scope dV kV doc pm an cdv ct) ⟨vs, []⟩ = pure (ps.zip vs)) (hlen : ps.length = vs.length)
    (hnd : (ps ++ rest).Nodup) (hloc : ((ps ++ rest).all fun x => scope.names.lookup x == some .local) = true)
    (hco : scope.isCoroutine = false) (hgen : scope.isGenerator = false) (hfn : scope.kind = .function) (hcell : ∀ x ∈ scope.names, x.2 ≠ .cell)
    (h : ∀ (c' : Cx) (env' : Env), Amb K p loose c' → env' = envOf qual scope c'.L f cdv → c'.cs = scope → c'.k + 1 = c.k → (∃ r, c'.A.frames = some (env' :: r)) → W prog w c' (execs body env') (fun fl _ n' => Q (retOf fl) l n') (fun ev s' => ∃ l' xc, XP xc ∧ InFlight w C c' l' n xc ev s') (locOf ps vs rest) n)
    (hE : ∀ xc, XP xc → ∀ ev s', InFlight w C c l n xc ev s' → E ev s') :
    WC prog w c (.call (.ref f) ⟨vs, []⟩) Q E l n := fun s S => by
  obtain ⟨mean, mg, mb, T⟩ := H.T
  obtain ⟨A₀, base, outer, env, B, hA, hf, hke⟩ := H.B
  obtain ⟨m, F, hl⟩ := S.fr
  have hl1 : ∀ x ∈ ps ++ rest, scope.names.lookup x = some .local := fun x hx => by simpa using List.all_eq_true.mp hloc x hx
  have ndp : ps.Nodup := (List.nodup_append.mp hnd).1
  refine (code_def B F H.X S.nw T hA hf hke ho hcd (by have := H.dep; omega) (BindsTo.of_eq hb) (fun y hy => hl1 _ (List.mem_append_left _ (List.of_mem_zip hy).1)) (fun g L' h₁ FG F' N' B' X' T' => ?_) hco hgen hfn hcell)
  have keys : (locOf ps vs rest).map (·.1) = ps ++ rest := by
    simp only [locOf, List.map_append, List.map_map]
    congr 1
    · show (ps.zip vs).map (·.1) = ps; exact map_zip_fst hlen
    · exact List.map_id _
  have hW := h { A := c.A.deeper (envOf qual scope L' f cdv), h₀ := g, L := L', s₀ := c.s₀, cs := scope, k := c.k - 1 } (envOf qual scope L' f cdv)
    ⟨X', ⟨mean, mg, mb, T'⟩, ?_, H.hd, ?_, ?_⟩ rfl rfl (by show c.k - 1 + 1 = c.k; omega) ⟨_, Around.frames_deeper hA⟩
  · refine wpAny_mono (hW _ ⟨S.gens, S.drawn, S.os, ⟨_, F', fun q hq => ?_⟩, N', S.nd, ⟨hfn, fun q hq => ?_, by rw [keys]; exact hnd⟩⟩) (fun fl s' x => ?_) fun e s' x => ?_
    · show (ps.zip vs).reverse.lookup q.1 = q.2
      rw [lookup_rev (by rw [map_zip_fst hlen]; exact ndp)]
      rcases List.mem_append.mp hq with hq | hq
      · obtain ⟨r, hr, rfl⟩ := List.mem_map.mp hq
        exact lookup_zip_mem ndp r hr
      · obtain ⟨x, hx, rfl⟩ := List.mem_map.mp hq
        exact lookup_zip_none fun e => (List.nodup_append.mp hnd).2.2 _ e _ hx rfl
    · have : q.1 ∈ ps ++ rest := by rw [← keys]; exact List.mem_map_of_mem hq
      exact hl1 _ this
    · obtain ⟨l', n', S', q⟩ := x
      obtain ⟨m', F'', _⟩ := S'.fr
      refine ⟨L', m', n', F'', S'.nw, fun F0 N0 => ⟨l, n', ⟨S'.gens, S'.drawn, S'.os, ⟨m, F0, hl⟩, N0, S'.nd, S.lk⟩, ?_⟩⟩
      cases fl <;> exact q
    · obtain ⟨l', xc, hxp, x⟩ := x
      obtain ⟨e1, dx, B1, env1, outer1, rfl, a2, a3, a4, a5, a6, a7, a8, a9, a10⟩ := x.ex
      have hA' : (c.A.deeper (envOf qual scope L' f cdv)).frames = some (envOf qual scope L' f cdv :: env :: outer) := Around.frames_deeper hA
      rw [hA'] at a2
      obtain ⟨rfl, rfl⟩ := List.cons.inj (Option.some.inj a2)
      refine fd_leave hA' a3 a4 fun h' hd u => hE _ hxp _ _ ?_
      have kn : ∀ b, g.get? b = none → c.h₀.get? b = none := fun b hb => kts_none FG.keep hb
      have gL : g.get? L' = none := kts_self F'
      obtain ⟨oL, _, _, gcL, _⟩ := FG.ns
      refine ⟨x.gens, x.drawn, x.os, ⟨m, u.ns (x.up.ns FG.ns), hl⟩, S.lk, ((Heap.UpToSlots.of_keeps FG.keep).trans x.up).trans u, e1, dx, B1, env, outer, rfl, hA, hf, .inl hd, a5, kn _ a6, kn _ a7, a8, fun b o hb hn => ?_, fun q hq => ⟨(a10 q hq).1, fun e => ?_, kn _ (a10 q hq).2.2⟩⟩
      · refine a9 b o (FG.keep b o hb) fun hm => ?_
        rcases kts_mem hm with rfl | hm
        · have := FG.keep _ _ hb; rw [gL] at this; cases this
        · exact hn hm
      · have := (a10 q hq).2.2; rw [show q.1 = c.L from e] at this; rw [show g.get? c.L = none from this] at gcL; cases gcL
  · exact ⟨c.A, base, env :: outer, envOf qual scope L' f cdv, B', by show (c.A.deeper _).frames = _; exact Around.frames_deeper hA, rfl, hfn⟩
  · have := H.dep; show (c.A.depth + 1) + (c.k - 1) < _; omega
  · have := H.un; show (c.A.units + 3) + 16 * (c.k - 1) + 200 < _; omega

end

-- ===== Lf
section
variable {M : Model} {A : Around} {E : Value → Shared → Prop} {env : Env}
variable {nm q : Str} {C N : Addr} {bs bm : List Value} {hdct : Bool} {sn : List Str} {sub : List Value} {ab : Bool} {col : Option Bool} {dd : Option Addr} {k0 k1 k2 k3 k5 : Option Value} {newId : String}
theorem fd_raise {s : Shared} {x : Sem Value} {Q : Flow → Shared → Prop} (hbase : bm.contains (.type "BaseException") = true) (hh : A.handled = none)
    (h : wpAny M A x (fun v s₁ => ∃ e dx sl a0 a2 a3 a4 a5, v = .ref e ∧ s₁.heap.get? C = some (excClassObj nm q C N bs bm hdct sn sub ab col dd k0 k1 k2 k3 k5 newId) ∧
      s₁.heap.get? e = some ⟨.ref C, some dx, .fields #[a0, .none, a2, a3, a4, a5], sl⟩ ∧ E (.ref e) s₁) E s) :
    wpAny M A (raiseStmt env (some x) none) Q E s := by
  have hcB : (Value.ref C :: bm).contains (.type "BaseException") = true := by rw [List.contains_cons, hbase, Bool.or_true]
  unfold raiseStmt
  refine wpAny_bind (wpAny_mono h (fun v s₁ h₁ => ?_) fun _ _ x => x)
  obtain ⟨e, dx, sl, a0, a2, a3, a4, a5, rfl, hC, he, hE⟩ := h₁
  obtain ⟨hp, g, d, tk, os⟩ := s₁
  repeat (first | with_reducible refine wpAny_loadPart_at he ?_ | with_reducible refine wpAny_loadPart_at hC ?_ | (with_reducible refine wpAny_isSubtype_exc hC ?_; rw [hcB]) | wp_step)
  exact wpAny_raiseNew_none hh hE
end
section
variable {prog : Program} {w : World} {A : Around} {K : Frag} {R : Result → Shared → Prop} {h : Heap} {g : Array GenState} {d : Drawn} {t : Nat} {os : OsState}
variable {nm q : Str} {C N : Addr} {bs bm : List Value} {hdct : Bool} {sn : List Str} {sub : List Value} {ab : Bool} {col : Option Bool} {dd : Option Addr} {k0 k1 k2 k3 k5 : Option Value} {B newId initId : String}
noncomputable abbrev excO (C a : Addr) : Obj := { cls := .ref C, data := .fields #[.ref a, .none, .none, .none, .bool false, .none] }
theorem xc_make (F : ExcBaseFacts B newId initId bm) {mN : Str → Option Value} {rest : List Value} {fI : Addr}
    (hC : h.get? C = some (excClassObj nm q C N bs bm hdct sn sub ab col dd k0 k1 k2 k3 k5 newId)) (hn : h.Ns N mN) (hni : mN "__init__" = some (.ref fI)) (X : K.In h) (hf : typeIn K (.ref fI) = some (.type "function")) (hrest : rest.length ≤ sizeLine)
    (hq : codeAny (model prog w) (A.under (.builtin "type.__call__" ⟨.ref C :: rest, []⟩)) (.call (.ref fI) ⟨.ref (h.objs.size + 1) :: rest, []⟩) (InitBack (h.objs.size + 1) R)
      ⟨(h.push (tupObj rest)).push (excO C h.objs.size), g, d, t, os⟩) :
    codeAny (model prog w) A (.call (.ref C) ⟨rest, []⟩) R ⟨h, g, d, t, os⟩ := by
  have f1 := tc_lookup
  have f2 := tc_bind (.ref C)
  have hT : (⟨h, g, d, t, os⟩ : Shared).TypeIs (.ref C) "type" := ⟨_, hC, rfl⟩
  refine codeAny_of_tree ?_
  show wpAny _ _ (callAny (.ref C) _) _ _ _
  repeat (any_goals (first | assumption | with_reducible refine wpAny_loadPart_at hC ?_ | wp_step))
  refine ⟨rfl, ?_⟩
  show codeAny _ _ (.call (.builtin "type.__call__") ⟨.ref C :: rest, []⟩) _ _
  refine codeAny_call_builtin_at (Code.quiet_builtin _ (by decide +kernel)) entry_typeCall (wpAny_check_type_call_sub hC ?_)
  repeat (first | with_reducible refine wpAny_loadPart_at hC ?_ | with_reducible refine wpAny_madeBy_exc hC ?_ | wp_step)
  refine codeAny_call_builtin_code (Code.quiet_builtin _ F.quiet) (wpAny_check_new_sub F hC ?_)
  refine codeAny_exc_new_sub F hC ?_ hrest
  show wpAny _ _ _ _ _ _
  have k : ∀ b o, h.get? b = some o → ((h.push { cls := .type "tuple", data := .seq rest.toArray }).push { cls := .ref C, data := .fields #[.ref h.objs.size, .none, .none, .none, .bool false, .none] }).get? b = some o := fun b o e => Heap.get?_push_of_some _ (Heap.get?_push_of_some _ e)
  have hC₁ := k _ _ hC
  have hn₁ : ((h.push { cls := .type "tuple", data := .seq rest.toArray }).push { cls := .ref C, data := .fields #[.ref h.objs.size, .none, .none, .none, .bool false, .none] }).Ns N mN := let ⟨o, es, ep, e, r⟩ := hn; ⟨o, es, ep, k _ _ e, r⟩
  have hget : ((h.push { cls := .type "tuple", data := .seq rest.toArray }).push { cls := .ref C, data := .fields #[.ref h.objs.size, .none, .none, .none, .bool false, .none] }).get? (h.objs.size + 1) = some { cls := .ref C, data := .fields #[.ref h.objs.size, .none, .none, .none, .bool false, .none] } := by heap_get
  have hcC : (Value.ref C :: bm).contains (.ref C) = true := by simp
  have b1 := (bind_fn (M := model prog w) X (.ref (h.objs.size + 1)) hf).keeps k
  unfold isInstance
  repeat (first | with_reducible refine wpAny_loadPart_at hget ?_ | (with_reducible refine wpAny_isSubtype_exc hC₁ ?_; rw [hcC]) | wp_step)
  show wpAny _ _ (typeLookup (.ref C) _) _ _ _
  refine wpAny_typeLookup_exc hC₁ hn₁ F.mroIs F.init.lookup ?_
  rw [hni]
  refine wpAny_holding (wpAny_bind (b1.at ?_))
  refine wpAny_bind (wpAny_call ?_)
  refine codeAny_mono hq fun r s' z => ?_
  rcases r with e | (v | _ | _ | _) <;> first | exact z | exact z.elim | skip
  obtain ⟨rfl, z⟩ := z
  exact wpAny_pure (wpAny_pure z)
end

-- ===== Lx
namespace XF
theorem type_init : typeOf (.builtin "Exception.__init__") = pure (.type "wrapper_descriptor") := by
  show builtinType _ = _
  kernel_rfl
theorem slot_get : Slot "wrapper_descriptor" "__get__" "wrapper_descriptor.__get__" := .of (owner := "wrapper_descriptor") (n := "__get__") (by rw [typeLookup_type, builtinLookup_eq_fast]; kernel_rfl) (by decide +kernel) (by decide +kernel) (by decide +kernel)
  (by first | exact .inl (by decide +kernel) | exact .inr (by decide +kernel)) (by rw [isSubtype_type]; kernel_rfl)
theorem entry_get : entryFor table "wrapper_descriptor.__get__" = some Builtin.«wrapper_descriptor.__get__» := entryFor_of_tree (by kernel_rfl)
theorem args_get (a b c : Value) : argsOk "wrapper_descriptor.__get__" ⟨[a, b, c], []⟩ := by unfold argsOk; kernel_rfl
theorem own_init : classOwn (.type "Exception") "__init__" = pure (some (.builtin "Exception.__init__")) := by kernel_rfl
theorem nm_init : ".".intercalate ("Exception.__init__".cutAt '.').dropLast = "Exception" := by decide +kernel
end XF
noncomputable abbrev wrapObj (x : Addr) : Obj := { cls := .type "method-wrapper", data := .fields #[.builtin "Exception.__init__", .ref x] }
section
variable {prog : Program} {w : World} {M : Model} {A : Around} {E : Value → Shared → Prop} {h : Heap} {g : Array GenState} {d : Drawn} {t : Nat} {os : OsState}
variable {nm q : Str} {C N : Addr} {bs : List Value} {hdct : Bool} {sn : List Str} {sub : List Value} {ab : Bool} {col : Option Bool} {dd : Option Addr} {k0 k1 k2 k3 k5 : Option Value} {newId : String}
noncomputable abbrev bmE : List Value := [.type "Exception", .type "BaseException", .type "object"]
theorem xs_get {x : Addr} {ox : Obj} {Q : Fin → Shared → Prop}
    (hC : h.get? C = some (excClassObj nm q C N bs bmE hdct sn sub ab col dd k0 k1 k2 k3 k5 newId)) (hx : h.get? x = some ox) (hxc : ox.cls = .ref C)
    (hq : Q (.done (.ret (.ref h.objs.size))) ⟨h.push (wrapObj x), g, d, t, os⟩) :
    wpAny (model prog w) A (Builtin.«wrapper_descriptor.__get__» ⟨[.builtin "Exception.__init__", .ref x, .ref C], []⟩) Q E ⟨h, g, d, t, os⟩ := by
  have hcC : (Value.ref C :: bmE).contains (.type "Exception") = true := by simp
  unfold Builtin.«wrapper_descriptor.__get__»
  repeat (first | (with_reducible refine wpAny_loadPart_at hx ?_; rw [hxc]) | (with_reducible refine wpAny_isSubtype_exc hC ?_; rw [hcC]) | (rw [XF.nm_init]) | wp_step)
  all_goals exact hq
theorem xs_ga {so x : Addr} {ox : Obj} {tk : Tok} {Q : Fin → Shared → Prop}
    (hso : h.get? so = some (ks_superObj C x C)) (hno : Looks (model prog w) h (opaqueClassAbove (.ref C)) none)
    (hC : h.get? C = some (excClassObj nm q C N bs bmE hdct sn sub ab col dd k0 k1 k2 k3 k5 newId)) (hx : h.get? x = some ox) (hxc : ox.cls = .ref C) (hxC : x ≠ C)
    (hq : Q (.done (.ret (.ref h.objs.size))) ⟨h.push (wrapObj x), g, d, t, os⟩) :
    wpAny (model prog w) A (Builtin.«super.__getattribute__» ⟨[.ref so, .str "__init__" tk], []⟩) Q E ⟨h, g, d, t, os⟩ := by
  have hne : (Value.ref x == Value.ref C) = false := by simp [hxC]
  have hdt : (ks_superObj C x C).data = .fields #[.ref C, .ref x, .ref C] := rfl
  have f0 : (#[.ref C, .ref x, .ref C] : Array Value)[0]? = some (.ref C) := rfl
  have f1 : (#[.ref C, .ref x, .ref C] : Array Value)[1]? = some (.ref x) := rfl
  have f2 : (#[.ref C, .ref x, .ref C] : Array Value)[2]? = some (.ref C) := rfl
  have hl : ((Value.ref C :: bmE).dropWhile (· != .ref C)).drop 1 = bmE := by simp
  have hn : ((Str.ofString "__init__") == ("__class__" : Str)) = false := by decide
  have hty : (⟨h, g, d, t, os⟩ : Shared).TypeIs (.builtin "Exception.__init__") "wrapper_descriptor" := XF.type_init
  have hlk := XF.slot_get.lookup
  unfold Builtin.«super.__getattribute__»
  repeat (first
    | (with_reducible refine wpAny_field hso hdt f0 ?_) | (with_reducible refine wpAny_field hso hdt f1 ?_) | (with_reducible refine wpAny_field hso hdt f2 ?_)
    | (with_reducible refine ks_wpAny_notOpaque hno ?_)
    | (with_reducible refine wpAny_mroOf_exc hC ?_; rw [hl, List.forIn_cons, XF.own_init])
    | (with_reducible refine wpAny_typeOf hty ?_)
    | (with_reducible refine wpAny_call_entry XF.slot_get hty XF.entry_get ?_ (XF.args_get _ _ _))
    | (with_reducible refine xs_get hC hx hxc ?_)
    | (with_reducible refine ⟨_, rfl, ?_⟩)
    | (simp only [hn, hne, Bool.or_false, Bool.false_eq_true, if_false])
    | wp_step
    | dsimp only)
  all_goals exact hq
theorem xs_getMethod {so x : Addr} {ox : Obj} {pl : Sem Bool} {Q : Value × List Value → Shared → Prop}
    (hso : h.get? so = some (ks_superObj C x C)) (hno : Looks (model prog w) h (opaqueClassAbove (.ref C)) none)
    (hC : h.get? C = some (excClassObj nm q C N bs bmE hdct sn sub ab col dd k0 k1 k2 k3 k5 newId)) (hx : h.get? x = some ox) (hxc : ox.cls = .ref C) (hxC : x ≠ C)
    (hq : Q (.ref h.objs.size, []) ⟨h.push (wrapObj x), g, d, t + 1, os⟩) :
    wpAny (model prog w) A (getMethod (.ref so) "__init__" pl) Q E ⟨h, g, d, t, os⟩ := by
  have hlk := F.ks_slot_super_ga.lookup
  have hcan := F.ks_canon_super_ga
  have hT : ∀ t', (⟨h, g, d, t', os⟩ : Shared).TypeIs (.ref so) "super" := fun _ => ⟨_, hso, rfl⟩
  unfold getMethod
  refine wpAny_bind (wpAny_specialOf (hT _) hlk ?_)
  show wpAny _ _ (if (Manifest.canonical "super.__getattribute__" != "object.__getattribute__") = true then _ else _) _ _ _
  rw [if_pos hcan]
  unfold getAttr getAttrBy
  refine wpAny_bind (wpAny_bind (wpAny_mkText (wpAny_holding (wpAny_bind (wpAny_typeOf (hT _) (wpAny_bind (wpAny_of_eq hlk ?_)))))))
  show wpAny _ _ (getAttrByItsOwn (.ref so) (.str "__init__" t) (.type "super") (.builtin "super.__getattribute__") true false) _ _ _
  unfold getAttrByItsOwn hookBefore callGetattribute boundAndCalled
  refine wpAny_bind (wpAny_of_eq (show (if onTheHeap (.type "super") then typeLookup (.type "super") "__getattr__" else pure none) = pure none from rfl) ?_)
  refine wpAny_bind (wpAny_attempt (wpAny_holding ?_))
  show wpAny _ _ (bindSpecial (.builtin "super.__getattribute__") (.ref so) >>= _) _ _ _
  refine wpAny_bind (wpAny_of_eq (F.ks_slot_super_ga.bind _) ?_)
  refine wpAny_mono (Q := fun v s' => v = .ref h.objs.size ∧ s' = ⟨h.push (wrapObj x), g, d, t + 1, os⟩) (E := fun _ _ => False)
    (wpAny_call_entry F.ks_slot_super_ga (hT _) F.ks_entry_super_ga (xs_ga hso hno hC hx hxc hxC ⟨_, rfl, rfl, rfl⟩) (F.ks_gaArgs_super _ _)) (fun v s' hv => ?_) fun _ _ z => z.elim
  obtain ⟨rfl, rfl⟩ := hv
  exact wpAny_pure (wpAny_pure hq)
noncomputable def wrapAt (x u : Addr) (h : Heap) : Prop := h.get? u = some (wrapObj x)
theorem xs_callWith {s : Shared} {env : Env} {x' : Addr} {pos : Pos} {u : Addr} {first : List Value} {e : Expr} {rest : List Expr} {Q : Value → Shared → Prop}
    (h : wpAny M A (spliced (backTo pos (starEach (e :: rest) env))) (fun vs s₁ => wrapAt x' u s₁.heap ∧ wpAny M A (call (.ref u) (first ++ vs)) Q E s₁) E s)
    (he : starEach (e :: rest) env = (false, eval e env) :: starEach rest env) (hplain : (backTo pos (starEach rest env)).any (·.1) = false) :
    wpAny M A (callWith pos (.ref u) first (backTo pos (starEach (e :: rest) env)) []) Q E s := by
  rw [he] at h ⊢
  unfold callWith
  refine wpAny_bind (wpAny_holding (wpAny_mono (evalArgs_plain (Q := fun (x : Args) s₁ => wrapAt x' u s₁.heap ∧ wpAny M A (call (.ref u) (first ++ x.pos) x.kw) Q E s₁) h) (fun y s₁ h₁ => wpAny_bind (wpAny_standAt ?_)) fun _ _ x => x))
  obtain ⟨ho, hcall⟩ := h₁
  have hp : (List.any (backTo pos ((false, eval e env) :: starEach rest env)) fun x => x.1) = false := by show (false || (backTo pos (starEach rest env)).any (·.1)) = false; rw [hplain]; rfl
  simp only [hp, List.any_nil, Bool.or_false]
  refine wpAny_bind (m := keeperOf (.ref u)) ?_
  unfold keeperOf
  refine wpAny_bind (wpAny_load ho ?_)
  simp only [wrapObj, show (Value.type "method-wrapper" != Value.type "method") = true by decide, show (Value.type "method-wrapper" == Value.type "builtin_function_or_method" || Value.type "method-wrapper" == Value.type "method-wrapper") = true by decide, if_true]
  refine wpAny_pure ?_
  exact wpAny_bind (wpAny_mono hcall (fun r s₂ hr => wpAny_bind (wpAny_holding (wpAny_point (wpAny_pure hr)))) fun _ _ x => x)
theorem xs_bound {x : Addr} {ox : Obj} {v : Value} {Q : Unit → Shared → Prop} (hC : h.get? C = some (excClassObj nm q C N bs bmE hdct sn sub ab col dd k0 k1 k2 k3 k5 newId)) (hx : h.get? x = some ox) (hxc : ox.cls = .ref C) (hq : Q () ⟨h, g, d, t, os⟩) :
    wpAny M A (checkBoundCall "Exception.__init__" ⟨[.ref x, v], []⟩) Q E ⟨h, g, d, t, os⟩ := by
  have F := F.excBase_Exception
  have hcB : (Value.ref C :: bmE).contains (.type "Exception") = true := by simp
  have hshort := F.noStar
  simp only [checkBoundCall, F.initRow, F.initKind]
  repeat (first | (with_reducible refine wpAny_loadPart_at hx ?_; rw [hxc]) | with_reducible refine wpAny_loadPart_at hC ?_ | (with_reducible refine wpAny_isSubtype_exc hC ?_; rw [hcB]) | wp_step)
  all_goals exact hq
theorem xs_binit {s : Shared} {e t0 : Addr} {ob : Obj} {vs : Array Value} {v : Value} {Q : Fin → Shared → Prop} (he : s.heap.get? e = some ob) (hd : ob.data = .fields vs) (h0 : vs[0]? = some (.ref t0))
    (h : Q (.done (.ret .none)) { s with heap := (s.heap.push (tupObj [v])).update e (Obj.mapFields (·.setIfInBounds 0 (.ref s.heap.objs.size))) }) :
    wpAny (model prog w) A (Builtin.«BaseException.__init__» ⟨[.ref e, v], []⟩) Q E s := by
  unfold Builtin.«BaseException.__init__»
  dsimp only
  rw [if_neg (by simp)]
  unfold newTuple Builtin.BaseException.bexcPut
  have hsz : 0 < vs.size := (Array.getElem?_eq_some_iff.mp h0).1
  have he₁ := Heap.get?_push_of_some (h := s.heap) (tupObj [v]) he
  refine wpAny_bind (wpAny_newObj_type (wpAny_bind (wpAny_bind (wpAny_field he₁ hd h0 (wpAny_bind (wpAny_setField he₁ hd hsz ?_))))) (by size_fits))
  exact wpAny_letGo (wpAny_pure h)
theorem xs_call {s : Shared} {x u t0 : Addr} {ob : Obj} {vs : Array Value} {v : Value} {Q : Value → Shared → Prop} (hC : s.heap.get? C = some (excClassObj nm q C N bs bmE hdct sn sub ab col dd k0 k1 k2 k3 k5 newId)) (hxc : ob.cls = .ref C) (hu : s.heap.get? u = some (wrapObj x)) (he : s.heap.get? x = some ob) (hd : ob.data = .fields vs) (h0 : vs[0]? = some (.ref t0))
    (h : Q .none { s with heap := (s.heap.push (tupObj [v])).update x (Obj.mapFields (·.setIfInBounds 0 (.ref s.heap.objs.size))) }) :
    wpAny (model prog w) A (call (.ref u) [v]) Q E s := by
  obtain ⟨hp, g, d, tk, os⟩ := s
  refine wpAny_call (codeAny_of_tree ?_)
  show wpAny _ A.in1 (callAny (.ref u) ⟨[v], []⟩) _ _ _
  unfold callAny
  refine wpAny_bind (wpAny_load hu ?_)
  show wpAny _ _ (checkBoundCall "Exception.__init__" ⟨[.ref x, v], []⟩ >>= _) _ _ _
  refine wpAny_bind (xs_bound hC he hxc (wpAny_pure ⟨Code.quiet_builtin _ (by decide +kernel), codeAny_builtin F.excBase_Exception.initEntry (xs_binit he hd h0 ?_)⟩))
  exact h
end

-- ===== Lz
section
open Builtin Builtin.ObjectAttr
section
variable {prog : Program} {w : World} {A : Around} {E : Value → Shared → Prop} {h : Heap} {g : Array GenState} {d : Drawn} {t : Nat} {os : OsState}
variable {nm q : Str} {C N : Addr} {bs : List Value} {sn : List Str} {sub : List Value} {ab : Bool} {col : Option Bool} {dd : Option Addr} {k0 k1 k2 k3 k5 : Option Value} {newId : String} {mN : Str → Option Value}
theorem xs_store0 {B sa owner : String} {bm : List Value} (SF : StoreFacts B bm sa owner) {name : Str} {x : Addr} {v : Value} {vs : Array Value} {sl : Array (Option Value)} {Q : Unit → Shared → Prop}
    (hC : h.get? C = some (excClassObj nm q C N bs bm true sn sub ab col dd k0 k1 k2 k3 k5 newId)) (hn : h.Ns N mN) (hns : mN "__setattr__" = none) (hna : mN name = none) (hB : typeLookup (.type B) name = pure none)
    (hx : h.get? x = some ⟨.ref C, none, .fields vs, sl⟩)
    (hq : ∀ h' tk, h'.get? x = some ⟨.ref C, some h.objs.size, .fields vs, sl⟩ → h'.Ns1 h.objs.size (fun y => if y = name then some v else none) → (∀ b o, b ≠ x → h.get? b = some o → h'.get? b = some o) → Q () ⟨h', g, d, tk, os⟩) :
    wpAny (model prog w) A (setAttr (.ref x) name v) Q E ⟨h, g, d, t, os⟩ := by
  obtain ⟨o, ho⟩ : ∃ o : Obj, o = ⟨.ref C, none, .fields vs, sl⟩ := ⟨_, rfl⟩
  rw [← ho] at hx
  have hc : o.cls = .ref C := by rw [ho]
  have hdn : o.dict = none := by rw [ho]
  have hnc : ∀ c, o.data ≠ .cls c := by intro c; rw [ho]; exact fun e => nomatch e
  have f3 := SF.slot.bind (.ref x)
  have hpass := SF.passes (.ref x)
  unfold setAttr callSpecial? specialOf
  repeat (any_goals (first | assumption | (with_reducible refine wpAny_loadPart_at hx ?_; rw [hc]) | (with_reducible refine wpAny_typeLookup_exc hC hn SF.mro SF.slot.lookup ?_; rw [hns]) | wp_step))
  refine codeAny_call_builtin SF.slot.plain SF.entry (wpAny_check_sa SF hC hx hc ?_)
  unfold Builtin.«object.__setattr__»
  repeat (first | rw [refuse_eq] | (rw [refuseLoop_ref, hpass]) | (with_reducible refine wpAny_loadPart_at hx ?_; rw [hc]) | with_reducible refine wpAny_mroOf_exc hC ?_ | (with_reducible refine wpAny_typeLookup_exc hC hn SF.mro hB ?_; rw [hna]) | wp_step)
  rw [hdn, if_neg (by simp [typeHasDict])]
  split
  · rename_i hcd
    cases hcd
  split
  · rename_i c hcd
    exact absurd hcd (hnc c)
  have hx₁ : (h.push { cls := .type "dict", data := .dict #[] }).get? x = some o := Heap.get?_push_of_some _ hx
  have hxs : x ≠ h.objs.size := Nat.ne_of_lt (Heap.lt_size hx)
  refine wpAny_bind (wpAny_alloc' ?_)
  refine wpAny_bind (wpAny_update' hx₁ ?_)
  refine wpAny_pure ?_
  have hgd : ((h.push { cls := .type "dict", data := .dict #[] }).update x fun o => { o with dict := some h.objs.size }).get? h.objs.size = some { cls := .type "dict", data := .dict #[] } :=
    (Heap.get?_update_ne _ _ _ _ hxs.symm).trans (Heap.get?_push_at rfl rfl)
  have hnd : ((h.push { cls := .type "dict", data := .dict #[] }).update x fun o => { o with dict := some h.objs.size }).Ns h.objs.size (fun _ => none) :=
    ⟨_, #[], _, hgd, rfl, fun e he => absurd he (by simp), fun _ => rfl⟩
  show wpAny _ _ (storeInDict h.objs.size (.str name _) name v) _ _ _
  unfold storeInDict newKeyGuard
  refine wpAny_bind (wpAny_pure (wpAny_bind (wpAny_nsSet1 (Heap.Ns1.of_empty hnd) fun h' hn' hs => ?_)))
  obtain ⟨oD, esD, epD, hoD, hdD, hcD⟩ := hn'.count (Within.cons name v Within.nil)
  refine wpAny_bind (wpAny_lookBehind hoD (by rw [hdD]; exact pastItsLine_dict (Nat.le_trans hcD (by rw [List.length_cons, List.length_nil, sizeLine_eq]; omega))) ?_)
  have hx' : h'.get? x = some { o with dict := some h.objs.size } := by
    refine (hs.2 x hxs).trans (Heap.get?_update_self _ hx₁ ?_)
    rw [ho]; rfl
  refine wpAny_pure ?_
  refine wpAny_pure (wpAny_pure (hq h' _ (hx'.trans (by rw [ho])) ?_ fun b ob hbx hb => ?_))
  · obtain ⟨o', es, ep, e1, e2, e3, eu, e4⟩ := hn'
    exact ⟨o', es, ep, e1, e2, e3, eu, fun y => by rw [e4 y]⟩
  · exact (hs.2 b (Nat.ne_of_lt (Heap.lt_size hb))).trans ((Heap.get?_update_ne _ _ _ _ hbx).trans (Heap.get?_push_of_some _ hb))
end

end
-- ===== Lj
theorem k_ready (w : World) : PySem.Challenge.rw_pq0154_01.foot = 7 ∨ (hd.heap_39 w.params) = [] := by
  k_fill
  exact .inl rfl
theorem g_is_letter (w : World) : nsIn (hd.heap_39 w.params) mainGlobals (Str.ofString "is_letter") = some (some (.ref 66)) := by k_is
theorem g_is_figure (w : World) : nsIn (hd.heap_39 w.params) mainGlobals (Str.ofString "is_figure") = some (some (.ref 73)) := by k_is
theorem g_capital (w : World) : nsIn (hd.heap_39 w.params) mainGlobals (Str.ofString "capital") = some (some (.ref 78)) := by k_is
theorem g_figures_end (w : World) : nsIn (hd.heap_39 w.params) mainGlobals (Str.ofString "figures_end") = some (some (.ref 85)) := by k_is
theorem g_skipped (w : World) : nsIn (hd.heap_39 w.params) mainGlobals (Str.ofString "skipped") = some (some (.ref 92)) := by k_is
theorem g_power_end (w : World) : nsIn (hd.heap_39 w.params) mainGlobals (Str.ofString "power_end") = some (some (.ref 99)) := by k_is
theorem g_number_at (w : World) : nsIn (hd.heap_39 w.params) mainGlobals (Str.ofString "number_at") = some (some (.ref 106)) := by k_is
theorem g_name_end (w : World) : nsIn (hd.heap_39 w.params) mainGlobals (Str.ofString "name_end") = some (some (.ref 113)) := by k_is
theorem g_word_at (w : World) : nsIn (hd.heap_39 w.params) mainGlobals (Str.ofString "word_at") = some (some (.ref 148)) := by k_is
theorem g_tokens_at (w : World) : nsIn (hd.heap_39 w.params) mainGlobals (Str.ofString "tokens_at") = some (some (.ref 155)) := by k_is
theorem g_tokens_of (w : World) : nsIn (hd.heap_39 w.params) mainGlobals (Str.ofString "tokens_of") = some (some (.ref 162)) := by k_is
theorem g_functions (w : World) : nsIn (hd.heap_39 w.params) mainGlobals (Str.ofString "functions") = some (some (.ref 52)) := by k_is
theorem g_token_at (w : World) : nsIn (hd.heap_39 w.params) mainGlobals (Str.ofString "token_at") = some (some (.ref 173)) := by k_is
theorem g_is_sign (w : World) : nsIn (hd.heap_39 w.params) mainGlobals (Str.ofString "is_sign") = some (some (.ref 180)) := by k_is
theorem g_expect (w : World) : nsIn (hd.heap_39 w.params) mainGlobals (Str.ofString "expect") = some (some (.ref 187)) := by k_is
theorem g_number_tree (w : World) : nsIn (hd.heap_39 w.params) mainGlobals (Str.ofString "number_tree") = some (some (.ref 215)) := by k_is
theorem g_join_up (w : World) : nsIn (hd.heap_39 w.params) mainGlobals (Str.ofString "join_up") = some (some (.ref 243)) := by k_is
theorem g_finished (w : World) : nsIn (hd.heap_39 w.params) mainGlobals (Str.ofString "finished") = some (some (.ref 250)) := by k_is
theorem g_opened (w : World) : nsIn (hd.heap_39 w.params) mainGlobals (Str.ofString "opened") = some (some (.ref 257)) := by k_is
theorem g_plain_operand (w : World) : nsIn (hd.heap_39 w.params) mainGlobals (Str.ofString "plain_operand") = some (some (.ref 264)) := by k_is
theorem g_take_operand (w : World) : nsIn (hd.heap_39 w.params) mainGlobals (Str.ofString "take_operand") = some (some (.ref 271)) := by k_is
theorem g_take_operator (w : World) : nsIn (hd.heap_39 w.params) mainGlobals (Str.ofString "take_operator") = some (some (.ref 278)) := by k_is
theorem g_expression (w : World) : nsIn (hd.heap_39 w.params) mainGlobals (Str.ofString "expression") = some (some (.ref 285)) := by k_is
theorem g_is_word_stmtparts (w : World) : nsIn (hd.heap_39 w.params) mainGlobals (Str.ofString "is_word_stmtparts") = some (some (.ref 306)) := by k_is
theorem g_is_end (w : World) : nsIn (hd.heap_39 w.params) mainGlobals (Str.ofString "is_end") = some (some (.ref 313)) := by k_is
theorem g_need_word (w : World) : nsIn (hd.heap_39 w.params) mainGlobals (Str.ofString "need_word") = some (some (.ref 320)) := by k_is
theorem g_line_number (w : World) : nsIn (hd.heap_39 w.params) mainGlobals (Str.ofString "line_number") = some (some (.ref 327)) := by k_is
theorem g_read_goto (w : World) : nsIn (hd.heap_39 w.params) mainGlobals (Str.ofString "read_goto") = some (some (.ref 659)) := by k_is
theorem g_read_gosub (w : World) : nsIn (hd.heap_39 w.params) mainGlobals (Str.ofString "read_gosub") = some (some (.ref 666)) := by k_is
theorem g_read_next (w : World) : nsIn (hd.heap_39 w.params) mainGlobals (Str.ofString "read_next") = some (some (.ref 715)) := by k_is
theorem g_statement_readers (w : World) : nsIn (hd.heap_39 w.params) mainGlobals (Str.ofString "statement_readers") = some (some (.ref 729)) := by k_is
theorem g_declarations (w : World) : nsIn (hd.heap_39 w.params) mainGlobals (Str.ofString "declarations") = some (some (.ref 451)) := by k_is
theorem g_file_statements (w : World) : nsIn (hd.heap_39 w.params) mainGlobals (Str.ofString "file_statements") = some (some (.ref 550)) := by k_is
theorem g_read_one (w : World) : nsIn (hd.heap_39 w.params) mainGlobals (Str.ofString "read_one") = some (some (.ref 736)) := by k_is
theorem g_read_part (w : World) : nsIn (hd.heap_39 w.params) mainGlobals (Str.ofString "read_part") = some (some (.ref 743)) := by k_is
theorem g_read_if (w : World) : nsIn (hd.heap_39 w.params) mainGlobals (Str.ofString "read_if") = some (some (.ref 750)) := by k_is
theorem g_read_some (w : World) : nsIn (hd.heap_39 w.params) mainGlobals (Str.ofString "read_some") = some (some (.ref 757)) := by k_is
theorem g_read_row (w : World) : nsIn (hd.heap_39 w.params) mainGlobals (Str.ofString "read_row") = some (some (.ref 764)) := by k_is
theorem g_law_grab (w : World) : nsIn (hd.heap_39 w.params) mainGlobals (Str.ofString "_law_grab") = some (some (.ref 771)) := by k_is
theorem g_law_heard (w : World) : nsIn (hd.heap_39 w.params) mainGlobals (Str.ofString "_law_heard") = some (some (.ref 778)) := by k_is
theorem g_law_events (w : World) : nsIn (hd.heap_39 w.params) mainGlobals (Str.ofString "_law_events") = some (some (.ref 785)) := by k_is
theorem g_law_deed (w : World) : nsIn (hd.heap_39 w.params) mainGlobals (Str.ofString "_law_deed") = some (some (.ref 792)) := by k_is
theorem g_law_row (w : World) : nsIn (hd.heap_39 w.params) mainGlobals (Str.ofString "_law_row") = some (some (.ref 799)) := by k_is
theorem g_law_due (w : World) : nsIn (hd.heap_39 w.params) mainGlobals (Str.ofString "_law_due") = some (some (.ref 806)) := by k_is
theorem g_is_word_tokens (w : World) : nsIn (hd.heap_39 w.params) mainGlobals (Str.ofString "is_word_tokens") = some (some (.ref 59)) := by k_is
theorem g_BasicError (w : World) : nsIn (hd.heap_39 w.params) mainGlobals (Str.ofString "BasicError") = some (some (.ref 34)) := by k_is
theorem g_Level (w : World) : nsIn (hd.heap_39 w.params) mainGlobals (Str.ofString "Level") = some (some (.ref 232)) := by k_is
theorem g_STRENGTH (w : World) : nsIn (hd.heap_39 w.params) mainGlobals (Str.ofString "STRENGTH") = some (some (.ref 163)) := by k_is
theorem g_ONE_WORD (w : World) : nsIn (hd.heap_39 w.params) mainGlobals (Str.ofString "ONE_WORD") = some (some (.ref 595)) := by k_is
theorem g_KIND_WORDS (w : World) : nsIn (hd.heap_39 w.params) mainGlobals (Str.ofString "KIND_WORDS") = some (some (.ref 596)) := by k_is
theorem g_NO_TOKEN (w : World) : nsIn (hd.heap_39 w.params) mainGlobals (Str.ofString "NO_TOKEN") = some (some (.ref 166)) := by k_is
theorem g_NO_ARGS (w : World) : nsIn (hd.heap_39 w.params) mainGlobals (Str.ofString "NO_ARGS") = some (some (.ref 165)) := by k_is
theorem g_PAIRS (w : World) : nsIn (hd.heap_39 w.params) mainGlobals (Str.ofString "PAIRS") = some (some (.ref 45)) := by k_is
theorem fn_66 (w : World) : FnAt (hd.heap_39 w.params) 66 := ⟨_, _, by k_is, rfl⟩
theorem fn_73 (w : World) : FnAt (hd.heap_39 w.params) 73 := ⟨_, _, by k_is, rfl⟩
theorem fn_78 (w : World) : FnAt (hd.heap_39 w.params) 78 := ⟨_, _, by k_is, rfl⟩
theorem fn_85 (w : World) : FnAt (hd.heap_39 w.params) 85 := ⟨_, _, by k_is, rfl⟩
theorem fn_92 (w : World) : FnAt (hd.heap_39 w.params) 92 := ⟨_, _, by k_is, rfl⟩
theorem fn_99 (w : World) : FnAt (hd.heap_39 w.params) 99 := ⟨_, _, by k_is, rfl⟩
theorem fn_106 (w : World) : FnAt (hd.heap_39 w.params) 106 := ⟨_, _, by k_is, rfl⟩
theorem fn_113 (w : World) : FnAt (hd.heap_39 w.params) 113 := ⟨_, _, by k_is, rfl⟩
theorem fn_148 (w : World) : FnAt (hd.heap_39 w.params) 148 := ⟨_, _, by k_is, rfl⟩
theorem fn_155 (w : World) : FnAt (hd.heap_39 w.params) 155 := ⟨_, _, by k_is, rfl⟩
theorem fn_162 (w : World) : FnAt (hd.heap_39 w.params) 162 := ⟨_, _, by k_is, rfl⟩
theorem fn_52 (w : World) : FnAt (hd.heap_39 w.params) 52 := ⟨_, _, by k_is, rfl⟩
theorem fn_173 (w : World) : FnAt (hd.heap_39 w.params) 173 := ⟨_, _, by k_is, rfl⟩
theorem fn_180 (w : World) : FnAt (hd.heap_39 w.params) 180 := ⟨_, _, by k_is, rfl⟩
theorem fn_187 (w : World) : FnAt (hd.heap_39 w.params) 187 := ⟨_, _, by k_is, rfl⟩
theorem fn_215 (w : World) : FnAt (hd.heap_39 w.params) 215 := ⟨_, _, by k_is, rfl⟩
theorem fn_243 (w : World) : FnAt (hd.heap_39 w.params) 243 := ⟨_, _, by k_is, rfl⟩
theorem fn_250 (w : World) : FnAt (hd.heap_39 w.params) 250 := ⟨_, _, by k_is, rfl⟩
theorem fn_257 (w : World) : FnAt (hd.heap_39 w.params) 257 := ⟨_, _, by k_is, rfl⟩
theorem fn_264 (w : World) : FnAt (hd.heap_39 w.params) 264 := ⟨_, _, by k_is, rfl⟩
theorem fn_271 (w : World) : FnAt (hd.heap_39 w.params) 271 := ⟨_, _, by k_is, rfl⟩
theorem fn_278 (w : World) : FnAt (hd.heap_39 w.params) 278 := ⟨_, _, by k_is, rfl⟩
theorem fn_285 (w : World) : FnAt (hd.heap_39 w.params) 285 := ⟨_, _, by k_is, rfl⟩
theorem fn_306 (w : World) : FnAt (hd.heap_39 w.params) 306 := ⟨_, _, by k_is, rfl⟩
theorem fn_313 (w : World) : FnAt (hd.heap_39 w.params) 313 := ⟨_, _, by k_is, rfl⟩
theorem fn_320 (w : World) : FnAt (hd.heap_39 w.params) 320 := ⟨_, _, by k_is, rfl⟩
theorem fn_327 (w : World) : FnAt (hd.heap_39 w.params) 327 := ⟨_, _, by k_is, rfl⟩
theorem fn_659 (w : World) : FnAt (hd.heap_39 w.params) 659 := ⟨_, _, by k_is, rfl⟩
theorem fn_666 (w : World) : FnAt (hd.heap_39 w.params) 666 := ⟨_, _, by k_is, rfl⟩
theorem fn_715 (w : World) : FnAt (hd.heap_39 w.params) 715 := ⟨_, _, by k_is, rfl⟩
theorem fn_729 (w : World) : FnAt (hd.heap_39 w.params) 729 := ⟨_, _, by k_is, rfl⟩
theorem fn_451 (w : World) : FnAt (hd.heap_39 w.params) 451 := ⟨_, _, by k_is, rfl⟩
theorem fn_550 (w : World) : FnAt (hd.heap_39 w.params) 550 := ⟨_, _, by k_is, rfl⟩
theorem fn_736 (w : World) : FnAt (hd.heap_39 w.params) 736 := ⟨_, _, by k_is, rfl⟩
theorem fn_743 (w : World) : FnAt (hd.heap_39 w.params) 743 := ⟨_, _, by k_is, rfl⟩
theorem fn_750 (w : World) : FnAt (hd.heap_39 w.params) 750 := ⟨_, _, by k_is, rfl⟩
theorem fn_757 (w : World) : FnAt (hd.heap_39 w.params) 757 := ⟨_, _, by k_is, rfl⟩
theorem fn_764 (w : World) : FnAt (hd.heap_39 w.params) 764 := ⟨_, _, by k_is, rfl⟩
theorem fn_771 (w : World) : FnAt (hd.heap_39 w.params) 771 := ⟨_, _, by k_is, rfl⟩
theorem fn_778 (w : World) : FnAt (hd.heap_39 w.params) 778 := ⟨_, _, by k_is, rfl⟩
theorem fn_785 (w : World) : FnAt (hd.heap_39 w.params) 785 := ⟨_, _, by k_is, rfl⟩
theorem fn_792 (w : World) : FnAt (hd.heap_39 w.params) 792 := ⟨_, _, by k_is, rfl⟩
theorem fn_799 (w : World) : FnAt (hd.heap_39 w.params) 799 := ⟨_, _, by k_is, rfl⟩
theorem fn_806 (w : World) : FnAt (hd.heap_39 w.params) 806 := ⟨_, _, by k_is, rfl⟩
theorem fn_59 (w : World) : FnAt (hd.heap_39 w.params) 59 := ⟨_, _, by k_is, rfl⟩
theorem b_len (w : World) : nsIn (hd.heap_39 w.params) mainGlobals (Str.ofString "len") = some none := by k_is
theorem b_ord (w : World) : nsIn (hd.heap_39 w.params) mainGlobals (Str.ofString "ord") = some none := by k_is
theorem b_chr (w : World) : nsIn (hd.heap_39 w.params) mainGlobals (Str.ofString "chr") = some none := by k_is
theorem b_abs (w : World) : nsIn (hd.heap_39 w.params) mainGlobals (Str.ofString "abs") = some none := by k_is
theorem b_sum (w : World) : nsIn (hd.heap_39 w.params) mainGlobals (Str.ofString "sum") = some none := by k_is
theorem b_enumerate (w : World) : nsIn (hd.heap_39 w.params) mainGlobals (Str.ofString "enumerate") = some none := by k_is
theorem b_range (w : World) : nsIn (hd.heap_39 w.params) mainGlobals (Str.ofString "range") = some none := by k_is
theorem b_isinstance (w : World) : nsIn (hd.heap_39 w.params) mainGlobals (Str.ofString "isinstance") = some none := by k_is
theorem b_str (w : World) : nsIn (hd.heap_39 w.params) mainGlobals (Str.ofString "str") = some none := by k_is
theorem b_super (w : World) : nsIn (hd.heap_39 w.params) mainGlobals (Str.ofString "super") = some none := by k_is
theorem bb_len : bootBuiltins (Str.ofString "len") = some (.builtin "len") := by decide +kernel
theorem bb_ord : bootBuiltins (Str.ofString "ord") = some (.builtin "ord") := by decide +kernel
theorem bb_chr : bootBuiltins (Str.ofString "chr") = some (.builtin "chr") := by decide +kernel
theorem bb_abs : bootBuiltins (Str.ofString "abs") = some (.builtin "abs") := by decide +kernel
theorem bb_sum : bootBuiltins (Str.ofString "sum") = some (.builtin "sum") := by decide +kernel
theorem bb_isinstance : bootBuiltins (Str.ofString "isinstance") = some (.builtin "isinstance") := by decide +kernel
theorem bb_enumerate : bootBuiltins (Str.ofString "enumerate") = some (.type "enumerate") := by decide +kernel
theorem bb_range : bootBuiltins (Str.ofString "range") = some (.type "range") := by decide +kernel
theorem bb_str : bootBuiltins (Str.ofString "str") = some (.type "str") := by decide +kernel
theorem bb_super : bootBuiltins (Str.ofString "super") = some (.type "super") := by decide +kernel
theorem g_MFT (w : World) : nsIn (hd.heap_39 w.params) mainGlobals (Str.ofString "MOST_FIGURES_tokens") = some (some (.int 40 238)) := by k_is
theorem g_MS (w : World) : nsIn (hd.heap_39 w.params) mainGlobals (Str.ofString "MOST_SIGNS") = some (some (.int 255 236)) := by k_is
theorem g_MN (w : World) : nsIn (hd.heap_39 w.params) mainGlobals (Str.ofString "MOST_NESTED") = some (some (.int 12 1136)) := by k_is
theorem g_SIGNS (w : World) : nsIn (hd.heap_39 w.params) mainGlobals (Str.ofString "SIGNS") = some (some (.str ⟨#[43, 45, 42, 47, 92, 94, 40, 41, 44, 59, 58, 35, 38, 64]⟩ 240)) := by k_is
theorem g_ORDERS (w : World) : nsIn (hd.heap_39 w.params) mainGlobals (Str.ofString "ORDERS") = some (some (.str ⟨#[60, 61, 62]⟩ 242)) := by k_is
noncomputable def wordsYes : List (List Nat) := [[73, 70], [84, 72, 69, 78], [69, 76, 83, 69], [71, 79, 84, 79], [83, 84, 79, 80], [78, 69, 88, 84], [69, 78, 68], [71, 79, 83, 85, 66]]
noncomputable def wordsNo : List (List Nat) := [[65], [66], [67]]
noncomputable def wordsL : List (List Nat) := [[76, 69, 84], [80, 82, 73, 78, 84], [85, 83, 73, 78, 71], [73, 78, 80, 85, 84], [76, 73, 78, 69], [73, 70], [84, 72, 69, 78], [69, 76, 83, 69], [71, 79, 84, 79], [71, 79, 83, 85, 66], [79, 78], [82, 69, 84, 85, 82, 78], [70, 79, 82], [84, 79], [83, 84, 69, 80], [78, 69, 88, 84], [87, 72, 73, 76, 69], [87, 69, 78, 68], [68, 69, 70], [70, 78, 69, 78, 68], [82, 69, 65, 68], [68, 65, 84, 65], [82, 69, 83, 84, 79, 82, 69], [68, 73, 77], [69, 82, 65, 83, 69], [79, 80, 84, 73, 79, 78], [66, 65, 83, 69], [83, 87, 65, 80], [69, 82, 82, 79, 82], [82, 69, 83, 85, 77, 69]] ++ [[83, 84, 79, 80], [69, 78, 68], [82, 69, 77], [82, 65, 78, 68, 79, 77, 73, 90, 69], [68, 69, 70, 73, 78, 84], [68, 69, 70, 83, 78, 71], [68, 69, 70, 83, 84, 82], [77, 65, 84], [90, 69, 82], [67, 79, 78], [73, 68, 78], [73, 78, 86], [84, 82, 78], [79, 80, 69, 78], [79, 85, 84, 80, 85, 84], [65, 80, 80, 69, 78, 68], [82, 65, 78, 68, 79, 77], [65, 83], [67, 76, 79, 83, 69], [70, 73, 69, 76, 68], [76, 83, 69, 84], [82, 83, 69, 84], [71, 69, 84], [80, 85, 84], [87, 82, 73, 84, 69], [67, 72, 65, 73, 78], [67, 79, 77, 77, 79, 78], [84, 82, 79, 78], [84, 82, 79, 70, 70], [65, 78, 68]] ++ [[79, 82], [88, 79, 82], [69, 81, 86], [73, 77, 80], [78, 79, 84], [77, 79, 68]]
noncomputable def fwordsL : List (List Nat) := [[65, 66, 83], [65, 83, 67], [67, 72, 82, 36], [67, 73, 78, 84], [67, 83, 78, 71], [67, 86, 73], [67, 86, 83], [69, 68, 73, 84, 36], [69, 79, 70], [69, 82, 76], [69, 82, 82], [70, 73, 88], [70, 82, 69], [72, 69, 88, 36], [73, 78, 83, 84, 82], [73, 78, 84], [76, 67, 65, 83, 69, 36], [76, 69, 70, 84, 36], [76, 69, 78], [76, 79, 67], [76, 79, 70], [76, 80, 79, 83], [76, 84, 82, 73, 77, 36], [77, 65, 88], [77, 73, 68, 36], [77, 73, 78], [77, 75, 73, 36], [77, 75, 83, 36], [79, 67, 84, 36], [80, 73]] ++ [[80, 79, 83], [82, 73, 71, 72, 84, 36], [82, 78, 68], [82, 84, 82, 73, 77, 36], [83, 69, 71, 36], [83, 71, 78], [83, 80, 65, 67, 69, 36], [83, 80, 67], [83, 81, 82], [83, 84, 82, 36], [83, 84, 82, 73, 78, 71, 36], [83, 87, 65, 80, 37], [84, 65, 66], [85, 67, 65, 83, 69, 36], [86, 65, 76], [88, 76, 65, 84, 69, 36]]
noncomputable def glue (c : Nat) : List (List Nat) → List Nat
  | [] => []
  | [a] => a
  | a :: b :: r => a ++ c :: glue c (b :: r)
theorem app_inj {c : Nat} : ∀ {a b x y : List Nat}, c ∉ a → c ∉ b → a ++ c :: x = b ++ c :: y → a = b ∧ x = y
  | [], [], _, _, _, _, h => ⟨rfl, (List.cons.inj h).2⟩
  | [], _ :: _, _, _, _, hb, h => absurd ((List.cons.inj h).1 ▸ List.mem_cons_self) hb
  | _ :: _, [], _, _, ha, _, h => absurd ((List.cons.inj h).1 ▸ List.mem_cons_self) ha
  | p :: a, q :: b, _, _, ha, hb, h => by
    have h' := List.cons.inj h
    have := app_inj (fun m => ha (List.mem_cons_of_mem _ m)) (fun m => hb (List.mem_cons_of_mem _ m)) h'.2
    exact ⟨by rw [h'.1, this.1], this.2⟩
theorem no_app {c : Nat} {a b x : List Nat} (h : c ∉ a) (e : a = b ++ c :: x) : False := h (e ▸ List.mem_append_right _ List.mem_cons_self)
theorem glue_inj {c : Nat} : ∀ {A B : List (List Nat)}, A ≠ [] → B ≠ [] → (∀ p ∈ A, c ∉ p) → (∀ p ∈ B, c ∉ p) → glue c A = glue c B → A = B
  | [], _, h, _, _, _, _ => absurd rfl h
  | _, [], _, h, _, _, _ => absurd rfl h
  | [a], [b], _, _, _, _, h => by rw [show a = b from h]
  | [a], b :: b' :: r, _, _, ha, _, h => (no_app (ha a List.mem_cons_self) h).elim
  | a :: a' :: r, [b], _, _, _, hb, h => (no_app (hb b List.mem_cons_self) h.symm).elim
  | a :: a' :: r, b :: b' :: r', _, _, ha, hb, h => by
    have := app_inj (ha a List.mem_cons_self) (hb b List.mem_cons_self) h
    rw [this.1, glue_inj (by simp) (by simp) (fun p m => ha p (List.mem_cons_of_mem _ m)) (fun p m => hb p (List.mem_cons_of_mem _ m)) this.2]
theorem glue_join (c : Nat) : ∀ L : List Str, glue c (L.map fun y => y.cps.toList) = (Str.join ⟨#[c]⟩ L).cps.toList
  | [] => rfl
  | [_] => rfl
  | x :: y :: r => by
    have h := glue_join c (y :: r)
    show x.cps.toList ++ c :: glue c ((y :: r).map fun y => y.cps.toList) = (x ++ ⟨#[c]⟩ ++ Str.join ⟨#[c]⟩ (y :: r)).cps.toList
    rw [h]
    show _ = (x.cps ++ #[c] ++ (Str.join ⟨#[c]⟩ (y :: r)).cps).toList
    simp
theorem split_of {x : Str} {c : Nat} {L : List (List Nat)} (hL : L ≠ []) (hc : ∀ p ∈ L, c ∉ p) (e : x.cps.toList = glue c L) : (Txt.split x ⟨#[c]⟩).map (fun y => y.cps.toList) = L := by
  refine glue_inj ?_ hL ?_ hc ?_
  · intro h
    have := split_pos x ⟨#[c]⟩
    rw [List.map_eq_nil_iff.mp h] at this
    exact absurd this (by decide)
  · intro p hp
    obtain ⟨y, hy, rfl⟩ := List.mem_map.mp hp
    exact StrLaws.split_free x c y hy
  · rw [glue_join, StrLaws.join_split, e]
theorem any_word {x : Str} {c : Nat} {L : List (List Nat)} (hL : L ≠ []) (hc : ∀ p ∈ L, c ∉ p) (e : x.cps.toList = glue c L) (d : List Nat) : ((Txt.split x ⟨#[c]⟩).any fun y => y == ⟨d.toArray⟩) = decide (d ∈ L) := by
  rw [← split_of hL hc e, Bool.eq_iff_iff]
  simp only [List.any_eq_true, List.mem_map, beq_iff_eq, decide_eq_true_eq]
  constructor
  · rintro ⟨y, hy, rfl⟩
    exact ⟨_, hy, rfl⟩
  · rintro ⟨y, hy, rfl⟩
    exact ⟨y, hy, rfl⟩
theorem len_of {x : Str} {L : List Nat} (e : x.cps.toList = L) (h : L.length + 2 ≤ sizeLine) : x.length + 2 ≤ sizeLine := by
  subst e
  exact h
theorem blank_e : Str.ofString " " = ⟨#[32]⟩ := by decide +kernel
theorem words_at (w : World) : ∃ x t, nsIn (hd.heap_39 w.params) mainGlobals (Str.ofString "WORDS") = some (some (.str x t)) ∧ x.cps.toList = glue 32 wordsL := ⟨_, _, by k_is, by decide +kernel⟩
theorem fwords_at (w : World) : ∃ x t, nsIn (hd.heap_39 w.params) mainGlobals (Str.ofString "FUNCTION_WORDS") = some (some (.str x t)) ∧ x.cps.toList = glue 32 fwordsL := ⟨_, _, by k_is, by decide +kernel⟩
theorem g_WORDS (w : World) : ∃ x t, nsIn (hd.heap_39 w.params) mainGlobals (Str.ofString "WORDS") = some (some (.str x t)) ∧ x.length + 2 ≤ sizeLine ∧
    (∀ d ∈ wordsYes, ((Txt.split x (Str.ofString " ")).any fun y => y == ⟨d.toArray⟩) = true) ∧ (∀ d ∈ wordsNo, ((Txt.split x (Str.ofString " ")).any fun y => y == ⟨d.toArray⟩) = false) := by
  obtain ⟨x, t, h, e⟩ := words_at w
  have a := any_word (by decide +kernel) (by decide +kernel) e
  rw [blank_e]
  exact ⟨x, t, h, len_of e (by decide +kernel), fun d m => (a d).trans (decide_eq_true ((show ∀ d ∈ wordsYes, d ∈ wordsL by decide +kernel) d m)), fun d m => (a d).trans (decide_eq_false ((show ∀ d ∈ wordsNo, d ∉ wordsL by decide +kernel) d m))⟩
theorem g_FWORDS (w : World) : ∃ x t, nsIn (hd.heap_39 w.params) mainGlobals (Str.ofString "FUNCTION_WORDS") = some (some (.str x t)) ∧ x.length + 2 ≤ sizeLine ∧
    (∀ d ∈ wordsNo, ((Txt.split x (Str.ofString " ")).any fun y => y == ⟨d.toArray⟩) = false) := by
  obtain ⟨x, t, h, e⟩ := fwords_at w
  have a := any_word (by decide +kernel) (by decide +kernel) e
  rw [blank_e]
  exact ⟨x, t, h, len_of e (by decide +kernel), fun d m => (a d).trans (decide_eq_false ((show ∀ d ∈ wordsNo, d ∉ fwordsL by decide +kernel) d m))⟩
theorem kw_1 : True := by
  k_with "m_g" => (
    first | exact g_MFT _ | exact g_MS _ | exact g_MN _ | exact g_SIGNS _ | exact g_ORDERS _ | exact g_is_letter _ | exact g_is_figure _ | exact g_capital _ | exact g_figures_end _ | exact g_skipped _ | exact g_power_end _ | exact g_number_at _ | exact g_name_end _ | exact g_word_at _ | exact g_tokens_at _ | exact g_tokens_of _ | exact g_functions _ | exact g_token_at _ | exact g_is_sign _ | exact g_expect _ | exact g_number_tree _ | exact g_join_up _ | exact g_finished _ | exact g_opened _ | exact g_plain_operand _ | exact g_take_operand _ | exact g_take_operator _ | exact g_expression _ | exact g_is_word_stmtparts _ | exact g_is_end _ | exact g_need_word _ | exact g_line_number _ | exact g_read_goto _ | exact g_read_gosub _ | exact g_read_next _ | exact g_statement_readers _ | exact g_declarations _ | exact g_file_statements _ | exact g_read_one _ | exact g_read_part _ | exact g_read_if _ | exact g_read_some _ | exact g_read_row _ | exact g_law_grab _ | exact g_law_heard _ | exact g_law_events _ | exact g_law_deed _ | exact g_law_row _ | exact g_law_due _ | exact g_is_word_tokens _ | exact g_BasicError _ | exact g_Level _ | exact g_STRENGTH _ | exact g_ONE_WORD _ | exact g_KIND_WORDS _ | exact g_NO_TOKEN _ | exact g_NO_ARGS _ | exact g_PAIRS _
    )
  trivial
theorem kw_2 : True := by
  k_with "m_fn" => (
    first | exact fn_66 _ | exact fn_73 _ | exact fn_78 _ | exact fn_85 _ | exact fn_92 _ | exact fn_99 _ | exact fn_106 _ | exact fn_113 _ | exact fn_148 _ | exact fn_155 _ | exact fn_162 _ | exact fn_52 _ | exact fn_173 _ | exact fn_180 _ | exact fn_187 _ | exact fn_215 _ | exact fn_243 _ | exact fn_250 _ | exact fn_257 _ | exact fn_264 _ | exact fn_271 _ | exact fn_278 _ | exact fn_285 _ | exact fn_306 _ | exact fn_313 _ | exact fn_320 _ | exact fn_327 _ | exact fn_659 _ | exact fn_666 _ | exact fn_715 _ | exact fn_729 _ | exact fn_451 _ | exact fn_550 _ | exact fn_736 _ | exact fn_743 _ | exact fn_750 _ | exact fn_757 _ | exact fn_764 _ | exact fn_771 _ | exact fn_778 _ | exact fn_785 _ | exact fn_792 _ | exact fn_799 _ | exact fn_806 _ | exact fn_59 _
    )
  trivial
theorem kw_3 : True := by
  k_with "m_bi" => (
    first | (refine' w_builtin ?zzH ?zzhe ?zzhL (b_len _) bb_len ?zzhn ?zzhk ?zzhx ?zzhd ?_) | (refine' w_builtin ?zzH ?zzhe ?zzhL (b_ord _) bb_ord ?zzhn ?zzhk ?zzhx ?zzhd ?_) | (refine' w_builtin ?zzH ?zzhe ?zzhL (b_chr _) bb_chr ?zzhn ?zzhk ?zzhx ?zzhd ?_) | (refine' w_builtin ?zzH ?zzhe ?zzhL (b_abs _) bb_abs ?zzhn ?zzhk ?zzhx ?zzhd ?_) | (refine' w_builtin ?zzH ?zzhe ?zzhL (b_sum _) bb_sum ?zzhn ?zzhk ?zzhx ?zzhd ?_) | (refine' w_builtin ?zzH ?zzhe ?zzhL (b_enumerate _) bb_enumerate ?zzhn ?zzhk ?zzhx ?zzhd ?_) | (refine' w_builtin ?zzH ?zzhe ?zzhL (b_range _) bb_range ?zzhn ?zzhk ?zzhx ?zzhd ?_) | (refine' w_builtin ?zzH ?zzhe ?zzhL (b_isinstance _) bb_isinstance ?zzhn ?zzhk ?zzhx ?zzhd ?_) | (refine' w_builtin ?zzH ?zzhe ?zzhL (b_str _) bb_str ?zzhn ?zzhk ?zzhx ?zzhd ?_) | (refine' w_builtin ?zzH ?zzhe ?zzhL (b_super _) bb_super ?zzhn ?zzhk ?zzhx ?zzhd ?_)
    )
  trivial

-- ===== Lk


noncomputable abbrev LO : List Str := hd.lo_39
noncomputable abbrev LW : List Str := looseW hd.view_39 LO
noncomputable abbrev PG : Program := PySem.Challenge.rw_pq0154_01.row.prog
noncomputable abbrev AmbP (w : World) (c : Cx) : Prop := Amb (hd.heap_39 w.params) hd.view_39 LW c

theorem kw_4 : True := by
  k_with "m_loc" => (
    first | exact List.mem_cons_self | assumption | (apply List.mem_cons_of_mem; k_extra "m_loc") | (apply List.mem_append_right; k_extra "m_loc") | (apply List.mem_append_left; k_extra "m_loc")
    )
  trivial
theorem kw_5 : True := by
  k_with "m_set" => (
    first | exact SetAt.head | (apply SetAt.tail; k_extra "m_set")
    )
  trivial
theorem kw_6 : True := by
  k_with "m_rest" => (
    first | exact LocRest.nil | (apply LocRest.skip; k_extra "m_rest") | (apply LocRest.take; k_extra "m_rest") | (apply LocRest.glob; k_extra "m_rest")
    )
  trivial
theorem kw_7 : True := by
  k_with "m_enter" => (
    (
      refine' w_enter ?zzH ?zzhk ?zzho ?zzhcd ?zzhps ?zzhrest ?zzhb ?zzhlen ?zzhnd ?zzhloc ?zzhco ?zzhgen ?zzhfn ?zzhcell ?_
      (case zzH => assumption)
      (case zzhk => omega)
      (case zzho => (refine' lk_fn ?zzl1 ?zzl2; (case zzl1 => k_is); (case zzl2 => exact rfl)))
      (case zzhcd => k_is)
      (case zzhps => (simp only [List.map_cons, List.map_nil]; exact rfl))
      (case zzhrest => k_extra "m_rest")
      (case zzhb => exact rfl)
      (case zzhlen => exact rfl)
      (case zzhnd => decide +kernel)
      (case zzhloc => decide +kernel)
      (case zzhco => exact rfl)
      (case zzhgen => exact rfl)
      (case zzhfn => exact rfl)
      (case zzhcell => decide)
      intro _ _ _ _ _ _ _
      (try dsimp only [locOf, List.zip, List.zipWith, List.map, List.cons_append, List.nil_append]))
    )
  trivial
theorem kw_8 : True := by
  k_with "m_enterC" => (
    (
      refine' wc_enterX ?zzH ?zzhk ?zzho ?zzhcd ?zzhps ?zzhrest ?zzhb ?zzhlen ?zzhnd ?zzhloc ?zzhco ?zzhgen ?zzhfn ?zzhcell ?_
      (case zzH => assumption)
      (case zzhk => omega)
      (case zzho => (refine' lk_fn ?zzl1 ?zzl2; (case zzl1 => k_is); (case zzl2 => exact rfl)))
      (case zzhcd => k_is)
      (case zzhps => (simp only [List.map_cons, List.map_nil]; exact rfl))
      (case zzhrest => k_extra "m_rest")
      (case zzhb => exact rfl)
      (case zzhlen => exact rfl)
      (case zzhnd => decide +kernel)
      (case zzhloc => decide +kernel)
      (case zzhco => exact rfl)
      (case zzhgen => exact rfl)
      (case zzhfn => exact rfl)
      (case zzhcell => decide)
      intro _ _ _ _ _ _
      (try dsimp only [locOf, List.zip, List.zipWith, List.map, List.cons_append, List.nil_append]))
    )
  trivial
theorem cast1 (a : Nat) : (a : Int) + 1 = ((a + 1 : Nat) : Int) := rfl
theorem cast2 (a : Nat) : (a : Int) + 2 = ((a + 2 : Nat) : Int) := rfl
theorem kw_9 : True := by
  k_with "m_sz" => (
    first | omega | (simp only [S_len, line_is, S_cps] at *; omega)
    )
  trivial
theorem kw_10 : True := by
  k_with "m_strs" => (
    first | exact StrsAre.nil | (apply StrsAre.cons; k_extra "m_strs")
    )
  trivial
theorem kw_11 : True := by
  k_with "m_gr" => (
    first | exact Grown.refl | (apply Grown.cons; k_extra "m_gr") | (apply Grown.app; k_extra "m_gr")
    )
  trivial
theorem kw_12 : True := by
  k_with "m_gb" => (
    first | with_reducible exact GB.refl | with_reducible exact GB.app0 | ((with_reducible apply GB.cons); k_extra "m_gb") | ((with_reducible apply GB.app); k_extra "m_gb")
    )
  trivial
theorem kw_13 : True := by
  k_with "m_sub1" => (
    first | assumption | (apply List.mem_cons_of_mem; k_extra "m_sub1") | (apply List.mem_append_right; k_extra "m_sub1") | (apply List.mem_append_left; k_extra "m_sub1")
    )
  trivial
theorem kw_14 : True := by
  k_with "m_sub" => (
    (intro p9 h9; with_reducible k_extra "m_sub1")
    )
  trivial
theorem kw_15 : True := by
  k_with "m_dats" => (
    first
      | with_reducible exact DatAll.nil
      | (refine DatAll.mono ?zzs9 (by with_reducible assumption); (case zzs9 => k_extra "m_sub"))
      | ((with_reducible refine' DatAll.cons ?_ ?_); k_extra "m_dat"; k_extra "m_dats")
    )
  trivial
theorem kw_16 : True := by
  k_with "m_dat" => (
    first
      | with_reducible exact DatIn.none
      | with_reducible exact DatIn.int _ _
      | with_reducible exact DatIn.str _ _
      | (refine DatIn.mono ?zzs9 (by with_reducible assumption); (case zzs9 => k_extra "m_sub"))
      | ((with_reducible refine' DatIn.tuple ?zzh1 ?zzh2); (case zzh1 => with_reducible k_extra "m_loc"); (case zzh2 => k_extra "m_dats"))
      | ((with_reducible refine' DatIn.list ?zzh1 ?zzh2); (case zzh1 => with_reducible k_extra "m_loc"); (case zzh2 => k_extra "m_dats"))
    )
  trivial
theorem kw_17 : True := by
  k_with "m_rep" => (
    first | exact RepAt.head | assumption | exact (‹∀ v, RepAt _ _ _ _ _›) _ | (apply RepAt.tail; k_extra "m_rep") | (apply RepAt.app; k_extra "m_rep")
    )
  trivial
theorem kw_18 : True := by
  k_with "m_rev" => (
    (simp only [nmOf, List.reverse_cons, List.reverse_nil, List.nil_append, List.cons_append]; exact rfl)
    )
  trivial
theorem kw_19 : True := by
  k_with "m_C" => (
    fail "no contract"
    )
  trivial
theorem kw_20 : True := by
  k_with "m_W" => (
    first
      | (with_reducible refine' w_last ?_)
      | (with_reducible refine' w_cons ?_)
      | (with_reducible refine' sq_next ?_)
      | (with_reducible refine' sq_ret ?_)
      | (with_reducible refine' w_ret ?_)
      | ((with_reducible refine' w_local ?zzhe ?zzhc ?zzhL ?zzhm ?zzhd ?_); (case zzhe => assumption); (case zzhc => assumption); (case zzhL => rfl); (case zzhm => with_reducible k_extra "m_loc"); (case zzhd => decide +kernel))
      | ((with_reducible refine' w_cint ?_); intro _)
      | ((with_reducible refine' w_cstr ?_); intro _)
      | ((with_reducible refine' w_store ?zzhe ?zzhc ?zzhL ?zzhs ?_); (case zzhe => assumption); (case zzhc => assumption); (case zzhL => rfl); (case zzhs => with_reducible k_extra "m_set"))
      | ((with_reducible refine' w_loadn ?zzhe ?zzhc ?zzhL ?zzhm ?_); (case zzhe => assumption); (case zzhc => assumption); (case zzhL => rfl); (case zzhm => with_reducible k_extra "m_loc"))
      | ((with_reducible refine' w_spl ?zzhe ?_); (case zzhe => with_unfolding_all rfl))
      | (with_reducible refine' w_spl0 ?_)
      | ((with_reducible refine' w_global ?zzH ?zzhe ?zzhL ?zze ?zzhk ?zzhx ?zzhd ?_); (case zzH => assumption); (case zzhe => assumption); (case zzhL => rfl); (case zze => first | with_reducible k_extra "m_g" | with_reducible assumption); (case zzhk => rfl); (case zzhx => decide +kernel); (case zzhd => decide +kernel))
      | ((with_reducible k_extra "m_bi"); (case zzH => assumption); (case zzhe => assumption); (case zzhL => rfl); (case zzhn => decide +kernel); (case zzhk => rfl); (case zzhx => decide +kernel); (case zzhd => decide +kernel))
      | ((with_reducible refine' w_cmp ?zzhm ?_); (case zzhm => with_unfolding_all rfl))
      | ((with_reducible refine' w_tcmp ?zzhm ?_); (case zzhm => with_unfolding_all rfl))
      | ((with_reducible refine' w_tchain ?zzhm ?_); (case zzhm => with_unfolding_all rfl))
      | ((with_reducible refine' w_chain ?zzhm ?_); (case zzhm => with_unfolding_all rfl))
      | (with_reducible refine' w_callN ?_)
      | ((with_reducible refine' w_meth ?zzhe ?_); (case zzhe => with_unfolding_all rfl))
      | ((with_reducible refine' w_cw_ref ?zzH ?zzhf ?zzhe ?_); (case zzH => assumption); (case zzhf => with_reducible k_extra "m_fn"); (case zzhe => with_unfolding_all rfl))
      | ((with_reducible refine' w_cw_ref0 ?zzH ?zzhf ?_); (case zzH => assumption); (case zzhf => with_reducible k_extra "m_fn"))
      | ((with_reducible refine' w_cw_bi ?zzhe ?zzha ?_); (case zzhe => with_unfolding_all rfl); (case zzha => with_unfolding_all rfl))
      | ((with_reducible refine' w_assign ?zzhs ?_); (case zzhs => first | rfl | with_unfolding_all rfl | (subst_vars; with_unfolding_all rfl)))
      | (with_reducible refine' w_aug ?_)
      | ((with_reducible refine' w_assignT ?zzh1 ?zzh2 ?_); (case zzh1 => (subst_vars; with_unfolding_all rfl)); (case zzh2 => (subst_vars; with_unfolding_all rfl)))
      | ((with_reducible refine' w_assignS ?zzhh ?zzh1 ?zzh2 ?zzhr ?zzhkk ?_); (case zzhh => exact Amb.hd (by assumption)); (case zzh1 => (subst_vars; with_unfolding_all rfl)); (case zzh2 => (subst_vars; with_unfolding_all rfl)); (case zzhr => k_extra "m_rev"); (case zzhkk => exact rfl))
      | ((with_reducible refine' isT_mk ?zzhm ?zzhl ?zzhr ?_); (case zzhm => with_reducible k_extra "m_loc"); (case zzhl => rfl); (case zzhr => k_extra "m_rev"))
      | (with_reducible refine' w_bn ?_)
      | (with_reducible refine' w_bn0 ?_)
      | ((with_reducible refine' w_unpack ?zzH ?zzhm ?zzh1 ?zzh2 ?_); (case zzH => assumption); (case zzhm => with_reducible k_extra "m_loc"); (case zzh1 => rfl); (case zzh2 => rfl))
      | ((with_reducible refine' w_ae ?zzhe ?_); (case zzhe => with_unfolding_all rfl))
      | (with_reducible refine' w_ae0 ?_)
      | (with_reducible refine' w_assignName ?_)
      | (with_reducible refine' w_if ?_)
      | (with_reducible refine' w_and ?_)
      | (with_reducible refine' w_or ?_)
      | (with_reducible refine' w_tand ?_)
      | (with_reducible refine' w_tor ?_)
      | (with_reducible refine' w_bone ?_)
      | (with_reducible refine' w_tandnil ?_)
      | (with_reducible refine' w_tornil ?_)
      | (with_reducible refine' w_bin ?_)
      | (with_reducible refine' w_truthyb ?_)
      | (with_reducible refine' w_le_str ?_)
      | (with_reducible refine' w_eq_str ?_)
      | (with_reducible refine' w_ne_str ?_)
      | (with_reducible refine' w_lt_int ?_)
      | ((with_reducible refine' w_add_int ?_); intro _; (try dsimp only [cast1, cast2]))
      | ((with_reducible refine' w_iadd_int ?_); intro _; (try dsimp only [cast1, cast2]))
      | ((with_reducible refine' w_tplain ?zzhe ?_); (case zzhe => first | rfl | with_unfolding_all rfl | (subst_vars; with_unfolding_all rfl)))
      | (with_reducible refine' w_nil ?_)
      | ((with_reducible refine' w_len_str ?zzhx ?_); (case zzhx => k_extra "m_sz"); intro _; (try simp only [S_len]))
      | k_extra "m_C"
      | (with_reducible refine' w_sub ?_)
      | fail "W: stuck"
    )
  trivial

theorem ite_dt {b : Bool} {P R : Prop} (hb : b = true) (h : P) : if b = true then P else R := by rw [if_pos hb]; exact h
theorem ite_df {b : Bool} {P R : Prop} (hb : b = false) (h : R) : if b = true then P else R := by rw [hb]; exact h
theorem kw_21 : True := by
  k_with "m_go" => (
    repeat (first | k_extra "m_W" | (with_reducible refine' ite_tt ?_) | (with_reducible refine' ite_ff ?_) | ((with_reducible refine' ite_dt ?zzhb ?_); (case zzhb => decide +kernel)) | ((with_reducible refine' ite_df ?zzhb ?_); (case zzhb => decide +kernel)))
    )
  trivial

section
variable {w : World} {c : Cx} {E : Value → Shared → Prop} {l : Loc} {n : Led} {t u : Tok} {Q : Value → Loc → Led → Prop}
theorem w_item_ch {value slice : Expr} {cs : List Nat} {i ch : Nat} {j : Int} (hj : j = i) (hi : cs[i]? = some ch) (hx : cs.length ≤ sizeLine)
    (hs : subscripted slice false (.str (S cs) t) (.int j u) = operate [.str (S cs) t, .int j u] (getItem (.str (S cs) t) (.int j u))) (hg : ∀ r, letTemporaryGo value (.str (S cs) t) r = pure ())
    (h : ∀ t, Q (.str (S [ch]) t) l n) : W PG w c (subscriptTail value slice (.str (S cs) t) (.int j u)) Q E l n := by
  subst hj
  have hl : i < cs.length := (List.getElem?_eq_some_iff.mp hi).1
  refine w_item_str hs hg (by simpa [Str.length] using hx) (by omega) (by simp [Str.length]; omega) fun t => ?_
  rw [item_S hi]; exact h t

noncomputable def IsS (o : Value) (k : List Nat → Prop) : Prop := ∃ cs t, o = .str (S cs) t ∧ cs.length ≤ sizeLine ∧ k cs
noncomputable def IsN (o : Value) (k : Nat → Prop) : Prop := ∃ (a : Nat) (t : Tok), o = .int (a : Int) t ∧ k a
theorem isS_mk {cs : List Nat} {t : Tok} {k : List Nat → Prop} (hx : cs.length ≤ sizeLine) (h : k cs) : IsS (.str (S cs) t) k := ⟨_, _, rfl, hx, h⟩
theorem isN_mk {a : Nat} {t : Tok} {k : Nat → Prop} (h : k a) : IsN (.int (a : Int) t) k := ⟨_, _, rfl, h⟩
theorem isN_0 {t : Tok} {k : Nat → Prop} (h : k 0) : IsN (.int 0 t) k := ⟨0, _, rfl, h⟩
theorem isN_1 {t : Tok} {k : Nat → Prop} (h : k 1) : IsN (.int 1 t) k := ⟨1, _, rfl, h⟩
theorem isN_2 {t : Tok} {k : Nat → Prop} (h : k 2) : IsN (.int 2 t) k := ⟨2, _, rfl, h⟩
theorem w_cut {value lo hi : Expr} {q pos : Pos} {env : Env}
    (hs : ∀ x t a, subscripted (.Slice (some lo) (some hi) none q) false (.str x t) (.ref a) = operate [.ref a, .str x t] (getItem (.str x t) (.ref a))) (hg : ∀ x t r, letTemporaryGo value (.str x t) r = pure ())
    (h : W PG w c (eval value env) (fun o l' n' => IsS o fun cs => W PG w c (eval lo env) (fun i l' n' => IsN i fun a =>
      W PG w c (eval hi env) (fun j l' n' => IsN j fun b => ∀ t, Q (.str (S ((cs.drop a).take (b - a))) t) l' n') E l' n') E l' n') E l n) :
    W PG w c (eval (.Subscript value (.Slice (some lo) (some hi) none q) pos) env) Q E l n :=
  w_sl_ss hs hg (h.mono fun o l' n' ⟨cs, t, e, hx, k⟩ => ⟨S cs, t, e, by rw [S_len]; exact hx, k.mono fun i l' n' ⟨a, ta, e, k⟩ => ⟨a, ta, e, k.mono fun j l' n' ⟨b, tb, e, k⟩ => ⟨b, tb, e, fun t => by rw [slice_ss]; exact k t⟩⟩⟩)
theorem w_cutF {value lo : Expr} {q pos : Pos} {env : Env}
    (hs : ∀ x t a, subscripted (.Slice (some lo) none none q) false (.str x t) (.ref a) = operate [.ref a, .str x t] (getItem (.str x t) (.ref a))) (hg : ∀ x t r, letTemporaryGo value (.str x t) r = pure ())
    (h : W PG w c (eval value env) (fun o l' n' => IsS o fun cs => W PG w c (eval lo env) (fun i l' n' => IsN i fun a => ∀ t, Q (.str (S (cs.drop a)) t) l' n') E l' n') E l n) :
    W PG w c (eval (.Subscript value (.Slice (some lo) none none q) pos) env) Q E l n :=
  w_sl_sn hs hg (h.mono fun o l' n' ⟨cs, t, e, hx, k⟩ => ⟨S cs, t, e, by rw [S_len]; exact hx, k.mono fun i l' n' ⟨a, ta, e, k⟩ => ⟨a, ta, e, fun t => by rw [slice_sn]; exact k t⟩⟩)
theorem w_cutT {value hi : Expr} {q pos : Pos} {env : Env}
    (hs : ∀ x t a, subscripted (.Slice none (some hi) none q) false (.str x t) (.ref a) = operate [.ref a, .str x t] (getItem (.str x t) (.ref a))) (hg : ∀ x t r, letTemporaryGo value (.str x t) r = pure ())
    (h : W PG w c (eval value env) (fun o l' n' => IsS o fun cs => W PG w c (eval hi env) (fun i l' n' => IsN i fun a => ∀ t, Q (.str (S (cs.take a)) t) l' n') E l' n') E l n) :
    W PG w c (eval (.Subscript value (.Slice none (some hi) none q) pos) env) Q E l n :=
  w_sl_ns hs hg (h.mono fun o l' n' ⟨cs, t, e, hx, k⟩ => ⟨S cs, t, e, by rw [S_len]; exact hx, k.mono fun i l' n' ⟨a, ta, e, k⟩ => ⟨a, ta, e, fun t => by rw [slice_ns]; exact k t⟩⟩)
end
theorem kw_22 : True := by
  k_with "m_C" => (
    first
      | ((with_reducible refine' w_item_ch ?zzhj ?zzhi ?zzhx ?zzhs ?zzhg ?_); (case zzhj => rfl); (case zzhi => assumption); (case zzhx => k_extra "m_sz"); (case zzhs => with_unfolding_all rfl); (case zzhg => with_unfolding_all exact fun _ => rfl); intro _)
      | ((with_reducible refine' w_cut ?zzhs ?zzhg ?_); (case zzhs => with_unfolding_all exact fun _ _ _ => rfl); (case zzhg => with_unfolding_all exact fun _ _ _ => rfl))
      | ((with_reducible refine' w_cutF ?zzhs ?zzhg ?_); (case zzhs => with_unfolding_all exact fun _ _ _ => rfl); (case zzhg => with_unfolding_all exact fun _ _ _ => rfl))
      | ((with_reducible refine' w_cutT ?zzhs ?zzhg ?_); (case zzhs => with_unfolding_all exact fun _ _ _ => rfl); (case zzhg => with_unfolding_all exact fun _ _ _ => rfl))
      | ((with_reducible refine' isS_mk ?zzhx ?_); (case zzhx => k_extra "m_sz"))
      | ((with_reducible refine' isN_mk ?_); (try (with_reducible intro _)))
      | ((with_reducible refine' isN_0 ?_); (try (with_reducible intro _)))
      | ((with_reducible refine' isN_1 ?_); (try (with_reducible intro _)))
      | ((with_reducible refine' isN_2 ?_); (try (with_reducible intro _)))
      | ((with_reducible refine' w_in_tupS ?zzhm ?zzhy ?_); (case zzhm => with_reducible k_extra "m_loc"); (case zzhy => k_extra "m_strs"))
      | ((with_reducible refine' w_notin_tupS ?zzhm ?zzhy ?_); (case zzhm => with_reducible k_extra "m_loc"); (case zzhy => k_extra "m_strs"))
      | (with_reducible refine' w_in_str ?_)
      | (with_reducible refine' w_notin_str ?_)
      | (with_reducible refine' w_tuple ?_)
      | ((with_reducible refine' w_newT ?zzhsz ?_); (case zzhsz => exact Nat.le_of_ble_eq_true rfl); intro _ _)
      | (with_reducible refine' w_list ?_)
      | ((with_reducible refine' w_newL ?zzhsz ?_); (case zzhsz => exact Nat.le_of_ble_eq_true rfl); intro _ _)
      | (with_reducible refine' w_gm_find ?_)
      | (with_reducible refine' w_gm_split ?_)
      | (with_reducible refine' w_gm_join ?_)
      | ((with_reducible refine' w_gm_append ?zzhm ?_); (case zzhm => with_reducible k_extra "m_loc"))
      | ((with_reducible refine' w_gm_extend ?zzhm ?_); (case zzhm => with_reducible k_extra "m_loc"))
      | ((with_reducible refine' w_cw_me ?zzhe ?zzha ?_); (case zzhe => with_unfolding_all rfl); (case zzha => with_unfolding_all rfl); (try simp only [List.cons_append, List.nil_append]))
      | (with_reducible refine' w_cw_me0 ?_)
      | ((with_reducible refine' w_find4 ?_); intro _ _)
      | ((with_reducible refine' w_append ?zzhu ?zzhsz ?_); (case zzhu => with_reducible k_extra "m_rep"); (case zzhsz => k_extra "m_sz"))
      | (with_reducible refine' w_ifexp ?_)
      | (with_reducible refine' w_tnot ?_)
      | (with_reducible refine' w_gt_int ?_)
      | ((with_reducible refine' w_sub_int ?_); intro _)
      | (with_reducible refine' w_cnone ?_)
      | (with_reducible refine' w_cbool ?_)
    )
  trivial


-- ===== Lt
-- ===== the texts of the program
theorem cps_0 : (Str.ofString "0").cps.toList = [48] := by decide +kernel
theorem cps_9 : (Str.ofString "9").cps.toList = [57] := by decide +kernel
theorem cps_A : (Str.ofString "A").cps.toList = [65] := by decide +kernel
theorem cps_Z : (Str.ofString "Z").cps.toList = [90] := by decide +kernel
theorem cps_a : (Str.ofString "a").cps.toList = [97] := by decide +kernel
theorem cps_z : (Str.ofString "z").cps.toList = [122] := by decide +kernel

theorem lt_one {a b : Nat} : ([a] < [b]) ↔ a < b := by
  constructor
  · intro h; cases h with
    | rel h => exact h
    | cons h => cases h
  · exact fun h => .rel h

noncomputable def fig (ch : Nat) : Bool := decide (48 ≤ ch) && decide (ch ≤ 57)
noncomputable def ltr (ch : Nat) : Bool := (decide (65 ≤ ch) && decide (ch ≤ 90)) || (decide (97 ≤ ch) && decide (ch ≤ 122))

section
variable {w : World} {c : Cx} {E : Value → Shared → Prop} {l : Loc} {n : Led} {t u : Tok} {Q : Value → Loc → Led → Prop}
theorem c_is_figure {ch : Nat} (H : AmbP w c) (hk : 1 ≤ c.k) (h : Q (.bool (fig ch)) l n) : W PG w c (call (.ref 73) [.str (S [ch]) t]) Q E l n := by
  k_extra "m_enter"
  k_extra "m_go"
  simp only [cps_0, lt_one]
  split
  · rename_i hc1
    k_extra "m_go"
    simp only [retOf, cps_9, lt_one]
    rw [show (!decide (57 < ch)) = fig ch from ?_]
    · exact h
    · simp at hc1; rw [Bool.eq_iff_iff]; simp [fig]; omega
  · rename_i hc1
    simp only [retOf]
    rw [show (!decide (ch < 48)) = fig ch from ?_]
    · exact h
    · simp at hc1; rw [Bool.eq_iff_iff]; simp [fig]; omega

theorem c_is_letter {ch : Nat} (H : AmbP w c) (hk : 1 ≤ c.k) (h : Q (.bool (ltr ch)) l n) : W PG w c (call (.ref 66) [.str (S [ch]) t]) Q E l n := by
  have fin : ∀ b, b = ltr ch → Q (retOf (Flow.ret (Value.bool b))) l n := fun b e => by subst e; exact h
  k_extra "m_enter"
  k_extra "m_go"
  simp only [cps_A, lt_one]
  split
  · rename_i h1
    k_extra "m_go"
    simp only [cps_Z, lt_one]
    split
    · rename_i h2
      refine fin _ ?_; simp at h1 h2; rw [Bool.eq_iff_iff]; simp [ltr]; omega
    · rename_i h2
      k_extra "m_go"
      simp only [cps_a, lt_one]
      split
      · rename_i h3
        k_extra "m_go"
        simp only [cps_z, lt_one]
        refine fin _ ?_; simp at h1 h2 h3; rw [Bool.eq_iff_iff]; simp [ltr]; omega
      · rename_i h3
        refine fin _ ?_; simp at h1 h2 h3; rw [Bool.eq_iff_iff]; simp [ltr]; omega
  · rename_i h1
    k_extra "m_go"
    split
    · rename_i h2
      refine fin _ ?_; simp at h1 h2; rw [Bool.eq_iff_iff]; simp [ltr]; omega
    · rename_i h2
      k_extra "m_go"
      simp only [cps_a, lt_one]
      split
      · rename_i h3
        k_extra "m_go"
        simp only [cps_z, lt_one]
        refine fin _ ?_; simp at h1 h2 h3; rw [Bool.eq_iff_iff]; simp [ltr]; omega
      · rename_i h3
        refine fin _ ?_; simp at h1 h2 h3; rw [Bool.eq_iff_iff]; simp [ltr]; omega
/-- the place behind what f takes, from at on -/
noncomputable def spanEnd (f : Nat → Bool) (cs : List Nat) (at_ : Nat) : Nat := at_ + ((cs.drop at_).takeWhile f).length
theorem spanEnd_stop {f : Nat → Bool} {cs : List Nat} {i : Nat} (h : ∀ ch, cs[i]? = some ch → f ch = false) : spanEnd f cs i = i := by
  unfold spanEnd
  cases hd : cs.drop i with
  | nil => rfl
  | cons ch r =>
    have : cs[i]? = some ch := by
      have := congrArg List.head? hd; rwa [List.head?_drop] at this
    simp [h ch this]
theorem spanEnd_step {f : Nat → Bool} {cs : List Nat} {i ch : Nat} (h : cs[i]? = some ch) (hf : f ch = true) : spanEnd f cs i = spanEnd f cs (i + 1) := by
  unfold spanEnd
  have hl : i < cs.length := (List.getElem?_eq_some_iff.mp h).1
  rw [List.drop_eq_getElem_cons hl, List.takeWhile_cons]
  have : cs[i] = ch := (List.getElem?_eq_some_iff.mp h).2
  rw [this, hf]
  simp; omega

theorem kw_23 : True := by
  k_with "m_C" => (
    first
      | ((with_reducible refine' c_is_figure ?zzH ?zzhk ?_); (case zzH => assumption); (case zzhk => omega))
      | ((with_reducible refine' c_is_letter ?zzH ?zzhk ?_); (case zzH => assumption); (case zzhk => omega))
    )
  trivial
theorem c_figures_end {cs : List Nat} {i : Nat} (H : AmbP w c) (hk : 2 ≤ c.k) (hx : cs.length ≤ sizeLine) (hi : i ≤ cs.length) (h : ∀ t, Q (.int (spanEnd fig cs i : Nat) t) l n) :
    W PG w c (call (.ref 85) [.str (S cs) t, .int (i : Int) u]) Q E l n := by
  k_extra "m_enter"
  k_extra "m_W"
  refine w_loop (fun j l' n' => n' = n ∧ ∃ (i' : Nat) (u' : Tok), l' = [(Str.ofString "row", some (.str (S cs) t)), (Str.ofString "at", some (.int (i' : Int) u'))] ∧ i' ≤ cs.length ∧ j = cs.length - i' ∧ spanEnd fig cs i' = spanEnd fig cs i)
    (fun l' n' => n' = n ∧ ∃ (u' : Tok), l' = [(Str.ofString "row", some (.str (S cs) t)), (Str.ofString "at", some (.int (spanEnd fig cs i : Nat) u'))])
    (cs.length - i) ⟨rfl, i, u, rfl, hi, rfl, rfl⟩ ?_ ?_
  · rintro l' n' ⟨rfl, u', rfl⟩
    k_extra "m_go"
    exact h _
  rintro E2 j l' n' ⟨rfl, i', u', rfl, hi', rfl, hsp⟩
  k_extra "m_go"
  split
  · rename_i hlt
    have hlt' : i' < cs.length := by simpa using hlt
    have hch := List.getElem?_eq_getElem hlt'
    k_extra "m_go"
    split
    · rename_i hf
      k_extra "m_go"
      exact ⟨_, by omega, rfl, i' + 1, _, rfl, by omega, rfl, by rw [← hsp, spanEnd_step hch hf]⟩
    · rename_i hf
      k_extra "m_go"
      exact ⟨rfl, _, by rw [← hsp, spanEnd_stop (fun ch hc => by rw [hch] at hc; cases hc; simpa using hf)]⟩
  · rename_i hlt
    k_extra "m_go"
    exact ⟨rfl, _, by rw [← hsp, spanEnd_stop (fun ch hc => absurd (List.getElem?_eq_some_iff.mp hc).1 (by simpa using hlt))]⟩

noncomputable def blank (ch : Nat) : Bool := decide (ch ∈ [32, 9])
theorem lit_blank : Str.ofString " \t" = S [32, 9] := by decide +kernel
theorem in_lit {x : Str} {cs : List Nat} (h : x = S cs) (ch : Nat) : (!(Builtin.Str.occurrences x (S [ch]) 0 x.length 1).isEmpty) = decide (ch ∈ cs) := by subst h; exact in_S cs ch
theorem c_skipped {cs : List Nat} {i : Nat} (H : AmbP w c) (hk : 1 ≤ c.k) (hx : cs.length ≤ sizeLine) (hi : i ≤ cs.length) (h : ∀ t, Q (.int (spanEnd blank cs i : Nat) t) l n) :
    W PG w c (call (.ref 92) [.str (S cs) t, .int (i : Int) u]) Q E l n := by
  k_extra "m_enter"
  k_extra "m_W"
  refine w_loop (fun j l' n' => n' = n ∧ ∃ (i' : Nat) (u' : Tok), l' = [(Str.ofString "row", some (.str (S cs) t)), (Str.ofString "at", some (.int (i' : Int) u'))] ∧ i' ≤ cs.length ∧ j = cs.length - i' ∧ spanEnd blank cs i' = spanEnd blank cs i)
    (fun l' n' => n' = n ∧ ∃ (u' : Tok), l' = [(Str.ofString "row", some (.str (S cs) t)), (Str.ofString "at", some (.int (spanEnd blank cs i : Nat) u'))])
    (cs.length - i) ⟨rfl, i, u, rfl, hi, rfl, rfl⟩ ?_ ?_
  · rintro l' n' ⟨rfl, u', rfl⟩
    k_extra "m_go"
    exact h _
  rintro E2 j l' n' ⟨rfl, i', u', rfl, hi', rfl, hsp⟩
  k_extra "m_go"
  split
  · rename_i hlt
    have hlt' : i' < cs.length := by simpa using hlt
    have hch := List.getElem?_eq_getElem hlt'
    k_extra "m_go"
    rw [in_lit lit_blank]
    split
    · rename_i hf
      k_extra "m_go"
      exact ⟨_, by omega, rfl, i' + 1, _, rfl, by omega, rfl, by rw [← hsp, spanEnd_step hch hf]⟩
    · rename_i hf
      k_extra "m_go"
      exact ⟨rfl, _, by rw [← hsp, spanEnd_stop (fun ch hc => by rw [hch] at hc; cases hc; simpa [blank] using hf)]⟩
  · rename_i hlt
    k_extra "m_go"
    exact ⟨rfl, _, by rw [← hsp, spanEnd_stop (fun ch hc => absurd (List.getElem?_eq_some_iff.mp hc).1 (by simpa using hlt))]⟩

theorem c_skipped0 {cs : List Nat} (H : AmbP w c) (hk : 1 ≤ c.k) (hx : cs.length ≤ sizeLine) (h : ∀ t, Q (.int (spanEnd blank cs 0 : Nat) t) l n) :
    W PG w c (call (.ref 92) [.str (S cs) t, .int 0 u]) Q E l n := c_skipped (i := 0) H hk hx (Nat.zero_le _) h
noncomputable def nam (ch : Nat) : Bool := ltr ch || fig ch || decide (ch = 46)
theorem lit_dot : Str.ofString "." = S [46] := by decide +kernel
theorem lit_mod : Str.ofString "%" = S [37] := by decide +kernel
theorem lit_dol : Str.ofString "$" = S [36] := by decide +kernel
theorem lit_exc : Str.ofString "!" = S [33] := by decide +kernel
theorem eqc {x : Str} {a : Nat} (h : x = S [a]) (ch : Nat) : (S [ch] == x) = decide (ch = a) := by subst h; rw [S_beq]; simp
theorem take1 (cs : List Nat) (i : Nat) : (cs.drop i).take (i + 1 - i) = (cs[i]?).toList := by
  rw [Nat.add_sub_cancel_left]
  cases h : cs.drop i with
  | nil => have : cs[i]? = none := by (have := congrArg List.head? h; rwa [List.head?_drop] at this)
           rw [this]; rfl
  | cons ch r => have : cs[i]? = some ch := by (have := congrArg List.head? h; rwa [List.head?_drop] at this)
                 rw [this]; rfl
theorem c_name_end {cs : List Nat} {i : Nat} (H : AmbP w c) (hk : 2 ≤ c.k) (hx : cs.length ≤ sizeLine) (hi : i ≤ cs.length)
    (hm : ∀ ch ∈ [37, 36, 33], cs[spanEnd nam cs i]? ≠ some ch) (h : ∀ n', Grown n n' → ∀ t, Q (.int (spanEnd nam cs i : Nat) t) l n') :
    W PG w c (call (.ref 113) [.str (S cs) t, .int (i : Int) u]) Q E l n := by
  k_extra "m_enter"
  k_extra "m_W"
  refine w_loop (fun j l' n' => n' = n ∧ ∃ (i' : Nat) (u' : Tok), l' = [(Str.ofString "row", some (.str (S cs) t)), (Str.ofString "at", some (.int (i' : Int) u'))] ∧ i' ≤ cs.length ∧ j = cs.length - i' ∧ spanEnd nam cs i' = spanEnd nam cs i)
    (fun l' n' => n' = n ∧ ∃ (u' : Tok), l' = [(Str.ofString "row", some (.str (S cs) t)), (Str.ofString "at", some (.int (spanEnd nam cs i : Nat) u'))])
    (cs.length - i) ⟨rfl, i, u, rfl, hi, rfl, rfl⟩ ?_ ?_
  · rintro l' n' ⟨rfl, u', rfl⟩
    k_extra "m_go"
    have hany : ([Str.ofString "%", Str.ofString "$", Str.ofString "!"].any fun y => y == S ((cs.drop (spanEnd nam cs i)).take (spanEnd nam cs i + 1 - spanEnd nam cs i))) = false := by
      rw [take1, lit_mod, lit_dol, lit_exc]
      simp only [List.any_cons, List.any_nil, S_beq, Bool.or_false]
      cases he : cs[spanEnd nam cs i]? with
      | none => rfl
      | some ch => rw [he] at hm; simp at hm; simp; omega
    rw [hany]
    k_extra "m_go"
    exact h _ (by k_extra "m_gr") _
  rintro E2 j l' n' ⟨rfl, i', u', rfl, hi', rfl, hsp⟩
  k_extra "m_go"
  split
  · rename_i hlt
    have hlt' : i' < cs.length := by simpa using hlt
    have hch := List.getElem?_eq_getElem hlt'
    k_extra "m_go"
    split
    · rename_i hf
      k_extra "m_go"
      exact ⟨_, by omega, rfl, i' + 1, _, rfl, by omega, rfl, by rw [← hsp, spanEnd_step hch (by simp [nam, hf])]⟩
    · rename_i hf
      k_extra "m_go"
      split
      · rename_i hf2
        k_extra "m_go"
        exact ⟨_, by omega, rfl, i' + 1, _, rfl, by omega, rfl, by rw [← hsp, spanEnd_step hch (by simp [nam, hf2])]⟩
      · rename_i hf2
        k_extra "m_go"
        rw [eqc lit_dot]
        split
        · rename_i hf3
          k_extra "m_go"
          exact ⟨_, by omega, rfl, i' + 1, _, rfl, by omega, rfl, by rw [← hsp, spanEnd_step hch (by simp [nam]; simp at hf3; simp [hf3])]⟩
        · rename_i hf3
          k_extra "m_go"
          exact ⟨rfl, _, by rw [← hsp, spanEnd_stop (fun ch hc => by rw [hch] at hc; cases hc; simp at hf hf2 hf3; simp [nam, hf, hf2, hf3])]⟩
  · rename_i hlt
    k_extra "m_go"
    exact ⟨rfl, _, by rw [← hsp, spanEnd_stop (fun ch hc => absurd (List.getElem?_eq_some_iff.mp hc).1 (by simpa using hlt))]⟩
theorem kw_24 : True := by
  k_with "m_C" => (
    first
      | ((with_reducible refine' c_figures_end ?zzH ?zzhk ?zzhx ?zzhi ?_); (case zzH => assumption); (case zzhk => omega); (case zzhx => k_extra "m_sz"); (case zzhi => k_extra "m_sz"); intro _)
      | ((with_reducible refine' c_skipped0 ?zzH ?zzhk ?zzhx ?_); (case zzH => assumption); (case zzhk => omega); (case zzhx => k_extra "m_sz"); intro _)
      | ((with_reducible refine' c_skipped ?zzH ?zzhk ?zzhx ?zzhi ?_); (case zzH => assumption); (case zzhk => omega); (case zzhx => k_extra "m_sz"); (case zzhi => k_extra "m_sz"); intro _)
      | ((with_reducible refine' c_name_end ?zzH ?zzhk ?zzhx ?zzhi ?zzhm ?_); (case zzH => assumption); (case zzhk => omega); (case zzhx => k_extra "m_sz"); (case zzhi => k_extra "m_sz"); (case zzhm => assumption); refine grown_all ?_; intro _ _)
    )
  trivial
theorem lit_E : Str.ofString "E" = S [69] := by decide +kernel
theorem lit_e : Str.ofString "e" = S [101] := by decide +kernel
theorem c_power_end {cs : List Nat} {i : Nat} (H : AmbP w c) (hk : 1 ≤ c.k) (hx : cs.length ≤ sizeLine) (hm : ∀ ch ∈ [69, 101], cs[i]? ≠ some ch) (h : ∀ n', Grown n n' → ∀ t, Q (.int (i : Int) t) l n') :
    W PG w c (call (.ref 99) [.str (S cs) t, .int (i : Int) u]) Q E l n := by
  k_extra "m_enter"
  k_extra "m_go"
  have hany : ([Str.ofString "E", Str.ofString "e"].any fun y => y == S ((cs.drop i).take (i + 1 - i))) = false := by
    rw [take1, lit_E, lit_e]
    simp only [List.any_cons, List.any_nil, S_beq, Bool.or_false]
    cases he : cs[i]? with
    | none => rfl
    | some ch => rw [he] at hm; simp at hm; simp; omega
  rw [hany, Bool.not_false]
  k_extra "m_go"
  exact h _ (by k_extra "m_gr") _
theorem spanEnd_word {f : Nat → Bool} {cs wd rest : List Nat} {i : Nat} (hc : cs.drop i = wd ++ rest) (hw : ∀ ch ∈ wd, f ch = true) (hr : ∀ ch, rest.head? = some ch → f ch = false) : spanEnd f cs i = i + wd.length := by
  unfold spanEnd
  rw [hc]
  congr 2
  clear hc
  induction wd with
  | nil =>
    cases rest with
    | nil => rfl
    | cons ch r => simp [hr ch rfl]
  | cons ch wd ih =>
    rw [List.cons_append, List.takeWhile_cons, hw ch (.head _)]
    simp only [if_true]
    rw [ih fun x hx => hw x (.tail _ hx)]
theorem next_word {cs wd rest : List Nat} {i : Nat} (hc : cs.drop i = wd ++ rest) : cs[i + wd.length]? = rest.head? := by
  have := congrArg (fun l => l.drop wd.length) hc
  simp only [List.drop_drop, List.drop_left] at this
  rw [← List.head?_drop, this]
theorem len_word {cs wd rest : List Nat} {i : Nat} (hi : i ≤ cs.length) (hc : cs.drop i = wd ++ rest) : i + wd.length ≤ cs.length := by
  have := congrArg List.length hc
  simp at this; omega
theorem sub_word {cs wd rest : List Nat} {i : Nat} (hc : cs.drop i = wd ++ rest) : (cs.drop i).take (i + wd.length - i) = wd := by
  rw [hc, Nat.add_sub_cancel_left]; simp
/-- what may stand behind a token -/
noncomputable def Behind (rest : List Nat) : Prop := rest.head? = none ∨ rest.head? = some 32 ∨ rest.head? = some 58
theorem Behind.not {rest : List Nat} (h : Behind rest) {f : Nat → Bool} (h1 : f 32 = false) (h2 : f 58 = false) : ∀ ch, rest.head? = some ch → f ch = false := by
  intro ch e
  rcases h with h | h | h <;> rw [h] at e <;> cases e <;> assumption
theorem lit_empty : Str.ofString "" = S [] := by decide +kernel
theorem slice1 {cs : List Nat} {j : Nat} : S ((cs.drop j).take (j + 1 - j)) = S (cs[j]?.toList) := by rw [take1]
theorem toList_ne {o : Option Nat} {a : Nat} {x : Str} (hx : x = S [a]) (h : o ≠ some a) : (S o.toList == x) = false := by
  subst hx
  rw [S_beq]
  cases o with
  | none => rfl
  | some b => simp at h; simp [h]
theorem sum_ones (cs : List Nat) : (cs.map ((fun x : Str => x.length) ∘ fun ch => S [ch])).sum = cs.length := by
  induction cs with
  | nil => rfl
  | cons a r ih => rw [List.map_cons, List.sum_cons, ih]; show 1 + r.length = r.length + 1; omega
theorem signs_are {cs : List Nat} {vs : List Value} (hl : vs.length = (S cs).cps.size) (h : ∀ j v, vs[j]? = some v → SignAt (S cs) j v) : StrsAre vs (cs.map fun ch => S [ch]) := by
  induction cs generalizing vs with
  | nil =>
    cases vs with
    | nil => exact .nil
    | cons v r => simp at hl
  | cons a r ih =>
    cases vs with
    | nil => simp at hl
    | cons v vs =>
      obtain ⟨ch, u, hc, rfl⟩ := h 0 v rfl
      have : ch = a := by simpa using hc.symm
      subst this
      refine .cons _ _ (ih (by simpa using hl) fun j v hj => ?_)
      obtain ⟨ch2, u2, hc2, rfl⟩ := h (j + 1) v (by simpa using hj)
      exact ⟨ch2, u2, by simpa using hc2, rfl⟩
theorem c_capital {cs : List Nat} (H : AmbP w c) (hk : 1 ≤ c.k) (hx : cs.length ≤ 1000) (hu : ∀ ch ∈ cs, ch < 97) (h : ∀ n', Grown n n' → ∀ t, Q (.str (S cs) t) l n') : W PG w c (call (.ref 78) [.str (S cs) t]) Q E l n := by
  k_extra "m_enter"
  k_extra "m_go"
  rename_i c2 env2 E2 H2 he2 hc2 hk2 t2
  refine' w_comp_str (cl := []) (fun v y => v = y) H2.hd ?hclos ?hcell rfl ?hnames rfl (fun _ => rfl) ?_
  case hclos => rw [he2]; rfl
  case hcell => decide
  case hnames => decide +kernel
  k_extra "m_go"
  refine ⟨S cs, _, rfl, by simp [line_is]; omega, ?_, ?_⟩
  · rintro C i v s₃ m₃ E' ⟨ch, u, hch, rfl⟩ hn hm hK
    have hmem : ch ∈ cs := List.mem_of_getElem? (by simpa using hch)
    have hlt := hu ch hmem
    have fin : ∀ tk, (Value.str ⟨#[ch]⟩ u = Value.str ⟨#[ch]⟩ u) ∧ Keeps s₃ { s₃ with toks := tk } := fun tk => ⟨rfl, s₃.heap, tk, rfl, fun _ _ e => e⟩
    subst he2
    refine IfExp_ (isTrue_chain (Calls.Constant_str (test_link (ldVarK (v := .str ⟨#[ch]⟩ u) hn hm (P.le_str (wpAny_truthy_bool ?_))))) (by with_unfolding_all rfl))
    have e : (!decide ((⟨#[ch]⟩ : Str).cps.toList < (Str.ofString "a").cps.toList)) = false := by
      rw [cps_a]; simp [lt_one]; omega
    rw [e]
    exact ldVarK (v := .str ⟨#[ch]⟩ u) hn hm (fin _)
  · intro D ys vs j hD hlen hat hp
    have hS : StrsAre ys (cs.map fun ch => S [ch]) := by
      have e : ys = vs := by
        clear hlen hat
        induction hp with
        | nil => rfl
        | cons h _ ih => rw [ih, h]
      subst e
      exact signs_are hlen hat
    k_extra "m_go"
    refine w_join (by with_reducible k_extra "m_loc") (by simpa using hS) (by decide) ?_ fun t => ?_
    · rw [List.map_map, sum_ones]
      simp only [List.length_map]; omega
    · rw [join_chars]; k_extra "m_go"; exact h _ (by k_extra "m_gr") _
theorem kw_25 : True := by
  k_with "m_C" => (
    first
      | ((with_reducible refine' c_power_end ?zzH ?zzhk ?zzhx ?zzhm ?_); (case zzH => assumption); (case zzhk => omega); (case zzhx => k_extra "m_sz"); (case zzhm => assumption); refine grown_all ?_; intro _ _)
      | ((with_reducible refine' c_capital ?zzH ?zzhk ?zzhx ?zzhu ?_); (case zzH => assumption); (case zzhk => omega); (case zzhx => k_extra "m_sz"); (case zzhu => assumption); refine grown_all ?_; intro _ _)
    )
  trivial
theorem c_number_at {cs ds rest : List Nat} {i : Nat} (H : AmbP w c) (hk : 3 ≤ c.k) (hx : cs.length ≤ sizeLine) (hi : i ≤ cs.length) (hc : cs.drop i = ds ++ rest) (hf : ∀ ch ∈ ds, fig ch = true) (h40 : ds.length ≤ 40)
    (hr : Behind rest)
    (h : ∀ tl n', GB tl n n' → ∀ a v t, (a, tupObj [v, .int ((i + ds.length : Nat) : Int) t]) ∈ tl → DatIn tl v (.tuple [.str (Str.ofString "number"), .str (S ds)]) → Q (.ref a) l n') :
    W PG w c (call (.ref 106) [.str (S cs) t, .int (i : Int) u]) Q E l n := by
  have e1 : spanEnd fig cs i = i + ds.length := spanEnd_word hc hf (hr.not rfl rfl)
  have e2 := next_word hc
  have e3 := len_word hi hc
  have n1 : ∀ a, a ≠ 32 → a ≠ 58 → cs[i + ds.length]? ≠ some a := by
    intro a h1 h2 e; rw [e2] at e
    rcases hr with h | h | h <;> rw [h] at e <;> cases e <;> contradiction
  have n2 : ∀ ch ∈ [69, 101], cs[i + ds.length]? ≠ some ch := by
    intro ch hm; simp at hm; rcases hm with rfl | rfl <;> exact n1 _ (by decide) (by decide)
  k_extra "m_enter"
  k_extra "m_go"
  rw [e1, slice1, toList_ne lit_dot (n1 _ (by decide) (by decide))]
  k_extra "m_go"
  rw [show decide ((40 : Int) < ((i + ds.length : Nat) : Int) - (i : Int)) = false from by simp; omega]
  k_extra "m_go"
  rw [slice1, toList_ne lit_exc (n1 _ (by decide) (by decide))]
  k_extra "m_go"
  rw [toList_ne lit_mod (n1 _ (by decide) (by decide))]
  k_extra "m_go"
  rw [sub_word hc]
  have hu : ∀ ch ∈ ds, ch < 97 := fun ch hm => by have := hf ch hm; simp [fig] at this; omega
  k_extra "m_go"
  exact h _ _ (by k_extra "m_gb") _ _ _ (by with_reducible k_extra "m_loc") (by k_extra "m_dat")
end

-- ===== Lu
section
variable {w : World} {c : Cx} {E : Value → Shared → Prop} {l : Loc} {n : Led} {t u : Tok} {Q : Value → Loc → Led → Prop}
theorem kw_26 : True := by
  k_with "m_C" => (
    first
      | ((with_reducible refine' c_number_at ?zzH ?zzhk ?zzhx ?zzhi ?zzhc ?zzhf ?zzh40 ?zzhr ?_); (case zzH => assumption); (case zzhk => omega); (case zzhx => k_extra "m_sz"); (case zzhi => k_extra "m_sz"); (case zzhc => assumption); (case zzhf => assumption); (case zzh40 => assumption); (case zzhr => assumption); refine gb_all ?_; intro _ _ _ _ _ _)
      | ((with_reducible refine' w_split1 ?zzhx ?zzhy ?_); (case zzhx => assumption); (case zzhy => decide +kernel); intro _ _ _ _)
      | ((with_reducible refine' w_in_listS ?zzhm ?zzhy ?_); (case zzhm => with_reducible k_extra "m_loc"); (case zzhy => assumption))
    )
  trivial
theorem lit_sp : Str.ofString " " = S [32] := by decide +kernel
theorem c_functions (H : AmbP w c) (hk : 1 ≤ c.k) (h : ∀ tl n', GB tl n n' → ∀ a vs x, (a, PySem.W.listOf vs.toArray 0) ∈ tl → StrsAre vs (Txt.split x (Str.ofString " ")) → (∀ d ∈ wordsNo, ((Txt.split x (Str.ofString " ")).any fun y => y == ⟨d.toArray⟩) = false) → Q (.ref a) l n') : W PG w c (call (.ref 52) []) Q E l n := by
  obtain ⟨x, tx, gW, hx, hN⟩ := g_FWORDS w
  k_extra "m_enter"
  k_extra "m_go"
  exact h _ _ (by k_extra "m_gb") _ _ _ (by with_reducible k_extra "m_loc") (by assumption) hN
theorem kw_27 : True := by
  k_with "m_C" => (
    ((with_reducible refine' c_functions ?zzH ?zzhk ?_); (case zzH => assumption); (case zzhk => omega); refine gb_all ?_; intro _ _ _ _ _ _ _)
    )
  trivial
theorem notYes : ∀ d ∈ wordsNo, d ∉ wordsYes := by decide +kernel
theorem c_is_word {d : List Nat} (H : AmbP w c) (hk : 2 ≤ c.k) (hd : d ∈ wordsYes ∨ d ∈ wordsNo) (h : ∀ n', Grown n n' → Q (.bool (decide (d ∈ wordsYes))) l n') : W PG w c (call (.ref 59) [.str (S d) t]) Q E l n := by
  obtain ⟨x, tx, gW, hx, hY, hN⟩ := g_WORDS w
  k_extra "m_enter"
  k_extra "m_go"
  rcases hd with hd | hd
  · rw [hY _ hd]
    rw [decide_eq_true hd] at h
    k_extra "m_go"
    exact h _ (by k_extra "m_gr")
  · rw [hN _ hd]
    rw [decide_eq_false (show d ∉ wordsYes from notYes _ hd)] at h
    k_extra "m_go"
    rename_i hN2
    rw [hN2 _ hd]
    exact h _ (by k_extra "m_gr")
noncomputable def wordsAll : List (List Nat) := wordsYes ++ wordsNo
theorem wordsAll_nam : ∀ d ∈ wordsAll, (∀ ch ∈ d, nam ch = true) ∧ (∀ ch ∈ d, ch < 97) ∧ d.length ≤ 10 ∧ d ≠ [82, 69, 77] ∧ d ≠ [68, 65, 84, 65] ∧ (d.head?.map ltr) = some true ∧ (d.head?.map fig) = some false ∧ (d.head?.map fun ch => decide (ch = 46)) = some false := by decide +kernel
theorem lit_REM : Str.ofString "REM" = S [82, 69, 77] := by decide +kernel
theorem lit_DATA : Str.ofString "DATA" = S [68, 65, 84, 65] := by decide +kernel
noncomputable def kindOf (d : List Nat) : Str := if d ∈ wordsYes then Str.ofString "word" else Str.ofString "name"
theorem kw_28 : True := by
  k_with "m_C" => (
    ((with_reducible refine' c_is_word ?zzH ?zzhk ?zzhd ?_); (case zzH => assumption); (case zzhk => omega); (case zzhd => assumption); refine grown_all ?_; intro _)
    )
  trivial
theorem c_word_at {cs wd rest : List Nat} {i : Nat} (H : AmbP w c) (hk : 3 ≤ c.k) (hx : cs.length ≤ sizeLine) (hi : i ≤ cs.length) (hc : cs.drop i = wd ++ rest) (hw : wd ∈ wordsAll) (hr : Behind rest)
    (h : ∀ tl n', GB tl n n' → ∀ a b k v t, (a, tupObj [.ref b, .int ((i + wd.length : Nat) : Int) t]) ∈ tl → (b, PySem.W.listOf [v].toArray k) ∈ tl → DatIn tl v (.tuple [.str (kindOf wd), .str (S wd)]) → Q (.ref a) l n') :
    W PG w c (call (.ref 148) [.str (S cs) t, .int (i : Int) u]) Q E l n := by
  obtain ⟨w1, w2, w3, w4, w5, _, _, _⟩ := wordsAll_nam wd hw
  have hw' : wd ∈ wordsYes ∨ wd ∈ wordsNo := List.mem_append.mp hw
  have e1 : spanEnd nam cs i = i + wd.length := spanEnd_word hc w1 (hr.not (by decide) (by decide))
  have e2 := next_word hc
  have e3 := len_word hi hc
  have n1 : ∀ ch ∈ [37, 36, 33], cs[spanEnd nam cs i]? ≠ some ch := by
    intro ch hm; rw [e1, e2]; simp at hm
    rcases hr with h | h | h <;> rw [h] <;> rcases hm with rfl | rfl | rfl <;> decide
  k_extra "m_enter"
  k_extra "m_go"
  rw [e1, sub_word hc]
  have hwl : wd.length ≤ 1000 := by omega
  k_extra "m_go"
  rw [show (S wd == Str.ofString "REM") = false from by rw [lit_REM, S_beq]; exact decide_eq_false w4]
  k_extra "m_go"
  rw [show (S wd == Str.ofString "DATA") = false from by rw [lit_DATA, S_beq]; exact decide_eq_false w5]
  k_extra "m_go"
  by_cases hy : wd ∈ wordsYes
  · rw [decide_eq_true hy]
    k_extra "m_go"
    rw [show kindOf wd = Str.ofString "word" from if_pos hy] at h
    exact h _ _ (by k_extra "m_gb") _ _ _ _ _ (by with_reducible k_extra "m_loc") (by with_reducible k_extra "m_loc") (by k_extra "m_dat")
  · rw [decide_eq_false hy]
    k_extra "m_go"
    rw [show kindOf wd = Str.ofString "name" from if_neg hy] at h
    exact h _ _ (by k_extra "m_gb") _ _ _ _ _ (by with_reducible k_extra "m_loc") (by with_reducible k_extra "m_loc") (by k_extra "m_dat")
/-- the tokens of the rows -/
inductive Tk
  | wd (d : List Nat)
  | num (d : List Nat)
  | col
deriving DecidableEq
noncomputable def Tk.txt : Tk → List Nat
  | .wd d => d
  | .num d => d
  | .col => [58]
noncomputable def Tk.kind : Tk → Str
  | .wd d => kindOf d
  | .num _ => Str.ofString "number"
  | .col => Str.ofString "sign"
noncomputable def Tk.dat (k : Tk) : Dat := .tuple [.str k.kind, .str (S k.txt)]
noncomputable def Tk.Ok : Tk → Prop
  | .wd d => d ∈ wordsAll
  | .num d => d ≠ [] ∧ (∀ ch ∈ d, fig ch = true) ∧ d.length ≤ 5
  | .col => True
theorem kw_29 : True := by
  k_with "m_C" => (
    ((with_reducible refine' c_word_at ?zzH ?zzhk ?zzhx ?zzhi ?zzhc ?zzhw ?zzhr ?_); (case zzH => assumption); (case zzhk => omega); (case zzhx => k_extra "m_sz"); (case zzhi => k_extra "m_sz"); (case zzhc => assumption); (case zzhw => assumption); (case zzhr => assumption); refine gb_all ?_; intro _ _ _ _ _ _ _ _ _)
    )
  trivial
theorem head_word {cs wd rest : List Nat} {i ch : Nat} (hc : cs.drop i = wd ++ rest) (h : wd.head? = some ch) : cs[i]? = some ch := by
  rw [← List.head?_drop, hc]
  cases wd with
  | nil => cases h
  | cons a r => exact h
theorem lit_quo : Str.ofString "\"" = S [34] := by decide +kernel
theorem lit_que : Str.ofString "?" = S [63] := by decide +kernel
theorem lit_apo : Str.ofString "'" = S [39] := by decide +kernel
theorem ords_S : (⟨#[60, 61, 62]⟩ : Str) = S [60, 61, 62] := rfl
theorem signs_S : (⟨#[43, 45, 42, 47, 92, 94, 40, 41, 44, 59, 58, 35, 38, 64]⟩ : Str) = S [43, 45, 42, 47, 92, 94, 40, 41, 44, 59, 58, 35, 38, 64] := rfl
theorem c_tokens_at {cs rest : List Nat} {tk : Tk} {i : Nat} (H : AmbP w c) (hk : 4 ≤ c.k) (hx : cs.length ≤ sizeLine) (hi : i ≤ cs.length) (hc : cs.drop i = tk.txt ++ rest) (hT : tk.Ok) (hr : tk = .col ∨ Behind rest)
    (h : ∀ tl n', GB tl n n' → ∀ a b k v t, (a, tupObj [.ref b, .int ((i + tk.txt.length : Nat) : Int) t]) ∈ tl → (b, PySem.W.listOf [v].toArray k) ∈ tl → DatIn tl v tk.dat → Q (.ref a) l n') :
    W PG w c (call (.ref 155) [.str (S cs) t, .int (i : Int) u]) Q E l n := by
  cases tk with
  | wd d =>
    obtain ⟨_, _, _, _, _, w6, w7, w8⟩ := wordsAll_nam d hT
    obtain ⟨ch, hd⟩ : ∃ ch, d.head? = some ch := by cases e : d.head? with | none => rw [e] at w6; cases w6 | some ch => exact ⟨ch, rfl⟩
    rw [hd] at w6 w7 w8
    have f6 : ltr ch = true := by simpa using w6
    have f7 : fig ch = false := by simpa using w7
    have f8 : ch ≠ 46 := by simpa using w8
    have hch := head_word hc hd
    have hw : d ∈ wordsAll := hT
    have hc2 : cs.drop i = d ++ rest := hc
    have hr2 : Behind rest := by rcases hr with h | h; cases h; exact h
    simp only [Tk.txt, Tk.dat, Tk.kind] at h
    k_extra "m_enter"
    k_extra "m_go"
    rw [f7]
    k_extra "m_go"
    rw [eqc lit_dot, decide_eq_false f8]
    k_extra "m_go"
    rw [f6]
    k_extra "m_go"
    exact h _ _ (by k_extra "m_gb") _ _ _ _ _ (by with_reducible k_extra "m_loc") (by with_reducible k_extra "m_loc") (by k_extra "m_dat")
  | num d =>
    obtain ⟨hne, hf, h5⟩ := hT
    have h40 : d.length ≤ 40 := by omega
    obtain ⟨ch, hd⟩ : ∃ ch, d.head? = some ch := by cases d with | nil => exact absurd rfl hne | cons a r => exact ⟨a, rfl⟩
    have hch := head_word hc hd
    have f7 : fig ch = true := hf ch (List.mem_of_mem_head? hd)
    have hc2 : cs.drop i = d ++ rest := hc
    have hr2 : Behind rest := by rcases hr with h | h; cases h; exact h
    simp only [Tk.txt, Tk.dat, Tk.kind] at h
    k_extra "m_enter"
    k_extra "m_go"
    rw [f7]
    k_extra "m_go"
    exact h _ _ (by k_extra "m_gb") _ _ _ _ _ (by with_reducible k_extra "m_loc") (by with_reducible k_extra "m_loc") (by k_extra "m_dat")
  | col =>
    have hch : cs[i]? = some 58 := head_word hc rfl
    simp only [Tk.txt, Tk.dat, Tk.kind, List.length_cons, List.length_nil, Nat.zero_add] at h
    k_extra "m_enter"
    k_extra "m_go"
    exact h _ _ (by k_extra "m_gb") _ _ _ _ _ (by with_reducible k_extra "m_loc") (by with_reducible k_extra "m_loc") (by k_extra "m_dat")
/-- the pieces of a row -/
inductive Pc
  | sp
  | tk (k : Tk)
noncomputable def Pc.txt : Pc → List Nat
  | .sp => [32]
  | .tk k => k.txt
noncomputable def flat (ps : List Pc) : List Nat := ps.flatMap Pc.txt
noncomputable def toks : List Pc → List Tk
  | [] => []
  | .sp :: r => toks r
  | .tk k :: r => k :: toks r
noncomputable def Follow : List Pc → Prop
  | [] => True
  | .sp :: _ => True
  | .tk k :: _ => k = .col
noncomputable def okP : List Pc → Prop
  | [] => True
  | .sp :: r => okP r
  | .tk k :: r => k.Ok ∧ (k = .col ∨ Follow r) ∧ okP r
noncomputable def strip : List Pc → List Pc
  | .sp :: r => strip r
  | ps => ps
theorem Follow.behind {ps : List Pc} (h : Follow ps) : Behind (flat ps) := by
  cases ps with
  | nil => exact .inl rfl
  | cons a r =>
    cases a with
    | sp => exact .inr (.inl rfl)
    | tk k => have h : k = .col := h; subst h; exact .inr (.inr rfl)
theorem Tk.Ok.head {k : Tk} (h : k.Ok) : ∃ ch r, k.txt = ch :: r ∧ blank ch = false := by
  cases k with
  | wd d =>
    obtain ⟨w1, _, _, _, _, w6, _, _⟩ := wordsAll_nam d h
    cases d with
    | nil => cases w6
    | cons a r =>
      refine ⟨a, r, rfl, ?_⟩
      have := w1 a (.head _)
      unfold blank
      refine decide_eq_false fun hm => ?_
      simp at hm
      rcases hm with rfl | rfl <;> revert this <;> decide
  | num d =>
    obtain ⟨hne, hf, _⟩ := h
    cases d with
    | nil => exact absurd rfl hne
    | cons a r =>
      refine ⟨a, r, rfl, ?_⟩
      have := hf a (.head _)
      unfold blank
      refine decide_eq_false fun hm => ?_
      simp at hm
      rcases hm with rfl | rfl <;> revert this <;> decide
  | col => exact ⟨58, [], rfl, rfl⟩
theorem strip_skip {cs : List Nat} : ∀ {ps : List Pc} {i : Nat}, okP ps → cs.drop i = flat ps → cs.drop (spanEnd blank cs i) = flat (strip ps)
  | [], i, _, h => by
    rw [spanEnd_stop fun ch hc => ?_]
    · exact h
    · have := congrArg List.head? h
      rw [List.head?_drop, hc] at this; cases this
  | .sp :: r, i, ok, h => by
    have hc : cs[i]? = some 32 := by rw [← List.head?_drop, h]; rfl
    rw [spanEnd_step hc rfl]
    refine strip_skip (ps := r) ok ?_
    have := congrArg List.tail h
    rw [List.tail_drop] at this
    exact this
  | .tk k :: r, i, ok, h => by
    obtain ⟨ch, d, e, hb⟩ := ok.1.head
    have hc : cs[i]? = some ch := by rw [← List.head?_drop, h]; show (k.txt ++ _).head? = _; rw [e]; rfl
    rw [spanEnd_stop fun ch' hc' => ?_]
    · exact h
    · rw [hc] at hc'; cases hc'; exact hb
theorem okP_strip : ∀ {ps : List Pc}, okP ps → okP (strip ps)
  | [], h => h
  | .sp :: r, h => okP_strip (ps := r) h
  | .tk _ :: _, h => h
theorem strip_strip : ∀ {ps : List Pc}, strip (strip ps) = strip ps
  | [] => rfl
  | .sp :: r => strip_strip (ps := r)
  | .tk _ :: _ => rfl
theorem toks_strip : ∀ {ps : List Pc}, toks (strip ps) = toks ps
  | [] => rfl
  | .sp :: r => toks_strip (ps := r)
  | .tk _ :: _ => rfl
theorem strip_cases : ∀ (ps : List Pc), strip ps = [] ∨ ∃ k r, strip ps = .tk k :: r
  | [] => .inl rfl
  | .sp :: r => strip_cases r
  | .tk k :: r => .inr ⟨k, r, rfl⟩
theorem spanEnd_le {f : Nat → Bool} {cs : List Nat} {i : Nat} (h : i ≤ cs.length) : spanEnd f cs i ≤ cs.length := by
  unfold spanEnd
  have := (List.takeWhile_sublist f (l := cs.drop i)).length_le
  rw [List.length_drop] at this; omega
theorem le_spanEnd {f : Nat → Bool} {cs : List Nat} {i : Nat} : i ≤ spanEnd f cs i := Nat.le_add_right _ _
theorem kw_30 : True := by
  k_with "m_C" => (
    first
      | ((with_reducible refine' c_tokens_at ?zzH ?zzhk ?zzhx ?zzhi ?zzhc ?zzhT ?zzhr ?_); (case zzH => assumption); (case zzhk => omega); (case zzhx => k_extra "m_sz"); (case zzhi => k_extra "m_sz"); (case zzhc => assumption); (case zzhT => assumption); (case zzhr => assumption); refine gb_all ?_; intro _ _ _ _ _ _ _ _ _)
      | ((with_reducible refine' w_expr ?zzhi ?zzhs ?_); (case zzhi => (subst_vars; with_unfolding_all rfl)); (case zzhs => (subst_vars; with_unfolding_all rfl)))
      | ((with_reducible refine' w_extend ?zzhb ?zzhne ?zzhu ?zzhsz ?_); (case zzhb => with_reducible k_extra "m_loc"); (case zzhne => exact fun e => (nomatch e)); (case zzhu => with_reducible k_extra "m_rep"); (case zzhsz => (simp only [List.length_cons, List.length_nil]; omega)))
    )
  trivial
/-- between two tokens -/
structure TokM (ps : List Pc) (cs : List Nat) (i : Nat) (vs : List Value) (tl1 : Led) (ts : List Tk) (ps2 : List Pc) : Prop where
  hd : DatAll tl1 vs (ts.map Tk.dat)
  hts : toks ps = ts ++ toks ps2
  hdr : cs.drop i = flat ps2
  hi : i ≤ cs.length
  ok : okP ps2
  st : strip ps2 = ps2
  hvs : vs.length ≤ i
inductive TokJ (cs : List Nat) (t : Tok) (D : Addr) (n : Led) (M : Nat → List Value → Led → Prop) (n' : Led) : Loc → Prop
  | mk {i : Nat} {u : Tok} {vs : List Value} {k : Nat} {tl1 : Led} {o : Option Value} (hn : n' = tl1 ++ (D, PySem.W.listOf vs.toArray k) :: n) (hM : M i vs tl1) :
    TokJ cs t D n M n' [(Str.ofString "row", some (.str (S cs) t)), (Str.ofString "found", some (.ref D)), (Str.ofString "at", some (.int (i : Int) u)), (Str.ofString "told", o)]
@[elab_as_elim] theorem eq_elim {α : Type} {a b : α} {P : α → Prop} (h : a = b) (k : P b) : P a := h ▸ k
theorem c_tokens_of {ps : List Pc} (H : AmbP w c) (hk : 5 ≤ c.k) (hok : okP ps) (hl : (flat ps).length ≤ 255)
    (h : ∀ tl n', GB tl n n' → ∀ a vs k, (a, PySem.W.listOf vs.toArray k) ∈ tl → DatAll tl vs ((toks ps).map Tk.dat) → Q (.ref a) l n') :
    W PG w c (call (.ref 162) [.str (S (flat ps)) t]) Q E l n := by
  generalize hcs : flat ps = cs at hl ⊢
  k_extra "m_enter"
  k_extra "m_go"
  rw [show decide ((255 : Int) < (cs.length : Int)) = false from by simp; omega]
  k_extra "m_go"
  rename_i D _ _ t2 B _
  have hdrop0 : cs.drop (spanEnd blank cs 0) = flat (strip ps) := strip_skip hok (by rw [List.drop_zero, hcs])
  refine w_loopP (fun j l' n' => TokJ cs t D n (fun i vs tl1 => (∃ ts ps2, TokM ps cs i vs tl1 ts ps2) ∧ j = cs.length - i) n' l')
    (fun l' n' => TokJ cs t D n (fun _ vs tl1 => DatAll tl1 vs ((toks ps).map Tk.dat)) n' l')
    (cs.length - spanEnd blank cs 0) (.mk (i := spanEnd blank cs 0) (vs := []) (k := 0) (tl1 := [(B, _)]) rfl ⟨⟨[], strip ps, .nil, toks_strip.symm, hdrop0, spanEnd_le (Nat.zero_le _), okP_strip hok, strip_strip, Nat.zero_le _⟩, rfl⟩) ?_ ?_
  · intro l' n' hJ
    cases hJ with
    | mk hn hd =>
    refine eq_elim hn ?_
    k_extra "m_go"
    exact h _ _ (.app (.cons .refl)) _ _ _ (by with_reducible k_extra "m_loc") (by k_extra "m_dats")
  intro E3 j l' n' hJ P fn fc fb fr
  clear fc fb fr
  cases hJ with
  | @mk i u vs k tl1 o hn hM =>
  refine eq_elim hn ?_
  clear hn
  have hj := hM.2
  cases hM.1 with
  | intro ts hM2 =>
  cases hM2 with
  | intro ps2 m =>
  have hd := m.hd
  have hi := m.hi
  have hvs := m.hvs
  clear hM
  k_extra "m_go"
  split
  · rename_i hlt
    have hlt' : i < cs.length := by simpa using hlt
    clear hlt
    have hx : ∃ tk r, ps2 = .tk tk :: r := by
      obtain h0 | ⟨tk, r, h0⟩ := strip_cases ps2
      · have := congrArg List.length m.hdr
        rw [List.length_drop, ← m.st, h0] at this
        simp [flat] at this; omega
      · exact ⟨tk, r, m.st.symm.trans h0⟩
    cases hx with
    | intro tk hx => cases hx with
    | intro r hx =>
    have hok2 : okP (.tk tk :: r) := hx ▸ m.ok
    have hT := hok2.1
    have hF := hok2.2.1
    have hok3 := hok2.2.2
    have hc : cs.drop i = tk.txt ++ flat r := by rw [m.hdr, hx]; rfl
    have hts : toks ps = ts ++ toks (.tk tk :: r) := by rw [m.hts, hx]
    have hr : tk = .col ∨ Behind (flat r) := hF.imp id Follow.behind
    have e3 := len_word hi hc
    have hdr2 : cs.drop (i + tk.txt.length) = flat r := by rw [← List.drop_drop, hc, List.drop_left]
    have h1 : 1 ≤ tk.txt.length := by obtain ⟨ch, d, e, _⟩ := hT.head; rw [e]; simp
    clear m hx hok2
    k_extra "m_go"
    have hsp := @le_spanEnd blank cs (i + tk.txt.length)
    exact fn _ _ _ (by omega) (.mk (List.append_assoc _ _ _).symm ⟨⟨ts ++ [tk], strip r, by (rw [List.map_append]; exact DatAll.append (by k_extra "m_dats") (.cons (by k_extra "m_dat") .nil)), by (rw [hts, toks_strip]; simp [toks]), strip_skip hok3 hdr2, spanEnd_le e3, okP_strip hok3, strip_strip, by (simp; omega)⟩, rfl⟩)
  · rename_i hlt
    have hlt' : cs.length ≤ i := by simpa using hlt
    k_extra "m_go"
    refine .mk rfl ?_
    obtain h0 | ⟨tk, r, h0⟩ := strip_cases ps2
    · rw [m.hts, ← m.st, h0]; simpa [toks] using hd
    · have hx := m.st.symm.trans h0
      have hok2 : okP (.tk tk :: r) := hx ▸ m.ok
      obtain ⟨ch, d, e, _⟩ := hok2.1.head
      have hdr := m.hdr
      rw [List.drop_eq_nil_of_le hlt', hx] at hdr
      have : flat (.tk tk :: r) = ch :: (d ++ flat r) := by show tk.txt ++ flat r = _; rw [e]; rfl
      rw [this] at hdr; cases hdr
end

-- ===== Lv
noncomputable def Sub (nb n : Led) : Prop := ∀ q ∈ nb, q ∈ n
theorem Sub.refl {n : Led} : Sub n n := fun _ h => h
theorem Sub.cons {nb n : Led} {q : Addr × Obj} (h : Sub nb n) : Sub nb (q :: n) := fun r m => .tail _ (h r m)
theorem Sub.app {nb n tl : Led} (h : Sub nb n) : Sub nb (tl ++ n) := fun r m => List.mem_append_right _ (h r m)
/-- a tuple of the ledger or of the program's own heap -/
noncomputable def TupV (K : Frag) (n : Led) (a : Addr) (vs : List Value) : Prop := (∃ j, (a, ({ cls := .type "tuple", data := .seq vs.toArray j } : Obj)) ∈ n) ∨ (∃ o, K.lookup a = some o ∧ o.cls = .type "tuple" ∧ ∃ j, o.data = .seq vs.toArray j)
theorem TupV.mono {K : Frag} {n n' : Led} {a : Addr} {vs : List Value} (h : TupV K n a vs) (hs : ∀ q ∈ n, q ∈ n') : TupV K n' a vs := h.imp (fun ⟨j, m⟩ => ⟨j, hs _ m⟩) id
section
variable {prog : Program} {w : World} {K : Frag} {p : Program} {loose : List Str}
variable {c : Cx} {E : Value → Shared → Prop} {l : Loc} {n : Led} {env : Env}
theorem TupV.isTup {a : Addr} {vs : List Value} {s : Shared} (H : Amb K p loose c) (S : St c l n s) (h : TupV K n a vs) : IsTup s.heap a vs.toArray := by
  rcases h with ⟨j, m⟩ | ⟨o, ho, hc, j, hd⟩
  · exact isTup_of S.nw m
  · obtain ⟨m, F, _⟩ := S.fr
    exact ⟨o, F.keep _ _ (H.X _ _ ho), hc, j, hd⟩
theorem w_unpackV {elts : List Expr} {na : Led} {k : Nat} {pos : Pos} {a : Addr} {vs : List Value} {Q : Unit → Loc → Led → Prop} (H : Amb K p loose c) (hm : TupV K na a vs) (hsa : Sub na n)
    (h1 : (assignEach elts env).length = vs.toArray.size) (h2 : (assignEach elts env).findIdx? (fun x => x.1) = none)
    (h : W prog w c (assignInOrder ((assignEach elts env).map (·.2)) vs) Q E l n) : W prog w c (assign (.Tuple elts k pos) env (.ref a)) Q E l n := fun s S => by
  obtain ⟨m, F, hl⟩ := S.fr
  exact unpackN_ F S.nw ((hm.mono hsa).isTup H S) H.hd h1 h2 fun h' F' N' => h _ ⟨S.gens, S.drawn, S.os, ⟨m, F', hl⟩, N', S.nd, S.lk⟩
theorem w_item_tupV {value slice : Expr} {na : Led} {a : Addr} {vs : List Value} {i : Int} {u : Tok} {j : Nat} {v : Value} {Q : Value → Loc → Led → Prop} (H : Amb K p loose c) (hm : TupV K na a vs) (hsa : Sub na n)
    (hs : subscripted slice false (.ref a) (.int i u) = operate [.ref a, .int i u] (getItem (.ref a) (.int i u)))
    (h0 : -(2 ^ 63) ≤ i) (h1 : i < 2 ^ 63) (hj : seqIndex? i vs.length = some j) (hv : vs[j]? = some v) (h : Q v l n) : W prog w c (subscriptTail value slice (.ref a) (.int i u)) Q E l n :=
  fun _ S => item_tupleT ((hm.mono hsa).isTup H S) h0 h1 hj hv ⟨l, n, S, h⟩ hs
theorem w_item_list {value slice : Expr} {a : Addr} {its : Array Value} {k : Nat} {i : Nat} {u : Tok} {v : Value} {Q : Value → Loc → Led → Prop} (hm : (a, PySem.W.listOf its k) ∈ n) (hv : its[i]? = some v) (hi : i < 2 ^ 63)
    (hs : subscripted slice false (.ref a) (.int (i : Int) u) = operate [.ref a, .int (i : Int) u] (getItem (.ref a) (.int (i : Int) u))) (hg : ∀ r, letTemporaryGo value (.ref a) r = pure ())
    (h : Q v l n) : W prog w c (subscriptTail value slice (.ref a) (.int (i : Int) u)) Q E l n :=
  fun _ S => item_list (isList_of S.nw hm) (by omega) (by omega) (by simpa using hv) ⟨l, n, S, h⟩ hs hg
theorem w_item_list0 {value slice : Expr} {a : Addr} {its : Array Value} {k : Nat} {u : Tok} {v : Value} {Q : Value → Loc → Led → Prop} (hm : (a, PySem.W.listOf its k) ∈ n) (hv : its[0]? = some v)
    (hs : subscripted slice false (.ref a) (.int 0 u) = operate [.ref a, .int 0 u] (getItem (.ref a) (.int 0 u))) (hg : ∀ r, letTemporaryGo value (.ref a) r = pure ())
    (h : Q v l n) : W prog w c (subscriptTail value slice (.ref a) (.int 0 u)) Q E l n := w_item_list (i := 0) hm hv (by decide) hs hg h
theorem first_of {v : Value} {r : List Value} : ((v :: r).toArray)[0]? = some v := rfl
theorem w_eq2 {na : Led} {j : Nat} {a b : Addr} {x y x' y' : Str} {t u t' u' : Tok} {Q : Value → Loc → Led → Prop} (H : Amb K p loose c) (ha : TupV K na a [.str x t, .str y u]) (hsa : Sub na n) (hb : (b, ({ cls := .type "tuple", data := .seq ([.str x' t', .str y' u'] : List Value).toArray j } : Obj)) ∈ n) (hx : PyData.strOk x = true ∧ PyData.strOk y = true) (hy : PyData.strOk x' = true ∧ PyData.strOk y' = true) (h : Q (.bool (decide ((x, y) = (x', y')))) l n) :
    W prog w c (compareOp .Eq (.ref a) (.ref b)) Q E l n := fun s S => by
  have rd : ∀ {x y : Str} {t u : Tok} {a : Addr}, TupV K n a [.str x t, .str y u] → ∃ as, Reads s.heap (.ref a) (.tuple [.str x, .str y]) as := by
    intro x y t u a ha
    obtain ⟨o, ho, hc, j, hd⟩ := ha.isTup H S
    exact ⟨_, reads_tuple_at ho hc hd (.cons (.str x t) (.cons (.str y u) .nil))⟩
  obtain ⟨as, ra⟩ := rd (ha.mono hsa)
  obtain ⟨bs, rb⟩ := rd (.inl ⟨_, hb⟩)
  have hd : kqdOk 60 (.tuple [.str x, .str y]) = true := by simp [kqdOk]; exact ⟨hx.1, hx.2⟩
  have he : kqdOk 60 (.tuple [.str x', .str y']) = true := by simp [kqdOk]; exact ⟨hy.1, hy.2⟩
  have la := kqd_lay 60 _ hd
  have lb := kqd_lay 60 _ he
  have q := kqd_eqv 60 (.tuple [.str x, .str y]) (.tuple [.str x', .str y']) 60 hd he
  have eq : PyData.eqv (.tuple [.str x, .str y]) (.tuple [.str x', .str y']) = decide ((x, y) = (x', y')) := by
    have q' : PyData.eqv (.tuple [.str x, .str y]) (.tuple [.str x', .str y']) = true ↔ (Dat.tuple [.str x, .str y]) = (Dat.tuple [.str x', .str y']) := q
    by_cases hq : (x, y) = (x', y')
    · rw [decide_eq_true hq]; refine q'.mpr ?_; cases hq; rfl
    · rw [decide_eq_false hq]; refine Bool.eq_false_iff.mpr fun z => hq ?_
      have := q'.mp z; cases this; rfl
  refine eq_dataH ra rb ?_ ?_ (by have := H.un; omega) (by rw [eq]; exact W.fin S h)
  · unfold SeqAt.shaped; exact Bool.and_eq_true_iff.mpr ⟨la.1, decide_eq_true (Nat.le_trans la.2 (by decide))⟩
  · unfold SeqAt.shaped; exact Bool.and_eq_true_iff.mpr ⟨lb.1, decide_eq_true (Nat.le_trans lb.2 (by decide))⟩
theorem w_ord {ch : Nat} {t : Tok} {Q : Value → Loc → Led → Prop} (h : ∀ t, Q (.int (ch : Int) t) l n) : W prog w c (call (.builtin "ord") [.str (S [ch]) t]) Q E l n :=
  fun _ S => P.ord_of_char (W.fin S.tok (h _))
end

theorem no_token (w : World) : ∃ o t u j, (hd.heap_39 w.params).lookup 166 = some o ∧ o.cls = .type "tuple" ∧ o.data = .seq ([.str (Str.ofString "end") t, .str (Str.ofString "") u] : List Value).toArray j := ⟨_, _, _, _, by k_is, rfl, rfl⟩
/-- the kind and the text of the token at a place -/
noncomputable def tokK (ts : List Tk) (i : Nat) : Str × Str := match ts[i]? with
  | some k => (k.kind, S k.txt)
  | none => (Str.ofString "end", Str.ofString "")
structure TokIn (nb : Led) (a : Addr) (ts : List Tk) : Prop where
  ex : ∃ (vs : List Value) (k : Nat), (a, PySem.W.listOf vs.toArray k) ∈ nb ∧ DatAll nb vs (ts.map Tk.dat)
  ok : ∀ k ∈ ts, k.Ok
  len : ts.length ≤ 255
theorem kw_31 : True := by
  k_with "m_sb" => (
    first | with_reducible assumption | with_reducible exact Sub.refl | ((with_reducible apply Sub.cons); k_extra "m_sb") | ((with_reducible apply Sub.app); k_extra "m_sb")
    )
  trivial
theorem strOk_S {d : List Nat} (h : ∀ ch ∈ d, ch < 128) : PyData.strOk (S d) = true := by
  unfold PyData.strOk
  simp
  intro x hx
  have := h x hx; omega
theorem Tk.Ok.small {k : Tk} (h : k.Ok) : ∀ ch ∈ k.txt, ch < 128 := by
  cases k with
  | wd d => exact fun ch hm => by have := (wordsAll_nam d h).2.1 ch hm; omega
  | num d => exact fun ch hm => by have := h.2.1 ch hm; simp [fig] at this; omega
  | col => decide
theorem tokK_ok {nb : Led} {a : Addr} {ts : List Tk} (T : TokIn nb a ts) (i : Nat) : PyData.strOk (tokK ts i).1 = true ∧ PyData.strOk (tokK ts i).2 = true := by
  unfold tokK
  cases e : ts[i]? with
  | none => decide +kernel
  | some k =>
    refine ⟨?_, strOk_S (T.ok k (List.mem_of_getElem? e)).small⟩
    cases k with
    | wd d => show PyData.strOk (kindOf d) = true; unfold kindOf; split <;> decide +kernel
    | num d => show PyData.strOk (Str.ofString "number") = true; decide +kernel
    | col => show PyData.strOk (Str.ofString "sign") = true; decide +kernel
theorem w_truthyref_dummy : True := trivial
section
variable {w : World} {c : Cx} {E : Value → Shared → Prop} {l : Loc} {n : Led} {t u : Tok} {Q : Value → Loc → Led → Prop} {TL : Addr} {ts : List Tk} {nb : Led}
theorem kw_32 : True := by
  k_with "m_C" => (
    first
      | ((with_reducible refine' w_item_list ?zzhm ?zzhv ?zzhi ?zzhs ?zzhg ?_); (case zzhm => with_reducible k_extra "m_loc"); (case zzhv => assumption); (case zzhi => omega); (case zzhs => with_unfolding_all rfl); (case zzhg => with_unfolding_all exact fun _ => rfl))
      | ((with_reducible refine' w_len_list ?zzhm ?zzhx ?_); (case zzhm => with_reducible k_extra "m_loc"); (case zzhx => first | exact Nat.le_of_ble_eq_true rfl | (simp only [List.size_toArray]; omega)); intro _)
    )
  trivial
theorem c_token_at {i : Nat} (H : AmbP w c) (hk : 1 ≤ c.k) (T : TokIn nb TL ts) (hs : Sub nb n)
    (h : ∀ a t u, TupV (hd.heap_39 w.params) nb a [.str (tokK ts i).1 t, .str (tokK ts i).2 u] → Q (.ref a) l n) : W PG w c (call (.ref 173) [.ref TL, .int (i : Int) t]) Q E l n := by
  obtain ⟨vs, k, hm, hd⟩ := T.ex
  have hl := hd.length
  have hlen := T.len
  rw [List.length_map] at hl
  have hm' := hs _ hm
  k_extra "m_enter"
  k_extra "m_go"
  split
  · rename_i hlt
    have hlt' : i < vs.length := by simpa using hlt
    obtain ⟨v, hv, hdv⟩ := hd.get (k := i) (by rw [List.length_map]; omega)
    have hv' : vs.toArray[i]? = some v := by simpa using hv
    have hi : i < 2 ^ 63 := by omega
    k_extra "m_go"
    have e : (ts.map Tk.dat)[i]'(by rw [List.length_map]; omega) = (ts[i]'(by omega)).dat := by simp
    rw [e] at hdv
    have ek : tokK ts i = ((ts[i]'(by omega)).kind, S (ts[i]'(by omega)).txt) := by
      unfold tokK; rw [List.getElem?_eq_getElem (by omega)]
    unfold Tk.dat at hdv
    cases hdv with
    | tuple hm2 hda =>
      cases hda with
      | cons h1 h2 => cases h2 with
        | cons h2 h3 =>
          cases h3; cases h1; cases h2
          exact h _ _ _ (.inl ⟨_, by rw [ek]; exact hm2⟩)
  · rename_i hlt
    have hlt' : vs.length ≤ i := by simpa using hlt
    obtain ⟨o, t1, t2, j, ho, hc, hdt⟩ := no_token w
    k_extra "m_go"
    refine h _ t1 t2 (.inr ⟨o, ho, hc, j, ?_⟩)
    rw [show tokK ts i = (Str.ofString "end", Str.ofString "") from by unfold tokK; rw [List.getElem?_eq_none (by omega)]]
    exact hdt
theorem kw_33 : True := by
  k_with "m_C" => (
    first
      | ((with_reducible refine' c_token_at ?zzH ?zzhk ?zzT ?zzhs ?_); (case zzH => assumption); (case zzhk => omega); (case zzT => assumption); (case zzhs => k_extra "m_sb"); intro _ _ _ _)
      | ((with_reducible refine' w_eq2 ?zzH ?zzha ?zzhsa ?zzhb ?zzhx ?zzhy ?_); (case zzH => assumption); (case zzha => assumption); (case zzhsa => k_extra "m_sb"); (case zzhb => with_reducible k_extra "m_loc"); (case zzhx => exact tokK_ok (by assumption) _); (case zzhy => first | assumption | decide +kernel))
      | ((with_reducible refine' w_unpackV ?zzH ?zzhm ?zzhsa ?zzh1 ?zzh2 ?_); (case zzH => assumption); (case zzhm => with_reducible assumption); (case zzhsa => k_extra "m_sb"); (case zzh1 => rfl); (case zzh2 => rfl))
    )
  trivial
theorem lit_sign : PyData.strOk (Str.ofString "sign") = true := by decide +kernel
theorem lit_word : PyData.strOk (Str.ofString "word") = true := by decide +kernel
theorem c_is_sign {i : Nat} {x : Str} (H : AmbP w c) (hk : 2 ≤ c.k) (T : TokIn nb TL ts) (hs : Sub nb n) (hx : PyData.strOk x = true)
    (h : ∀ n', Grown n n' → Q (.bool (decide (tokK ts i = (Str.ofString "sign", x)))) l n') : W PG w c (call (.ref 180) [.ref TL, .int (i : Int) t, .str x u]) Q E l n := by
  have hx2 := And.intro lit_sign hx
  k_extra "m_enter"
  k_extra "m_go"
  exact h _ (by k_extra "m_gr")
theorem c_is_word2 {i : Nat} {x : Str} (H : AmbP w c) (hk : 2 ≤ c.k) (T : TokIn nb TL ts) (hs : Sub nb n) (hx : PyData.strOk x = true)
    (h : ∀ n', Grown n n' → Q (.bool (decide (tokK ts i = (Str.ofString "word", x)))) l n') : W PG w c (call (.ref 306) [.ref TL, .int (i : Int) t, .str x u]) Q E l n := by
  have hx2 := And.intro lit_word hx
  k_extra "m_enter"
  k_extra "m_go"
  exact h _ (by k_extra "m_gr")
/-- does a statement end here -/
noncomputable def isEnd (k : Str × Str) : Bool := ([Str.ofString "end", Str.ofString "rem"].any fun y => y == k.1) || (k.1 == Str.ofString "sign" && k.2 == Str.ofString ":") || (k.1 == Str.ofString "word" && k.2 == Str.ofString "ELSE")
theorem c_is_end {i : Nat} (H : AmbP w c) (hk : 2 ≤ c.k) (T : TokIn nb TL ts) (hs : Sub nb n)
    (h : ∀ n', Grown n n' → Q (.bool (isEnd (tokK ts i))) l n') : W PG w c (call (.ref 313) [.ref TL, .int (i : Int) t]) Q E l n := by
  have fin : ∀ b n', b = isEnd (tokK ts i) → Grown n n' → Q (.bool b) l n' := fun b n' e g => e ▸ h n' g
  k_extra "m_enter"
  k_extra "m_go"
  cases h1 : ([Str.ofString "end", Str.ofString "rem"].any fun y => y == (tokK ts i).1)
  · k_extra "m_go"
    cases h2 : ((tokK ts i).1 == Str.ofString "sign")
    · k_extra "m_go"
      cases h3 : ((tokK ts i).1 == Str.ofString "word")
      · k_extra "m_go"
        exact fin _ _ (by simp only [isEnd, h1, h2, h3]; rfl) (by k_extra "m_gr")
      · k_extra "m_go"
        exact fin _ _ (by simp only [isEnd, h1, h2, h3]; simp) (by k_extra "m_gr")
    · k_extra "m_go"
      cases h4 : ((tokK ts i).2 == Str.ofString ":")
      · k_extra "m_go"
        cases h3 : ((tokK ts i).1 == Str.ofString "word")
        · k_extra "m_go"
          exact fin _ _ (by simp only [isEnd, h1, h2, h3, h4]; rfl) (by k_extra "m_gr")
        · k_extra "m_go"
          exact fin _ _ (by simp only [isEnd, h1, h2, h3, h4]; simp) (by k_extra "m_gr")
      · k_extra "m_go"
        exact fin _ _ (by simp only [isEnd, h1, h2, h4]; rfl) (by k_extra "m_gr")
  · k_extra "m_go"
    exact fin _ _ (by simp only [isEnd, h1]; rfl) (by k_extra "m_gr")
theorem kw_34 : True := by
  k_with "m_C" => (
    first
      | ((with_reducible refine' c_is_sign ?zzH ?zzhk ?zzT ?zzhs ?zzhx ?_); (case zzH => assumption); (case zzhk => omega); (case zzT => assumption); (case zzhs => k_extra "m_sb"); (case zzhx => decide +kernel); refine grown_all ?_; intro _)
      | ((with_reducible refine' c_is_word2 ?zzH ?zzhk ?zzT ?zzhs ?zzhx ?_); (case zzH => assumption); (case zzhk => omega); (case zzT => assumption); (case zzhs => k_extra "m_sb"); (case zzhx => first | assumption | decide +kernel); refine grown_all ?_; intro _)
      | ((with_reducible refine' c_is_end ?zzH ?zzhk ?zzT ?zzhs ?_); (case zzH => assumption); (case zzhk => omega); (case zzT => assumption); (case zzhs => k_extra "m_sb"); refine grown_all ?_; intro _)
    )
  trivial
theorem c_need_word {i : Nat} {x : Str} (H : AmbP w c) (hk : 3 ≤ c.k) (T : TokIn nb TL ts) (hs : Sub nb n) (hx : PyData.strOk x = true) (he : tokK ts i = (Str.ofString "word", x))
    (h : ∀ n', Grown n n' → ∀ t, Q (.int ((i + 1 : Nat) : Int) t) l n') : W PG w c (call (.ref 320) [.ref TL, .int (i : Int) t, .str x u]) Q E l n := by
  k_extra "m_enter"
  k_extra "m_go"
  rw [he, decide_eq_true rfl]
  k_extra "m_go"
  exact h _ (by k_extra "m_gr") _
/-- the number that figures tell -/
noncomputable def valOf (d : List Nat) : Nat := d.foldl (fun a ch => a * 10 + (ch - 48)) 0
theorem valOf_step {d : List Nat} {j ch : Nat} (h : d[j]? = some ch) : valOf (d.take (j + 1)) = valOf (d.take j) * 10 + (ch - 48) := by
  unfold valOf
  rw [List.take_add_one, h, List.foldl_append]
  rfl
theorem g_ML (w : World) : ∃ t, nsIn (hd.heap_39 w.params) mainGlobals (Str.ofString "MOST_LINE") = some (some (.int 65529 t)) := ⟨_, by k_is⟩
theorem kw_35 : True := by
  k_with "m_C" => (
    first
      | ((with_reducible refine' w_mul_int ?zzhm ?_); (case zzhm => first | exact IntMulOk.of_right (by decide) | exact IntMulOk.of_left (by decide)); intro _)
      | ((with_reducible refine' w_ord ?_); intro _)
    )
  trivial
theorem c_line_number {i : Nat} {d : List Nat} (H : AmbP w c) (hk : 2 ≤ c.k) (T : TokIn nb TL ts) (hs : Sub nb n) (he : ts[i]? = some (.num d)) (hv : valOf d ≤ 65529)
    (h : ∀ tl n', GB tl n n' → ∀ a t u, (a, tupObj [.int (valOf d : Nat) t, .int ((i + 1 : Nat) : Int) u]) ∈ tl → Q (.ref a) l n') : W PG w c (call (.ref 327) [.ref TL, .int (i : Int) t]) Q E l n := by
  have ht1 : (tokK ts i).1 = Str.ofString "number" := by unfold tokK; rw [he]; rfl
  have ht2 : (tokK ts i).2 = S d := by unfold tokK; rw [he]; rfl
  have hok : (Tk.num d).Ok := T.ok _ (List.mem_of_getElem? he)
  obtain ⟨_, hf, h5⟩ := hok
  have e5 : d.length ≤ sizeLine := by rw [line_is]; omega
  obtain ⟨tml, gml⟩ := g_ML w
  k_extra "m_enter"
  k_extra "m_go"
  rw [ht1]
  k_extra "m_go"
  rw [ht2]
  have e5 : d.length ≤ sizeLine := by rw [line_is]; omega
  k_extra "m_go"
  rw [show decide ((5 : Int) < (d.length : Int)) = false from by simp; omega]
  k_extra "m_go"
  rename_i t2 u2 hT2 _ _ _ t3
  refine' w_for_str (Amb.hd (by assumption)) (fun _ => rfl) ?_
  k_extra "m_go"
  refine ⟨S d, _, rfl, fun j l' n' => n' = n ∧ ∃ sg u, l' = [(Str.ofString "tokens", some (.ref TL)), (Str.ofString "at", some (.int (i : Int) t)), (Str.ofString "kind", some (.str (Str.ofString "number") t2)),
      (Str.ofString "told", some (.str (S d) u2)), (Str.ofString "found", some (.int (valOf (d.take j) : Nat) u)), (Str.ofString "sign", sg)], ⟨rfl, none, t3, rfl⟩, ?_, ?_⟩
  · rintro j v l₁ n₁ ⟨ch, uc, hch, rfl⟩ ⟨rfl, sg, u, rfl⟩ own E3
    have hch' : d[j]? = some ch := by simpa using hch
    have hj : j < d.length := (List.getElem?_eq_some_iff.mp hch').1
    have hfc := hf ch (List.mem_of_getElem? hch')
    have hlo : 48 ≤ ch := by simp [fig] at hfc; exact hfc.1
    have hhi : ch ≤ 57 := by simp [fig] at hfc; exact hfc.2
    show W PG w _ (assign _ _ (.str (S [ch]) uc)) _ _ _ _
    k_extra "m_go"
    simp only [cps_0, lt_one]
    rw [show (!decide (ch < 48)) = true from by simp; omega]
    k_extra "m_go"
    simp only [cps_9, lt_one]
    rw [show (!decide (57 < ch)) = true from by simp; omega]
    k_extra "m_go"
    rw [show ((valOf (d.take j) : Nat) : Int) * 10 + (ch : Int) - 48 = ((valOf (d.take (j + 1)) : Nat) : Int) from by rw [valOf_step hch']; omega]
    exact ⟨_, .head, rfl, _, _, rfl⟩
  · rintro l₁ n₁ ⟨rfl, sg, u, rfl⟩
    rw [show (S d).cps.size = d.length from by simp, List.take_length]
    k_extra "m_go"
    rw [show decide ((65529 : Int) < ((valOf d : Nat) : Int)) = false from by simp; omega]
    k_extra "m_go"
    exact h _ _ (by k_extra "m_gb") _ _ _ (by with_reducible k_extra "m_loc")
theorem kw_36 : True := by
  k_with "m_C" => (
    ((with_reducible refine' c_line_number ?zzH ?zzhk ?zzT ?zzhs ?zzhe ?zzhv ?_); (case zzH => assumption); (case zzhk => omega); (case zzT => assumption); (case zzhs => k_extra "m_sb"); (case zzhe => assumption); (case zzhv => assumption); refine gb_all ?_; intro _ _ _ _ _)
    )
  trivial
theorem c_read_goto {i : Nat} {d : List Nat} (H : AmbP w c) (hk : 3 ≤ c.k) (T : TokIn nb TL ts) (hs : Sub nb n) (he : ts[i]? = some (.num d)) (hv : valOf d ≤ 65529)
    (h : ∀ tl n', GB tl n n' → ∀ a v t, (a, tupObj [v, .int ((i + 1 : Nat) : Int) t]) ∈ tl → DatIn tl v (.tuple [.str (Str.ofString "GOTO"), .int (valOf d : Nat)]) → Q (.ref a) l n') : W PG w c (call (.ref 659) [.ref TL, .int (i : Int) t]) Q E l n := by
  k_extra "m_enter"
  k_extra "m_go"
  exact h _ _ (by k_extra "m_gb") _ _ _ (by with_reducible k_extra "m_loc") (by k_extra "m_dat")
theorem c_read_gosub {i : Nat} {d : List Nat} (H : AmbP w c) (hk : 3 ≤ c.k) (T : TokIn nb TL ts) (hs : Sub nb n) (he : ts[i]? = some (.num d)) (hv : valOf d ≤ 65529)
    (h : ∀ tl n', GB tl n n' → ∀ a v t, (a, tupObj [v, .int ((i + 1 : Nat) : Int) t]) ∈ tl → DatIn tl v (.tuple [.str (Str.ofString "GOSUB"), .int (valOf d : Nat)]) → Q (.ref a) l n') : W PG w c (call (.ref 666) [.ref TL, .int (i : Int) t]) Q E l n := by
  k_extra "m_enter"
  k_extra "m_go"
  exact h _ _ (by k_extra "m_gb") _ _ _ (by with_reducible k_extra "m_loc") (by k_extra "m_dat")
theorem c_read_next {i : Nat} (H : AmbP w c) (hk : 3 ≤ c.k) (T : TokIn nb TL ts) (hs : Sub nb n) (he : isEnd (tokK ts i) = true)
    (h : ∀ tl n', GB tl n n' → ∀ a v t, (a, tupObj [v, .int (i : Int) t]) ∈ tl → DatIn tl v (.tuple [.str (Str.ofString "NEXT"), .list []]) → Q (.ref a) l n') : W PG w c (call (.ref 715) [.ref TL, .int (i : Int) t]) Q E l n := by
  k_extra "m_enter"
  k_extra "m_go"
  rw [he]
  k_extra "m_go"
  exact h _ _ (by k_extra "m_gb") _ _ _ (by with_reducible k_extra "m_loc") (by k_extra "m_dat")
end

-- ===== Lw
theorem lv_makes (w : World) : makesIn (hd.heap_39 w.params) 232 = true := by k_is
theorem lv_init (w : World) : findIn (hd.heap_39 w.params) (.ref 232) "__init__" = some (some (.ref 229)) := by k_is
theorem lv_fn (w : World) : isFn (hd.heap_39 w.params) (.ref 229) = true := by k_is
theorem lv_keep (w : World) : keepIn (hd.heap_39 w.params) (.ref 232) = true := by k_is
theorem lv_kind (w : World) : AttrOk (hd.heap_39 w.params) 232 (Str.ofString "kind") := ⟨by k_is, by k_is, by k_is, by k_is, by k_is⟩
theorem lv_word (w : World) : AttrOk (hd.heap_39 w.params) 232 (Str.ofString "word") := ⟨by k_is, by k_is, by k_is, by k_is, by k_is⟩
theorem lv_args (w : World) : AttrOk (hd.heap_39 w.params) 232 (Str.ofString "args") := ⟨by k_is, by k_is, by k_is, by k_is, by k_is⟩
theorem lv_operands (w : World) : AttrOk (hd.heap_39 w.params) 232 (Str.ofString "operands") := ⟨by k_is, by k_is, by k_is, by k_is, by k_is⟩
theorem lv_operators (w : World) : AttrOk (hd.heap_39 w.params) 232 (Str.ofString "operators") := ⟨by k_is, by k_is, by k_is, by k_is, by k_is⟩
theorem kw_37 : True := by
  k_with "m_at" => (
    first | exact lv_kind _ | exact lv_word _ | exact lv_args _ | exact lv_operands _ | exact lv_operators _
    )
  trivial
section
variable {w : World} {c : Cx} {E : Value → Shared → Prop} {l : Loc} {n : Led} {t u : Tok} {Q : Value → Loc → Led → Prop} {TL : Addr} {ts : List Tk} {nb : Led}
theorem kw_38 : True := by
  k_with "m_C" => (
    first
      | ((with_reducible refine' w_attr ?zzhe ?_); (case zzhe => with_unfolding_all rfl))
      | ((with_reducible refine' w_getattr ?zzH ?zzho ?zzhx ?zzhd ?zzhe ?zzhl ?zzhv ?_); (case zzH => assumption); (case zzho => with_reducible k_extra "m_at"); (case zzhx => with_reducible k_extra "m_loc"); (case zzhd => with_reducible k_extra "m_loc"); (case zzhe => with_reducible assumption); (case zzhl => exact rfl); (case zzhv => exact rfl))
      | ((with_reducible refine' w_setattr ?zzH ?zzho ?zzhx ?zzhd ?zzhe ?zzhl ?zzhsz ?zzhu ?_); (case zzH => assumption); (case zzho => with_reducible k_extra "m_at"); (case zzhx => with_reducible k_extra "m_loc"); (case zzhd => with_reducible k_extra "m_loc"); (case zzhe => first | with_reducible exact EsAre.nil | with_reducible assumption); (case zzhl => exact rfl); (case zzhsz => exact Nat.le_of_ble_eq_true rfl); (case zzhu => (intro _ _; with_reducible k_extra "m_rep")); intro _ _ _; (try simp only [List.nil_append, List.cons_append]))
      | ((with_reducible refine' w_assignA ?zzhs ?_); (case zzhs => (subst_vars; with_unfolding_all rfl)))
      | ((with_reducible refine' w_gm_pop ?zzhm ?_); (case zzhm => with_reducible k_extra "m_loc"))
    )
  trivial
theorem c_Level {x y : Str} (H : AmbP w c) (hk : 2 ≤ c.k)
    (h : ∀ X dx a1 a2 a3 es k t u, EsAre w es [(Str.ofString "kind", .str x t), (Str.ofString "word", .str y u), (Str.ofString "args", .ref a1), (Str.ofString "operands", .ref a2), (Str.ofString "operators", .ref a3)] →
      Q (.ref X) l ((a3, PySem.W.listOf #[] 0) :: (a2, PySem.W.listOf #[] 0) :: (a1, PySem.W.listOf #[] 0) :: (X, instO 232 dx #[]) :: (dx, dictOf es k) :: n)) : W PG w c (call (.ref 232) [.str x t, .str y u]) Q E l n := by
  refine' w_inst H (by omega) (lv_makes w) (lv_init w) (lv_fn w) fun c' X dx H' hk' => ?_
  k_extra "m_enterC"
  k_extra "m_go"
  exact ⟨rfl, h _ _ _ _ _ _ _ _ _ (by assumption)⟩
noncomputable abbrev EsLev (w : World) (es : List DictEntry) (t : Tok) (y : Str) (u : Tok) (a1 a2 a3 : Addr) : Prop :=
  EsAre w es [(Str.ofString "kind", .str (Str.ofString "top") t), (Str.ofString "word", .str y u), (Str.ofString "args", .ref a1), (Str.ofString "operands", .ref a2), (Str.ofString "operators", .ref a3)]
theorem c_join_up {X dx a1 a2 a3 : Addr} {sl : Array (Option Value)} {es : List DictEntry} {k k3 : Nat} {tt uu : Tok} {y : Str} (H : AmbP w c) (hk : 1 ≤ c.k) (hx : (X, instO 232 dx sl) ∈ n) (hd : (dx, dictOf es k) ∈ n) (he : EsLev w es tt y uu a1 a2 a3) (h3 : (a3, PySem.W.listOf #[] k3) ∈ n) (h : Q .none l n) : W PG w c (call (.ref 243) [.ref X, .int 0 t]) Q E l n := by
  k_extra "m_enter"
  k_extra "m_W"
  refine w_loop (fun j l' n' => n' = n ∧ l' = [(Str.ofString "level", some (.ref X)), (Str.ofString "strength", some (.int 0 t)), (Str.ofString "op", none), (Str.ofString "last", none)]) (fun l' n' => n' = n) 0 ⟨rfl, rfl⟩ ?_ ?_
  · rintro l' n' rfl
    exact h
  · rintro E' j l' n' ⟨rfl, rfl⟩
    k_extra "m_go"
    rfl
theorem kw_39 : True := by
  k_with "m_C" => (
    first
      | ((with_reducible refine' c_join_up ?zzH ?zzhk ?zzhx ?zzhd ?zzhe ?zzh3 ?_); (case zzH => assumption); (case zzhk => omega); (case zzhx => with_reducible k_extra "m_loc"); (case zzhd => with_reducible k_extra "m_loc"); (case zzhe => with_reducible assumption); (case zzh3 => with_reducible k_extra "m_loc"))
      | ((with_reducible refine' w_pop ?zze ?zzhu ?zzhsz ?_); (case zzhu => first | with_reducible assumption | with_reducible k_extra "m_rep"); (case zze => exact rfl); (case zzhsz => exact Nat.le_of_ble_eq_true rfl))
    )
  trivial
theorem c_finished {X dx a1 a2 a3 : Addr} {sl : Array (Option Value)} {es : List DictEntry} {k k2 k3 : Nat} {tt uu : Tok} {y : Str} {v : Value} {n' : Led} (H : AmbP w c) (hk : 2 ≤ c.k) (hx : (X, instO 232 dx sl) ∈ n) (hd : (dx, dictOf es k) ∈ n) (hx' : (X, instO 232 dx sl) ∈ n') (hd' : (dx, dictOf es k) ∈ n') (he : EsLev w es tt y uu a1 a2 a3) (h3 : (a3, PySem.W.listOf #[] k3) ∈ n) (h2 : (a2, PySem.W.listOf [v].toArray k2) ∈ n)
    (hu : RepAt a2 (PySem.W.listOf [v].toArray k2) (PySem.W.listOf ([] : List Value).toArray (k2 + 1)) n n') (h : ∀ n'', Grown n' n'' → Q v l n'') : W PG w c (call (.ref 250) [.ref X]) Q E l n := by
  k_extra "m_enter"
  k_extra "m_go"
  exact h _ (by k_extra "m_gr")
theorem kw_40 : True := by
  k_with "m_es" => (
    first | with_reducible exact GoodEs.nil | ((with_reducible refine' GoodEs.cons ?zze ?_); (case zze => exact rfl); k_extra "m_es")
    )
  trivial
theorem dv_STRENGTH (w : World) : ∃ as, DicV PG (hd.heap_39 w.params) w [] 163 as ∧ as.lookup (Str.ofString "THEN") = none := by
  refine' ⟨asOf _, ⟨_, (GoodEs.are ?a).dict ?b, .inr (by k_is)⟩, ?c⟩
  case a => k_extra "m_es"
  case b => (simp only [asOf]; decide +kernel)
  case c => exact Option.isNone_iff_eq_none.mp (by simp only [asOf]; decide +kernel)
theorem c_plain_operand {i : Nat} {d : List Nat} (H : AmbP w c) (hk : 3 ≤ c.k) (T : TokIn nb TL ts) (hs : Sub nb n) (h1 : (tokK ts i).1 = Str.ofString "name") (h2 : (tokK ts i).2 = S d) (h3 : d.length = 1) (h4 : tokK ts (i + 1) ≠ (Str.ofString "sign", Str.ofString "("))
    (h : ∀ tl n', GB tl n n' → ∀ a, DatIn tl (.ref a) (.tuple [.str (Str.ofString "name"), .str (S d)]) → Q (.ref a) l n') : W PG w c (call (.ref 264) [.ref TL, .int (i : Int) t]) Q E l n := by
  k_extra "m_enter"
  k_extra "m_go"
  rw [h1, h2]
  k_extra "m_go"
  rw [decide_eq_false h4]
  k_extra "m_go"
  rw [show (S (d.take 2) == Str.ofString "FN") = false from by rw [show Str.ofString "FN" = S [70, 78] from by decide +kernel, S_beq]; refine decide_eq_false fun e => ?_; have := congrArg List.length e; simp at this; omega]
  k_extra "m_go"
  exact h _ _ (by k_extra "m_gb") _ (by k_extra "m_dat")
theorem kw_41 : True := by
  k_with "m_C" => (
    first
      | ((with_reducible refine' c_plain_operand ?zzH ?zzhk ?zzT ?zzhs ?zzh1 ?zzh2 ?zzh3 ?zzh4 ?_); (case zzH => assumption); (case zzhk => omega); (case zzT => assumption); (case zzhs => k_extra "m_sb"); (case zzh1 => assumption); (case zzh2 => assumption); (case zzh3 => assumption); (case zzh4 => assumption); refine gb_all ?_; intro _ _ _)
      | (with_reducible refine' w_isnot_refnone ?_)
      | ((with_reducible refine' w_un ?_))
      | ((with_reducible refine' w_neg_int ?_); intro _)
      | ((with_reducible refine' w_item_last1 ?zzhm ?zzhv ?zzhs ?zzhg ?_); (case zzhm => with_reducible k_extra "m_loc"); (case zzhv => first | with_reducible exact List.getLast?_singleton | with_reducible exact List.getLast?_concat); (case zzhs => with_unfolding_all rfl); (case zzhg => with_unfolding_all exact fun _ => rfl))
    )
  trivial
theorem c_take_operand {X dx a1 a2 a3 LV : Addr} {KN : Value} {sl : Array (Option Value)} {es : List DictEntry} {k k2 kv : Nat} {tt uu : Tok} {y : Str} {i : Nat} {d : List Nat} {n2 : Value → Led} (H : AmbP w c) (hk : 4 ≤ c.k) (T : TokIn nb TL ts) (hs : Sub nb n) (h1 : (tokK ts i).1 = Str.ofString "name") (h2 : (tokK ts i).2 = S d) (h3 : d.length = 1) (h4 : tokK ts (i + 1) ≠ (Str.ofString "sign", Str.ofString "("))
    (hv : (LV, PySem.W.listOf [.ref X].toArray kv) ∈ n) (hx : (X, instO 232 dx sl) ∈ n) (hd : (dx, dictOf es k) ∈ n) (he : EsLev w es tt y uu a1 a2 a3) (ho : (a2, PySem.W.listOf ([] : List Value).toArray k2) ∈ n)
    (hu : ∀ v, RepAt a2 (PySem.W.listOf ([] : List Value).toArray k2) (PySem.W.listOf ([] ++ [v]).toArray (k2 + 1)) n (n2 v))
    (h : ∀ v tl n', GB tl (n2 v) n' → ∀ a t, DatIn tl v (.tuple [.str (Str.ofString "name"), .str (S d)]) → (a, tupObj [.int ((i + 1 : Nat) : Int) t, .bool true]) ∈ tl → Q (.ref a) l n') : W PG w c (call (.ref 271) [.ref LV, .ref TL, .int (i : Int) t, KN]) Q E l n := by
  k_extra "m_enter"
  k_extra "m_go"
  refine w_append (.app (hu _)) (Nat.zero_le _) ?_
  k_extra "m_go"
  exact h _ _ _ (by k_extra "m_gb") _ _ (by k_extra "m_dat") (by with_reducible k_extra "m_loc")
theorem kw_42 : True := by
  k_with "m_C" => (
    first
      | ((with_reducible refine' w_inD ?zzH ?zzhd ?zzhs ?zzhm ?_); (case zzH => assumption); (case zzhd => with_reducible assumption); (case zzhs => first | exact fun q h => (nomatch h) | k_extra "m_sb"); (case zzhm => first | assumption | decide +kernel))
      | (with_reducible refine' w_cbool ?_)
    )
  trivial
theorem c_take_operator {X dx a1 a2 a3 LV : Addr} {sl : Array (Option Value)} {es : List DictEntry} {k kv : Nat} {tt uu : Tok} {y : Str} {i : Nat} (H : AmbP w c) (hk : 3 ≤ c.k) (T : TokIn nb TL ts) (hs : Sub nb n) (ht : tokK ts i = (Str.ofString "word", Str.ofString "THEN"))
    (hv : (LV, PySem.W.listOf [.ref X].toArray kv) ∈ n) (hx : (X, instO 232 dx sl) ∈ n) (hd : (dx, dictOf es k) ∈ n) (he : EsLev w es tt y uu a1 a2 a3)
    (h : ∀ tl n', GB tl n n' → ∀ a t u, (a, tupObj [.int (i : Int) t, .str (Str.ofString "end") u]) ∈ tl → Q (.ref a) l n') : W PG w c (call (.ref 278) [.ref LV, .ref TL, .int (i : Int) t]) Q E l n := by
  obtain ⟨as, hD, hl⟩ := dv_STRENGTH w
  have h1 : (tokK ts i).1 = Str.ofString "word" := by rw [ht]
  have h2 : (tokK ts i).2 = Str.ofString "THEN" := by rw [ht]
  k_extra "m_enter"
  k_extra "m_go"
  rw [h1, h2]
  k_extra "m_go"
  rw [hl]
  k_extra "m_go"
  exact h _ _ (by k_extra "m_gb") _ _ _ (by with_reducible k_extra "m_loc")
theorem kw_43 : True := by
  k_with "m_C" => (
    first
      | ((with_reducible refine' w_cw_K ?zzH ?zzhk ?zzhe ?zzha ?_); (case zzH => assumption); (case zzhk => first | exact lv_keep _); (case zzhe => with_unfolding_all rfl); (case zzha => with_unfolding_all rfl))
      | ((with_reducible refine' c_Level ?zzH ?zzhk ?_); (case zzH => assumption); (case zzhk => omega); intro _ _ _ _ _ _ _ _ _ _)
    )
  trivial
theorem kw_44 : True := by
  k_with "m_C" => (
    first
      | ((with_reducible refine' c_take_operand ?zzH ?zzhk ?zzT ?zzhs ?zzh1 ?zzh2 ?zzh3 ?zzh4 ?zzhv ?zzhx ?zzhd ?zzhe ?zzho ?zzhu ?_); (case zzH => assumption); (case zzhk => omega); (case zzT => assumption); (case zzhs => k_extra "m_sb"); (case zzh1 => assumption); (case zzh2 => assumption); (case zzh3 => assumption); (case zzh4 => assumption); (case zzhv => with_reducible k_extra "m_loc"); (case zzhx => with_reducible k_extra "m_loc"); (case zzhd => with_reducible k_extra "m_loc"); (case zzhe => with_reducible assumption); (case zzho => with_reducible k_extra "m_loc"); (case zzhu => (intro _; with_reducible k_extra "m_rep")); intro _; refine gb_all ?_; intro _ _ _ _ _)
      | ((with_reducible refine' c_take_operator ?zzH ?zzhk ?zzT ?zzhs ?zzht ?zzhv ?zzhx ?zzhd ?zzhe ?_); (case zzH => assumption); (case zzhk => omega); (case zzT => assumption); (case zzhs => k_extra "m_sb"); (case zzht => assumption); (case zzhv => with_reducible k_extra "m_loc"); (case zzhx => with_reducible k_extra "m_loc"); (case zzhd => with_reducible k_extra "m_loc"); (case zzhe => with_reducible assumption); refine gb_all ?_; intro _ _ _ _ _)
      | ((with_reducible refine' c_finished ?zzH ?zzhk ?zzhx ?zzhd ?zzhx' ?zzhd' ?zzhe ?zzh3 ?zzh2 ?zzhu ?_); (case zzH => assumption); (case zzhk => omega); (case zzhx => with_reducible k_extra "m_loc"); (case zzhd => with_reducible k_extra "m_loc"); (case zzhe => with_reducible assumption); (case zzh3 => with_reducible k_extra "m_loc"); (case zzh2 => with_reducible k_extra "m_loc"); (case zzhu => with_reducible k_extra "m_rep"); (case zzhx' => with_reducible k_extra "m_loc"); (case zzhd' => with_reducible k_extra "m_loc"); refine grown_all ?_; intro _)
      | ((with_reducible refine' w_item_list0 ?zzhm ?zzhv ?zzhs ?zzhg ?_); (case zzhm => with_reducible k_extra "m_loc"); (case zzhv => with_reducible exact first_of); (case zzhs => with_unfolding_all rfl); (case zzhg => with_unfolding_all exact fun _ => rfl))
    )
  trivial
theorem c_expression {i : Nat} {d : List Nat} (H : AmbP w c) (hk : 5 ≤ c.k) (T : TokIn nb TL ts) (hs : Sub nb n) (h1 : (tokK ts i).1 = Str.ofString "name") (h2 : (tokK ts i).2 = S d) (h3 : d.length = 1) (ht : tokK ts (i + 1) = (Str.ofString "word", Str.ofString "THEN"))
    (h : ∀ tl n', GB tl n n' → ∀ a v t, (a, tupObj [v, .int ((i + 1 : Nat) : Int) t]) ∈ tl → DatIn tl v (.tuple [.str (Str.ofString "name"), .str (S d)]) → Q (.ref a) l n') : W PG w c (call (.ref 285) [.ref TL, .int (i : Int) t]) Q E l n := by
  have h4 : tokK ts (i + 1) ≠ (Str.ofString "sign", Str.ofString "(") := by rw [ht]; decide +kernel
  k_extra "m_enter"
  k_extra "m_go"
  rename_i X dx a1 a2 a3 es k0 tt uu hes LV hLV td tl0 KN vs0 x0 hKN hs0 hs1 B hB
  let loc : Tok → Nat → Str → Tok → Option Value → Loc := fun t i due td wh => [(Str.ofString "tokens", some (.ref TL)), (Str.ofString "at", some (.int (i : Nat) t)), (Str.ofString "levels", some (.ref LV)), (Str.ofString "due", some (.str due td)), (Str.ofString "known", some (.ref KN)), (Str.ofString "is_whole", wh)]
  let N2 : List Value → Nat → Led := fun ys k => (B, tupObj [.ref LV, .str (Str.ofString "operand") td, .ref KN]) :: (tl0 ++ (LV, PySem.W.listOf [.ref X].toArray 0) :: (a3, PySem.W.listOf ([] : List Value).toArray 0) :: (a2, PySem.W.listOf ys.toArray k) :: (a1, PySem.W.listOf ([] : List Value).toArray 0) :: (X, instO 232 dx #[]) :: (dx, dictOf es k0) :: n)
  refine w_loop (fun j l' n' => (j = 2 ∧ l' = loc t i (Str.ofString "operand") td none ∧ n' = N2 [] 0) ∨
      (j = 1 ∧ ∃ v tl ta td' wh, l' = loc ta (i + 1) (Str.ofString "operator") td' wh ∧ n' = tl ++ N2 ([] ++ [v]) 1 ∧ DatIn tl v (.tuple [.str (Str.ofString "name"), .str (S d)])) ∨
      (j = 0 ∧ ∃ v tl ta td' wh, l' = loc ta (i + 1) (Str.ofString "end") td' wh ∧ n' = tl ++ N2 ([] ++ [v]) 1 ∧ DatIn tl v (.tuple [.str (Str.ofString "name"), .str (S d)])))
    (fun l' n' => ∃ v tl ta td' wh, l' = loc ta (i + 1) (Str.ofString "end") td' wh ∧ n' = tl ++ N2 ([] ++ [v]) 1 ∧ DatIn tl v (.tuple [.str (Str.ofString "name"), .str (S d)])) 2 (.inl ⟨rfl, rfl, rfl⟩) ?_ ?_
  · rintro l' n' ⟨v, tl, ta, td', wh, rfl, rfl, hdv⟩
    show W PG w _ _ _ _ _ _
    simp only [loc, N2, List.nil_append]
    k_extra "m_go"
    exact h _ _ (by k_extra "m_gb") _ _ _ (by with_reducible k_extra "m_loc") (by k_extra "m_dat")
  · rintro E3 j l' n' (⟨rfl, rfl, rfl⟩ | ⟨rfl, v, tl, ta, td', wh, rfl, rfl, hdv⟩ | ⟨rfl, v, tl, ta, td', wh, rfl, rfl, hdv⟩)
    · simp only [loc, N2]
      k_extra "m_go"
      exact ⟨1, by decide, .inr (.inl ⟨rfl, _, _, _, _, _, rfl, rfl, by assumption⟩)⟩
    · simp only [loc, N2]
      k_extra "m_go"
      rename_i tl2 _ _ _ _
      exact ⟨0, by decide, .inr (.inr ⟨rfl, v, tl2 ++ tl, _, _, _, rfl, (List.append_assoc _ _ _).symm, by k_extra "m_dat"⟩)⟩
    · simp only [loc, N2]
      k_extra "m_go"
      exact ⟨v, tl, ta, td', wh, rfl, rfl, hdv⟩
end

-- ===== Ly
theorem g_read_let (w : World) : ∃ a, nsIn (hd.heap_39 w.params) mainGlobals (Str.ofString "read_let") = some (some (.ref a)) := ⟨_, by k_is⟩
theorem g_read_print (w : World) : ∃ a, nsIn (hd.heap_39 w.params) mainGlobals (Str.ofString "read_print") = some (some (.ref a)) := ⟨_, by k_is⟩
theorem g_read_input (w : World) : ∃ a, nsIn (hd.heap_39 w.params) mainGlobals (Str.ofString "read_input") = some (some (.ref a)) := ⟨_, by k_is⟩
theorem g_read_line (w : World) : ∃ a, nsIn (hd.heap_39 w.params) mainGlobals (Str.ofString "read_line") = some (some (.ref a)) := ⟨_, by k_is⟩
theorem g_read_on (w : World) : ∃ a, nsIn (hd.heap_39 w.params) mainGlobals (Str.ofString "read_on") = some (some (.ref a)) := ⟨_, by k_is⟩
theorem g_read_return (w : World) : ∃ a, nsIn (hd.heap_39 w.params) mainGlobals (Str.ofString "read_return") = some (some (.ref a)) := ⟨_, by k_is⟩
theorem g_read_restore (w : World) : ∃ a, nsIn (hd.heap_39 w.params) mainGlobals (Str.ofString "read_restore") = some (some (.ref a)) := ⟨_, by k_is⟩
theorem g_read_resume (w : World) : ∃ a, nsIn (hd.heap_39 w.params) mainGlobals (Str.ofString "read_resume") = some (some (.ref a)) := ⟨_, by k_is⟩
theorem g_read_for (w : World) : ∃ a, nsIn (hd.heap_39 w.params) mainGlobals (Str.ofString "read_for") = some (some (.ref a)) := ⟨_, by k_is⟩
theorem g_read_while (w : World) : ∃ a, nsIn (hd.heap_39 w.params) mainGlobals (Str.ofString "read_while") = some (some (.ref a)) := ⟨_, by k_is⟩
theorem g_read_middle (w : World) : ∃ a, nsIn (hd.heap_39 w.params) mainGlobals (Str.ofString "read_middle") = some (some (.ref a)) := ⟨_, by k_is⟩
theorem g_read_mat (w : World) : ∃ a, nsIn (hd.heap_39 w.params) mainGlobals (Str.ofString "read_mat") = some (some (.ref a)) := ⟨_, by k_is⟩
theorem g_read_def (w : World) : ∃ a, nsIn (hd.heap_39 w.params) mainGlobals (Str.ofString "read_def") = some (some (.ref a)) := ⟨_, by k_is⟩
theorem g_read_dim (w : World) : ∃ a, nsIn (hd.heap_39 w.params) mainGlobals (Str.ofString "read_dim") = some (some (.ref a)) := ⟨_, by k_is⟩
theorem g_read_erase (w : World) : ∃ a, nsIn (hd.heap_39 w.params) mainGlobals (Str.ofString "read_erase") = some (some (.ref a)) := ⟨_, by k_is⟩
theorem g_read_option (w : World) : ∃ a, nsIn (hd.heap_39 w.params) mainGlobals (Str.ofString "read_option") = some (some (.ref a)) := ⟨_, by k_is⟩
theorem g_read_data (w : World) : ∃ a, nsIn (hd.heap_39 w.params) mainGlobals (Str.ofString "read_data") = some (some (.ref a)) := ⟨_, by k_is⟩
theorem g_read_read (w : World) : ∃ a, nsIn (hd.heap_39 w.params) mainGlobals (Str.ofString "read_read") = some (some (.ref a)) := ⟨_, by k_is⟩
theorem g_read_swap (w : World) : ∃ a, nsIn (hd.heap_39 w.params) mainGlobals (Str.ofString "read_swap") = some (some (.ref a)) := ⟨_, by k_is⟩
theorem g_read_error (w : World) : ∃ a, nsIn (hd.heap_39 w.params) mainGlobals (Str.ofString "read_error") = some (some (.ref a)) := ⟨_, by k_is⟩
theorem g_read_randomize (w : World) : ∃ a, nsIn (hd.heap_39 w.params) mainGlobals (Str.ofString "read_randomize") = some (some (.ref a)) := ⟨_, by k_is⟩
theorem g_read_open (w : World) : ∃ a, nsIn (hd.heap_39 w.params) mainGlobals (Str.ofString "read_open") = some (some (.ref a)) := ⟨_, by k_is⟩
theorem g_read_close (w : World) : ∃ a, nsIn (hd.heap_39 w.params) mainGlobals (Str.ofString "read_close") = some (some (.ref a)) := ⟨_, by k_is⟩
theorem g_read_field (w : World) : ∃ a, nsIn (hd.heap_39 w.params) mainGlobals (Str.ofString "read_field") = some (some (.ref a)) := ⟨_, by k_is⟩
theorem g_read_lset (w : World) : ∃ a, nsIn (hd.heap_39 w.params) mainGlobals (Str.ofString "read_lset") = some (some (.ref a)) := ⟨_, by k_is⟩
theorem g_read_rset (w : World) : ∃ a, nsIn (hd.heap_39 w.params) mainGlobals (Str.ofString "read_rset") = some (some (.ref a)) := ⟨_, by k_is⟩
theorem g_read_get (w : World) : ∃ a, nsIn (hd.heap_39 w.params) mainGlobals (Str.ofString "read_get") = some (some (.ref a)) := ⟨_, by k_is⟩
theorem g_read_put (w : World) : ∃ a, nsIn (hd.heap_39 w.params) mainGlobals (Str.ofString "read_put") = some (some (.ref a)) := ⟨_, by k_is⟩
theorem g_read_write (w : World) : ∃ a, nsIn (hd.heap_39 w.params) mainGlobals (Str.ofString "read_write") = some (some (.ref a)) := ⟨_, by k_is⟩
theorem g_read_chain (w : World) : ∃ a, nsIn (hd.heap_39 w.params) mainGlobals (Str.ofString "read_chain") = some (some (.ref a)) := ⟨_, by k_is⟩
theorem g_read_common (w : World) : ∃ a, nsIn (hd.heap_39 w.params) mainGlobals (Str.ofString "read_common") = some (some (.ref a)) := ⟨_, by k_is⟩
noncomputable def keysD : List Str := [Str.ofString "DEF", Str.ofString "DIM", Str.ofString "ERASE", Str.ofString "OPTION", Str.ofString "DATA", Str.ofString "READ", Str.ofString "SWAP", Str.ofString "ERROR", Str.ofString "RANDOMIZE"]
noncomputable def keysF : List Str := [Str.ofString "OPEN", Str.ofString "CLOSE", Str.ofString "FIELD", Str.ofString "LSET", Str.ofString "RSET", Str.ofString "GET", Str.ofString "PUT", Str.ofString "WRITE", Str.ofString "CHAIN", Str.ofString "COMMON"]
noncomputable def keysS : List Str := [Str.ofString "LET", Str.ofString "PRINT", Str.ofString "INPUT", Str.ofString "LINE", Str.ofString "GOTO", Str.ofString "GOSUB", Str.ofString "ON", Str.ofString "RETURN", Str.ofString "RESTORE", Str.ofString "RESUME", Str.ofString "FOR", Str.ofString "NEXT", Str.ofString "WHILE", Str.ofString "MID$", Str.ofString "MAT"]
theorem kw_45 : True := by
  k_with "m_carr" => (
    first | with_reducible exact carr_nil | ((with_reducible refine' carr_cons ?zzh); (case zzh => k_extra "m_carr"))
    )
  trivial
section
variable {w : World} {c : Cx} {E : Value → Shared → Prop} {l : Loc} {n : Led} {t u : Tok} {Q : Value → Loc → Led → Prop} {TL : Addr} {ts : List Tk} {nb : Led}
theorem kw_46 : True := by
  k_with "m_C" => (
    first
      | ((with_reducible refine' w_dict ?zzH ?zzhall ?zzhl ?zzh0 ?zzhlen ?_); (case zzH => assumption); (case zzhall => exact rfl); (case zzhl => exact rfl); (case zzh0 => exact fun e => (nomatch e)); (case zzhlen => exact Nat.le_of_ble_eq_true rfl); intro _ _ _)
      | (with_reducible refine' w_evp ?_)
      | (with_reducible refine' w_evp0 ?_)
    )
  trivial
theorem c_declarations (H : AmbP w c) (hk : 1 ≤ c.k) (h : ∀ tl n', GB tl n n' → ∀ d o kvs, (d, o) ∈ tl → o.IsDictOf (strKind PG w) kvs → kvs.map (·.1) = keysD → (d == sysModules) = false → (∀ q ∈ n, q.1 < d) → Q (.ref d) l n') : W PG w c (call (.ref 451) []) Q E l n := by
  obtain ⟨a0, g0⟩ := g_read_def w
  obtain ⟨a1, g1⟩ := g_read_dim w
  obtain ⟨a2, g2⟩ := g_read_erase w
  obtain ⟨a3, g3⟩ := g_read_option w
  obtain ⟨a4, g4⟩ := g_read_data w
  obtain ⟨a5, g5⟩ := g_read_read w
  obtain ⟨a6, g6⟩ := g_read_swap w
  obtain ⟨a7, g7⟩ := g_read_error w
  obtain ⟨a8, g8⟩ := g_read_randomize w
  k_extra "m_enter"
  k_extra "m_go"
  refine dict_fin (kvs := [(Str.ofString "DEF", .ref a0), (Str.ofString "DIM", .ref a1), (Str.ofString "ERASE", .ref a2), (Str.ofString "OPTION", .ref a3), (Str.ofString "DATA", .ref a4), (Str.ofString "READ", .ref a5), (Str.ofString "SWAP", .ref a6), (Str.ofString "ERROR", .ref a7), (Str.ofString "RANDOMIZE", .ref a8)]) (by k_extra "m_carr") (by simp only [List.map_cons, List.map_nil]; decide +kernel) fun o ho => ?_
  k_extra "m_go"
  exact h _ _ (by k_extra "m_gb") _ _ _ (by with_reducible k_extra "m_loc") ho rfl (by assumption) (by assumption)
theorem c_file_statements (H : AmbP w c) (hk : 1 ≤ c.k) (h : ∀ tl n', GB tl n n' → ∀ d o kvs, (d, o) ∈ tl → o.IsDictOf (strKind PG w) kvs → kvs.map (·.1) = keysF → (d == sysModules) = false → (∀ q ∈ n, q.1 < d) → Q (.ref d) l n') : W PG w c (call (.ref 550) []) Q E l n := by
  obtain ⟨a0, g0⟩ := g_read_open w
  obtain ⟨a1, g1⟩ := g_read_close w
  obtain ⟨a2, g2⟩ := g_read_field w
  obtain ⟨a3, g3⟩ := g_read_lset w
  obtain ⟨a4, g4⟩ := g_read_rset w
  obtain ⟨a5, g5⟩ := g_read_get w
  obtain ⟨a6, g6⟩ := g_read_put w
  obtain ⟨a7, g7⟩ := g_read_write w
  obtain ⟨a8, g8⟩ := g_read_chain w
  obtain ⟨a9, g9⟩ := g_read_common w
  k_extra "m_enter"
  k_extra "m_go"
  refine dict_fin (kvs := [(Str.ofString "OPEN", .ref a0), (Str.ofString "CLOSE", .ref a1), (Str.ofString "FIELD", .ref a2), (Str.ofString "LSET", .ref a3), (Str.ofString "RSET", .ref a4), (Str.ofString "GET", .ref a5), (Str.ofString "PUT", .ref a6), (Str.ofString "WRITE", .ref a7), (Str.ofString "CHAIN", .ref a8), (Str.ofString "COMMON", .ref a9)]) (by k_extra "m_carr") (by simp only [List.map_cons, List.map_nil]; decide +kernel) fun o ho => ?_
  k_extra "m_go"
  exact h _ _ (by k_extra "m_gb") _ _ _ (by with_reducible k_extra "m_loc") ho rfl (by assumption) (by assumption)
theorem kw_47 : True := by
  k_with "m_C" => (
    first
      | ((with_reducible refine' c_declarations ?zzH ?zzhk ?_); (case zzH => assumption); (case zzhk => omega); refine gb_all ?_; intro _ _ _ _ _ _ _ _ _)
      | ((with_reducible refine' c_file_statements ?zzH ?zzhk ?_); (case zzH => assumption); (case zzhk => omega); refine gb_all ?_; intro _ _ _ _ _ _ _ _ _)
      | ((with_reducible refine' w_gm_update ?zzhm ?zzho ?_); (case zzhm => with_reducible k_extra "m_loc"); (case zzho => with_reducible assumption))
    )
  trivial
theorem c_statement_readers (H : AmbP w c) (hk : 2 ≤ c.k) (h : ∀ tl n', GB tl n n' → ∀ d o as, (d, o) ∈ tl → o.IsDictOf (strKind PG w) as → as.lookup (Str.ofString "GOTO") = some (.ref 659) → as.lookup (Str.ofString "GOSUB") = some (.ref 666) → as.lookup (Str.ofString "NEXT") = some (.ref 715) →
    as.lookup (Str.ofString "ELSE") = none → (d == sysModules) = false → Q (.ref d) l n') : W PG w c (call (.ref 729) []) Q E l n := by
  obtain ⟨a0, g0⟩ := g_read_let w
  obtain ⟨a1, g1⟩ := g_read_print w
  obtain ⟨a2, g2⟩ := g_read_input w
  obtain ⟨a3, g3⟩ := g_read_line w
  obtain ⟨a6, g6⟩ := g_read_on w
  obtain ⟨a7, g7⟩ := g_read_return w
  obtain ⟨a8, g8⟩ := g_read_restore w
  obtain ⟨a9, g9⟩ := g_read_resume w
  obtain ⟨a10, g10⟩ := g_read_for w
  obtain ⟨a12, g12⟩ := g_read_while w
  obtain ⟨a13, g13⟩ := g_read_middle w
  obtain ⟨a14, g14⟩ := g_read_mat w
  k_extra "m_enter"
  k_extra "m_go"
  refine dict_fin (kvs := [(Str.ofString "LET", .ref a0), (Str.ofString "PRINT", .ref a1), (Str.ofString "INPUT", .ref a2), (Str.ofString "LINE", .ref a3), (Str.ofString "GOTO", .ref 659), (Str.ofString "GOSUB", .ref 666), (Str.ofString "ON", .ref a6), (Str.ofString "RETURN", .ref a7), (Str.ofString "RESTORE", .ref a8), (Str.ofString "RESUME", .ref a9), (Str.ofString "FOR", .ref a10), (Str.ofString "NEXT", .ref 715), (Str.ofString "WHILE", .ref a12), (Str.ofString "MID$", .ref a13), (Str.ofString "MAT", .ref a14)]) (by k_extra "m_carr") (by simp only [List.map_cons, List.map_nil]; decide +kernel) fun o ho => ?_
  generalize hS : ([(Str.ofString "LET", .ref a0), (Str.ofString "PRINT", .ref a1), (Str.ofString "INPUT", .ref a2), (Str.ofString "LINE", .ref a3), (Str.ofString "GOTO", .ref 659), (Str.ofString "GOSUB", .ref 666), (Str.ofString "ON", .ref a6), (Str.ofString "RETURN", .ref a7), (Str.ofString "RESTORE", .ref a8), (Str.ofString "RESUME", .ref a9), (Str.ofString "FOR", .ref a10), (Str.ofString "NEXT", .ref 715), (Str.ofString "WHILE", .ref a12), (Str.ofString "MID$", .ref a13), (Str.ofString "MAT", .ref a14)] : List (Str × Value)) = kvS at ho
  have hSk : kvS.map (·.1) = keysS := by rw [← hS]; rfl
  have hl1 : ∀ more, (kvS ++ more).lookup (Str.ofString "GOTO") = some (.ref 659) := by rw [← hS]; exact fun _ => rfl
  have hl2 : ∀ more, (kvS ++ more).lookup (Str.ofString "GOSUB") = some (.ref 666) := by rw [← hS]; exact fun _ => rfl
  have hl3 : ∀ more, (kvS ++ more).lookup (Str.ofString "NEXT") = some (.ref 715) := by rw [← hS]; exact fun _ => rfl
  clear hS
  k_extra "m_go"
  rename_i d _ hdS _ _ _ _ _ _ _ _ _ _ _ _ _ _ _ tl1 d1 o1 kv1 hm1 ho1 hk1 hd1 hlt1
  have hne1 : d ≠ d1 := Nat.ne_of_lt (hlt1 (d, o) (by with_reducible k_extra "m_loc"))
  have nd1 : ((kvS ++ kv1).map (·.1)).Nodup := by rw [List.map_append, hSk, hk1]; decide +kernel
  refine w_update (by with_reducible k_extra "m_loc") ho (by with_reducible k_extra "m_loc") ho1 hne1 hd1 ?_ nd1 (fun o' => by with_reducible k_extra "m_rep") fun o2 ho2 => ?_
  · have h1 := congrArg List.length hSk; have h2 := congrArg List.length hk1
    rw [List.length_map] at h1 h2; rw [h1, h2]; decide
  k_extra "m_go"
  rename_i tl2 d2 o3 kv2 hm2 ho3 hk2 hd2 hlt2
  have hne2 : d ≠ d2 := Nat.ne_of_lt (hlt2 (d, o2) (by with_reducible k_extra "m_loc"))
  have hkk : ((kvS ++ kv1) ++ kv2).map (·.1) = (keysS ++ keysD) ++ keysF := by rw [List.map_append, List.map_append, hSk, hk1, hk2]
  have nd2 : (((kvS ++ kv1) ++ kv2).map (·.1)).Nodup := by rw [hkk]; decide +kernel
  refine w_update (by with_reducible k_extra "m_loc") ho2 (by with_reducible k_extra "m_loc") ho3 hne2 hd2 ?_ nd2 (fun o' => by with_reducible k_extra "m_rep") fun o4 ho4 => ?_
  · have h1 := congrArg List.length hkk
    rw [List.length_map, List.length_append] at h1; rw [h1]; decide
  k_extra "m_go"
  exact h _ _ (by k_extra "m_gb") _ _ _ (by with_reducible k_extra "m_loc") ho4 (by rw [List.append_assoc]; exact hl1 _) (by rw [List.append_assoc]; exact hl2 _) (by rw [List.append_assoc]; exact hl3 _) (lookup_no (by rw [hkk]; decide +kernel)) hdS
end

-- ===== Pp
/-- what the reader of statements answers: trees and what is left, or the code of a fault -/
inductive Res (α : Type)
  | ok (t : α) (r : List Tk)
  | err (x : Str)
  | stuck
noncomputable abbrev kIF : List Nat := [73, 70]
noncomputable abbrev kTHEN : List Nat := [84, 72, 69, 78]
noncomputable abbrev kELSE : List Nat := [69, 76, 83, 69]
noncomputable abbrev kGOTO : List Nat := [71, 79, 84, 79]
noncomputable abbrev kSTOP : List Nat := [83, 84, 79, 80]
noncomputable abbrev kNEXT : List Nat := [78, 69, 88, 84]
noncomputable abbrev kEND : List Nat := [69, 78, 68]
noncomputable abbrev kGOSUB : List Nat := [71, 79, 83, 85, 66]
noncomputable def dGOTO (d : List Nat) : Dat := .tuple [.str (Str.ofString "GOTO"), .int (valOf d : Nat)]
noncomputable def dGOSUB (d : List Nat) : Dat := .tuple [.str (Str.ofString "GOSUB"), .int (valOf d : Nat)]
noncomputable def dSTOP : Dat := .tuple [.str (Str.ofString "STOP")]
noncomputable def dEND : Dat := .tuple [.str (Str.ofString "END")]
noncomputable def dNEXT : Dat := .tuple [.str (Str.ofString "NEXT"), .list []]
noncomputable def dIF (a : List Nat) (x y : List Dat) : Dat := .tuple [.str (Str.ofString "IF"), .tuple [.str (Str.ofString "name"), .str (S a)], .list x, .list y]
noncomputable def sSN : Str := Str.ofString "SN"
noncomputable def sST : Str := Str.ofString "ST"
/-- does a statement end ahead of these tokens -/
noncomputable def ends : List Tk → Bool
  | [] => true
  | .col :: _ => true
  | .wd d :: _ => d == kELSE
  | _ => false
noncomputable def dropCol : List Tk → List Tk
  | .col :: r => dropCol r
  | r => r
noncomputable def pPart (P : Nat → List Tk → Res (List Dat)) (ne : Nat) (r : List Tk) : Res (List Dat) := match r with
  | .num d :: r2 => if ends r2 && decide (valOf d ≤ 65529) then (match P (ne + 1) r2 with
      | .ok t r3 => .ok (dGOTO d :: t) r3
      | e => e) else .stuck
  | r => P (ne + 1) r
noncomputable def pIf (P : Nat → List Tk → Res (List Dat)) (ne : Nat) (r : List Tk) : Res Dat :=
  if 12 ≤ ne then .err sST else match r with
  | .wd a :: .wd t :: r2 => if a ∈ wordsNo ∧ t = kTHEN then (match pPart P ne r2 with
      | .ok x r3 => (match r3 with
          | .wd e :: r4 => if e = kELSE then (match pPart P ne r4 with
              | .ok y r5 => .ok (dIF a x y) r5
              | .err c => .err c
              | .stuck => .stuck) else .stuck
          | r3 => .ok (dIF a x []) r3)
      | .err c => .err c
      | .stuck => .stuck) else .stuck
  | _ => .stuck
noncomputable def pOne (P : Nat → List Tk → Res (List Dat)) (ne : Nat) (r : List Tk) : Res Dat := match r with
  | .wd w :: r2 =>
    if w = kIF then pIf P ne r2
    else if w = kSTOP then .ok dSTOP r2
    else if w = kEND then .ok dEND r2
    else if w = kELSE then .err sSN
    else if w = kNEXT then (if ends r2 then .ok dNEXT r2 else .stuck)
    else match r2 with
      | .num d :: r3 => if valOf d ≤ 65529 then (if w = kGOTO then .ok (dGOTO d) r3 else if w = kGOSUB then .ok (dGOSUB d) r3 else .stuck) else .stuck
      | _ => .stuck
  | _ => .stuck
noncomputable def pSome : Nat → Nat → List Tk → Res (List Dat)
  | 0, _, _ => .stuck
  | f + 1, ne, r => match dropCol r with
    | [] => .ok [] []
    | t :: r2 => if 0 < ne ∧ t = .wd kELSE then .ok [] (t :: r2) else match pOne (pSome f) ne (t :: r2) with
      | .ok d r3 => if ends r3 then (match pSome f ne r3 with
          | .ok ds r4 => .ok (d :: ds) r4
          | e => e) else .stuck
      | .err c => .err c
      | .stuck => .stuck

-- ===== L1
theorem be_cls (w : World) : ∃ nm q bs sn sub ab col dd k0 k1 k2 k3 k5, (hd.heap_39 w.params).lookup 34 = some (excClassObj nm q 34 33 bs bmE true sn sub ab col dd k0 k1 k2 k3 k5 "Exception.__new__") := ⟨_, _, _, _, _, _, _, _, _, _, _, _, _, by k_is⟩
theorem be_ns (w : World) : ∃ cl d es ep sl, (hd.heap_39 w.params).lookup 33 = some ⟨cl, d, .dict es ep, sl⟩ ∧ StrKeys es ∧ nsFind es "__init__" = some (.ref 31) ∧ nsFind es "__setattr__" = none ∧ nsFind es "code" = none ∧ nsFind es "told" = none := by
  refine ⟨_, _, _, _, _, by k_is, fun e he => ?_, ?_, ?_, ?_, ?_⟩
  · simp only [List.mem_toArray, List.mem_cons, List.not_mem_nil, or_false] at he
    rcases he with rfl | rfl | rfl | rfl | rfl | rfl <;> exact ⟨_, _, rfl⟩
  all_goals with_unfolding_all rfl
theorem be_fn (w : World) : ∃ oc od name qual params body scope T doc pm an cdv ct cc osl, (hd.heap_39 w.params).lookup 31 = some ⟨oc, od, .func (ksFn name qual params body scope (.ref T) .none doc pm an cdv ct cc), osl⟩ := by
  refine ⟨_, _, _, _, _, _, _, _, _, _, _, _, _, _, _, by (refine' lk_fn ?l1 ?l2; (case l1 => k_is); (case l2 => exact rfl))⟩
section
variable {prog : Program} {w : World} {K : Frag} {p : Program} {loose : List Str}
variable {c : Cx} {E : Value → Shared → Prop} {l : Loc} {n : Led} {env : Env}
theorem wc_enterS {name qual : Str} {params : Arguments} {body : List Stmt} {scope : Scope} {dV kV doc pm cdv ct oc : Value} {an od : Option Addr} {osl : Array (Option Value)} {f cc : Addr} {vs : List Value} {ps rest : List Str}
    {Q : Value → Loc → Led → Prop} (H : Amb K p loose c) (hk : 1 ≤ c.k)
    (ho : K.lookup f = some ⟨oc, od, .func (ksFn name qual params body scope dV kV doc pm an cdv ct cc), osl⟩) (hcd : codeIn K cdv qual = true)
    (_ : params.args.map (·.arg) = ps)
    (hb : ∀ s : Shared, K.In s.heap → BindsTo s (ksFn name qual params body scope dV kV doc pm an cdv ct cc) ⟨vs, []⟩ (ps.zip vs)) (hlen : ps.length = vs.length)
    (hnd : (ps ++ rest).Nodup) (hloc : ((ps ++ rest).all fun x => scope.names.lookup x == some .local) = true)
    (hco : scope.isCoroutine = false) (hgen : scope.isGenerator = false) (hfn : scope.kind = .function) (hcell : ∀ x ∈ scope.names, x.2 ≠ .cell)
    (h : ∀ (c' : Cx) (env' : Env), Amb K p loose c' → env' = ksEnv qual scope c'.L f cdv cc → c'.cs = scope → c'.k + 1 = c.k → ∀ s, St c' (locOf ps vs rest) n s →
      _root_.PySem.wpAt (model prog w) c'.A (.func body env') (execs body env') (fun fl s' => ∃ l' n', St c' l' n' s' ∧ Q (retOf fl) l n') (Lv prog w c' env' E) s) :
    WC prog w c (.call (.ref f) ⟨vs, []⟩) Q E l n := fun s S => by
  obtain ⟨mean, mg, mb, T⟩ := H.T
  obtain ⟨A₀, base, outer, env, B, hA, hf, hke⟩ := H.B
  obtain ⟨m, F, hl⟩ := S.fr
  have hl1 : ∀ x ∈ ps ++ rest, scope.names.lookup x = some .local := fun x hx => by simpa using List.all_eq_true.mp hloc x hx
  have ndp : ps.Nodup := (List.nodup_append.mp hnd).1
  refine (ks_code_super B F H.X S.nw T hA hf hke ho hcd (by have := H.dep; omega) (hb s (H.X.keeps F.keep)) (fun y hy => hl1 _ (List.mem_append_left _ (List.of_mem_zip hy).1)) (fun g L' h₁ FG F' N' B' X' T' _ => ?_) hcell hco hgen hfn)
  have keys : (locOf ps vs rest).map (·.1) = ps ++ rest := by
    simp only [locOf, List.map_append, List.map_map]
    congr 1
    · show (ps.zip vs).map (·.1) = ps; exact map_zip_fst hlen
    · exact List.map_id _
  have hW := h { A := c.A.deeper (ksEnv qual scope L' f cdv cc), h₀ := g, L := L', s₀ := c.s₀, cs := scope, k := c.k - 1 } (ksEnv qual scope L' f cdv cc)
    ⟨X', ⟨mean, mg, mb, T'⟩, ?_, H.hd, ?_, ?_⟩ rfl rfl (by show c.k - 1 + 1 = c.k; omega)
  · refine ks_wpAt_mono (hW _ ⟨S.gens, S.drawn, S.os, ⟨_, F', fun q hq => ?_⟩, N', S.nd, ⟨hfn, fun q hq => ?_, by rw [keys]; exact hnd⟩⟩) (fun fl s' x => ?_) fun e s' x => x
    · show (ps.zip vs).reverse.lookup q.1 = q.2
      rw [lookup_rev (by rw [map_zip_fst hlen]; exact ndp)]
      rcases List.mem_append.mp hq with hq | hq
      · obtain ⟨r, hr, rfl⟩ := List.mem_map.mp hq
        exact lookup_zip_mem ndp r hr
      · obtain ⟨x, hx, rfl⟩ := List.mem_map.mp hq
        exact lookup_zip_none fun e => (List.nodup_append.mp hnd).2.2 _ e _ hx rfl
    · have : q.1 ∈ ps ++ rest := by rw [← keys]; exact List.mem_map_of_mem hq
      exact hl1 _ this
    · obtain ⟨l', n', S', q⟩ := x
      obtain ⟨m', F'', _⟩ := S'.fr
      refine ⟨L', m', n', F'', S'.nw, fun F0 N0 => ⟨l, n', ⟨S'.gens, S'.drawn, S'.os, ⟨m, F0, hl⟩, N0, S'.nd, S.lk⟩, ?_⟩⟩
      cases fl <;> exact q
  · exact ⟨c.A, base, env :: outer, ksEnv qual scope L' f cdv cc, B', by show (c.A.deeper _).frames = _; exact Around.frames_deeper hA, rfl, hfn⟩
  · have := H.dep; show (c.A.depth + 1) + (c.k - 1) < _; omega
  · have := H.un; show (c.A.units + 3) + 16 * (c.k - 1) + 200 < _; omega
noncomputable def NsOf (o : Obj) (m : Str → Option Value) : Prop := ∃ es ep, o.data = .dict es ep ∧ StrKeys es ∧ UniqKeys es ∧ ∀ name, nsFind es name = m name
theorem NsOf.at {o : Obj} {m : Str → Option Value} {h : Heap} {a : Addr} (x : NsOf o m) (e : h.get? a = some o) : h.Ns1 a m := by
  obtain ⟨es, ep, a1, a2, a3, a4⟩ := x; exact ⟨o, es, ep, e, a1, a2, a3, a4⟩
theorem w_localX {cn : Str} {cs : Scope} {L a : Addr} {ccd : Value} {cl : List (Str × Addr)} {x : Str} {pos : Pos} {v : Value} {Q : Value → Loc → Led → Prop} (he : env = envX cn cs L a ccd cl) (hc : c.cs = cs) (hL : c.L = L) (hm : (x, some v) ∈ l) (hd : (x == ("__debug__" : Str)) = false) (h : Q v l n) :
    W prog w c (eval (.Name x pos) env) Q E l n := fun s S => by
  subst he hc hL
  obtain ⟨m, F, hl⟩ := S.fr
  exact nameX_L F (hl _ hm) (W.fin S h) S.lk.fn (S.lk.loc _ hm) hd
/-- a heap that keeps all but what stands at two places -/
theorem St.change {s : Shared} {h' : Heap} {tk : Nat} {n' : Led} (S : St c l n s) (k : ∀ b o, (∀ q ∈ n, q.1 ≠ b) → s.heap.get? b = some o → h'.get? b = some o)
    (hn : ∀ q ∈ n', h'.get? q.1 = some q.2 ∧ ((∃ r ∈ n, r.1 = q.1) ∨ s.heap.get? q.1 = none)) (nd : (n'.map (·.1)).Nodup) : St c l n' { s with heap := h', toks := tk } := by
  obtain ⟨m, F, hl⟩ := S.fr
  have k0 : ∀ b o, c.h₀.get? b = some o → h'.get? b = some o := fun b o e => k b o (fun q hq e2 => by have := (S.nw q hq).2.2; rw [e2, e] at this; cases this) (F.keep b o e)
  obtain ⟨oL, es, ep, hL, r⟩ := F.ns
  have kL : h'.get? c.L = some oL := k _ _ (fun q hq e2 => (S.nw q hq).2.1 e2) hL
  refine S.put ⟨m, ⟨⟨oL, es, ep, kL, r⟩, k0, F.above⟩, hl⟩ (fun q hq => ⟨(hn q hq).1, ?_, ?_⟩) nd S.lk
  · rcases (hn q hq).2 with ⟨r, hr, e⟩ | h2
    · rw [← e]; exact (S.nw r hr).2.1
    · intro e; rw [e, hL] at h2; cases h2
  · rcases (hn q hq).2 with ⟨r, hr, e⟩ | h2
    · rw [← e]; exact (S.nw r hr).2.2
    · cases g : c.h₀.get? q.1 with
      | none => rfl
      | some o => rw [F.keep _ _ g] at h2; cases h2
theorem w_xset0 {e : Addr} {vs : Array Value} {sl : Array (Option Value)} {n0 : Led} {name : Str} {v : Value} {Q : Unit → Loc → Led → Prop} (H : AmbP w c)
    (hx : n = (e, ⟨.ref 34, none, .fields vs, sl⟩) :: n0) (hna : ∀ cl d es ep sl, (hd.heap_39 w.params).lookup 33 = some ⟨cl, d, .dict es ep, sl⟩ → nsFind es name = none) (hB : typeLookup (.type "Exception") name = pure none)
    (h : ∀ dx oD, NsOf oD (fun y => if y = name then some v else none) → (∀ q ∈ n, q.1 ≠ dx) → Q () l ((dx, oD) :: (e, ⟨.ref 34, some dx, .fields vs, sl⟩) :: n0)) : W PG w c (setAttr (.ref e) name v) Q E l n := fun s S => by
  subst hx
  obtain ⟨nm, q, bs, sn, sub, ab, col, dd, k0, k1, k2, k3, k5, hC⟩ := be_cls w
  obtain ⟨cl, d, es, ep, sl2, hN, hstr, hi, hs, _, _⟩ := be_ns w
  have hna' := hna _ _ _ _ _ hN
  obtain ⟨m, F, hl⟩ := S.fr
  have X := H.X.keeps F.keep
  have hNs : s.heap.Ns 33 (nsFind es) := ⟨_, es, ep, X _ _ hN, rfl, hstr, fun _ => rfl⟩
  have hex := (S.nw _ (.head _)).1
  have hnd := List.nodup_cons.mp S.nd
  obtain ⟨hp, g, dr, t, os⟩ := s
  refine xs_store0 PySem.F.store_Exception (X _ _ hC) hNs hs hna' hB hex fun h' tk e1 e2 e3 => ?_
  obtain ⟨oD, es2, ep2, hD, r⟩ := e2
  have hfr : ∀ q ∈ ((e, ⟨.ref 34, none, .fields vs, sl⟩) :: n0 : Led), q.1 ≠ hp.objs.size := fun q hq => Nat.ne_of_lt (Heap.lt_size (S.nw q hq).1)
  refine W.fin (S.change (tk := tk) (fun b o hb hbo => e3 b o (fun z => hb _ (.head _) z.symm) hbo) (fun q hq => ?_) ?_) (h hp.objs.size oD ⟨es2, ep2, r⟩ hfr)
  · rcases List.mem_cons.mp hq with rfl | hq
    · exact ⟨hD, .inr (Heap.get?_none_of_le (Nat.le_refl _))⟩
    · rcases List.mem_cons.mp hq with rfl | hq
      · exact ⟨e1, .inl ⟨_, .head _, rfl⟩⟩
      · refine ⟨e3 _ _ (fun z => hnd.1 ?_) (S.nw _ (.tail _ hq)).1, .inl ⟨q, .tail _ hq, rfl⟩⟩
        exact List.mem_map.mpr ⟨q, hq, z⟩
  · refine List.nodup_cons.mpr ⟨fun hm => ?_, S.nd⟩
    obtain ⟨q, hq, e⟩ := List.mem_map.mp hm
    rcases List.mem_cons.mp hq with rfl | hq
    · exact hfr _ (.head _) e
    · exact hfr _ (.tail _ hq) e
theorem w_xset1 {e dx : Addr} {vs : Array Value} {sl : Array (Option Value)} {oD : Obj} {mA : Str → Option Value} {y : Str} {u : Value} {n0 : Led} {name : Str} {v : Value} {Q : Unit → Loc → Led → Prop} (H : AmbP w c)
    (hx : n = (dx, oD) :: (e, ⟨.ref 34, some dx, .fields vs, sl⟩) :: n0) (hA : NsOf oD mA) (hmA : mA = fun z => if z = y then some u else none) (hna : ∀ cl d es ep sl, (hd.heap_39 w.params).lookup 33 = some ⟨cl, d, .dict es ep, sl⟩ → nsFind es name = none) (hB : typeLookup (.type "Exception") name = pure none)
    (h : ∀ oD', NsOf oD' (fun y => if y = name then some v else mA y) → Q () l ((dx, oD') :: (e, ⟨.ref 34, some dx, .fields vs, sl⟩) :: n0)) : W PG w c (setAttr (.ref e) name v) Q E l n := fun s S => by
  subst hx
  obtain ⟨nm, q, bs, sn, sub, ab, col, dd, k0, k1, k2, k3, k5, hC⟩ := be_cls w
  obtain ⟨cl, d, es, ep, sl2, hN, hstr, hi, hs, _, _⟩ := be_ns w
  have hna' := hna _ _ _ _ _ hN
  obtain ⟨m, F, hl⟩ := S.fr
  have X := H.X.keeps F.keep
  have hNs : s.heap.Ns 33 (nsFind es) := ⟨_, es, ep, X _ _ hN, rfl, hstr, fun _ => rfl⟩
  have hdx := (S.nw _ (.head _)).1
  have hex := (S.nw _ (.tail _ (.head _))).1
  have hnd := List.nodup_cons.mp S.nd
  have hnd2 := List.nodup_cons.mp hnd.2
  have hed : dx ≠ e := fun z => hnd.1 (by rw [z]; exact .head _)
  have heC : e ≠ 34 := fun z => by
    have h1 := (S.nw _ (.tail _ (.head _))).2.2
    have h2 := H.X _ _ hC
    rw [show e = 34 from z, h2] at h1; cases h1
  obtain ⟨hp, g, dr, t, os⟩ := s
  refine store_attr (ns := [y]) PySem.F.store_Exception (X _ _ hC) hNs hs hna' hB heC ⟨_, hex, rfl, fun _ => nofun, .inr ⟨dx, rfl, hed, hA.at hdx⟩⟩ (fun h' tk e1 e2 e3 => ?_) (by rw [hmA]; exact Within.cons y u Within.nil) (Nat.le_of_ble_eq_true rfl)
  obtain ⟨o₁, f1, f2, f3, f4, f5⟩ := e3 _ hex
  obtain ⟨o₂, g1, g2, g3, g4⟩ := e1
  rw [f1] at g1
  obtain rfl := Option.some.inj g1
  have f6 := f5 dx rfl
  have g5 : h'.Ns1 dx fun y => if y = name then some v else mA y := by
    rcases g4 with ⟨g, _⟩ | ⟨d2, g, _, hz⟩
    · rw [f6] at g; cases g
    · rw [f6] at g; obtain rfl := Option.some.inj g; exact hz
  obtain ⟨oD', es2, ep2, hD, r⟩ := g5
  have ho1 : o₁ = ⟨.ref 34, some dx, .fields vs, sl⟩ := by
    obtain ⟨a, b, c, d⟩ := o₁
    dsimp only at f2 f3 f4 f6
    subst f2 f3 f4 f6; rfl
  refine W.fin (S.change (tk := tk) (n' := (dx, oD') :: (e, ⟨.ref 34, some dx, .fields vs, sl⟩) :: n0) (fun b o hb hbo => e2 b o (fun z => hb _ (.tail _ (.head _)) z.symm) (fun o0 d0 q1 q2 z => ?_) hbo) (fun q hq => ?_) S.nd) (h oD' ⟨es2, ep2, r⟩)
  · rw [hex] at q1; obtain rfl := Option.some.inj q1
    exact hb _ (.head _) (by rw [z]; exact Option.some.inj q2)
  · rcases List.mem_cons.mp hq with rfl | hq
    · exact ⟨hD, .inl ⟨_, .head _, rfl⟩⟩
    · rcases List.mem_cons.mp hq with rfl | hq
      · exact ⟨by rw [f1, ho1], .inl ⟨_, .tail _ (.head _), rfl⟩⟩
      · refine ⟨e2 _ _ (fun z => hnd2.1 ?_) (fun o0 d0 q1 q2 z => hnd.1 ?_) (S.nw _ (.tail _ (.tail _ hq))).1, .inl ⟨q, .tail _ (.tail _ hq), rfl⟩⟩
        · exact List.mem_map.mpr ⟨q, hq, z⟩
        · rw [hex] at q1; obtain rfl := Option.some.inj q1
          have : d0 = dx := (Option.some.inj q2).symm
          rw [← this]; exact .tail _ (List.mem_map.mpr ⟨q, hq, z⟩)
theorem c_be_init {e T0 : Addr} {cv av : Value} {n0 : Led} {Q : Value → Loc → Led → Prop} (H : AmbP w c) (hk : 2 ≤ c.k) (hx : n = (e, excO 34 T0) :: n0)
    (h : ∀ dx oD T1 mA n1, NsOf oD mA → mA (Str.ofString "code") = some cv → Sub n0 n1 → Q .none l ((dx, oD) :: (e, ⟨.ref 34, some dx, .fields #[.ref T1, .none, .none, .none, .bool false, .none], #[]⟩) :: n1)) :
    WC PG w c (.call (.ref 31) ⟨[.ref e, cv, av], []⟩) Q E l n := by
  refine wc_enterS (rest := []) H (by omega) (by (refine' lk_fn ?l1 ?l2; (case l1 => k_is); (case l2 => exact rfl))) (by k_is) (by simp only [List.map_cons, List.map_nil]; exact rfl) (fun s X => ?hb) rfl (by decide +kernel) (by decide +kernel) rfl rfl rfl (by decide) ?_
  case hb => exact BindsTo.of_defaults rfl (X _ _ (by k_is)) rfl rfl rfl
  intro c' env' H' he hc hk' s S
  simp only [locOf, List.zip_cons_cons, List.zip_nil_left, List.zip_nil_right, List.map_cons, List.map_nil, List.cons_append, List.nil_append] at S
  subst hx he
  obtain ⟨m, F0, hl⟩ := S.fr
  obtain ⟨mean, mg, mb, T⟩ := H'.T
  obtain ⟨nm, q, bs, sn, sub, ab, col, dd, k0, k1, k2, k3, k5, hC⟩ := be_cls w
  have hself := hl _ (.head _)
  have hcode := hl _ (.tail _ (.head _))
  have hnd := List.nodup_cons.mp S.nd
  have heC : e ≠ 34 := fun z => by
    have h1 := (S.nw _ (.head _)).2.2
    have h2 := H'.X _ _ hC
    rw [show e = 34 from z, h2] at h1; cases h1
  have I : InstAt s.heap e (excO 34 T0) 34 none := ⟨(S.nw _ (.head _)).1, rfl, rfl, trivial⟩
  refine ks_wpAt_execs_cons (ks_wpAt_Expr_any (ks_wpAt_MethodCall (ks_node F0 H'.X S.nw T (by k_is) rfl hself I (by k_is) rfl (by exact beq_self_eq_true _) (by k_is) (by k_is) (by k_is) (by k_is) (by decide) ?x1 ?x2 ?x3 ?x4 (by with_unfolding_all rfl) (by with_unfolding_all rfl) (fun so h1 F1 N1 hlt => ?_)) (by with_unfolding_all rfl)) ?y1 ?y2)
  case x1 => exact rfl
  case x2 => exact rfl
  case x3 => exact rfl
  case x4 => exact rfl
  case y1 => exact rfl
  case y2 => with_unfolding_all rfl
  obtain ⟨hp, g, dr, t, os⟩ := s
  have X1 := H'.X.keeps F1.keep
  have e1 := (N1 _ (.tail _ (.head _))).1
  refine xs_getMethod (N1 _ (.head _)).1 (looks_opaque X1 (by k_is)) (X1 _ _ hC) e1 rfl heC ?_
  have S1 : St c' [(Str.ofString "self", some (Value.ref e)), (Str.ofString "code", some cv), (Str.ofString "told", some av)] ((so, ks_superObj 34 e 34) :: (e, excO 34 T0) :: n0) ⟨h1, g, dr, t, os⟩ :=
    ⟨S.gens, S.drawn, S.os, ⟨m, F1, hl⟩, N1, nd_newN S.nd fun q hq => Nat.ne_of_lt (hlt q hq), S.lk⟩
  have hu : (h1.push (wrapObj e)).get? h1.objs.size = some (wrapObj e) := Heap.get?_push_at rfl rfl
  have S2 : St c' [(Str.ofString "self", some (Value.ref e)), (Str.ofString "code", some cv), (Str.ofString "told", some av)] ((h1.objs.size, wrapObj e) :: (so, ks_superObj 34 e 34) :: (e, excO 34 T0) :: n0) ⟨h1.push (wrapObj e), g, dr, t + 1, os⟩ :=
    S1.change (h' := h1.push (wrapObj e)) (tk := t + 1) (fun b o _ hb => Heap.get?_push_of_some _ hb) (fun q hq => by
      rcases List.mem_cons.mp hq with rfl | hq
      · exact ⟨hu, .inr (Heap.get?_none_of_le (Nat.le_refl _))⟩
      · exact ⟨Heap.get?_push_of_some _ (S1.nw q hq).1, .inl ⟨q, hq, rfl⟩⟩) (nd_newN S1.nd fun q hq => Nat.ne_of_lt (Heap.lt_size (S1.nw q hq).1))
  generalize hus : h1.objs.size = u at hu S2
  refine xs_callWith (x' := e) ?z1 (by with_unfolding_all rfl) (by with_unfolding_all rfl)
  refine W.go (Q := fun vs l' n' => vs = [cv] ∧ l' = [(Str.ofString "self", some (Value.ref e)), (Str.ofString "code", some cv), (Str.ofString "told", some av)] ∧ n' = ((u, wrapObj e) :: (so, ks_superObj 34 e 34) :: (e, excO 34 T0) :: n0)) ?_ S2 fun vs s3 l3 n3 S3 hv => ?_
  · refine w_spl (by with_unfolding_all rfl) (w_localX rfl hc rfl (by k_extra "m_loc") (by decide) (w_spl0 ⟨rfl, rfl, rfl⟩))
  obtain ⟨rfl, rfl, rfl⟩ := hv
  have X3 : (hd.heap_39 w.params).In s3.heap := by
    obtain ⟨m3, F3, _⟩ := S3.fr
    exact H'.X.keeps F3.keep
  have eu := (S3.nw _ (.head _)).1
  have ee := (S3.nw _ (.tail _ (.tail _ (.head _)))).1
  refine ⟨eu, xs_call (X3 _ _ hC) rfl eu ee rfl rfl ?_⟩
  have ee₁ := Heap.get?_push_of_some (tupObj [cv]) ee
  have S4 : St c' [(Str.ofString "self", some (Value.ref e)), (Str.ofString "code", some cv), (Str.ofString "told", some av)] ((e, excO 34 s3.heap.objs.size) :: (s3.heap.objs.size, tupObj [cv]) :: (u, wrapObj e) :: (so, ks_superObj 34 e 34) :: n0) { s3 with heap := (s3.heap.push (tupObj [cv])).update e (Obj.mapFields (·.setIfInBounds 0 (.ref s3.heap.objs.size))) } := by
    refine S3.change (tk := s3.toks) (fun b o hb hbo => ?_) (fun q hq => ?_) ?_
    · rw [Heap.get?_update_other _ _ (hb _ (.tail _ (.tail _ (.head _))))]
      exact Heap.get?_push_of_some _ hbo
    · have nde : e ∉ n0.map (·.1) := hnd.1
      have ht : ∀ {b : Addr} {o : Obj}, s3.heap.get? b = some o → b ≠ e → ((s3.heap.push (tupObj [cv])).update e (Obj.mapFields (·.setIfInBounds 0 (.ref s3.heap.objs.size)))).get? b = some o := fun hb hne => by
        rw [Heap.get?_update_other _ _ (Ne.symm hne)]; exact Heap.get?_push_of_some _ hb
      have nd3 := List.nodup_cons.mp S3.nd
      have nd4 := List.nodup_cons.mp nd3.2
      rcases List.mem_cons.mp hq with rfl | hq
      · exact ⟨by rw [Heap.get?_update_self _ ee₁ rfl]; rfl, .inl ⟨_, .tail _ (.tail _ (.head _)), rfl⟩⟩
      rcases List.mem_cons.mp hq with rfl | hq
      · refine ⟨?_, .inr (Heap.get?_none_of_le (Nat.le_refl _))⟩
        rw [Heap.get?_update_other _ _ (Nat.ne_of_lt (Heap.lt_size ee))]
        exact Heap.get?_push_at rfl rfl
      rcases List.mem_cons.mp hq with rfl | hq
      · exact ⟨ht eu fun z => nd3.1 (by rw [show u = e from z]; exact .tail _ (.head _)), .inl ⟨_, .head _, rfl⟩⟩
      rcases List.mem_cons.mp hq with rfl | hq
      · exact ⟨ht (S3.nw _ (.tail _ (.head _))).1 fun z => nd4.1 (by rw [show so = e from z]; exact .head _), .inl ⟨_, .tail _ (.head _), rfl⟩⟩
      · exact ⟨ht (S3.nw _ (.tail _ (.tail _ (.tail _ hq)))).1 fun z => nde (List.mem_map.mpr ⟨q, hq, z⟩), .inl ⟨q, .tail _ (.tail _ (.tail _ hq)), rfl⟩⟩
    · have nd3 := S3.nd
      have hsz : ∀ q ∈ ((u, wrapObj e) :: (so, ks_superObj 34 e 34) :: (e, excO 34 T0) :: n0 : Led), q.1 ≠ s3.heap.objs.size := fun q hq => Nat.ne_of_lt (Heap.lt_size (S3.nw q hq).1)
      have h1 := hsz _ (.head _)
      have h2 := hsz _ (.tail _ (.head _))
      have h3 := hsz _ (.tail _ (.tail _ (.head _)))
      have h4 : s3.heap.objs.size ∉ n0.map (·.1) := fun hm => by
        obtain ⟨q, hq, z⟩ := List.mem_map.mp hm
        exact hsz q (.tail _ (.tail _ (.tail _ hq))) z
      simp only [List.map_cons, List.nodup_cons, List.mem_cons, not_or] at nd3 ⊢
      obtain ⟨⟨a1, a2, a3⟩, ⟨a4, a5⟩, a6, a7⟩ := nd3
      exact ⟨⟨h3, Ne.symm a2, Ne.symm a4, a6⟩, ⟨Ne.symm h1, Ne.symm h2, h4⟩, ⟨a1, a3⟩, a5, a7⟩
  show _root_.PySem.wpAt _ _ _ _ _ _ _
  refine _root_.PySem.wpAt_of_wpAny (W.go (Q := fun fl _ n' => Q (retOf fl) l n') ?_ S4 fun fl s5 l5 n5 S5 hq => ⟨l5, n5, S5, hq⟩)
  clear S4 ee₁ eu ee X3 S3 S2 hu S1
  refine w_cons (w_assignA (by with_unfolding_all rfl) (w_localX rfl hc rfl (by k_extra "m_loc") (by decide) (w_localX rfl hc rfl (by k_extra "m_loc") (by decide) (w_xset0 H' rfl ?_ ?_ (fun dx oD hD hlt2 => ?_)))))
  · intro cl d es ep sl h1; obtain ⟨_, _, _, _, _, h2, _, _, _, h3, _⟩ := be_ns w; rw [h2] at h1; cases h1; exact h3
  · with_unfolding_all rfl
  refine sq_next (w_last (w_assignA (by with_unfolding_all rfl) (w_localX rfl hc rfl (by k_extra "m_loc") (by decide) (w_localX rfl hc rfl (by k_extra "m_loc") (by decide) (w_xset1 H' rfl hD rfl ?_ ?_ (fun oD' hD' => ?_))))))
  · intro cl d es ep sl h1; obtain ⟨_, _, _, _, _, h2, _, _, _, _, h3⟩ := be_ns w; rw [h2] at h1; cases h1; exact h3
  · with_unfolding_all rfl
  exact h _ _ _ _ _ hD' (by rw [if_neg (by decide), if_pos rfl]) (fun q hq => .tail _ (.tail _ (.tail _ hq)))

end

-- ===== L2
section
variable {prog : Program} {w : World} {K : Frag} {p : Program} {loose : List Str}
variable {c : Cx} {E : Value → Shared → Prop} {l : Loc} {n : Led} {env : Env}
theorem St.add {s : Shared} (S : St c l n s) (o : Obj) (hf : o.isFreed = false) : St c l ((s.heap.objs.size, o) :: n) { s with heap := s.heap.push o } := by
  have N := S.new
  have S2 := S.push o
  exact ⟨S2.gens, S2.drawn, S2.os, S2.fr, fun q hq => by
    rcases List.mem_cons.mp hq with rfl | hq
    · exact ⟨Heap.get?_push_at rfl hf, N.1, N.2.1⟩
    · exact S2.nw q hq, nd_newN S.nd N.2.2, S.lk⟩
noncomputable abbrev excD (dx T1 : Addr) : Obj := ⟨.ref 34, some dx, .fields #[.ref T1, .none, .none, .none, .bool false, .none], #[]⟩
theorem be_fn31 (w : World) : typeIn (hd.heap_39 w.params) (.ref 31) = some (.type "function") := by k_is
theorem c_be_make {cv av : Value} {Q : Value → Loc → Led → Prop} (H : AmbP w c) (hk : 3 ≤ c.k)
    (h : ∀ e dx oD T1 mA n1, NsOf oD mA → mA (Str.ofString "code") = some cv → Sub n n1 → Q (.ref e) l ((dx, oD) :: (e, excD dx T1) :: n1)) : W PG w c (call (.ref 34) [cv, av]) Q E l n := fun s S => by
  obtain ⟨nm, q, bs, sn, sub, ab, col, dd, k0, k1, k2, k3, k5, hC⟩ := be_cls w
  obtain ⟨cl, d, es, ep, sl2, hN, hstr, hi, hs, _, _⟩ := be_ns w
  obtain ⟨m, F0, hl⟩ := S.fr
  have X := H.X.keeps F0.keep
  have hNs : s.heap.Ns 33 (nsFind es) := ⟨_, es, ep, X _ _ hN, rfl, hstr, fun _ => rfl⟩
  have S1 := (S.add (tupObj [cv, av]) rfl).add (excO 34 s.heap.objs.size) rfl
  have hsz : (s.heap.push (tupObj [cv, av])).objs.size = s.heap.objs.size + 1 := Heap.size_push _ _
  obtain ⟨hp, g, dr, t, os⟩ := s
  refine wpAny_call (xc_make PySem.F.excBase_Exception (X _ _ hC) hNs hi X (be_fn31 w) (Nat.le_of_ble_eq_true rfl) ?_)
  dsimp only at hsz S1
  rw [hsz] at S1
  have hW := c_be_init (E := E) (l := l) (n0 := (hp.objs.size, tupObj [cv, av]) :: n) (Q := fun v l' n' => v = .none ∧ Q (.ref (hp.objs.size + 1)) l' n') (c := { c with A := c.A.under (.builtin "type.__call__" ⟨.ref 34 :: [cv, av], []⟩), k := c.k - 1 }) (av := av) (cv := cv) (e := hp.objs.size + 1) (T0 := hp.objs.size) (H.under (by omega)) (by show 2 ≤ c.k - 1; omega) rfl
    (fun dx oD T1 mA n1 h1 h2 h3 => ⟨rfl, h _ _ _ _ _ _ h1 h2 fun q hq => h3 q (.tail _ hq)⟩)
  refine codeAny_mono (hW _ ⟨S1.gens, S1.drawn, S1.os, S1.fr, S1.nw, S1.nd, S1.lk⟩) fun r s' z => ?_
  rcases r with e | (v | _ | _ | _) <;> first | exact z | exact z.elim | skip
  obtain ⟨l', n', S2, rfl, q⟩ := z
  exact ⟨rfl, l', n', ⟨S2.gens, S2.drawn, S2.os, S2.fr, S2.nw, S2.nd, S2.lk⟩, q⟩
theorem w_raise {x : Expr} {pos : Pos} {xc : Str} {Q : Flow → Loc → Led → Prop} (H : AmbP w c) (hE : ∀ ev s, InFlight w 34 c l n xc ev s → E ev s)
    (h : W PG w c (eval x env) (fun v l' n' => ∃ e dx oD T1 mA t n1, v = .ref e ∧ NsOf oD mA ∧ mA (Str.ofString "code") = some (.str xc t) ∧ Sub n n1 ∧ l' = l ∧ n' = (dx, oD) :: (e, excD dx T1) :: n1) E l n) :
    W PG w c (exec (.Raise (some x) none pos) env) Q E l n := fun s S => by
  obtain ⟨nm, q, bs, sn, sub, ab, col, dd, k0, k1, k2, k3, k5, hC⟩ := be_cls w
  obtain ⟨A₀, base, outer, env0, B, hA, hf, hke⟩ := H.B
  rw [arm_exec_Raise]
  simp only [evalOpt, Option.map]
  refine wpAny_bind (wpAny_standAt (fd_raise (C := 34) (nm := nm) (q := q) (N := 33) (bs := bs) (bm := bmE) (hdct := true) (sn := sn) (sub := sub) (ab := ab) (col := col) (dd := dd) (k0 := k0) (k1 := k1) (k2 := k2) (k3 := k3) (k5 := k5) (newId := "Exception.__new__") (by decide) H.hd ?_))
  refine wpAny_bind (h.go S fun v s1 l1 n1 S1 z => wpAny_bind (wpAny_standAt (wpAny_pure ?_)))
  obtain ⟨e, dx, oD, T1, mA, t, n1, rfl, hD, hm, hsub, rfl, rfl⟩ := z
  obtain ⟨m, F0, hl⟩ := S1.fr
  have X := H.X.keeps F0.keep
  have he := S1.nw _ (.tail _ (.head _))
  have hd := S1.nw _ (.head _)
  refine ⟨e, dx, #[], .ref T1, .none, .none, .bool false, .none, rfl, X _ _ hC, he.1, hE _ _ ?_⟩
  have B1 := pushX B F0 hf hke
  have nd := List.nodup_cons.mp S1.nd
  have nd2 := List.nodup_cons.mp nd.2
  have fr_in : ∀ b, b ∈ (env0 :: outer).filterMap (·.frame) → b = c.L ∨ ∃ o, c.h₀.get? b = some o := by
    intro b hb
    obtain ⟨env', he', hf'⟩ := List.mem_filterMap.mp hb
    rcases List.mem_cons.mp he' with rfl | he'
    · rw [hf] at hf'; exact .inl (Option.some.inj hf').symm
    · obtain ⟨L₁, o₁, hf₁, ho₁⟩ := funFrames_in B.frames env' he'
      rw [hf₁] at hf'; obtain rfl := Option.some.inj hf'
      exact .inr ⟨_, ho₁⟩
  have nfr : ∀ q ∈ ((dx, oD) :: (e, excD dx T1) :: n1 : Led), q.1 ∉ (env0 :: outer).filterMap (·.frame) := by
    intro q hq hb
    rcases fr_in _ hb with z | ⟨o, z⟩
    · exact (S1.nw q hq).2.1 z
    · rw [(S1.nw q hq).2.2] at z; cases z
  have hde : dx ≠ e := fun z => nd.1 (by rw [show dx = e from z]; exact .head _)
  refine ⟨S1.gens, S1.drawn, S1.os, ⟨m, F0.ns, hl⟩, S1.lk, Heap.UpToSlots.of_keeps F0.keep, e, dx, hideAll s1.heap (e :: (env0 :: outer).filterMap (·.frame)), env0, outer, rfl, hA, hf, .inr (.inr ⟨fun b o hb => of_hideAll _ hb, hideAll_none _ (.head _), ?_, #[], _, he.1, rfl⟩), ⟨mA, t, hD.at (hideAll_get _ hd.1 ?_), hm⟩, he.2.2, hd.2.2, fun q hq => ⟨?_, ?_⟩, fun b o hb hn => ?_, fun q hq => ⟨?_, ?_, ?_⟩⟩
  · exact funFrames_hide B1.frames fun env' he' b hb => .tail _ (List.mem_filterMap.mpr ⟨env', he', hb⟩)
  · intro hm; rcases List.mem_cons.mp hm with z | hm
    · exact hde z
    · exact nfr _ (.head _) hm
  · intro z; exact nd2.1 (List.mem_map.mpr ⟨q, hsub q hq, z⟩)
  · intro z; exact nd.1 (.tail _ (List.mem_map.mpr ⟨q, hsub q hq, z⟩))
  · refine hideAll_get _ (F0.keep _ _ hb) fun hm => ?_
    rcases List.mem_cons.mp hm with rfl | hm
    · rw [he.2.2] at hb; cases hb
    · exact hn hm
  · refine hideAll_get _ (S1.nw q (.tail _ (.tail _ (hsub q hq)))).1 fun hm => ?_
    rcases List.mem_cons.mp hm with z | hm
    · exact nd2.1 (List.mem_map.mpr ⟨q, hsub q hq, z⟩)
    · exact nfr q (.tail _ (.tail _ (hsub q hq))) hm
  · exact (S1.nw q (.tail _ (.tail _ (hsub q hq)))).2.1
  · exact (S1.nw q (.tail _ (.tail _ (hsub q hq)))).2.2
end

-- ===== L3
theorem nil_sub {n : Led} : ∀ q ∈ ([] : Led), q ∈ n := fun _ h => nomatch h
theorem be_keep (w : World) : keepIn (hd.heap_39 w.params) (.ref 34) = true := by k_is
theorem dv_ONE (w : World) : ∃ as, DicV PG (hd.heap_39 w.params) w [] 595 as ∧ (∃ t, as.lookup (Str.ofString "STOP") = some (.str (Str.ofString "STOP") t)) ∧ (∃ t, as.lookup (Str.ofString "END") = some (.str (Str.ofString "END") t)) ∧
    as.lookup (Str.ofString "GOTO") = none ∧ as.lookup (Str.ofString "GOSUB") = none ∧ as.lookup (Str.ofString "NEXT") = none ∧ as.lookup (Str.ofString "ELSE") = none := by
  refine' ⟨asOf _, ⟨_, (GoodEs.are ?a).dict ?b, .inr (by k_is)⟩, ?c, ?c2, ?c3, ?c4, ?c5, ?c6⟩
  case a => k_extra "m_es"
  case b => (simp only [asOf]; decide +kernel)
  case c => exact ⟨_, rfl⟩
  case c2 => exact ⟨_, rfl⟩
  all_goals exact Option.isNone_iff_eq_none.mp (by simp only [asOf]; decide +kernel)
theorem dv_KIND (w : World) : ∃ as, DicV PG (hd.heap_39 w.params) w [] 596 as ∧
    as.lookup (Str.ofString "GOTO") = none ∧ as.lookup (Str.ofString "GOSUB") = none ∧ as.lookup (Str.ofString "NEXT") = none ∧ as.lookup (Str.ofString "ELSE") = none := by
  refine' ⟨asOf _, ⟨_, (GoodEs.are ?a).dict ?b, .inr (by k_is)⟩, ?c3, ?c4, ?c5, ?c6⟩
  case a => k_extra "m_es"
  case b => (simp only [asOf]; decide +kernel)
  all_goals exact Option.isNone_iff_eq_none.mp (by simp only [asOf]; decide +kernel)
theorem kw_48 : True := by
  k_with "m_enterY" => (
    (
      refine' WC.call (wc_enterY ?zzH ?zzhk ?zzho ?zzhcd ?zzhps ?zzhrest ?zzhb ?zzhlen ?zzhnd ?zzhloc ?zzhco ?zzhgen ?zzhfn ?zzhcell ?_ ?zzhE)
      (case zzH => assumption)
      (case zzhk => omega)
      (case zzho => (refine' lk_fn ?zzl1 ?zzl2; (case zzl1 => k_is); (case zzl2 => exact rfl)))
      (case zzhcd => k_is)
      (case zzhps => (simp only [List.map_cons, List.map_nil]; exact rfl))
      (case zzhrest => k_extra "m_rest")
      (case zzhb => exact rfl)
      (case zzhlen => exact rfl)
      (case zzhnd => decide +kernel)
      (case zzhloc => decide +kernel)
      (case zzhco => exact rfl)
      (case zzhgen => exact rfl)
      (case zzhfn => exact rfl)
      (case zzhcell => decide)
      (case zzhE => assumption)
      intro _ _ _ _ _ _ _
      (try dsimp only [locOf, List.zip, List.zipWith, List.map, List.cons_append, List.nil_append]))
    )
  trivial
section
variable {w : World} {c : Cx} {E : Value → Shared → Prop} {l : Loc} {n : Led} {t u : Tok} {Q : Value → Loc → Led → Prop} {TL RD : Addr} {ts : List Tk} {nb : Led}
theorem kw_49 : True := by
  k_with "m_C" => (
    first
      | ((with_reducible refine' w_notinD ?zzH ?zzhd ?zzhs ?zzhm ?_); (case zzH => assumption); (case zzhd => with_reducible assumption); (case zzhs => first | with_reducible exact nil_sub | (show Sub _ _; k_extra "m_sb")); (case zzhm => first | assumption | decide +kernel))
      | ((with_reducible refine' w_itemD ?zzH ?zzhd ?zzhs' ?zzhv ?zzhs ?zzhg ?_); (case zzH => assumption); (case zzhd => with_reducible assumption); (case zzhs' => first | with_reducible exact nil_sub | (show Sub _ _; k_extra "m_sb")); (case zzhv => with_reducible assumption); (case zzhs => with_unfolding_all rfl); (case zzhg => with_unfolding_all exact fun _ => rfl))
      | ((with_reducible refine' w_cw_K ?zzH ?zzhk ?zzhe ?zzha ?_); (case zzH => assumption); (case zzhk => exact be_keep _); (case zzhe => with_unfolding_all rfl); (case zzha => with_unfolding_all rfl))
      | ((with_reducible refine' c_be_make ?zzH ?zzhk ?_); (case zzH => assumption); (case zzhk => omega); intro _ _ _ _ _ _ _ _ _)
    )
  trivial
structure RdIn (w : World) (nb : Led) (d : Addr) : Prop where
  ex : ∃ as, DicV PG (hd.heap_39 w.params) w nb d as ∧ as.lookup (Str.ofString "GOTO") = some (.ref 659) ∧ as.lookup (Str.ofString "GOSUB") = some (.ref 666) ∧ as.lookup (Str.ofString "NEXT") = some (.ref 715) ∧ as.lookup (Str.ofString "ELSE") = none
  no : (d == sysModules) = false
/-- what a reader hands back: a tuple of a thing and the place behind it -/
structure Back (ts : List Tk) (tl : Led) (a : Addr) (d : Dat) (r : List Tk) : Prop where
  ex : ∃ v j t, (a, tupObj [v, .int ((j : Nat) : Int) t]) ∈ tl ∧ DatIn tl v d ∧ ts.drop j = r ∧ j ≤ ts.length
noncomputable def SomeOk (w : World) (f : Nat) : Prop := ∀ (c : Cx) (E : Value → Shared → Prop) (l : Loc) (n nb : Led) (t u : Tok) (Q : Value → Loc → Led → Prop) (TL RD : Addr) (ts : List Tk) (i ne : Nat), AmbP w c → 4 * (12 - ne) + 12 ≤ c.k → TokIn nb TL ts → Sub nb n → RdIn w nb RD → ne ≤ 12 → i ≤ ts.length →
  pSome f ne (ts.drop i) ≠ .stuck → (∀ ds r, pSome f ne (ts.drop i) = .ok ds r → ∀ tl n', GB tl n n' → ∀ a, Back ts tl a (.list ds) r → Q (.ref a) l n') → (∀ xc, pSome f ne (ts.drop i) = .err xc → ∀ ev s, InFlight w 34 c l n xc ev s → E ev s) →
  W PG w c (call (.ref 757) [.ref TL, .int (i : Int) t, .ref RD, .int (ne : Int) u]) Q E l n
theorem drop_cons {k : Tk} {r : List Tk} {i : Nat} (h : ts.drop i = k :: r) : ts[i]? = some k ∧ ts.drop (i + 1) = r ∧ i + 1 ≤ ts.length := by
  have hl : i < ts.length := by
    apply Nat.lt_of_not_le; intro hle
    rw [List.drop_eq_nil_of_le hle] at h; cases h
  rw [List.drop_eq_getElem_cons hl] at h
  injection h with h1 h2
  exact ⟨by rw [List.getElem?_eq_getElem hl, h1], h2, hl⟩
theorem tokK_wd {d : List Nat} {i : Nat} (h : ts[i]? = some (.wd d)) : tokK ts i = (kindOf d, S d) := by unfold tokK; rw [h]; rfl
theorem pOne_IF {P : Nat → List Tk → Res (List Dat)} {ne : Nat} {r : List Tk} : pOne P ne (.wd kIF :: r) = pIf P ne r := rfl
theorem pOne_STOP {P : Nat → List Tk → Res (List Dat)} {ne : Nat} {r : List Tk} : pOne P ne (.wd kSTOP :: r) = .ok dSTOP r := rfl
theorem pOne_END {P : Nat → List Tk → Res (List Dat)} {ne : Nat} {r : List Tk} : pOne P ne (.wd kEND :: r) = .ok dEND r := rfl
theorem pOne_ELSE {P : Nat → List Tk → Res (List Dat)} {ne : Nat} {r : List Tk} : pOne P ne (.wd kELSE :: r) = .err sSN := rfl
theorem pOne_NEXT {P : Nat → List Tk → Res (List Dat)} {ne : Nat} {r : List Tk} : pOne P ne (.wd kNEXT :: r) = if ends r then .ok dNEXT r else .stuck := rfl
theorem pOne_GOTO {P : Nat → List Tk → Res (List Dat)} {ne : Nat} {d : List Nat} {r : List Tk} : pOne P ne (.wd kGOTO :: .num d :: r) = if valOf d ≤ 65529 then .ok (dGOTO d) r else .stuck := rfl
theorem pOne_GOSUB {P : Nat → List Tk → Res (List Dat)} {ne : Nat} {d : List Nat} {r : List Tk} : pOne P ne (.wd kGOSUB :: .num d :: r) = if valOf d ≤ 65529 then .ok (dGOSUB d) r else .stuck := rfl
theorem pOne_no {P : Nat → List Tk → Res (List Dat)} {ne : Nat} {w : List Nat} {r : List Tk} (h1 : w ≠ kIF) (h2 : w ≠ kSTOP) (h3 : w ≠ kEND) (h4 : w ≠ kELSE) (h5 : w ≠ kNEXT) (h : ∀ d r2, r = .num d :: r2 → w ≠ kGOTO ∧ w ≠ kGOSUB) : pOne P ne (.wd w :: r) = .stuck := by
  unfold pOne
  dsimp only
  rw [if_neg h1, if_neg h2, if_neg h3, if_neg h4, if_neg h5]
  split
  · rename_i d r3
    obtain ⟨a, b⟩ := h d r3 rfl
    rw [if_neg a, if_neg b]; split <;> rfl
  · rfl
theorem isEnd_of {ts : List Tk} {i : Nat} (h : ends (ts.drop i) = true) : isEnd (tokK ts i) = true := by
  unfold tokK
  cases hd : ts.drop i with
  | nil =>
    have : ts.length ≤ i := List.drop_eq_nil_iff.mp hd
    rw [List.getElem?_eq_none this]
    decide +kernel
  | cons k r =>
    rw [(drop_cons hd).1]
    rw [hd] at h
    cases k with
    | col => show isEnd (Str.ofString "sign", S [58]) = true; decide +kernel
    | num d => cases h
    | wd d =>
      obtain rfl : d = kELSE := by simpa [ends] using h
      show isEnd (kindOf kELSE, S kELSE) = true; decide +kernel
/-- a def that may raise is entered; a closed contract for what is made -/
theorem c_read_one {f i ne : Nat} (IH : SomeOk w f) (H : AmbP w c) (hk : 4 * (12 - ne) + 11 ≤ c.k) (T : TokIn nb TL ts) (hs : Sub nb n) (hr : RdIn w nb RD) (hne : ne ≤ 12) (hi : i ≤ ts.length)
    (cif : ∀ (c : Cx) (E : Value → Shared → Prop) (l : Loc) (n : Led) (t u : Tok) (Q : Value → Loc → Led → Prop) (i : Nat), AmbP w c → 4 * (12 - ne) + 10 ≤ c.k → Sub nb n → i ≤ ts.length → pIf (pSome f) ne (ts.drop i) ≠ .stuck →
      (∀ d r, pIf (pSome f) ne (ts.drop i) = .ok d r → ∀ tl n', GB tl n n' → ∀ a, Back ts tl a d r → Q (.ref a) l n') → (∀ xc, pIf (pSome f) ne (ts.drop i) = .err xc → ∀ ev s, InFlight w 34 c l n xc ev s → E ev s) →
      W PG w c (call (.ref 750) [.ref TL, .int (i : Int) t, .ref RD, .int (ne : Int) u]) Q E l n)
    (hst : pOne (pSome f) ne (ts.drop i) ≠ .stuck) (h : ∀ d r, pOne (pSome f) ne (ts.drop i) = .ok d r → ∀ tl n', GB tl n n' → ∀ a, Back ts tl a d r → Q (.ref a) l n')
    (hE : ∀ xc, pOne (pSome f) ne (ts.drop i) = .err xc → ∀ ev s, InFlight w 34 c l n xc ev s → E ev s) :
    W PG w c (call (.ref 736) [.ref TL, .int (i : Int) t, .ref RD, .int (ne : Int) u]) Q E l n := by
  cases hd : ts.drop i with
  | nil => rw [hd] at hst; exact absurd rfl hst
  | cons k r2 =>
    rw [hd] at hst h hE
    obtain ⟨hi0, hd2, hi1⟩ := drop_cons hd
    cases k with
    | col => exact absurd rfl hst
    | num d => exact absurd rfl hst
    | wd d =>
      obtain ⟨as1, D1, ⟨t1, e1⟩, ⟨t2, e2⟩, e3, e4, e5, e6⟩ := dv_ONE w
      obtain ⟨as2, D2, e7, e8, e9, e10⟩ := dv_KIND w
      obtain ⟨as3, D3, e11, e12, e13, e14⟩ := hr.ex
      have hno := hr.no
      have hkd := tokK_wd hi0
      by_cases c1 : d = kIF
      · subst c1
        have e : tokK ts i = (Str.ofString "word", Str.ofString "IF") := by rw [hkd]; decide +kernel
        have h1 : (tokK ts i).1 = Str.ofString "word" := by rw [e]
        have h2 : (tokK ts i).2 = Str.ofString "IF" := by rw [e]
        k_extra "m_enterY"
        k_extra "m_go"
        rw [h1, h2]
        k_extra "m_go"
        refine cif _ _ _ _ _ _ _ _ (by assumption) (by omega) (by k_extra "m_sb") hi1 (by rw [hd2]; exact hst) (fun d r hR => gb_all fun tl a hb => ?_) (fun xc hR ev s hx => ⟨_, xc, by rw [hd2] at hR; exact hR, hx.sub (show Sub _ _ by k_extra "m_sb")⟩)
        rw [hd2] at hR
        k_extra "m_go"
        obtain ⟨v, j, tj, b1, b2, b3, b4⟩ := hb.ex
        exact h d r hR _ _ (by k_extra "m_gb") _ ⟨_, _, _, by with_reducible k_extra "m_loc", by k_extra "m_dat", b3, b4⟩
      by_cases c2 : d = kSTOP
      · subst c2
        have e : tokK ts i = (Str.ofString "word", Str.ofString "STOP") := by rw [hkd]; decide +kernel
        have h1 : (tokK ts i).1 = Str.ofString "word" := by rw [e]
        have h2 : (tokK ts i).2 = Str.ofString "STOP" := by rw [e]
        k_extra "m_enterY"
        k_extra "m_go"
        rw [h1, h2]
        k_extra "m_go"
        rw [e1]
        refine ite_dt rfl ?_
        k_extra "m_go"
        exact h _ _ rfl _ _ (by k_extra "m_gb") _ ⟨_, i + 1, _, by with_reducible k_extra "m_loc", by unfold dSTOP; k_extra "m_dat", hd2, hi1⟩
      by_cases c3 : d = kEND
      · subst c3
        have e : tokK ts i = (Str.ofString "word", Str.ofString "END") := by rw [hkd]; decide +kernel
        have h1 : (tokK ts i).1 = Str.ofString "word" := by rw [e]
        have h2 : (tokK ts i).2 = Str.ofString "END" := by rw [e]
        k_extra "m_enterY"
        k_extra "m_go"
        rw [h1, h2]
        k_extra "m_go"
        rw [e2]
        refine ite_dt rfl ?_
        k_extra "m_go"
        exact h _ _ rfl _ _ (by k_extra "m_gb") _ ⟨_, i + 1, _, by with_reducible k_extra "m_loc", by unfold dEND; k_extra "m_dat", hd2, hi1⟩
      by_cases c4 : d = kELSE
      · subst c4
        have e : tokK ts i = (Str.ofString "word", Str.ofString "ELSE") := by rw [hkd]; decide +kernel
        have h1 : (tokK ts i).1 = Str.ofString "word" := by rw [e]
        have h2 : (tokK ts i).2 = Str.ofString "ELSE" := by rw [e]
        k_extra "m_enterY"
        k_extra "m_go"
        rw [h1, h2]
        k_extra "m_go"
        rw [e6]
        k_extra "m_go"
        rw [e10]
        k_extra "m_go"
        rw [e14]
        k_extra "m_go"
        refine w_raise (xc := sSN) (by assumption) (fun ev s hx => ⟨_, sSN, rfl, hx.sub (show Sub _ _ by k_extra "m_sb")⟩) ?_
        k_extra "m_go"
        exact ⟨_, _, _, _, _, _, _, rfl, by assumption, by assumption, by k_extra "m_sb", rfl, rfl⟩
      by_cases c5 : d = kNEXT
      · subst c5
        have e : tokK ts i = (Str.ofString "word", Str.ofString "NEXT") := by rw [hkd]; decide +kernel
        have h1 : (tokK ts i).1 = Str.ofString "word" := by rw [e]
        have h2 : (tokK ts i).2 = Str.ofString "NEXT" := by rw [e]
        rw [pOne_NEXT] at h hst
        have c5b : ends r2 = true := by cases q : ends r2 with | true => rfl | false => rw [q] at hst; exact absurd rfl hst
        rw [c5b] at h
        have hend := isEnd_of (ts := ts) (i := i + 1) (by rw [hd2]; exact c5b)
        k_extra "m_enterY"
        k_extra "m_go"
        rw [h1, h2]
        k_extra "m_go"
        rw [e5]
        k_extra "m_go"
        rw [e9]
        k_extra "m_go"
        rw [e13]
        k_extra "m_go"
        refine c_read_next (by assumption) (by omega) T (by k_extra "m_sb") hend (gb_all fun tl a v tt hm1 hm2 => ?_)
        k_extra "m_go"
        exact h _ _ rfl _ _ (by k_extra "m_gb") _ ⟨_, i + 1, _, by with_reducible k_extra "m_loc", by unfold dNEXT; k_extra "m_dat", hd2, hi1⟩
      by_cases c6 : ∃ dn r3, r2 = .num dn :: r3 ∧ (d = kGOTO ∨ d = kGOSUB)
      · obtain ⟨dn, r3, rfl, c6 | c6⟩ := c6
        · subst c6
          have e : tokK ts i = (Str.ofString "word", Str.ofString "GOTO") := by rw [hkd]; decide +kernel
          have h1 : (tokK ts i).1 = Str.ofString "word" := by rw [e]
          have h2 : (tokK ts i).2 = Str.ofString "GOTO" := by rw [e]
          rw [pOne_GOTO] at h hst
          have hv : valOf dn ≤ 65529 := by apply Decidable.byContradiction; intro hn; rw [if_neg hn] at hst; exact hst rfl
          rw [if_pos hv] at h
          obtain ⟨hi2, hd3, hi3⟩ := drop_cons hd2
          k_extra "m_enterY"
          k_extra "m_go"
          rw [h1, h2]
          k_extra "m_go"
          rw [e3]
          k_extra "m_go"
          rw [e7]
          k_extra "m_go"
          rw [e11]
          k_extra "m_go"
          refine c_read_goto (by assumption) (by omega) T (by k_extra "m_sb") hi2 hv (gb_all fun tl a v tt hm1 hm2 => ?_)
          k_extra "m_go"
          exact h _ _ rfl _ _ (by k_extra "m_gb") _ ⟨_, i + 1 + 1, _, by with_reducible k_extra "m_loc", by unfold dGOTO; k_extra "m_dat", hd3, hi3⟩
        · subst c6
          have e : tokK ts i = (Str.ofString "word", Str.ofString "GOSUB") := by rw [hkd]; decide +kernel
          have h1 : (tokK ts i).1 = Str.ofString "word" := by rw [e]
          have h2 : (tokK ts i).2 = Str.ofString "GOSUB" := by rw [e]
          rw [pOne_GOSUB] at h hst
          have hv : valOf dn ≤ 65529 := by apply Decidable.byContradiction; intro hn; rw [if_neg hn] at hst; exact hst rfl
          rw [if_pos hv] at h
          obtain ⟨hi2, hd3, hi3⟩ := drop_cons hd2
          k_extra "m_enterY"
          k_extra "m_go"
          rw [h1, h2]
          k_extra "m_go"
          rw [e4]
          k_extra "m_go"
          rw [e8]
          k_extra "m_go"
          rw [e12]
          k_extra "m_go"
          refine c_read_gosub (by assumption) (by omega) T (by k_extra "m_sb") hi2 hv (gb_all fun tl a v tt hm1 hm2 => ?_)
          k_extra "m_go"
          exact h _ _ rfl _ _ (by k_extra "m_gb") _ ⟨_, i + 1 + 1, _, by with_reducible k_extra "m_loc", by unfold dGOSUB; k_extra "m_dat", hd3, hi3⟩
      · exact absurd (pOne_no c1 c2 c3 c4 c5 fun dn r3 e => ⟨fun z => c6 ⟨dn, r3, e, .inl z⟩, fun z => c6 ⟨dn, r3, e, .inr z⟩⟩) hst
end

-- ===== L4
section
variable {prog : Program} {w : World} {c : Cx} {E : Value → Shared → Prop} {l : Loc} {n : Led} {t u : Tok} {Q : Value → Loc → Led → Prop} {TL RD : Addr} {ts : List Tk} {nb : Led} {env : Env}
theorem w_addL {a b : Addr} {vs ws : List Value} {j k : Nat} (ha : (a, PySem.W.listOf vs.toArray j) ∈ n) (hb : (b, PySem.W.listOf ws.toArray k) ∈ n) (hz : vs.length + ws.length ≤ sizeLine) (h : ∀ D, Q (.ref D) l ((D, PySem.W.listOf (vs ++ ws).toArray 0) :: n)) :
    W prog w c (binaryOp .Add (.ref a) (.ref b)) Q E l n := fun s S => by
  obtain ⟨m, F0, hl⟩ := S.fr
  refine kmk_add_lit F0 S.nw (isList_of S.nw ha) (isList_of S.nw hb) rfl (fun D h' F' N' hlt => ?_) (by simpa using hz)
  rw [List.toList_toArray, List.toList_toArray] at N'
  exact W.fin ⟨S.gens, S.drawn, S.os, ⟨m, F', hl⟩, N', nd_newN S.nd fun q hq => Nat.ne_of_lt (hlt q hq), S.lk⟩ (h D)
theorem pSome_len : ∀ (f ne : Nat) (r : List Tk) (ds : List Dat) (r' : List Tk), pSome f ne r = .ok ds r' → ds.length ≤ f
  | 0, _, _, _, _, h => nomatch h
  | f + 1, ne, r, ds, r', h => by
    unfold pSome at h
    split at h
    · cases h; exact Nat.zero_le _
    · split at h
      · cases h; exact Nat.zero_le _
      · split at h
        · split at h
          · split at h
            · rename_i h2
              cases h
              exact Nat.succ_le_succ (pSome_len f _ _ _ _ h2)
            · rename_i h3
              exact (h3 _ _ h).elim
          · cases h
        · cases h
        · cases h
theorem item0 {a b : Value} : seqIndex? 0 [a, b].length = some 0 := rfl
theorem kw_50 : True := by
  k_with "m_C" => (
    first
      | ((with_reducible refine' w_item_tupV ?zzH ?zzhm ?zzhsa ?zzhs ?zzh0 ?zzh1 ?zzhj ?zzhv ?_); (case zzH => assumption); (case zzhm => with_reducible assumption); (case zzhsa => k_extra "m_sb"); (case zzhs => with_unfolding_all rfl); (case zzh0 => decide); (case zzh1 => decide); (case zzhj => exact item0); (case zzhv => exact rfl))
      | ((with_reducible refine' w_addL ?zzha ?zzhb ?zzhz ?_); (case zzha => with_reducible k_extra "m_loc"); (case zzhb => with_reducible k_extra "m_loc"); (case zzhz => (simp only [List.length_cons, List.length_nil, line_is]; omega)); intro _)
    )
  trivial
theorem pPart_other {P : Nat → List Tk → Res (List Dat)} {ne : Nat} {r : List Tk} (h : ∀ d r2, r ≠ .num d :: r2) : pPart P ne r = P (ne + 1) r := by
  unfold pPart
  split
  · exact absurd rfl (h _ _)
  · rfl
theorem c_read_part {f i ne : Nat} (hf : f ≤ 1000000) (IH : SomeOk w f) (H : AmbP w c) (hk : 4 * (12 - ne) + 9 ≤ c.k) (T : TokIn nb TL ts) (hs : Sub nb n) (hr : RdIn w nb RD) (hne : ne + 1 ≤ 12) (hi : i ≤ ts.length)
    (hst : pPart (pSome f) ne (ts.drop i) ≠ .stuck) (h : ∀ ds r, pPart (pSome f) ne (ts.drop i) = .ok ds r → ∀ tl n', GB tl n n' → ∀ a, Back ts tl a (.list ds) r → Q (.ref a) l n')
    (hE : ∀ xc, pPart (pSome f) ne (ts.drop i) = .err xc → ∀ ev s, InFlight w 34 c l n xc ev s → E ev s) :
    W PG w c (call (.ref 743) [.ref TL, .int (i : Int) t, .ref RD, .int (ne : Int) u]) Q E l n := by
  by_cases hnum : ∃ d r2, ts.drop i = .num d :: r2
  · obtain ⟨d, r2, hd⟩ := hnum
    rw [hd] at hst h hE
    obtain ⟨hi0, hd2, hi1⟩ := drop_cons hd
    have hb : (ends r2 && decide (valOf d ≤ 65529)) = true := by
      cases q : (ends r2 && decide (valOf d ≤ 65529)) with
      | true => rfl
      | false => unfold pPart at hst; simp only [q] at hst; exact absurd rfl hst
    have hends : ends r2 = true := (Bool.and_eq_true_iff.mp hb).1
    have hv : valOf d ≤ 65529 := of_decide_eq_true (Bool.and_eq_true_iff.mp hb).2
    have eP : ∀ P : Nat → List Tk → Res (List Dat), pPart P ne (.num d :: r2) = (match P (ne + 1) r2 with
      | .ok t r3 => .ok (dGOTO d :: t) r3
      | e => e) := fun P => by unfold pPart; first | (simp only [hb, if_true]; done) | (simp only [hb, if_true]; cases P (ne + 1) r2 <;> rfl)
    rw [eP] at hst h hE
    have hend := isEnd_of (ts := ts) (i := i + 1) (by rw [hd2]; exact hends)
    have h1 : (tokK ts i).1 = Str.ofString "number" := by unfold tokK; rw [hi0]; rfl
    k_extra "m_enterY"
    k_extra "m_go"
    rw [h1]
    k_extra "m_go"
    rw [hend]
    k_extra "m_go"
    refine IH _ _ _ _ nb _ _ _ _ _ ts (i + 1) (ne + 1) (by assumption) (by omega) T (by k_extra "m_sb") hr hne hi1 (fun e => hst (by rw [← hd2, e])) (fun ds r hR => gb_all fun tl a hb => ?_) (fun xc hR ev s hx => ⟨_, xc, by rw [← hd2, hR], hx.sub (show Sub _ _ by k_extra "m_sb")⟩)
    obtain ⟨v, j, tj, b1, b2, b3, b4⟩ := hb.ex
    cases b2 with
    | list m1 m2 =>
      have hlen := m2.length
      have hds := pSome_len _ _ _ _ _ hR
      k_extra "m_go"
      exact h _ _ (by rw [← hd2, hR]) _ _ (by k_extra "m_gb") _ ⟨_, j, _, by with_reducible k_extra "m_loc", by (simp only [List.cons_append, List.nil_append, dGOTO]; k_extra "m_dat"), b3, b4⟩
  · have eP : pPart (pSome f) ne (ts.drop i) = pSome f (ne + 1) (ts.drop i) := pPart_other fun d r2 e => hnum ⟨d, r2, e⟩
    rw [eP] at hst h hE
    have h1 : ((tokK ts i).1 == Str.ofString "number") = false := by
      unfold tokK
      cases hd : ts.drop i with
      | nil => rw [List.getElem?_eq_none (List.drop_eq_nil_iff.mp hd)]; decide +kernel
      | cons k r =>
        rw [(drop_cons hd).1]
        cases k with
        | num d => exact absurd ⟨d, r, hd⟩ hnum
        | col => decide +kernel
        | wd d => show (kindOf d == _) = false; unfold kindOf; split <;> decide +kernel
    k_extra "m_enterY"
    k_extra "m_go"
    rw [h1]
    k_extra "m_go"
    refine IH _ _ _ _ nb _ _ _ _ _ ts i (ne + 1) (by assumption) (by omega) T (by k_extra "m_sb") hr hne hi hst (fun ds r hR => gb_all fun tl a hb => ?_) (fun xc hR ev s hx => ⟨_, xc, hR, hx.sub (show Sub _ _ by k_extra "m_sb")⟩)
    obtain ⟨v, j, tj, b1, b2, b3, b4⟩ := hb.ex
    cases b2 with
    | list m1 m2 =>
      have hlen := m2.length
      have hds := pSome_len _ _ _ _ _ hR
      k_extra "m_go"
      exact h _ _ hR _ _ (by k_extra "m_gb") _ ⟨_, j, _, by with_reducible k_extra "m_loc", by (simp only [List.cons_append, List.nil_append]; k_extra "m_dat"), b3, b4⟩
theorem kw_51 : True := by
  k_with "m_C" => (
    (with_reducible refine' w_ge_int ?_)
    )
  trivial
theorem tokK_end {ts : List Tk} {i : Nat} (h : ts.drop i = []) : tokK ts i = (Str.ofString "end", Str.ofString "") := by
  unfold tokK; rw [List.getElem?_eq_none (List.drop_eq_nil_iff.mp h)]
theorem kw_52 : True := by
  k_with "m_C" => (
    first
      | ((with_reducible refine' c_need_word ?zzH ?zzhk ?zzT ?zzhs ?zzhx ?zzhe ?_); (case zzH => assumption); (case zzhk => omega); (case zzT => assumption); (case zzhs => k_extra "m_sb"); (case zzhx => decide +kernel); (case zzhe => assumption); refine grown_all ?_; intro _ _)
      | ((with_reducible refine' c_expression ?zzH ?zzhk ?zzT ?zzhs ?zzh1 ?zzh2 ?zzh3 ?zzht ?_); (case zzH => assumption); (case zzhk => omega); (case zzT => assumption); (case zzhs => k_extra "m_sb"); (case zzh1 => assumption); (case zzh2 => assumption); (case zzh3 => assumption); (case zzht => assumption); refine gb_all ?_; intro _ _ _ _ _ _)
    )
  trivial
theorem wordsNo_one {a : List Nat} (h : a ∈ wordsNo) : a.length = 1 ∧ kindOf a = Str.ofString "name" := by
  revert a; decide +kernel
theorem c_read_if {f i ne : Nat} (hf : f ≤ 1000000) (IH : SomeOk w f) (H : AmbP w c) (hk : 4 * (12 - ne) + 10 ≤ c.k) (T : TokIn nb TL ts) (hs : Sub nb n) (hr : RdIn w nb RD) (hne : ne ≤ 12) (hi : i ≤ ts.length)
    (hst : pIf (pSome f) ne (ts.drop i) ≠ .stuck) (h : ∀ d r, pIf (pSome f) ne (ts.drop i) = .ok d r → ∀ tl n', GB tl n n' → ∀ a, Back ts tl a d r → Q (.ref a) l n')
    (hE : ∀ xc, pIf (pSome f) ne (ts.drop i) = .err xc → ∀ ev s, InFlight w 34 c l n xc ev s → E ev s) :
    W PG w c (call (.ref 750) [.ref TL, .int (i : Int) t, .ref RD, .int (ne : Int) u]) Q E l n := by
  by_cases h12 : 12 ≤ ne
  · have eR : pIf (pSome f) ne (ts.drop i) = .err sST := by unfold pIf; rw [if_pos h12]
    k_extra "m_enterY"
    k_extra "m_go"
    rw [show decide ((12 : Int) ≤ (ne : Int)) = true from decide_eq_true (by omega)]
    k_extra "m_go"
    refine w_raise (xc := sST) (by assumption) (fun ev s hx => ⟨_, sST, eR, hx.sub (show Sub _ _ by k_extra "m_sb")⟩) ?_
    k_extra "m_go"
    exact ⟨_, _, _, _, _, _, _, rfl, by assumption, by assumption, by k_extra "m_sb", rfl, rfl⟩
  · obtain ⟨a, r2, hd, ha⟩ : ∃ a r2, ts.drop i = .wd a :: .wd kTHEN :: r2 ∧ a ∈ wordsNo := by
      unfold pIf at hst
      rw [if_neg h12] at hst
      split at hst
      · rename_i a t r2 e
        split at hst
        · rename_i h2
          obtain ⟨h2, rfl⟩ := h2
          exact ⟨a, r2, e, h2⟩
        · exact absurd rfl hst
      · exact absurd rfl hst
    obtain ⟨hi0, hd1, hi1⟩ := drop_cons hd
    obtain ⟨hi2, hd2, hi3⟩ := drop_cons hd1
    obtain ⟨ha1, ha2⟩ := wordsNo_one ha
    have h1 : (tokK ts i).1 = Str.ofString "name" := by rw [tokK_wd hi0, ha2]
    have h2 : (tokK ts i).2 = S a := by rw [tokK_wd hi0]
    have ht : tokK ts (i + 1) = (Str.ofString "word", Str.ofString "THEN") := by rw [tokK_wd hi2]; decide +kernel
    have eP : pIf (pSome f) ne (ts.drop i) = (match pPart (pSome f) ne r2 with
      | .ok x r3 => (match r3 with
          | .wd e :: r4 => if e = kELSE then (match pPart (pSome f) ne r4 with
              | .ok y r5 => .ok (dIF a x y) r5
              | .err c => .err c
              | .stuck => .stuck) else .stuck
          | r3 => .ok (dIF a x []) r3)
      | .err c => .err c
      | .stuck => .stuck) := by
      rw [hd]; unfold pIf; rw [if_neg h12]; dsimp only; rw [if_pos ⟨ha, rfl⟩]; try rfl
    have eR : ∀ (x : List Dat) (r3 : List Tk), (∀ e r4, r3 = .wd e :: r4 → False) → (match r3 with
          | .wd e :: r4 => if e = kELSE then (match pPart (pSome f) ne r4 with
              | .ok y r5 => .ok (dIF a x y) r5
              | .err c => .err c
              | .stuck => .stuck) else .stuck
          | r3 => .ok (dIF a x []) r3) = (.ok (dIF a x []) r3 : Res Dat) := by
      intro x r3 hn
      split
      · exact (hn _ _ rfl).elim
      · rfl
    rw [eP] at hst h hE
    k_extra "m_enterY"
    k_extra "m_go"
    rw [show decide ((12 : Int) ≤ (ne : Int)) = false from decide_eq_false (by omega)]
    k_extra "m_go"
    rw [ht]
    k_extra "m_go"
    refine c_read_part hf IH (i := i + 1 + 1) (by assumption) (by omega) T (by k_extra "m_sb") hr (by omega) hi3 (fun e => hst (by rw [← hd2, e])) (fun x r3 hx => gb_all fun tl1 p1 hb1 => ?_) (fun xc hx ev s hi => ⟨_, xc, by rw [← hd2, hx], hi.sub (show Sub _ _ by k_extra "m_sb")⟩)
    obtain ⟨v1, j, tj, b1, b2, b3, b4⟩ := hb1.ex
    rw [hd2] at hx
    have hx1 := hx
    rw [hx] at hst h hE
    by_cases hel : ∃ r4, r3 = .wd kELSE :: r4
    · obtain ⟨r4, rfl⟩ := hel
      dsimp only at hst h hE
      rw [if_pos rfl] at hst h hE
      obtain ⟨hj0, hd3, hj1⟩ := drop_cons b3
      have he : tokK ts j = (Str.ofString "word", Str.ofString "ELSE") := by rw [tokK_wd hj0]; decide +kernel
      k_extra "m_go"
      rw [he]
      k_extra "m_go"
      refine c_read_part hf IH (i := j + 1) (by assumption) (by omega) T (by k_extra "m_sb") hr (by omega) hj1 (fun e => hst (by rw [← hd3, e])) (fun y r5 hy => gb_all fun tl2 p2 hb2 => ?_) (fun xc hx ev s hi => ⟨_, xc, by rw [hx1]; dsimp only; rw [if_pos rfl, ← hd3, hx], hi.sub (show Sub _ _ by k_extra "m_sb")⟩)
      obtain ⟨v2, j2, tj2, y1, y2, y3, y4⟩ := hb2.ex
      rw [hd3] at hy
      rw [hy] at hst h hE
      k_extra "m_go"
      exact h _ _ rfl _ _ (by k_extra "m_gb") _ ⟨_, j2, _, by with_reducible k_extra "m_loc", by unfold dIF; k_extra "m_dat", y3, y4⟩
    · have hel' : ∀ e r4, r3 = .wd e :: r4 → False := by
        intro e r4 z
        subst z
        dsimp only at hst
        by_cases q : e = kELSE
        · exact hel ⟨r4, by rw [q]⟩
        · rw [if_neg q] at hst; exact hst rfl
      dsimp only at hst h hE
      rw [eR _ _ hel'] at hst h hE
      have he : tokK ts j ≠ (Str.ofString "word", Str.ofString "ELSE") := by
        unfold tokK
        cases hq : ts.drop j with
        | nil => rw [List.getElem?_eq_none (List.drop_eq_nil_iff.mp hq)]; decide +kernel
        | cons k r =>
          rw [(drop_cons hq).1]
          cases k with
          | wd d => exact (hel' d r (by rw [← b3, hq])).elim
          | num d => intro z; have := congrArg Prod.fst z; revert this; show (Str.ofString "number" = _) → False; decide +kernel
          | col => intro z; have := congrArg Prod.fst z; revert this; show (Str.ofString "sign" = _) → False; decide +kernel
      k_extra "m_go"
      rw [decide_eq_false he]
      k_extra "m_go"
      exact h _ _ rfl _ _ (by k_extra "m_gb") _ ⟨_, j, _, by with_reducible k_extra "m_loc", by unfold dIF; k_extra "m_dat", b3, b4⟩
end

-- ===== L5
section
variable {prog : Program} {w : World} {c : Cx} {E : Value → Shared → Prop} {l : Loc} {n : Led} {t u : Tok} {Q : Value → Loc → Led → Prop} {TL RD : Addr} {ts : List Tk} {nb : Led} {env : Env} {K : Frag} {p : Program} {loose : List Str}
noncomputable def prep (acc : List Dat) : Res (List Dat) → Res (List Dat)
  | .ok t r => .ok (acc ++ t) r
  | .err x => .err x
  | .stuck => .stuck
theorem GB.grow {tl m m' : Led} (h : GB tl m m') : ∀ q ∈ m, q ∈ m' := by rw [h.eq]; exact fun q m => List.mem_append_right _ m
theorem w_true {pos : Pos} {k : Nat} {whole : Sem Value} {Q : Bool → Loc → Led → Prop} (h : Q true l n) (he : isTrue (.Constant (.bool true) k pos) env whole = pure true) : W prog w c (isTrue (.Constant (.bool true) k pos) env whole) Q E l n := fun _ S => by
  rw [he]; exact wpAny_pure (W.fin S h)
theorem dropCol_col {a : Nat} {r : List Tk} (h : ts.drop a = .col :: r) : dropCol (ts.drop a) = dropCol (ts.drop (a + 1)) := by
  rw [(drop_cons h).2.1, h]; rfl
theorem tokK_col {a : Nat} (h : tokK ts a = (Str.ofString "sign", Str.ofString ":")) : a < ts.length ∧ dropCol (ts.drop a) = dropCol (ts.drop (a + 1)) := by
  cases hd : ts.drop a with
  | nil => rw [tokK_end hd] at h; exact absurd h (by decide +kernel)
  | cons k r =>
    have h2 := drop_cons hd
    refine ⟨by omega, ?_⟩
    unfold tokK at h; rw [h2.1] at h
    cases k with
    | col => rw [← hd]; exact dropCol_col hd
    | num d => exact absurd (show Str.ofString "number" = Str.ofString "sign" from congrArg Prod.fst h) (by decide +kernel)
    | wd d => exact absurd (show kindOf d = Str.ofString "sign" from congrArg Prod.fst h) (by unfold kindOf; split <;> decide +kernel)
theorem tokK_ncol {a : Nat} (h : tokK ts a ≠ (Str.ofString "sign", Str.ofString ":")) : dropCol (ts.drop a) = ts.drop a := by
  cases hd : ts.drop a with
  | nil => rfl
  | cons k r =>
    unfold tokK at h; rw [(drop_cons hd).1] at h
    cases k with
    | col => exact absurd (by decide +kernel) h
    | num d => rfl
    | wd d => rfl
theorem S_else {d : List Nat} (h : S d = Str.ofString "ELSE") : d = kELSE := by
  have e : Str.ofString "ELSE" = S kELSE := by decide +kernel
  rw [e] at h
  have := congrArg (fun x : Str => x.cps.toList) h
  simpa using this
theorem pSome_nil {f ne : Nat} {r : List Tk} (h : dropCol r = []) : pSome (f + 1) ne r = .ok [] [] := by unfold pSome; rw [h]
theorem pSome_else {f ne : Nat} {r r2 : List Tk} (h : dropCol r = .wd kELSE :: r2) (hn : 0 < ne) : pSome (f + 1) ne r = .ok [] (.wd kELSE :: r2) := by unfold pSome; rw [h]; dsimp only; rw [if_pos ⟨hn, rfl⟩]
theorem pSome_one {f ne : Nat} {r r2 : List Tk} {t : Tk} (h : dropCol r = t :: r2) (hn : ¬ (0 < ne ∧ t = .wd kELSE)) : pSome (f + 1) ne r = match pOne (pSome f) ne (t :: r2) with
      | .ok d r3 => if ends r3 then (match pSome f ne r3 with
          | .ok ds r4 => .ok (d :: ds) r4
          | e => e) else .stuck
      | .err c => .err c
      | .stuck => .stuck := by rw [pSome]; rw [h]; dsimp only; rw [if_neg hn]; try rfl
theorem prep_app {acc : List Dat} {d : Dat} {R : Res (List Dat)} : prep acc (match R with
          | .ok ds r4 => .ok (d :: ds) r4
          | e => e) = prep (acc ++ [d]) R := by cases R <;> simp [prep]
theorem tokK_nend {ts : List Tk} {b : Nat} {k : Tk} {r : List Tk} (h : ts.drop b = k :: r) : ((tokK ts b).1 == Str.ofString "end") = false := by
  unfold tokK; rw [(drop_cons h).1]
  cases k with
  | col => decide +kernel
  | num d => show (Str.ofString "number" == _) = false; decide +kernel
  | wd d => show (kindOf d == _) = false; unfold kindOf; split <;> decide +kernel
theorem tokK_else {ts : List Tk} {b : Nat} {k : Tk} {r : List Tk} (h : ts.drop b = k :: r) : decide (tokK ts b = (Str.ofString "word", Str.ofString "ELSE")) = decide (k = .wd kELSE) := by
  unfold tokK; rw [(drop_cons h).1]
  cases k with
  | col => decide +kernel
  | num d =>
    rw [decide_eq_false, decide_eq_false]
    · intro z; cases z
    · intro z; exact absurd (show Str.ofString "number" = Str.ofString "word" from congrArg Prod.fst z) (by decide +kernel)
  | wd d =>
    by_cases e : d = kELSE
    · subst e; rw [decide_eq_true rfl]; exact decide_eq_true (by decide +kernel)
    · rw [decide_eq_false, decide_eq_false]
      · intro z; injection z with z; exact e z
      · intro z; exact e (S_else (show S d = _ from congrArg Prod.snd z))
theorem w_eq2N {j j' : Nat} {a b : Addr} {x y x' y' : Str} {t u t' u' : Tok} (H : Amb K p loose c) (ha : (a, ({ cls := .type "tuple", data := .seq ([.str x t, .str y u] : List Value).toArray j' } : Obj)) ∈ n) (hb : (b, ({ cls := .type "tuple", data := .seq ([.str x' t', .str y' u'] : List Value).toArray j } : Obj)) ∈ n) (hx : PyData.strOk x = true ∧ PyData.strOk y = true) (hy : PyData.strOk x' = true ∧ PyData.strOk y' = true) (h : Q (.bool (decide ((x, y) = (x', y')))) l n) :
    W prog w c (compareOp .Eq (.ref a) (.ref b)) Q E l n := w_eq2 H (.inl ⟨_, ha⟩) Sub.refl hb hx hy h
theorem kw_53 : True := by
  k_with "m_C" => (
    first
      | ((with_reducible refine' w_eq2N ?zzH ?zzha ?zzhb ?zzhx ?zzhy ?_); (case zzH => assumption); (case zzha => with_reducible k_extra "m_loc"); (case zzhb => with_reducible k_extra "m_loc"); (case zzhx => exact tokK_ok (by assumption) _); (case zzhy => decide +kernel))
    )
  trivial
theorem dat_snoc {m : Led} {v : Value} {d : Dat} : ∀ {vs : List Value} {ds : List Dat}, DatAll m vs ds → DatIn m v d → DatAll m (vs ++ [v]) (ds ++ [d])
  | [], _, .nil, h2 => .cons h2 .nil
  | _ :: _, _, .cons a r, h2 => .cons a (dat_snoc r h2)
/-- the loop of read_some -/
inductive SomeJ (TL RD FL : Addr) (u : Tok) (ne : Nat) (ts : List Tk) (n : Led) (F : Nat) (R0 : Res (List Dat)) (j : Nat) (n' : Led) : Loc → Prop
  | mk {a : Nat} {ta : Tok} {x1 x2 x3 : Option Value} {acc : List Dat} {vs : List Value} {k : Nat} {tl : Led} (hgb : GB tl ((FL, PySem.W.listOf vs.toArray k) :: n) n') (hda : DatAll tl vs acc) (ha : a ≤ ts.length) (hj : acc.length + j = F) (hR : prep acc (pSome j ne (ts.drop a)) = R0) :
    SomeJ TL RD FL u ne ts n F R0 j n' [(Str.ofString "tokens", some (.ref TL)), (Str.ofString "at", some (.int (a : Nat) ta)), (Str.ofString "readers", some (.ref RD)), (Str.ofString "nested", some (.int (ne : Int) u)), (Str.ofString "found", some (.ref FL)), (Str.ofString "kind", x1), (Str.ofString "told", x2), (Str.ofString "tree", x3)]
/-- its inner loop, that goes over colons -/
inductive SomeK (TL RD FL : Addr) (u : Tok) (ne : Nat) (ts : List Tk) (m0 : Led) (x1 x2 x3 : Option Value) (M : Nat → Prop) (n' : Led) : Loc → Prop
  | mk {b : Nat} {tb : Tok} {tl2 : Led} (hgb : GB tl2 m0 n') (hb : b ≤ ts.length) (hM : M b) :
    SomeK TL RD FL u ne ts m0 x1 x2 x3 M n' [(Str.ofString "tokens", some (.ref TL)), (Str.ofString "at", some (.int (b : Nat) tb)), (Str.ofString "readers", some (.ref RD)), (Str.ofString "nested", some (.int (ne : Int) u)), (Str.ofString "found", some (.ref FL)), (Str.ofString "kind", x1), (Str.ofString "told", x2), (Str.ofString "tree", x3)]
theorem Back.elim {ts : List Tk} {tl : Led} {a : Addr} {d : Dat} {r : List Tk} {G : Prop} (h : Back ts tl a d r) (k : ∀ v b t, (a, tupObj [v, .int ((b : Nat) : Int) t]) ∈ tl → DatIn tl v d → ts.drop b = r → b ≤ ts.length → G) : G := by
  obtain ⟨v3, b3, t3, y1, y2, y3, y4⟩ := h.ex
  exact k v3 b3 t3 y1 y2 y3 y4
@[elab_as_elim] theorem gb_elim {tl n n' : Led} {P : Led → Prop} (h : GB tl n n') (k : P (tl ++ n)) : P n' := by rw [h.eq]; exact k
theorem c_read_some {F : Nat} (hF : F ≤ 1000000) (IH : ∀ j, j < F → SomeOk w j) : SomeOk w F := by
  intro c E l n nb t u Q TL RD ts i ne H hk T hs hr hne hi hst h hE
  k_extra "m_enterY"
  k_extra "m_go"
  rename_i c' env' H' he' hc' hk' hfr' FL hFL
  obtain ⟨rf, hfr⟩ := hfr'
  have hst0 := hst
  have hsub0 : Sub nb n := hs
  revert hst h hE
  generalize hR0 : pSome F ne (ts.drop i) = R0
  intro hst h hE
  refine w_whileXP (fun j l' n' => SomeJ TL RD FL u ne ts n F R0 j n' l') F (.mk (acc := []) (vs := []) .refl .nil hi (Nat.zero_add _) (by rw [hR0]; cases R0 <;> rfl)) ?_
  intro j l' n' hJ P fn fc fb fr
  clear fc fb
  cases hJ with
  | @mk a ta x1 x2 x3 acc vs k tl hgb hda ha hj hR =>
  refine gb_elim hgb ?_
  clear hgb
  cases j with
  | zero => exact absurd (show R0 = .stuck by rw [← hR]; rfl) hst
  | succ j =>
    have hloop : ∀ (l1 : Loc) (n1 : Led) (xc : Str) (_ : Sub n n1) (hx : R0 = .err xc), ∀ ev s, InFlight w 34 c' l1 n1 xc ev s → notedBy (model PG w) c'.A env' (cameBackBy (model PG w) c'.A env' (fun ev s' => ∃ l' xc, R0 = .err xc ∧ InFlight w 34 c' l' n xc ev s')) ev s :=
      fun l1 n1 xc hsub hx ev s hi => (hi.sub hsub).loop hfr fun ev s hi => ⟨_, _, hx, hi⟩
    revert hloop
    generalize notedBy (model PG w) c'.A env' (cameBackBy (model PG w) c'.A env' (fun ev s' => ∃ l' xc, R0 = .err xc ∧ InFlight w 34 c' l' n xc ev s')) = E2
    intro hloop
    k_extra "m_go"
    refine w_loopP (fun m l' n' => SomeK TL RD FL u ne ts (tl ++ (FL, PySem.W.listOf vs.toArray k) :: n) x1 x2 x3 (fun b => dropCol (ts.drop b) = dropCol (ts.drop a) ∧ m = ts.length - b) n' l')
      (fun l' n' => SomeK TL RD FL u ne ts (tl ++ (FL, PySem.W.listOf vs.toArray k) :: n) x1 x2 x3 (fun b => ts.drop b = dropCol (ts.drop a)) n' l') (ts.length - a) (.mk .refl ha ⟨rfl, rfl⟩) ?_ ?_
    · intro l' n' hK
      cases hK with
      | @mk b tb tl2 hgb2 hb hdb =>
      refine gb_elim hgb2 ?_
      clear hgb2
      k_extra "m_go"
      cases hd : ts.drop b with
      | nil =>
        rw [pSome_nil (by rw [← hdb, hd])] at hR
        rw [tokK_end hd]
        k_extra "m_go"
        exact fr _ _ _ (h _ _ hR.symm _ _ (by k_extra "m_gb") _ ⟨_, b, _, by with_reducible k_extra "m_loc", by (simp only [List.append_nil]; k_extra "m_dat"), hd, hb⟩)
      | cons tk r =>
        rw [tokK_nend hd]
        k_extra "m_go"
        by_cases hq : 0 < ne ∧ tk = .wd kELSE
        · obtain ⟨hq1, rfl⟩ := hq
          rw [decide_eq_true (show (0 : Int) < (ne : Int) by omega)]
          rw [pSome_else (by rw [← hdb, hd]) hq1] at hR
          k_extra "m_go"
          rw [show ((tokK ts b).1, (tokK ts b).2) = tokK ts b from rfl, tokK_else hd, decide_eq_true rfl]
          k_extra "m_go"
          exact fr _ _ _ (h _ _ hR.symm _ _ (by k_extra "m_gb") _ ⟨_, b, _, by with_reducible k_extra "m_loc", by (simp only [List.append_nil]; k_extra "m_dat"), hd, hb⟩)
        · rw [pSome_one (by rw [← hdb, hd]) hq] at hR
          have hl := hda.length
          by_cases hz : (0 : Int) < (ne : Int)
          rw [decide_eq_true hz]
          k_extra "m_go"
          rw [show ((tokK ts b).1, (tokK ts b).2) = tokK ts b from rfl, tokK_else hd, decide_eq_false (fun e => hq ⟨by omega, e⟩)]
          k_extra "m_go"
          rotate_left
          rw [decide_eq_false hz]
          k_extra "m_go"
          all_goals
            refine c_read_one (IH j (by omega)) (by assumption) (by omega) T (by k_extra "m_sb") hr hne hb (fun c E l n t u Q i H hk hs hi hst h hE => c_read_if (by omega) (IH j (by omega)) H hk T hs hr hne hi hst h hE) (fun e => hst (by rw [← hR, ← hd, e]; rfl)) (fun d r3 hd3 => gb_all fun tl3 a3 hb3 => ?_) (fun xc hx ev s hi => hloop _ _ xc (show Sub _ _ by k_extra "m_sb") (by rw [← hR, ← hd, hx]; rfl) ev s hi)
            rw [hd] at hd3
            rw [hd3] at hR
            dsimp only at hR
            have he : ends r3 = true := by
              cases q : ends r3 with
              | true => rfl
              | false => rw [q] at hR; exact absurd hR.symm hst
            rw [he, if_pos rfl, prep_app] at hR
            refine hb3.elim fun v3 b3 t3 y1 y2 y3 y4 => ?_
            have hend := isEnd_of (ts := ts) (i := b3) (by rw [y3]; exact he)
            k_extra "m_go"
            rw [hend]
            k_extra "m_go"
            exact fn j _ _ (Nat.lt_succ_self j) (.mk (acc := acc ++ [d]) (vs := vs ++ [v3]) (by k_extra "m_gb") (dat_snoc (hda.mono (by k_extra "m_sub")) (y2.mono (by k_extra "m_sub"))) y4 (by (rw [List.length_append, List.length_singleton]; omega)) (by rw [y3]; exact hR))
    · intro E3 m l' n' hK P4 fn4 fc4 fb4 fr4
      cases hK with
      | @mk b tb tl2 hgb2 hb hM =>
      refine gb_elim hgb2 ?_
      clear hgb2
      have hdb := hM.1
      have hm := hM.2
      k_extra "m_go"
      by_cases hc : tokK ts b = (Str.ofString "sign", Str.ofString ":")
      · rw [decide_eq_true hc]
        have hcol := tokK_col hc
        have hb2 := hcol.1
        have hd2 := hcol.2
        k_extra "m_go"
        exact fn4 (ts.length - (b + 1)) _ _ (by omega) (.mk (by k_extra "m_gb") hb2 ⟨by rw [← hd2, hdb], rfl⟩)
      · rw [decide_eq_false hc]
        k_extra "m_go"
        exact .mk (by k_extra "m_gb") hb (by rw [← hdb, tokK_ncol hc])
theorem some_ok {w : World} (F : Nat) (hF : F ≤ 1000000) : SomeOk w F := by
  induction F using Nat.strongRecOn with
  | ind F ih => exact c_read_some hF fun j hj => ih j hj (by omega)
end

-- ===== L6
section
variable {prog : Program} {w : World} {c : Cx} {E : Value → Shared → Prop} {l : Loc} {n : Led} {t u : Tok} {Q : Value → Loc → Led → Prop} {TL RD : Addr} {ts : List Tk} {nb : Led} {env : Env}
theorem toks_ok : ∀ {ps : List Pc}, okP ps → ∀ k ∈ toks ps, k.Ok
  | [], _, _, h => nomatch h
  | .sp :: r, h, k, m => toks_ok (ps := r) h k m
  | .tk _ :: r, h, k, m => by
    rcases List.mem_cons.mp m with rfl | m
    · exact h.1
    · exact toks_ok h.2.2 k m
theorem toks_len : ∀ {ps : List Pc}, okP ps → (toks ps).length ≤ (flat ps).length
  | [], _ => Nat.le_refl _
  | .sp :: r, h => by
    have := toks_len (ps := r) h
    show (toks r).length ≤ ([32] ++ flat r).length
    simp; omega
  | .tk k :: r, h => by
    have := toks_len h.2.2
    show (toks r).length + 1 ≤ (k.txt ++ flat r).length
    have hk : 1 ≤ k.txt.length := by
      have h1 := h.1
      cases k with
      | wd d => have := (wordsAll_nam d h1).2.2.2.2.2.1; cases d with | nil => cases this | cons _ _ => simp [Tk.txt]
      | num d => have := h1.1; cases d with | nil => exact absurd rfl this | cons _ _ => simp [Tk.txt]
      | col => decide
    simp; omega
theorem kw_54 : True := by
  k_with "m_C" => (
    first
      | ((with_reducible refine' c_tokens_of ?zzH ?zzhk ?zzhok ?zzhl ?_); (case zzH => assumption); (case zzhk => omega); (case zzhok => assumption); (case zzhl => assumption); refine gb_all ?_; intro _ _ _ _ _ _)
      | ((with_reducible refine' c_statement_readers ?zzH ?zzhk ?_); (case zzH => assumption); (case zzhk => omega); refine gb_all ?_; intro _ _ _ _ _ _ _ _ _ _ _)
    )
  trivial
theorem c_read_row {ps : List Pc} {F : Nat} (hF : F ≤ 1000000) (H : AmbP w c) (hk : 70 ≤ c.k) (hok : okP ps) (hl : (flat ps).length ≤ 255) (hst : pSome F 0 (toks ps) ≠ .stuck)
    (h : ∀ ds r, pSome F 0 (toks ps) = .ok ds r → ∀ tl n', GB tl n n' → ∀ a, DatIn tl (.ref a) (.list ds) → Q (.ref a) l n') (hE : ∀ xc, pSome F 0 (toks ps) = .err xc → ∀ ev s, InFlight w 34 c l n xc ev s → E ev s) :
    W PG w c (call (.ref 764) [.str (S (flat ps)) t]) Q E l n := by
  k_extra "m_enterY"
  k_extra "m_go"
  rename_i c' env' H' he' hc' hk' hfr' tl TL vs k hTL hda t0 tl2 RD o as hRD ho g1 g2 g3 g4 hno t1
  have T : TokIn (tl2 ++ (tl ++ n)) TL (toks ps) := ⟨⟨vs, k, by with_reducible k_extra "m_loc", hda.mono (by k_extra "m_sub")⟩, toks_ok hok, Nat.le_trans (toks_len hok) hl⟩
  have R : RdIn w (tl2 ++ (tl ++ n)) RD := ⟨⟨as, ⟨o, ho, .inl (by with_reducible k_extra "m_loc")⟩, g1, g2, g3, g4⟩, hno⟩
  refine some_ok F hF _ _ _ _ (tl2 ++ (tl ++ n)) _ _ _ _ _ (toks ps) 0 0 H' (by omega) T Sub.refl R (by omega) (Nat.zero_le _) (by simpa using hst) (fun ds r hR => gb_all fun tl3 a hb => ?_) (fun xc hx ev s hi => ⟨_, xc, by simpa using hx, hi.sub (show Sub _ _ by k_extra "m_sb")⟩)
  obtain ⟨v, j, tj, b1, b2, b3, b4⟩ := hb.ex
  k_extra "m_go"
  cases b2 with
  | list m1 m2 => exact h ds r (by simpa using hR) _ _ (by k_extra "m_gb") _ (by k_extra "m_dat")
end

-- ===== L7
section
open Builtin Builtin.ObjectAttr
namespace XF
theorem slot_ga : Slot "Exception" "__getattribute__" "BaseException.__getattribute__" := .of (owner := "BaseException") (n := "__getattribute__") (by rw [typeLookup_type, builtinLookup_eq_fast]; kernel_rfl) (by decide +kernel) (by decide +kernel) (by decide +kernel)
  (by first | exact .inl (by decide +kernel) | exact .inr (by decide +kernel)) (by rw [isSubtype_type]; kernel_rfl)
theorem no_getattr : typeLookup (.type "Exception") "__getattr__" = pure none := by rw [typeLookup_type, builtinLookup_eq_fast]; kernel_rfl
theorem no_code : typeLookup (.type "Exception") "code" = pure none := by rw [typeLookup_type, builtinLookup_eq_fast]; kernel_rfl
end XF
section
variable {prog : Program} {w : World} {A : Around} {E : Value → Shared → Prop} {h : Heap} {g : Array GenState} {d : Drawn} {t : Nat} {os : OsState}
variable {nm q : Str} {C N x : Addr} {bs bm : List Value} {sn : List Str} {sub : List Value} {ab : Bool} {col : Option Bool} {dd : Option Addr} {k0 k1 k2 k3 k5 : Option Value} {newId B : String}
  {mN mA : Str → Option Value} {name : Str} {v : Value}
theorem xg_entry {tk : Tok} {Q : Fin → Shared → Prop}
    (hC : h.get? C = some (excClassObj nm q C N bs bm true sn sub ab col dd k0 k1 k2 k3 k5 newId)) (hn : h.Ns N mN) (hna : mN name = none) (hm : mroOf (.type B) = pure bm)
    (hB : typeLookup (.type B) name = pure none) (I : h.Inst x C mA) (hv : mA name = some v) (hq : Q (.done (.ret v)) ⟨h, g, d, t, os⟩) :
    wpAny (model prog w) A (Builtin.«object.__getattribute__» ⟨[.ref x, .str name tk], []⟩) Q E ⟨h, g, d, t, os⟩ := by
  obtain ⟨o, hx, hc, hnc, hd⟩ := I
  rcases hd with ⟨_, hmA⟩ | ⟨dx, hdx, hne, hns⟩
  · rw [hmA name] at hv; cases hv
  unfold Builtin.«object.__getattribute__»
  repeat (first | (with_reducible refine wpAny_loadPart_at hx ?_; rw [hc]) | (with_reducible refine wpAny_typeLookup_exc hC hn hm hB ?_; rw [hna]) | wp_step)
  split
  · rename_i c hcd
    exact absurd hcd (hnc c)
  unfold instanceDict
  repeat (first | (with_reducible refine wpAny_loadPart_at hx ?_; rw [hc]) | with_reducible refine wpAny_loadPart_at hC ?_ | wp_step)
  rw [hdx]
  repeat (first | (with_reducible refine wpAny_nsGet hns.ns ?_; rw [hv]) | wp_step)
  exact hq
theorem xg_check {M : Model} {nameV : Value} {o : Obj} {Q : Unit → Shared → Prop} (hC : h.get? C = some (excClassObj nm q C N bs bm true sn sub ab col dd k0 k1 k2 k3 k5 newId)) (hbm : bm.contains (.type "BaseException") = true)
    (hx : h.get? x = some o) (hc : o.cls = .ref C) (hq : Q () ⟨h, g, d, t, os⟩) : wpAny M A (checkBuiltinCall "BaseException.__getattribute__" ⟨[.ref x, nameV], []⟩) Q E ⟨h, g, d, t, os⟩ := by
  have hk : builtinKind "BaseException.__getattribute__" = some .slot := by decide +kernel
  have hsplit : splitId "BaseException.__getattribute__" = some ("BaseException", "__getattribute__") := by decide +kernel
  have hcB : (Value.ref C :: bm).contains (.type "BaseException") = true := by rw [List.contains_cons, hbm, Bool.or_true]
  have ha := F.args_bexc_ga (.ref x) nameV
  simp only [checkBuiltinCall, hk, hsplit]
  refine wpAny_bind ?_
  · unfold isInstance
    repeat (first | (with_reducible refine wpAny_loadPart_at hx ?_; rw [hc]) | (with_reducible refine wpAny_isSubtype_exc hC ?_; rw [hcB]) | wp_step)
    exact hq
theorem xg_attr {expr : Bool} {Q : Value → Shared → Prop}
    (hC : h.get? C = some (excClassObj nm q C N bs bm true sn sub ab col dd k0 k1 k2 k3 k5 newId)) (hn : h.Ns N mN) (hng : mN "__getattribute__" = none) (hnh : mN "__getattr__" = none) (hna : mN name = none) (hm : mroOf (.type B) = pure bm) (hbm : bm.contains (.type "BaseException") = true)
    (sg : Slot B "__getattribute__" "BaseException.__getattribute__") (hga : typeLookup (.type B) "__getattr__" = pure none)
    (hB : typeLookup (.type B) name = pure none) (I : h.Inst x C mA) (hv : mA name = some v) (hh : handedOut v = pure v) (hq : Q v ⟨h, g, d, t + 1, os⟩) :
    wpAny (model prog w) A (getAttr (.ref x) name expr) Q E ⟨h, g, d, t, os⟩ := by
  obtain ⟨o, hx, hc, _⟩ := id I
  have f3 := sg.bind (.ref x)
  have hx0 : (expr && onTheHeap (Value.builtin "BaseException.__getattribute__")) = false := by cases expr <;> rfl
  have hx2 : (Value.builtin "BaseException.__getattribute__" == Value.builtin "object.__getattribute__") = false := by decide +kernel
  have hx1 : (onTheHeap (Value.ref C) && Value.builtin "BaseException.__getattribute__" == Value.builtin "object.__getattribute__") = false := by rw [hx2]; rfl
  unfold getAttr getAttrBy
  repeat (any_goals (first | assumption | (with_reducible refine wpAny_loadPart_at hx ?_; rw [hc]) | (with_reducible refine wpAny_typeLookup_exc hC hn hm sg.lookup ?_; rw [hng]) | (with_reducible refine wpAny_typeLookup_exc hC hn hm hga ?_; rw [hnh]) | wp_step))
  refine codeAny_call_builtin sg.plain F.entry_bexc_ga (xg_check hC hbm hx hc (xg_entry hC hn hna hm hB I hv ?_))
  repeat (any_goals (first | assumption | rw [hh] | wp_step))
end

end
-- ===== L8
section
variable {prog : Program} {w : World} {c : Cx} {E : Value → Shared → Prop} {l : Loc} {n : Led} {t u : Tok} {Q : Value → Loc → Led → Prop} {env : Env}
theorem be_ns2 (w : World) : ∃ cl d es ep sl, (hd.heap_39 w.params).lookup 33 = some ⟨cl, d, .dict es ep, sl⟩ ∧ nsFind es "__getattribute__" = none ∧ nsFind es "__getattr__" = none := by
  refine ⟨_, _, _, _, _, by k_is, ?_, ?_⟩
  all_goals with_unfolding_all rfl
noncomputable def hScope : Scope := { kind := .function, names := [(Str.ofString "row", .local), (Str.ofString "e", .local), (Str.ofString "read_row", .globalImplicit), (Str.ofString "BasicError", .globalImplicit)], isGenerator := false, isCoroutine := false }
/-- noting an exception in a frame, whatever it bears -/
theorem fd_note {M : Model} {A : Around} {s : Shared} {base : Heap} {outer : List Env} {L e dx : Addr} {cls : Value} {Q : Unit → Shared → Prop} (hfr : A.frames = some (env :: outer)) (hf : env.frame = some L) (hd : AtD base env outer L e dx cls s.heap)
    (h : ∀ h', FlyD base (env :: outer) e dx cls (rawInt L) h' → s.heap.UpToSlots h' → Q () { s with heap := h' }) : wpAny M A (noteFrame (.ref e) env) Q E s := by
  rcases hd with hd | hd | ⟨b1, b2, b3, sl, vs, b4, b5⟩
  · exact fd_note_next hfr hf hd h
  · exact fd_note_again hf rfl hd (h s.heap hd (Heap.UpToSlots.refl _))
  · exact fd_note_first hfr b3 hf b4 b1 b2 b5 h
theorem ground_of {A₀ : Around} {base g B h₅ : Heap} {outer : List Env} {L : Addr} {m : Str → Option Value} {env : Env} (K : Below A₀ base outer g) (hf : env.frame = some L) (ha : g.objs.size ≤ L) (hns : h₅.Ns L m)
    (hBG : ∀ b o, g.get? b = some o → b ∉ (env :: outer).filterMap (·.frame) → B.get? b = some o) (hBh : B.StaysIn h₅) (hsm : g.UpToSlots h₅) :
    ∃ g', KtsTurn (outer.filterMap (·.frame)) g g' ∧ Fr g' L h₅ m ∧ Below A₀ base outer g' := by
  have gL : g.get? L = none := Heap.get?_none_of_le ha
  obtain ⟨T, S⟩ := kts_turn_at (h := h₅) (fs := outer.filterMap (·.frame)) (g := g)
    (fun b hb => by
      obtain ⟨_, o, ho, _⟩ := K.frames.mem hb
      exact ⟨o, ho⟩)
    (fun b o e nm => hBh b o (hBG b o e (fun hm => by
      obtain ⟨env', he, hf'⟩ := List.mem_filterMap.mp hm
      rcases List.mem_cons.mp he with rfl | he
      · rw [hf] at hf'; obtain rfl := Option.some.inj hf'
        rw [gL] at e; cases e
      · exact nm (List.mem_filterMap.mpr ⟨env', he, hf'⟩))))
    (fun b o e hm => by
      obtain ⟨_, o', ho', hd⟩ := K.frames.mem hm
      rw [e] at ho'
      cases ho'
      exact hsm b o e hd)
  refine ⟨_, T, ⟨hns, S, by rw [T.size]; exact ha⟩, ⟨K.stack, fun b o e => T.other b o (K.stays b o e) (fun hm => by
    rw [(K.frames.mem hm).1] at e
    cases e), K.frames.of_keeps fun b o e _ => ?_⟩⟩
  obtain ⟨sl, hs⟩ := T.up e
  exact ⟨_, hs, rfl⟩
theorem be_cls_k (w : World) {G : Prop} (k : ∀ nm q bs sn sub ab col dd k0 k1 k2 k3 k5, (hd.heap_39 w.params).lookup 34 = some (excClassObj nm q 34 33 bs bmE true sn sub ab col dd k0 k1 k2 k3 k5 "Exception.__new__") → G) : G := by
  obtain ⟨nm, q, bs, sn, sub, ab, col, dd, k0, k1, k2, k3, k5, hC⟩ := be_cls w
  exact k _ _ _ _ _ _ _ _ _ _ _ _ _ hC
theorem be_ns_k (w : World) {G : Prop} (k : ∀ cl d es ep sl, (hd.heap_39 w.params).lookup 33 = some ⟨cl, d, .dict es ep, sl⟩ → StrKeys es → nsFind es "code" = none → nsFind es "__getattribute__" = none → nsFind es "__getattr__" = none → G) : G := by
  obtain ⟨cl, d, es, ep, sl, hN, hstr, _, _, hcode, _⟩ := be_ns w
  obtain ⟨cl', d', es', ep', sl', hN', hg1, hg2⟩ := be_ns2 w
  rw [hN] at hN'
  cases hN'
  exact k _ _ _ _ _ hN hstr hcode hg1 hg2
@[elab_as_elim] theorem fly_k {c' : Cx} {l' : Loc} {xc : Str} {ev : Value} {s2 : Shared} {a : Env} {as : List Env} {P : Value → Prop} (x : InFlight w 34 c' l' n xc ev s2) (hAf : c'.A.frames = some (a :: as))
    (k : ∀ (e dx : Addr) (B2 : Heap) (mA : Str → Option Value) (tc : Tok) (oD : Obj) (esD : Array DictEntry) (epD : Nat) (mx : Str → Option Value), a.frame = some c'.L → AtD B2 a as c'.L e dx (.ref 34) s2.heap → mA (Str.ofString "code") = some (.str xc tc) → B2.get? dx = some oD → oD.data = .dict esD epD → (StrKeys esD ∧ UniqKeys esD ∧ ∀ name, nsFind esD name = mA name) → c'.h₀.get? e = none → c'.h₀.get? dx = none →
      (∀ b o, c'.h₀.get? b = some o → b ∉ (a :: as).filterMap (·.frame) → B2.get? b = some o) → (∀ q ∈ n, B2.get? q.1 = some q.2 ∧ q.1 ≠ c'.L ∧ c'.h₀.get? q.1 = none) → s2.heap.Ns c'.L mx → P (.ref e)) : P ev := by
  obtain ⟨mx, hns, _⟩ := x.ns
  obtain ⟨e, dx, B2, env2, outer2, rfl, a2, a3, a4, ⟨mA, tc, ⟨oD, esD, epD, eD, eDd, eDr⟩, a5c⟩, a6, a7, a8, a9, a10⟩ := x.ex
  have a2' := hAf.symm.trans a2
  obtain ⟨rfl, rfl⟩ := List.cons.inj (Option.some.inj a2')
  exact k _ _ _ _ _ _ _ _ _ a3 a4 a5c eD eDd eDr a6 a7 a9 a10 hns
theorem ground_k {A₀ : Around} {base g B h₅ : Heap} {outer : List Env} {L : Addr} {m : Str → Option Value} {env : Env} {G : Prop} (K : Below A₀ base outer g) (hf : env.frame = some L) (ha : g.objs.size ≤ L) (hns : h₅.Ns L m)
    (hBG : ∀ b o, g.get? b = some o → b ∉ (env :: outer).filterMap (·.frame) → B.get? b = some o) (hBh : B.StaysIn h₅) (hsm : g.UpToSlots h₅)
    (k : ∀ g', KtsTurn (outer.filterMap (·.frame)) g g' → Fr g' L h₅ m → G) : G := by
  obtain ⟨g', T, F, _⟩ := ground_of K hf ha hns hBG hBh hsm
  exact k g' T F
theorem tr_k {base h : Heap} {ls : List Env} {e dx : Addr} {cls fl : Value} {G : Prop} (d : FlyD base ls e dx cls fl h) (k : ∀ sl vs, h.get? e = some ⟨cls, some dx, .fields vs, sl⟩ → G) : G := by
  obtain ⟨sl, vs, _, _, _, e5, _⟩ := d.tr
  exact k sl vs e5
theorem c_heard {ps : List Pc} {F : Nat} {cn : Str} {a : Addr} {ccd : Value} (hF : F ≤ 1000000) (H : AmbP w c) (hk : 72 ≤ c.k) (hA1 : c.A.frames = some [envOf cn c.cs c.L a ccd]) (hck : c.cs.kind = .function) (hok : okP ps) (hl : (flat ps).length ≤ 255) (hst : pSome F 0 (toks ps) ≠ .stuck)
    (h1 : ∀ ds r, pSome F 0 (toks ps) = .ok ds r → ∀ tl n', GB tl n n' → ∀ a, DatIn tl (.ref a) (.list ds) → Q (.ref a) l n') (h2 : ∀ xc, pSome F 0 (toks ps) = .err xc → ∀ t, Q (.str xc t) l n) :
    W PG w c (call (.ref 778) [.str (S (flat ps)) t]) Q E l n := fun s S0 => by
  obtain ⟨mean, mg, mb, T⟩ := H.T
  obtain ⟨A₀, base, outer, env0, B, hA, hf, hke⟩ := H.B
  rw [hA1] at hA
  obtain ⟨rfl, rfl⟩ := List.cons.inj (Option.some.inj hA)
  obtain ⟨m, F0, hlc⟩ := S0.fr
  refine wpAny_call (code_defS0 (binds := [(Str.ofString "row", .str (S (flat ps)) t)]) (R := fun r s' => match r with | .ok (.ret v) => ∃ l' n', St c l' n' s' ∧ Q v l' n' | .ok _ => False | .error e => E e s') B F0 H.X S0.nw T hA1 (by (refine' lk_fn ?l1 ?l2; (case l1 => k_is); (case l2 => exact rfl))) (by k_is) (by have := H.dep; omega) (BindsTo.of_eq rfl) (fun y hy => by rw [List.mem_singleton.mp hy]; rfl) (fun g L' h₁ FG F' N' B' X' T' D' => ?_) hck rfl rfl rfl (by decide))
  let c' : Cx := { A := c.A.deeper (envOf (Str.ofString "_law_heard") hScope L' 778 (.ref 777)), h₀ := g, L := L', s₀ := c.s₀, cs := hScope, k := c.k - 1 }
  have hAf : c'.A.frames = some [envOf (Str.ofString "_law_heard") c'.cs L' 778 (.ref 777), envOf cn c.cs c.L a ccd] := Around.frames_deeper hA1
  have H' : AmbP w c' := ⟨X', ⟨mean, mg, mb, T'⟩, ⟨c.A, base, [envOf cn c.cs c.L a ccd], _, B', hAf, rfl, rfl⟩, H.hd, by have := H.dep; show (c.A.depth + 1) + (c.k - 1) < _; omega, by have := H.un; show (c.A.units + 3) + 16 * (c.k - 1) + 200 < _; omega⟩
  obtain ⟨env', he'⟩ : ∃ env', env' = envOf (Str.ofString "_law_heard") c'.cs L' 778 (.ref 777) := ⟨_, rfl⟩
  have SB : St c' [(Str.ofString "row", some (.str (S (flat ps)) t)), (Str.ofString "e", none)] n { s with heap := h₁, toks := s.toks + 1 } :=
    ⟨S0.gens, S0.drawn, S0.os, ⟨_, F', fun q hq => by
      rcases List.mem_cons.mp hq with rfl | hq
      · rfl
      · rw [List.mem_singleton.mp hq]; rfl⟩, N', S0.nd, ⟨rfl, fun q hq => by
      rcases List.mem_cons.mp hq with rfl | hq
      · rfl
      · rw [List.mem_singleton.mp hq]; rfl, by show [Str.ofString "row", Str.ofString "e"].Nodup; decide +kernel⟩⟩
  refine wpAny_execs_cons (wpAny_Try_except (W.go2 (Q := fun (fl : Flow) l' n' => ∃ ds r tl a, pSome F 0 (toks ps) = .ok ds r ∧ fl = .ret (.ref a) ∧ GB tl n n' ∧ DatIn tl (.ref a) (.list ds)) (E := fun ev s' => ∃ xc, pSome F 0 (toks ps) = .err xc ∧ ∃ l', InFlight w 34 c' l' n xc ev s') (c := c') ?_ SB (fun fl s2 l2 n2 S2 z => ?_) fun ev s2 z => ?_))
  · have he0 : envOf (Str.ofString "_law_heard") hScope L' 778 (.ref 777) = envOf (Str.ofString "_law_heard") hScope L' 778 (.ref 777) := rfl
    have hc0 : c'.cs = hScope := rfl
    k_extra "m_go"
    refine c_read_row hF H' (by show 70 ≤ c.k - 1; omega) hok hl hst (fun ds r hR => gb_all fun tl a hd => ?_) (fun xc hx ev s hi => ⟨xc, hx, _, hi⟩)
    k_extra "m_go"
    exact ⟨ds, r, _, _, hR, rfl, by k_extra "m_gb", hd⟩
  · obtain ⟨ds, r, tl, a2, hR, rfl, hgb, hd⟩ := z
    obtain ⟨m2, F2, _⟩ := S2.fr
    exact leaveS0_ F2 S2.nw KtsTurn.refl (fun F0 N0 => ⟨l, n2, ⟨S2.gens, S2.drawn, S2.os, ⟨m, F0, hlc⟩, N0, S2.nd, S0.lk⟩, h1 ds r hR _ _ hgb _ hd⟩)
  · obtain ⟨xc, hx, l', x⟩ := z
    obtain ⟨hp, gg, dr, tk, os⟩ := s2
    have xup := x.up
    have xg := x.gens
    have xd := x.drawn
    have xo := x.os
    refine fly_k x hAf fun e dx B2 mA tc oD esD epD mx a3 a4 a5c eD eDd eDr a6 a7 a9 a10 hns => ?_
    clear x
    refine be_cls_k w fun nm q bs sn sub ab col dd k0 k1 k2 k3 k5 hC => ?_
    refine be_ns_k w fun cl d es ep sl2 hN hstr hcode hg1 hg2 => ?_
    -- noted, landed
    refine fd_note hAf rfl a4 fun h₄ hd4 u4 => ?_
    refine fd_flight hd4 fun h₅ hd5 u5 => ?_
    have up5 : g.UpToSlots h₅ := (xup.trans u4).trans u5
    refine ground_k (h₅ := h₅) (m := mx) B' (env := envOf (Str.ofString "_law_heard") c'.cs L' 778 (.ref 777)) rfl F'.above (u5.ns (u4.ns hns)) a9 hd5.stays up5 fun g₅ T5 F5 => ?_
    have hLn : c.h₀.get? c.L = none := kts_self F0
    have inL : ∀ {b : Addr}, b ∈ [envOf cn c.cs c.L a ccd].filterMap (·.frame) → b = c.L := fun hm => by
      rcases kts_mem hm with z | z
      · exact z
      · simp at z
    have stG : ∀ {g2 : Heap}, KtsTurn ([envOf cn c.cs c.L a ccd].filterMap (·.frame)) g g2 → c.h₀.StaysIn g2 := fun T2 b o hb => T2.other b o (FG.keep b o hb) fun hm => by rw [inL hm, hLn] at hb; cases hb
    have X5 : (hd.heap_39 w.params).In g₅ := H.X.keeps (stG T5)
    have P5 := topRead_of (T.keeps (stG T5))
    refine tr_k hd5 fun sl5 vs5 e5 => ?_
    refine wpAny_handleBy_cons (codeAny_handlers_test (name_K F5 X5 P5 (g_BasicError w) ?_ rfl rfl (by decide))) (by intro q; cases q)
    refine wpAny_excMatches_sub_self ((X5.keeps F5.keep) _ _ hC) e5 rfl (by decide) (codeAny_handlers_suite_as ?_)
    refine fd_flight hd5 fun h₆ hd6 u6 => ?_
    have up6 : g.UpToSlots h₆ := up5.trans u6
    refine ground_k (h₅ := h₆) (m := mx) B' (env := envOf (Str.ofString "_law_heard") c'.cs L' 778 (.ref 777)) rfl F'.above (u6.ns (u5.ns (u4.ns hns))) a9 hd6.stays up6 fun g₆ T6 F6 => ?_
    have X6 : (hd.heap_39 w.params).In g₆ := H.X.keeps (stG T6)
    refine tr_k hd6 fun sl6 vs6 e6 => ?_
    have B2L : B2.get? L' = none := by
      obtain ⟨_, ⟨L2, _, hf2, hn2, _⟩, _⟩ := hd6.frames
      obtain rfl : L' = L2 := Option.some.inj hf2
      exact hn2
    have N6 : News g₆ L' h₆ ((dx, oD) :: (e, ⟨.ref 34, some dx, .fields vs6, sl6⟩) :: n) := by
      intro q hq
      rcases List.mem_cons.mp hq with rfl | hq
      · exact ⟨hd6.stays _ _ eD, fun z => (by rw [show dx = L' from z, B2L] at eD; cases eD), T6.none_ _ a7⟩
      · rcases List.mem_cons.mp hq with rfl | hq
        · refine ⟨e6, fun z => ?_, T6.none_ _ a6⟩
          obtain ⟨oL, esL, epL, gL, gLd, _⟩ := F6.ns
          rw [show e = L' from z, gL] at e6
          cases e6; cases gLd
        · exact ⟨hd6.stays _ _ (a10 q hq).1, (a10 q hq).2.1, T6.none_ _ (a10 q hq).2.2⟩
    refine stN F6 N6 (fun h7 F7 N7 => ?_) rfl rfl
    have X7 := X6.keeps F7.keep
    have hNs : h7.Ns 33 (nsFind es) := ⟨_, es, ep, X7 _ _ hN, rfl, hstr, fun _ => rfl⟩
    have e7 := (N7 _ (.tail _ (.head _))).1
    have d7 := (N7 _ (.head _)).1
    have hde : dx ≠ e := fun z => by
      have h1 := e7
      rw [← z] at h1
      rw [d7] at h1
      cases h1; cases eDd
    have I7 : h7.Inst e 34 mA := ⟨_, e7, rfl, fun _ => nofun, .inr ⟨dx, rfl, hde, oD, esD, epD, d7, eDd, eDr⟩⟩
    refine wpAny_execs_cons (wpAny_Return_some (Attribute_any_ (nameX_L F7 (by rw [if_pos rfl]) ?_ rfl rfl (by decide)) (by with_unfolding_all rfl)))
    refine xg_attr (B := "Exception") (X7 _ _ hC) hNs hg1 hg2 hcode PySem.F.excBase_Exception.mroIs (by decide) XF.slot_ga XF.no_getattr XF.no_code I7 a5c rfl ?_
    show wpAny _ _ (bindName _ _ _ >>= fun _ => unbindBehindTheSuite _ _ _) _ _ _
    refine wpAny_bind (bindName_ (stN F7 N7 (fun h8 F8 N8 => ?_) rfl rfl))
    unfold unbindBehindTheSuite
    refine wpAny_onRaise (wpAny_unbindName_local rfl F8.ns (by rw [if_pos rfl]) rfl (fun h9 u9 hn9 hs9 => ?_))
    have F9 := F8.set hn9 hs9
    have N9 := N8.set hs9
    exact leaveS0_ F9 (news' := n) (fun q hq => N9 q (.tail _ (.tail _ hq))) T6 (fun F0' N0' => ⟨l, n, ⟨xg, xd, xo, ⟨m, F0', hlc⟩, N0', S0.nd, S0.lk⟩, h2 xc hx tc⟩)
end

-- ===== L9
section
variable {prog : Program} {w : World} {c : Cx} {E : Value → Shared → Prop} {l : Loc} {n : Led} {t u : Tok} {env : Env}
theorem w_augS {o i : Expr} {pos' : Pos} {op : Operator} {value : Expr} {pos : Pos} {Q : Flow → Loc → Led → Prop}
    (ha : ∀ ov iv new, augStore i ov iv new = (do holding [new, ov, iv] (setItem ov iv new); release [new, ov, iv] []; pure .next))
    (h : W prog w c (eval o env) (fun ov l' n' => W prog w c (eval i env) (fun iv l' n' => W prog w c (getItem ov iv) (fun old l' n' => W prog w c (eval value env) (fun v l' n' => W prog w c (inplaceOp op old v) (fun new l' n' => W prog w c (setItem ov iv new) (fun _ l' n' => Q .next l' n') E l' n') E l' n') E l' n') E l' n') E l' n') E l n) :
    W prog w c (exec (.AugAssign (.Subscript o i pos') op value pos) env) Q E l n := fun _ S =>
  wpAny_AugAssign_Subscript_any (h.go S fun _ _ _ _ S x => x.go S fun _ _ _ _ S x => x.go S fun _ _ _ _ S x => x.go S fun _ _ _ _ S x => x.go S fun _ _ _ _ S x => x.go S fun _ _ _ _ S x => W.fin S x) ha
theorem w_assignSub {o i : Expr} {pos' pos : Pos} {value : Expr} {Q : Flow → Loc → Led → Prop} (hs : swapsWith value (some (.Subscript o i pos')) pos.line env = pure false)
    (h : W prog w c (eval value env) (fun v l' n' => W prog w c (eval o env) (fun ov l' n' => W prog w c (eval i env) (fun iv l' n' => W prog w c (setItem ov iv v) (fun _ l' n' => Q .next l' n') E l' n') E l' n') E l' n') E l n) :
    W prog w c (exec (.Assign [.Subscript o i pos'] value pos) env) Q E l n := fun _ S =>
  wpAny_Assign_Subscript (h.go S fun _ _ _ _ S x => x.go S fun _ _ _ _ S x => x.go S fun _ _ _ _ S x => x.go S fun _ _ _ _ S x => W.fin S x) hs
variable {Q : Value → Loc → Led → Prop}
theorem w_getitem {a : Addr} {vs : List Value} {k i : Nat} {v : Value} (hm : (a, PySem.W.listOf vs.toArray k) ∈ n) (hv : vs[i]? = some v) (hi : i < 2 ^ 63) (h : Q v l n) : W prog w c (getItem (.ref a) (.int (i : Int) u)) Q E l n :=
  fun _ S => wpAny_getItem_list (isList_of S.nw hm) (by omega) (by omega) (by simpa using hv) (W.fin S h)
theorem w_setitem {D : Addr} {vs : List Value} {k i : Nat} {v : Value} {n' : Led} {Q : Unit → Loc → Led → Prop} (hu : RepAt D (PySem.W.listOf vs.toArray k) (PySem.W.listOf (vs.set i v).toArray k) n n') (hi : i < vs.length) (hb : i < 2 ^ 63) (h : Q () l n') :
    W prog w c (setItem (.ref D) (.int (i : Int) u) v) Q E l n := fun s S => by
  obtain ⟨U, nd⟩ := hu.upd S.nd
  obtain ⟨m, F, hl⟩ := S.fr
  obtain ⟨pre, post, rfl, rfl, a, b⟩ := U.split
  have z := S.nw (D, PySem.W.listOf vs.toArray k) (List.mem_append.mpr (.inr (.head _)))
  refine ki_setAt z.1 (by omega) (by omega) (by simpa using hi) (W.fin (S.put (tk := s.toks) ⟨m, F.change (Heap.SameBut.update ..) z.2.1 z.2.2, hl⟩ (ki_turn _ S.nw a b ?_ ?_) nd S.lk) h)
  · show vs.toArray.setIfInBounds ((i : Int)).toNat v = (vs.set i v).toArray
    apply Array.toList_inj.mp
    simp
  · simp
theorem w_abs {a : Int} (h : ∀ t, Q (.int (if a < 0 then -a else a) t) l n) : W prog w c (call (.builtin "abs") [.int a t]) Q E l n := fun _ S => call_abs_int fun _ _ => W.fin S.tok (h _)
theorem w_item_listZ {value slice : Expr} {a : Addr} {vs : List Value} {k : Nat} {i : Int} {v : Value} (hm : (a, PySem.W.listOf vs.toArray k) ∈ n) (h0 : 0 ≤ i) (hv : vs[i.toNat]? = some v) (hi : i < 2 ^ 63)
    (hs : subscripted slice false (.ref a) (.int i u) = operate [.ref a, .int i u] (getItem (.ref a) (.int i u))) (hg : ∀ r, letTemporaryGo value (.ref a) r = pure ())
    (h : Q v l n) : W prog w c (subscriptTail value slice (.ref a) (.int i u)) Q E l n :=
  fun _ S => item_list (isList_of S.nw hm) h0 hi (by simpa using hv) ⟨l, n, S, h⟩ hs hg
theorem w_item_listA {value slice : Expr} {a : Addr} {vs : List Value} {k : Nat} {i : Int} {v : Value} (hm : (a, PySem.W.listOf vs.toArray k) ∈ n) (h0 : 0 ≤ i) (hv : vs[i.toNat]? = some v) (hi : i < 2 ^ 63)
    (hs : subscripted slice false (.ref a) (.int i u) = operate [.ref a, .int i u] (getItem (.ref a) (.int i u)))
    (h : Q v l n) : W prog w c (subscriptTail value slice (.ref a) (.int i u)) Q E l n :=
  fun _ S => tail_any (isList_of S.nw hm).typeIs slot_list_getitem.lookup (wpAny_getItem_list (isList_of S.nw hm) h0 hi (by simpa using hv) (W.fin S h)) hs
theorem w_getitemZ {a : Addr} {vs : List Value} {k : Nat} {i : Int} {v : Value} (hm : (a, PySem.W.listOf vs.toArray k) ∈ n) (h0 : 0 ≤ i) (hv : vs[i.toNat]? = some v) (hi : i < 2 ^ 63) (h : Q v l n) : W prog w c (getItem (.ref a) (.int i u)) Q E l n :=
  fun _ S => wpAny_getItem_list (isList_of S.nw hm) h0 hi (by simpa using hv) (W.fin S h)
theorem divP_small {a b : Int} (hb : (if b == 0 then 0 else b.natAbs.log2 / 30 + 1) ≤ 300) : Builtin.divisionGoesByPylong a b = false := by
  unfold Builtin.divisionGoesByPylong
  simp only [Bool.and_eq_false_iff, decide_eq_false_iff_not]
  exact .inl (by omega)
noncomputable abbrev shL (LS : Addr) (cnt : Nat) (tc : Tok) (sm : Int) (ts : Tok) : List Value := [.ref LS, .int (cnt : Nat) tc, .int sm ts]
theorem kw_55 : True := by
  k_with "m_C" => (
    first
      | ((with_reducible refine' w_augS ?zzha ?_); (case zzha => intros; with_unfolding_all rfl))
      | ((with_reducible refine' w_assignSub ?zzhs ?_); (case zzhs => (subst_vars; with_unfolding_all rfl)))
      | ((with_reducible refine' w_item_listA ?zzhm ?zzh0 ?zzhv ?zzhi ?zzhs ?_); (case zzhm => with_reducible k_extra "m_loc"); (case zzh0 => decide); (case zzhi => decide); (case zzhv => exact rfl); (case zzhs => with_unfolding_all rfl))
      | ((with_reducible refine' w_getitemZ ?zzhm ?zzh0 ?zzhv ?zzhi ?_); (case zzhm => with_reducible k_extra "m_loc"); (case zzh0 => decide); (case zzhi => decide); (case zzhv => exact rfl))
      | (with_reducible refine' w_le_int ?_)
      | ((with_reducible refine' w_abs ?_); intro _)
      | ((with_reducible refine' w_mod_int ?zzhb ?_); (case zzhb => first | assumption | decide); intro _)
      | ((with_reducible refine' w_div_int ?zzhb ?zzhp ?_); (case zzhb => decide); (case zzhp => exact divP_small (by decide)); intro _)
    )
  trivial
theorem c_grab {SH LS : Addr} {cnt many kl k : Nat} {tc ts : Tok} {sm : Int} {vs : List Value} {ns : List Int} {n' : Nat → Tok → Led} (H : AmbP w c) (hk : 1 ≤ c.k) (hS : (SH, PySem.W.listOf (shL LS cnt tc sm ts).toArray k) ∈ n) (hL : (LS, PySem.W.listOf vs.toArray kl) ∈ n) (hi : IntsAre vs ns) (hl : ns.length ≤ 64) (hm : 0 < many)
    (hu : ∀ cnt' tc', RepAt SH (PySem.W.listOf (shL LS cnt tc sm ts).toArray k) (PySem.W.listOf (shL LS cnt' tc' sm ts).toArray k) n (n' cnt' tc'))
    (hS' : ∀ cnt' tc', (SH, PySem.W.listOf (shL LS cnt' tc' sm ts).toArray k) ∈ n' cnt' tc') (hL' : ∀ cnt' tc', (LS, PySem.W.listOf vs.toArray kl) ∈ n' cnt' tc')
    (h : ∀ (r : Nat) t cnt' tc', r < many → Q (.int (r : Nat) t) l (n' cnt' tc')) : W PG w c (call (.ref 771) [.ref SH, .int (many : Int) t]) Q E l n := by
  have hm0 : (many : Int) ≠ 0 := by omega
  have fin : ∀ (a : Int) t tc', Q (.int (a.fmod (many : Int)) t) l (n' (cnt + 1) tc') := fun a t tc' => by
    have h1 := Int.fmod_nonneg_of_pos a (show (0 : Int) < many by omega)
    have h2 := Int.fmod_lt_of_pos a (show (0 : Int) < many by omega)
    have e : a.fmod (many : Int) = ((a.fmod (many : Int)).toNat : Int) := by omega
    rw [e]
    exact h _ t _ tc' (by omega)
  k_extra "m_enter"
  k_extra "m_go"
  refine w_setitem (i := 1) (hu (cnt + 1) _) (show 1 < 3 by decide) (by decide) ?_
  have hS2 := hS' (cnt + 1)
  have hL2 := hL' (cnt + 1)
  have hS3 := hS2 ‹_›
  have hL3 := hL2 ‹_›
  have hlen := hi.length
  k_extra "m_go"
  by_cases hc : ((cnt + 1 : Nat) : Int) ≤ (vs.toArray.size : Int)
  · rw [decide_eq_true hc]
    k_extra "m_go"
    have hj : cnt < ns.length := by simp at hc; omega
    obtain ⟨a, ta, hv⟩ : ∃ a ta, vs[cnt]? = some (.int a ta) := by
      clear hS2 hL2 hS3 hL3 hS hL hu hS' hL' h fin hlen hc hl
      induction hi generalizing cnt with
      | nil => exact absurd hj (Nat.not_lt_zero _)
      | cons i t _ ih =>
        cases cnt with
        | zero => exact ⟨i, t, rfl⟩
        | succ cnt => exact ih (Nat.lt_of_succ_lt_succ hj)
    refine w_item_listA (v := .int a ta) hL3 (by omega) ?hv (by simp at hc; omega) (by with_unfolding_all rfl) ?_
    case hv => rw [show (((cnt + 1 : Nat) : Int) - 1).toNat = cnt by omega]; exact hv
    k_extra "m_go"
    exact fin _ _ _
  · rw [decide_eq_false hc]
    k_extra "m_go"
    exact fin _ _ _
end

-- ===== Pq
/-- the figures of a number -/
noncomputable def dig (n : Nat) : List Nat := (Str.ofString (toString (n : Int))).cps.toList
theorem dig_S (n : Nat) : Str.ofString (toString (n : Int)) = S (dig n) := rfl
theorem dig_ok : ∀ n, n < 91 → valOf (dig n) = n ∧ dig n ≠ [] ∧ (∀ ch ∈ dig n, fig ch = true) ∧ (dig n).length ≤ 2 ∧ (1 ≤ n → (dig n).head?.any (fun ch => ch ∈ [49, 50, 51, 52, 53, 54, 55, 56, 57]) = true) := by
  decide +kernel
inductive Ev
  | ifE (a : Nat)
  | elseE
  | doE (k n : Nat)
noncomputable def doText : Nat → Nat → List Nat
  | 0, n => dig n
  | 1, n => dig n ++ [58, 83, 84, 79, 80]
  | 2, _ => [78, 69, 88, 84, 32, 58, 58, 32, 69, 78, 68]
  | _, n => [71, 79, 83, 85, 66, 32] ++ dig n
noncomputable def doTrees : Nat → Nat → List Dat
  | 0, n => [dGOTO (dig n)]
  | 1, n => [dGOTO (dig n), dSTOP]
  | 2, _ => [dNEXT, dEND]
  | _, n => [dGOSUB (dig n)]
noncomputable def Ev.dat : Ev → Dat
  | .ifE a => .tuple [.str (Str.ofString "if"), .str (S [65 + a])]
  | .elseE => .tuple [.str (Str.ofString "else")]
  | .doE k n => .tuple [.str (Str.ofString "do"), .list (doTrees k n), .str (S (doText k n))]
noncomputable def Ev.Ok : Ev → Prop
  | .ifE a => a < 3
  | .elseE => True
  | .doE k n => k < 4 ∧ 1 ≤ n ∧ n ≤ 90
/-- rows of events: their trees, and how many conditions lack an ELSE -/
inductive RowL : List Ev → List Dat → Nat → Prop
  | one {k n : Nat} : RowL [.doE k n] (doTrees k n) 0
  | ifT {a : Nat} {es : List Ev} {x : List Dat} {k : Nat} : RowL es x k → RowL (.ifE a :: es) [dIF [65 + a] x []] (k + 1)
  | ifE {a : Nat} {e1 e2 : List Ev} {x y : List Dat} {k : Nat} : RowL e1 x 0 → RowL e2 y k → RowL (.ifE a :: (e1 ++ .elseE :: e2)) [dIF [65 + a] x y] k
theorem RowL.ext {evs : List Ev} {x : List Dat} {k k' : Nat} (h : RowL evs x k) : k = k' + 1 → ∀ {e : List Ev} {z : List Dat} {j : Nat}, RowL e z j → ∃ y, RowL (evs ++ .elseE :: e) y (k' + j) := by
  induction h generalizing k' with
  | one => intro h; cases h
  | @ifT a es x k h ih =>
    intro hk e z j he
    obtain rfl : k = k' := by omega
    cases k with
    | zero => exact ⟨_, by rw [Nat.zero_add, List.cons_append]; exact .ifE h he⟩
    | succ k =>
      obtain ⟨y, hy⟩ := ih rfl he
      exact ⟨_, by rw [List.cons_append, show k + 1 + j = (k + j) + 1 by omega]; exact .ifT hy⟩
  | @ifE a e1 e2 x y k h1 h2 _ ih2 =>
    intro hk e z j he
    obtain ⟨y', hy⟩ := ih2 hk he
    exact ⟨_, by rw [List.cons_append, List.append_assoc, List.cons_append]; exact .ifE h1 hy⟩
/-- a row that is open: any full row behind it completes it -/
noncomputable def GO (evs : List Ev) (k : Nat) : Prop := ∀ e x j, RowL e x j → ∃ y, RowL (evs ++ e) y (k + j)
noncomputable def GC (evs : List Ev) (k : Nat) : Prop := ∃ x, RowL evs x k
theorem GO.nil : GO [] 0 := fun e x j h => ⟨x, by rw [Nat.zero_add]; exact h⟩
theorem GO.ifs {evs : List Ev} {k a : Nat} (h : GO evs k) : GO (evs ++ [.ifE a]) (k + 1) := fun e x j he => by
  obtain ⟨y, hy⟩ := h _ _ _ (RowL.ifT (a := a) he)
  exact ⟨y, by rw [List.append_assoc, show k + 1 + j = k + (j + 1) by omega]; exact hy⟩
theorem GO.dos {evs : List Ev} {k i n : Nat} (h : GO evs k) : GC (evs ++ [.doE i n]) k := h _ _ _ .one
theorem GC.elses {evs : List Ev} {k : Nat} (h : GC evs (k + 1)) : GO (evs ++ [.elseE]) k := fun e x j he => by
  obtain ⟨x0, h0⟩ := h
  obtain ⟨y, hy⟩ := h0.ext rfl he
  exact ⟨y, by rw [List.append_assoc]; exact hy⟩

-- ===== L10
section
variable {prog : Program} {w : World} {c : Cx} {E : Value → Shared → Prop} {l : Loc} {n : Led} {t u : Tok} {env : Env} {Q : Value → Loc → Led → Prop}
theorem w_str_int {a : Int} (ha : a.natAbs.log2 < 1920) (h : ∀ t, Q (.str (toString a) t) l n) : W prog w c (call (.type "str") [.int a t]) Q E l n := fun _ S => PySem.P.str_of_int ha (W.fin S.tok (h _))
noncomputable abbrev shO (LS : Addr) (sm : Int) (ts : Tok) (k : Nat) (cnt : Nat) (tc : Tok) : Obj := PySem.W.listOf (shL LS cnt tc sm ts).toArray k
theorem c_grab2 {SH LS : Addr} {cnt many kl k : Nat} {b : Int} {tc ts : Tok} {sm : Int} {vs : List Value} {ns : List Int} {n' : Nat → Tok → Led} (H : AmbP w c) (hk : 1 ≤ c.k) (hS : (SH, PySem.W.listOf (shL LS cnt tc sm ts).toArray k) ∈ n) (hL : (LS, PySem.W.listOf vs.toArray kl) ∈ n) (hi : IntsAre vs ns) (hl : ns.length ≤ 64) (hb : b = (many : Int)) (hm : 0 < many)
    (hu : ∀ cnt' tc', RepAt SH (PySem.W.listOf (shL LS cnt tc sm ts).toArray k) (PySem.W.listOf (shL LS cnt' tc' sm ts).toArray k) n (n' cnt' tc'))
    (hS' : ∀ cnt' tc', (SH, PySem.W.listOf (shL LS cnt' tc' sm ts).toArray k) ∈ n' cnt' tc') (hL' : ∀ cnt' tc', (LS, PySem.W.listOf vs.toArray kl) ∈ n' cnt' tc')
    (h : ∀ (r : Nat) t cnt' tc', r < many → Q (.int (r : Nat) t) l (n' cnt' tc')) : W PG w c (call (.ref 771) [.ref SH, .int b t]) Q E l n := by
  subst hb; exact c_grab H hk hS hL hi hl hm hu hS' hL' h
theorem kw_56 : True := by
  k_with "m_rep4" => (
    first | exact RepAt.head | assumption | exact (‹∀ v, RepAt _ _ _ _ _›) _ | exact (‹∀ (_ : Nat) (_ : Tok) (_ : Nat) (_ : Tok), RepAt _ _ _ _ _›) _ _ _ _ | exact (‹∀ (_ : Nat) (_ : Tok), RepAt _ _ _ _ _›) _ _ | (apply RepAt.tail; k_extra "m_rep4") | (apply RepAt.app; k_extra "m_rep4")
    )
  trivial
theorem kw_57 : True := by
  k_with "m_loc4" => (
    first | exact List.mem_cons_self | assumption | exact (‹∀ (_ : Nat) (_ : Tok), (_, _) ∈ _›) _ _ | (apply List.mem_cons_of_mem; k_extra "m_loc4") | (apply List.mem_append_right; k_extra "m_loc4") | (apply List.mem_append_left; k_extra "m_loc4")
    )
  trivial
theorem kw_58 : True := by
  k_with "m_C" => (
    first
      | ((with_reducible refine' w_cw_ty ?zzhe ?zzha ?_); (case zzhe => with_unfolding_all rfl); (case zzha => with_unfolding_all rfl))
      | ((with_reducible refine' w_str_int ?zzha ?_); (case zzha => assumption); intro _)
      | ((with_reducible refine' w_add_str ?zzhs ?_); (case zzhs => k_extra "m_sz"); intro _)
    )
  trivial
theorem doE0 {N : Nat} (d1 : valOf (dig N) = N) : (Ev.doE 0 N).dat = .tuple [.str (Str.ofString "do"), .list [.tuple [.str (Str.ofString "GOTO"), .int (N : Nat)]], .str (Str.ofString (toString (N : Int)))] := by
  show Dat.tuple [_, .list [dGOTO (dig N)], .str (S (dig N))] = _
  unfold dGOTO; rw [d1, dig_S]
theorem doE1 {N : Nat} (d1 : valOf (dig N) = N) : (Ev.doE 1 N).dat = .tuple [.str (Str.ofString "do"), .list [.tuple [.str (Str.ofString "GOTO"), .int (N : Nat)], .tuple [.str (Str.ofString "STOP")]], .str (Str.ofString (toString (N : Int)) ++ Str.ofString ":STOP")] := by
  show Dat.tuple [_, .list [dGOTO (dig N), dSTOP], .str (S (dig N ++ [58, 83, 84, 79, 80]))] = _
  unfold dGOTO dSTOP; rw [d1, ← S_app, dig_S, show Str.ofString ":STOP" = S [58, 83, 84, 79, 80] from by decide +kernel]
theorem doE2 {N : Nat} : (Ev.doE 2 N).dat = .tuple [.str (Str.ofString "do"), .list [.tuple [.str (Str.ofString "NEXT"), .list []], .tuple [.str (Str.ofString "END")]], .str (Str.ofString "NEXT :: END")] := by
  show Dat.tuple [_, .list [dNEXT, dEND], .str (S [78, 69, 88, 84, 32, 58, 58, 32, 69, 78, 68])] = _
  unfold dNEXT dEND; rw [show Str.ofString "NEXT :: END" = S [78, 69, 88, 84, 32, 58, 58, 32, 69, 78, 68] from by decide +kernel]
theorem doE3 {N : Nat} (d1 : valOf (dig N) = N) : (Ev.doE 3 N).dat = .tuple [.str (Str.ofString "do"), .list [.tuple [.str (Str.ofString "GOSUB"), .int (N : Nat)]], .str (Str.ofString "GOSUB " ++ Str.ofString (toString (N : Int)))] := by
  show Dat.tuple [_, .list [dGOSUB (dig N)], .str (S ([71, 79, 83, 85, 66, 32] ++ dig N))] = _
  unfold dGOSUB; rw [d1, ← S_app, dig_S, show Str.ofString "GOSUB " = S [71, 79, 83, 85, 66, 32] from by decide +kernel]
theorem c_deed {SH LS : Addr} {cnt kl k : Nat} {tc ts : Tok} {sm : Int} {vs : List Value} {ns : List Int} {n' : Nat → Tok → Led} (H : AmbP w c) (hk : 2 ≤ c.k) (hS : (SH, PySem.W.listOf (shL LS cnt tc sm ts).toArray k) ∈ n) (hL : (LS, PySem.W.listOf vs.toArray kl) ∈ n) (hi : IntsAre vs ns) (hl : ns.length ≤ 64)
    (hu : ∀ cnt' tc', RepAt SH (PySem.W.listOf (shL LS cnt tc sm ts).toArray k) (PySem.W.listOf (shL LS cnt' tc' sm ts).toArray k) n (n' cnt' tc'))
    (hu4 : ∀ a b cnt' tc', RepAt SH (PySem.W.listOf (shL LS a b sm ts).toArray k) (PySem.W.listOf (shL LS cnt' tc' sm ts).toArray k) (n' a b) (n' cnt' tc'))
    (hS' : ∀ cnt' tc', (SH, PySem.W.listOf (shL LS cnt' tc' sm ts).toArray k) ∈ n' cnt' tc') (hL' : ∀ cnt' tc', (LS, PySem.W.listOf vs.toArray kl) ∈ n' cnt' tc')
    (h : ∀ cnt' tc' tl n'', GB tl (n' cnt' tc') n'' → ∀ v i m, i < 4 → 1 ≤ m → m ≤ 90 → DatIn tl v (Ev.doE i m).dat → Q v l n'') : W PG w c (call (.ref 792) [.ref SH]) Q E l n := by
  k_extra "m_enter"
  k_extra "m_go"
  refine c_grab2 (many := 90) (by assumption) (by omega) hS hL hi hl rfl (by decide) hu hS' hL' fun r tr cnt1 tc1 hr => ?_
  obtain ⟨N, hN⟩ : ∃ N, N = r + 1 := ⟨_, rfl⟩
  have hN1 : 1 ≤ N := by omega
  have hN2 : N ≤ 90 := by omega
  have hlog : ((N : Int)).natAbs.log2 < 1920 := by
    have h1 : (N : Int).natAbs = N := by omega
    rw [h1]
    by_cases h0 : N = 0
    · rw [h0]; decide
    · exact Nat.lt_of_lt_of_le ((Nat.log2_lt h0).mpr (show N < 2 ^ 7 by omega)) (by decide)
  obtain ⟨d1, d2, d3, d4, d5⟩ := dig_ok N (by omega)
  have hsz : (Str.ofString (toString (N : Int))).length ≤ 2 := by rw [dig_S, S_len]; exact d4
  k_extra "m_go"
  rw [show (1 : Int) + (r : Int) = (N : Int) by omega]
  k_extra "m_go"
  have hl1 : (Str.ofString ":STOP").length = 5 := by decide +kernel
  have hl2 : (Str.ofString "GOSUB ").length = 6 := by decide +kernel
  refine w_add_str ?hs1 fun t1 => ?_
  case hs1 => rw [hl1, line_is]; omega
  k_extra "m_go"
  refine' c_grab2 (SH := SH) (LS := LS) (sm := sm) (ts := ts) (k := k) (vs := vs) (kl := kl) (cnt := cnt1) (tc := tc1) (many := 4) ?H ?hk ?hS ?hL hi hl rfl ?hm ?hu ?hS' ?hL' ?_
  case H => assumption
  case hk => omega
  case hm => decide
  case hS => repeat (first | exact hS' cnt1 tc1 | apply List.mem_cons_of_mem)
  case hL => repeat (first | exact hL' cnt1 tc1 | apply List.mem_cons_of_mem)
  case hu => intro a b; repeat (first | exact hu4 cnt1 tc1 a b | apply RepAt.tail)
  case hS' => intro a b; repeat (first | exact hS' a b | apply List.mem_cons_of_mem)
  case hL' => intro a b; repeat (first | exact hL' a b | apply List.mem_cons_of_mem)
  intro r2 tr2 cnt2 tc2 hr2
  have hr4 : r2 = 0 ∨ r2 = 1 ∨ r2 = 2 ∨ r2 = 3 := by omega
  rcases hr4 with rfl | rfl | rfl | rfl
  · refine w_item_listA (v := .ref _) (by with_reducible k_extra "m_loc") (by decide) rfl (by decide) (by with_unfolding_all rfl) ?_
    k_extra "m_go"
    refine h _ _ _ _ (by k_extra "m_gb") _ 0 N (by decide) hN1 hN2 ?_
    rw [doE0 d1]; dsimp only [retOf]; k_extra "m_dat"
  · refine w_item_listA (v := .ref _) (by with_reducible k_extra "m_loc") (by decide) rfl (by decide) (by with_unfolding_all rfl) ?_
    k_extra "m_go"
    refine h _ _ _ _ (by k_extra "m_gb") _ 1 N (by decide) hN1 hN2 ?_
    rw [doE1 d1]; dsimp only [retOf]; k_extra "m_dat"
  · refine w_item_listA (v := .ref _) (by with_reducible k_extra "m_loc") (by decide) rfl (by decide) (by with_unfolding_all rfl) ?_
    k_extra "m_go"
    refine h _ _ _ _ (by k_extra "m_gb") _ 2 N (by decide) hN1 hN2 ?_
    rw [doE2]; dsimp only [retOf]; k_extra "m_dat"
  · refine w_item_listA (v := .ref _) (by with_reducible k_extra "m_loc") (by decide) rfl (by decide) (by with_unfolding_all rfl) ?_
    k_extra "m_go"
    refine h _ _ _ _ (by k_extra "m_gb") _ 3 N (by decide) hN1 hN2 ?_
    rw [doE3 d1]; dsimp only [retOf]; k_extra "m_dat"
end

-- ===== L11
section
variable {prog : Program} {w : World} {c : Cx} {E : Value → Shared → Prop} {l : Loc} {n : Led} {t u : Tok} {env : Env} {Q : Value → Loc → Led → Prop}
theorem kw_59 : True := by
  k_with "m_cut" => (
    first | with_reducible exact Cut.head | ((with_reducible apply Cut.tail); k_extra "m_cut") | ((with_reducible apply Cut.app); k_extra "m_cut")
    )
  trivial
theorem abc_item {r : Nat} (h : r < 3) : Txt.item (Str.ofString "ABC") (r : Int) = S [65 + r] := by
  have : r = 0 ∨ r = 1 ∨ r = 2 := by omega
  rcases this with rfl | rfl | rfl <;> decide +kernel
theorem w_item_abc {value slice : Expr} {r : Nat} (hr : r < 3)
    (hs : subscripted slice false (.str (Str.ofString "ABC") t) (.int (r : Int) u) = operate [.str (Str.ofString "ABC") t, .int (r : Int) u] (getItem (.str (Str.ofString "ABC") t) (.int (r : Int) u))) (hg : ∀ r, letTemporaryGo value (.str (Str.ofString "ABC") t) r = pure ())
    (h : ∀ t, Q (.str (S [65 + r]) t) l n) : W PG w c (subscriptTail value slice (.str (Str.ofString "ABC") t) (.int (r : Int) u)) Q E l n := by
  have e : (Str.ofString "ABC").length = 3 := by decide +kernel
  refine w_item_str hs hg (by rw [e, line_is]; omega) (by omega) (by rw [e]; omega) fun t => ?_
  rw [abc_item hr]; exact h t
theorem kw_60 : True := by
  k_with "m_C" => (
    first
      | ((with_reducible refine' c_grab2 ?zzH ?zzhk ?zzhS ?zzhL ?zzhi ?zzhl ?zzhb ?zzhm ?zzhu ?zzhS' ?zzhL' ?_); (case zzH => assumption); (case zzhk => omega); (case zzhS => with_reducible k_extra "m_loc"); (case zzhL => with_reducible k_extra "m_loc"); (case zzhi => with_reducible assumption); (case zzhl => with_reducible assumption); (case zzhb => exact rfl); (case zzhm => decide); (case zzhu => (intro _ _; with_reducible k_extra "m_rep")); (case zzhS' => (intro _ _; with_reducible k_extra "m_loc")); (case zzhL' => (intro _ _; with_reducible k_extra "m_loc")); intro _ _ _ _ _)
      | ((with_reducible refine' c_deed ?zzH ?zzhk ?zzhS ?zzhL ?zzhi ?zzhl ?zzhu ?zzhu4 ?zzhS' ?zzhL' ?_); (case zzH => assumption); (case zzhk => omega); (case zzhS => with_reducible k_extra "m_loc"); (case zzhL => with_reducible k_extra "m_loc"); (case zzhi => with_reducible assumption); (case zzhl => with_reducible assumption); (case zzhu => (intro _ _; with_reducible k_extra "m_rep")); (case zzhu4 => (intro _ _ _ _; with_reducible k_extra "m_rep")); (case zzhS' => (intro _ _; with_reducible k_extra "m_loc")); (case zzhL' => (intro _ _; with_reducible k_extra "m_loc")); intro _ _; refine gb_all ?_; intro _ _ _ _ _ _ _ _)
      | ((with_reducible refine' w_item_abc ?zzhr ?zzhs ?zzhg ?_); (case zzhr => assumption); (case zzhs => with_unfolding_all rfl); (case zzhg => with_unfolding_all exact fun _ => rfl); intro _)
      | (with_reducible refine' w_eq_int ?_)
      | ((with_reducible refine' w_range1 ?_); intro _ _ _ _ _)
    )
  trivial
theorem st_open {evs : List Ev} {lk : Nat} (h : GO evs lk) : (if true = true then GO evs lk else GC evs lk) := h
theorem st_closed {evs : List Ev} {lk : Nat} (h : GC evs lk) : (if false = true then GO evs lk else GC evs lk) := h
theorem ok_do {i m : Nat} (h1 : i < 4) (h2 : 1 ≤ m) (h3 : m ≤ 90) : (Ev.doE i m).Ok := ⟨h1, h2, h3⟩
theorem ok_else : Ev.elseE.Ok := True.intro
theorem map_snoc {evs : List Ev} {e : Ev} : (evs ++ [e]).map Ev.dat = evs.map Ev.dat ++ [e.dat] := by simp
theorem ok_snoc {evs : List Ev} {e : Ev} (h : ∀ x ∈ evs, x.Ok) (he : e.Ok) : ∀ x ∈ evs ++ [e], x.Ok := fun x hx => by
  rcases List.mem_append.mp hx with hx | hx
  · exact h x hx
  · rw [List.mem_singleton.mp hx]; exact he
theorem len_snoc {evs : List Ev} {e : Ev} {i : Nat} (h : evs.length ≤ i) : (evs ++ [e]).length ≤ i + 1 := by simp; omega
inductive EvJ (SH EV LS : Addr) (k : Nat) (sm : Int) (ts : Tok) (n0 : Led) (i : Nat) (n' : Led) : Loc → Prop
  | mk {a : Nat} {b : Tok} {evs : List Ev} {us : List Value} {j : Nat} {tl : Led} {o : Bool} {lk : Nat} {tt : Tok} {x1 x2 : Option Value} (hgb : GB tl ((EV, PySem.W.listOf us.toArray j) :: (SH, PySem.W.listOf (shL LS a b sm ts).toArray k) :: n0) n')
    (hda : DatAll tl us (evs.map Ev.dat)) (hlen : evs.length ≤ i) (hok : ∀ e ∈ evs, e.Ok) (hst : if o then GO evs lk else GC evs lk) :
    EvJ SH EV LS k sm ts n0 i n' [(Str.ofString "shelf", some (.ref SH)), (Str.ofString "events", some (.ref EV)), (Str.ofString "is_open", some (.bool o)), (Str.ofString "lacking", some (.int (lk : Nat) tt)), (Str.ofString "turn", x1), (Str.ofString "form", x2)]
theorem c_events {SH LS : Addr} {cnt kl k : Nat} {tc ts : Tok} {sm : Int} {vs : List Value} {ns : List Int} {n0 : Led} (H : AmbP w c) (hk : 3 ≤ c.k) (hn : n = (SH, PySem.W.listOf (shL LS cnt tc sm ts).toArray k) :: n0) (hL : (LS, PySem.W.listOf vs.toArray kl) ∈ n0) (hi : IntsAre vs ns) (hl : ns.length ≤ 64)
    (h : ∀ a b tl n'', GB tl ((SH, PySem.W.listOf (shL LS a b sm ts).toArray k) :: n0) n'' → ∀ EV us j evs lk, (EV, PySem.W.listOf us.toArray j) ∈ tl → DatAll tl us (evs.map Ev.dat) → GC evs lk → evs.length ≤ 10 → (∀ e ∈ evs, e.Ok) → Q (.ref EV) l n'') : W PG w c (call (.ref 785) [.ref SH]) Q E l n := by
  subst hn
  k_extra "m_enter"
  k_extra "m_go"
  rename_i c' env' E2 H' he' hc' hk' EV hEV _ _ _
  refine w_for_rangeP (Amb.hd (by assumption)) (fun _ => rfl) ?_
  k_extra "m_go"
  rename_i r tr a0 b0 hr RG t1 t2 t3 hRG
  have hr10 : r < 10 := hr
  have hr62 : r < 2 ^ 62 := Nat.lt_of_lt_of_le hr10 (by decide)
  refine .mk (m := r) (fun i l' n' => EvJ SH EV LS k sm ts n0 i n' l') hr62 (by with_reducible k_extra "m_loc") (.mk (evs := []) (us := []) (o := true) (lk := 0) (by k_extra "m_gb") .nil (Nat.le_refl _) (fun _ h => nomatch h) GO.nil) ?_ ?_
  · intro i ti l₁ n₁ hir hJ own E3 P fin
    cases hJ with
    | @mk a b evs us j tl o lk tt x1 x2 hgb hda hlen hok hst =>
    have hn1 := hgb.eq
    subst hn1
    clear hgb
    have hul := hda.length
    rw [List.length_map] at hul
    k_extra "m_go"
    cases o with
    | true =>
      k_extra "m_go"
      rename_i r1 _ a1 b1 hr1 _
      by_cases hz : r1 = 0
      · rw [show (((r1 : Nat) : Int) == 0) = true from by rw [hz]; rfl]
        k_extra "m_go"
        exact fin _ _ _ (by k_extra "m_cut") (.mk (evs := evs ++ [.ifE _]) (us := us ++ [_]) (o := true) (lk := lk + 1) (by k_extra "m_gb") (by rw [map_snoc]; exact dat_snoc (hda.mono (by k_extra "m_sub")) (by unfold Ev.dat; k_extra "m_dat")) (len_snoc hlen) (ok_snoc hok (by assumption)) (st_open (GO.ifs hst)))
      · rw [show (((r1 : Nat) : Int) == 0) = false from by simp; omega]
        k_extra "m_go"
        exact fin _ _ _ (by k_extra "m_cut") (.mk (evs := evs ++ [.doE _ _]) (us := us ++ [_]) (o := false) (lk := lk) (by k_extra "m_gb") (by rw [map_snoc]; exact dat_snoc (hda.mono (by k_extra "m_sub")) (by k_extra "m_dat")) (len_snoc hlen) (ok_snoc hok (ok_do (by assumption) (by assumption) (by assumption))) (st_closed (GO.dos hst)))
    | false =>
      k_extra "m_go"
      cases lk with
      | zero =>
        rw [show decide ((0 : Int) < ((0 : Nat) : Int)) = false from rfl]
        k_extra "m_go"
        exact fin _ _ _ (by k_extra "m_cut") (.mk (evs := evs) (us := us) (o := false) (lk := 0) (by k_extra "m_gb") (hda.mono (by k_extra "m_sub")) (Nat.le_succ_of_le hlen) hok hst)
      | succ lk =>
        rw [show decide ((0 : Int) < ((lk + 1 : Nat) : Int)) = true from decide_eq_true (by omega)]
        k_extra "m_go"
        rw [show (((lk + 1 : Nat) : Int) - 1) = (lk : Int) by omega]
        exact fin _ _ _ (by k_extra "m_cut") (.mk (evs := evs ++ [.elseE]) (us := us ++ [_]) (o := true) (lk := lk) (by k_extra "m_gb") (by rw [map_snoc]; exact dat_snoc (hda.mono (by k_extra "m_sub")) (by unfold Ev.dat; k_extra "m_dat")) (len_snoc hlen) (ok_snoc hok ok_else) (st_open (GC.elses hst)))
  · intro l₁ n₁ hJ
    cases hJ with
    | @mk a b evs us j tl o lk tt x1 x2 hgb hda hlen hok hst =>
    have hn1 := hgb.eq
    subst hn1
    clear hgb
    have hul := hda.length
    rw [List.length_map] at hul
    k_extra "m_go"
    cases o with
    | false =>
      k_extra "m_go"
      exact h _ _ _ _ (by k_extra "m_gb") _ us _ evs lk (by with_reducible k_extra "m_loc") (hda.mono (by k_extra "m_sub")) hst (by omega) hok
    | true =>
      k_extra "m_go"
      exact h _ _ _ _ (by k_extra "m_gb") _ (us ++ [_]) _ (evs ++ [.doE _ _]) lk (by with_reducible k_extra "m_loc") (by rw [map_snoc]; exact dat_snoc (hda.mono (by k_extra "m_sub")) (by k_extra "m_dat")) (GO.dos hst) (by rw [List.length_append, List.length_singleton]; omega) (ok_snoc hok (ok_do (by assumption) (by assumption) (by assumption)))
end

-- ===== Pr
noncomputable def evPcs (f : Bool) : Ev → List Pc
  | .ifE a => [.tk (.wd kIF), .sp, .tk (.wd [65 + a]), .sp, .tk (.wd kTHEN), .sp]
  | .elseE => [.sp, .tk (.wd kELSE), .sp]
  | .doE 0 n => (if f then [.tk (.wd kGOTO), .sp] else []) ++ [.tk (.num (dig n))]
  | .doE 1 n => (if f then [.tk (.wd kGOTO), .sp] else []) ++ [.tk (.num (dig n)), .tk .col, .tk (.wd kSTOP)]
  | .doE 2 _ => [.tk (.wd kNEXT), .sp, .tk .col, .tk .col, .sp, .tk (.wd kEND)]
  | .doE _ n => [.tk (.wd kGOSUB), .sp, .tk (.num (dig n))]
noncomputable def rowPcs : Bool → List Ev → List Pc
  | _, [] => []
  | f, e :: r => evPcs f e ++ rowPcs false r
theorem rowPcs_snoc (e : Ev) : ∀ (f : Bool) (l : List Ev), rowPcs f (l ++ [e]) = rowPcs f l ++ evPcs (f && l.isEmpty) e
  | f, [] => by simp [rowPcs]
  | f, a :: r => by
    rw [List.cons_append]
    show evPcs f a ++ rowPcs false (r ++ [e]) = (evPcs f a ++ rowPcs false r) ++ evPcs (f && false) e
    rw [rowPcs_snoc e false r, Bool.and_false, Bool.false_and, List.append_assoc]
theorem flat_app (a b : List Pc) : flat (a ++ b) = flat a ++ flat b := by simp [flat]
theorem toks_app : ∀ (a b : List Pc), toks (a ++ b) = toks a ++ toks b
  | [], _ => rfl
  | .sp :: r, b => toks_app r b
  | .tk k :: r, b => by show k :: toks (r ++ b) = k :: (toks r ++ toks b); rw [toks_app r b]
theorem evPcs_len {f : Bool} {e : Ev} (h : e.Ok) : (flat (evPcs f e)).length ≤ 17 := by
  cases e with
  | ifE a => show _ ≤ 17; simp [evPcs, flat, Pc.txt, Tk.txt, kIF, kTHEN]
  | elseE => simp [evPcs, flat, Pc.txt, Tk.txt, kELSE]
  | doE k n =>
    obtain ⟨h1, h2, h3⟩ := h
    have hd := (dig_ok n (by omega)).2.2.2.1
    have : k = 0 ∨ k = 1 ∨ k = 2 ∨ k = 3 := by omega
    rcases this with rfl | rfl | rfl | rfl <;> cases f <;> simp [evPcs, flat, Pc.txt, Tk.txt] <;> omega
theorem rowPcs_len : ∀ {l : List Ev} {f : Bool}, (∀ e ∈ l, e.Ok) → (flat (rowPcs f l)).length ≤ 17 * l.length
  | [], _, _ => Nat.le_refl _
  | a :: r, f, h => by
    show (flat (evPcs f a ++ rowPcs false r)).length ≤ 17 * (r.length + 1)
    rw [flat_app, List.length_append]
    have h1 := evPcs_len (f := f) (h a (.head _))
    have h2 := rowPcs_len (l := r) (f := false) (fun e he => h e (.tail _ he))
    omega

-- ===== L12
section
variable {prog : Program} {w : World} {c : Cx} {E : Value → Shared → Prop} {l : Loc} {n nb : Led} {t u : Tok} {env : Env} {Q : Value → Loc → Led → Prop}
theorem w_item_tupZ {value slice : Expr} {a : Addr} {vs : List Value} {k : Nat} {i : Int} {u : Tok} {j : Nat} {v : Value} (hm : (a, ({ cls := .type "tuple", data := .seq vs.toArray k } : Obj)) ∈ n)
    (hs : subscripted slice false (.ref a) (.int i u) = operate [.ref a, .int i u] (getItem (.ref a) (.int i u)))
    (h0 : -(2 ^ 63) ≤ i) (h1 : i < 2 ^ 63) (hj : seqIndex? i vs.length = some j) (hv : vs[j]? = some v) (h : Q v l n) : W prog w c (subscriptTail value slice (.ref a) (.int i u)) Q E l n :=
  w_item_tup hm hs h0 h1 hj hv h
theorem kw_61 : True := by
  k_with "m_C" => (
    first
      | ((with_reducible refine' w_item_tupZ ?zzhm ?zzhs ?zzh0 ?zzh1 ?zzhj ?zzhv ?_); (case zzhm => with_reducible k_extra "m_loc"); (case zzhs => with_unfolding_all rfl); (case zzh0 => decide); (case zzh1 => decide); (case zzhj => exact rfl); (case zzhv => exact rfl))
    )
  trivial
theorem dig_take {n : Nat} (h1 : 1 ≤ n) (h2 : n ≤ 90) : ∃ ch, (dig n).take 1 = [ch] ∧ ch ∈ [49, 50, 51, 52, 53, 54, 55, 56, 57] := by
  have := (dig_ok n (by omega)).2.2.2.2 h1
  cases hd : dig n with
  | nil => rw [hd] at this; cases this
  | cons ch r => rw [hd] at this; exact ⟨ch, rfl, by simpa using this⟩
theorem in_figs {ch : Nat} (h : ch ∈ [49, 50, 51, 52, 53, 54, 55, 56, 57]) : (Builtin.Str.occurrences (Str.ofString "123456789") (S [ch]) 0 (Str.ofString "123456789").length 1).isEmpty = false := by
  revert ch; decide +kernel
theorem litR_IF : Str.ofString "IF " = S [73, 70, 32] := by decide +kernel
theorem litR_THEN : Str.ofString " THEN " = S [32, 84, 72, 69, 78, 32] := by decide +kernel
theorem litR_ELSE : Str.ofString " ELSE " = S [32, 69, 76, 83, 69, 32] := by decide +kernel
theorem litR_GOTO : Str.ofString "GOTO " = S [71, 79, 84, 79, 32] := by decide +kernel
theorem litR_E : Str.ofString "" = S [] := by decide +kernel
theorem kw_62 : True := by
  k_with "m_szr" => (
    (simp only [litR_IF, litR_THEN, litR_ELSE, litR_GOTO, litR_E, S_app, S_len, List.length_append, List.length_cons, List.length_nil, line_is]; omega)
    )
  trivial
theorem kw_63 : True := by
  k_with "m_C" => (
    ((with_reducible refine' w_add_str ?zzhs ?_); (case zzhs => k_extra "m_szr"); intro _)
    )
  trivial
theorem evPcs_do0 {k m : Nat} (hk : k < 4) : flat (evPcs false (.doE k m)) = doText k m := by
  have : k = 0 ∨ k = 1 ∨ k = 2 ∨ k = 3 := by omega
  rcases this with rfl | rfl | rfl | rfl <;> simp [evPcs, flat, Pc.txt, Tk.txt, doText]
theorem evPcs_do1 {k m : Nat} (hk : k < 2) : flat (evPcs true (.doE k m)) = [71, 79, 84, 79, 32] ++ doText k m := by
  have : k = 0 ∨ k = 1 := by omega
  rcases this with rfl | rfl <;> simp [evPcs, flat, Pc.txt, Tk.txt, doText]
theorem evPcs_do2 {k m : Nat} (hk : 2 ≤ k) (hk4 : k < 4) : flat (evPcs true (.doE k m)) = doText k m := by
  have : k = 2 ∨ k = 3 := by omega
  rcases this with rfl | rfl <;> simp [evPcs, flat, Pc.txt, Tk.txt, doText]
theorem doText_fig {k m : Nat} (hk : k < 2) (h1 : 1 ≤ m) (h2 : m ≤ 90) : (Builtin.Str.occurrences (Str.ofString "123456789") (S ((doText k m).take 1)) 0 (Str.ofString "123456789").length 1).isEmpty = false := by
  obtain ⟨ch, hc, hm⟩ := dig_take h1 h2
  have hd : (doText k m).take 1 = [ch] := by
    have : k = 0 ∨ k = 1 := by omega
    rcases this with rfl | rfl
    · exact hc
    · show (dig m ++ _).take 1 = _
      cases hh : dig m with
      | nil => rw [hh] at hc; cases hc
      | cons a r => rw [hh] at hc; exact hc
  rw [hd]; exact in_figs hm
theorem doText_nfig {k m : Nat} (hk : 2 ≤ k) (hk4 : k < 4) : (Builtin.Str.occurrences (Str.ofString "123456789") (S ((doText k m).take 1)) 0 (Str.ofString "123456789").length 1).isEmpty = true := by
  have : k = 2 ∨ k = 3 := by omega
  rcases this with rfl | rfl
  · show (Builtin.Str.occurrences (Str.ofString "123456789") (S [78]) 0 (Str.ofString "123456789").length 1).isEmpty = true; decide +kernel
  · show (Builtin.Str.occurrences (Str.ofString "123456789") (S [71]) 0 (Str.ofString "123456789").length 1).isEmpty = true; decide +kernel
/-- an event that lies in the ledger, by its kind -/
@[elab_as_elim] theorem ev_if_k {m : Led} {v : Value} {a : Nat} {P : Value → Prop} (h : DatIn m v (Ev.ifE a).dat) (k : ∀ aE j t u, (aE, ({ cls := .type "tuple", data := .seq [.str (Str.ofString "if") t, .str (S [65 + a]) u].toArray j } : Obj)) ∈ m → P (.ref aE)) : P v := by
  cases h with
  | tuple hm h => cases h with
    | cons h1 h => cases h with
      | cons h2 h => cases h; cases h1; cases h2; exact k _ _ _ _ hm
@[elab_as_elim] theorem ev_else_k {m : Led} {v : Value} {P : Value → Prop} (h : DatIn m v Ev.elseE.dat) (k : ∀ aE j t, (aE, ({ cls := .type "tuple", data := .seq [.str (Str.ofString "else") t].toArray j } : Obj)) ∈ m → P (.ref aE)) : P v := by
  cases h with
  | tuple hm h => cases h with
    | cons h1 h => cases h; cases h1; exact k _ _ _ hm
@[elab_as_elim] theorem ev_do_k {m : Led} {v : Value} {a b : Nat} {P : Value → Prop} (h : DatIn m v (Ev.doE a b).dat) (k : ∀ aE j t tr u, (aE, ({ cls := .type "tuple", data := .seq [.str (Str.ofString "do") t, tr, .str (S (doText a b)) u].toArray j } : Obj)) ∈ m → DatIn m tr (.list (doTrees a b)) → P (.ref aE)) : P v := by
  cases h with
  | tuple hm h => cases h with
    | cons h1 h => cases h with
      | cons h2 h => cases h with
        | cons h3 h => cases h; cases h1; cases h3; exact k _ _ _ _ _ hm h2
inductive RowJ (EV : Addr) (evs : List Ev) (i : Nat) : Loc → Prop
  | mk {t : Tok} {x : Option Value} {y : Str} (hy : S (flat (rowPcs true (evs.take i))) = y) : RowJ EV evs i [(Str.ofString "events", some (.ref EV)), (Str.ofString "row", some (.str y t)), (Str.ofString "is_first", some (.bool (i == 0))), (Str.ofString "event", x)]
theorem Grown.all {n R : Led} (h : Grown n R) : ∀ q ∈ n, q ∈ R := by obtain ⟨tl, rfl⟩ := h; exact fun q hq => List.mem_append_right _ hq
theorem c_row {EV : Addr} {us : List Value} {j : Nat} {evs : List Ev} (H : AmbP w c) (hk : 1 ≤ c.k) (hs : Sub nb n) (hm : (EV, PySem.W.listOf us.toArray j) ∈ nb) (hda : DatAll nb us (evs.map Ev.dat)) (hok : ∀ e ∈ evs, e.Ok) (hlen : evs.length ≤ 10)
    (h : ∀ t n', Grown n n' → Q (.str (S (flat (rowPcs true evs))) t) l n') : W PG w c (call (.ref 799) [.ref EV]) Q E l n := by
  k_extra "m_enter"
  k_extra "m_go"
  rename_i c' env' E2 H' he' hc' hk' t0 _ _
  have hmN := hs _ hm
  have hul := hda.length
  rw [List.length_map] at hul
  refine w_for_listP (Amb.hd (by assumption)) (fun _ => rfl) ?_
  k_extra "m_go"
  refine .mk (its := us.toArray) (k := j) (fun i l' n' => RowJ EV evs i l' ∧ Grown n n') (by with_reducible k_extra "m_loc") ⟨.mk (by rw [litR_E]; rfl), by k_extra "m_gr"⟩ (fun i l₁ n₁ hJ => hJ.2.all _ hmN) ?_ ?_
  · intro i v l₁ n₁ hv hJ own E3 P fin
    have hv' : us[i]? = some v := by simpa using hv
    have hi : i < evs.length := by rw [← hul]; exact (List.getElem?_eq_some_iff.mp hv').1
    have hdv : ∃ e, DatIn nb v e.dat ∧ evs[i]? = some e := by
      obtain ⟨v2, hv2, hdv⟩ := hda.get (k := i) (by rw [List.length_map]; omega)
      rw [hv'] at hv2
      obtain rfl := Option.some.inj hv2
      refine ⟨evs[i], ?_, List.getElem?_eq_getElem hi⟩
      simpa using hdv
    clear hv hv'
    cases hdv with
    | intro e hdv =>
    have hei := hdv.2
    replace hdv := hdv.1
    have hoke := hok e (List.mem_of_getElem? hei)
    have hR : (flat (rowPcs true (evs.take i))).length ≤ 170 := by
      have h1 := rowPcs_len (f := true) (l := evs.take i) (fun e h => hok e (List.mem_of_mem_take h))
      have h2 : (evs.take i).length ≤ 10 := by rw [List.length_take]; omega
      omega
    have hnext : flat (rowPcs true (evs.take (i + 1))) = flat (rowPcs true (evs.take i)) ++ flat (evPcs (i == 0) e) := by
      rw [List.take_add_one, hei, Option.toList_some, rowPcs_snoc, flat_app, Bool.true_and]
      congr 3
      cases i with
      | zero => rfl
      | succ i =>
        cases evs with
        | nil => exact absurd hi (Nat.not_lt_zero _)
        | cons a r => rfl
    clear hei hda
    have hgr := hJ.2
    have hnR := hgr.all
    replace hJ := hJ.1
    have fin' : ∀ t x l₃ n₃ n₄ y, Cut own n₃ n₄ → l₃ = [(Str.ofString "events", some (.ref EV)), (Str.ofString "row", some (.str y t)), (Str.ofString "is_first", some (.bool (i + 1 == 0))), (Str.ofString "event", x)] → y = S (flat (rowPcs true (evs.take i)) ++ flat (evPcs (i == 0) e)) → Grown n₁ n₄ → P .next l₃ n₃ :=
      fun t x l₃ n₃ n₄ y a b d e => fin l₃ n₃ n₄ a ⟨by rw [b]; exact .mk (by rw [hnext, d]), hgr.trans e⟩
    clear hnext fin hgr
    cases hJ with
    | mk hy =>
    subst hy
    revert hR fin'
    generalize flat (rowPcs true (evs.take i)) = RR
    intro hR fin'
    cases e with
    | ifE a =>
      refine ev_if_k hdv fun aE j2 t2 u2 hm2 => ?_
      have hm3 := hnR _ (hs _ hm2)
      k_extra "m_go"
      exact fin' _ _ _ _ _ _ (by k_extra "m_cut") rfl (by (simp only [litR_IF, litR_THEN, S_app, List.append_assoc]; try rfl)) (by k_extra "m_gr")
    | elseE =>
      refine ev_else_k hdv fun aE j2 t2 hm2 => ?_
      have hm3 := hnR _ (hs _ hm2)
      k_extra "m_go"
      exact fin' _ _ _ _ _ _ (by k_extra "m_cut") rfl (by (simp only [litR_ELSE, S_app]; try rfl)) (by k_extra "m_gr")
    | doE k m =>
      refine ev_do_k hdv fun aE j2 t2 tr u2 hm2 h2 => ?_
      have hm3 := hnR _ (hs _ hm2)
      have k1 := hoke.1
      have k2 := hoke.2.1
      have k3 := hoke.2.2
      have hT : (doText k m).length ≤ 11 := by
        have hd := (dig_ok m (by omega)).2.2.2.1
        have : k = 0 ∨ k = 1 ∨ k = 2 ∨ k = 3 := by omega
        rcases this with rfl | rfl | rfl | rfl <;> simp [doText] <;> omega
      k_extra "m_go"
      cases hb : (i == 0) with
      | false =>
        k_extra "m_go"
        rw [hb, evPcs_do0 k1] at fin'
        exact fin' _ _ _ _ _ _ (by k_extra "m_cut") rfl (by (simp only [litR_E, S_app, List.append_nil]; try rfl)) (by k_extra "m_gr")
      | true =>
        rw [hb] at fin'
        k_extra "m_go"
        by_cases hk2 : k < 2
        · rw [evPcs_do1 hk2] at fin'
          rw [doText_fig hk2 k2 k3]
          k_extra "m_go"
          exact fin' _ _ _ _ _ _ (by k_extra "m_cut") rfl (by (simp only [litR_GOTO, S_app, List.append_assoc]; try rfl)) (by k_extra "m_gr")
        · rw [evPcs_do2 (by omega) k1] at fin'
          rw [doText_nfig (by omega) k1]
          k_extra "m_go"
          exact fin' _ _ _ _ _ _ (by k_extra "m_cut") rfl (by (simp only [litR_E, S_app, List.append_nil]; try rfl)) (by k_extra "m_gr")
  · intro l₁ n₁ hJ
    have hgr := hJ.2
    replace hJ := hJ.1
    cases hJ with
    | mk hy =>
    subst hy
    k_extra "m_go"
    rw [show us.toArray.size = evs.length from hul, List.take_length]
    exact h _ _ hgr
end

-- ===== L13
section
variable {prog : Program} {w : World} {c : Cx} {E : Value → Shared → Prop} {l : Loc} {n nb : Led} {t u : Tok} {env : Env} {K : Frag} {p : Program} {loose : List Str}
theorem w_unpackL {elts : List Expr} {k : Nat} {pos : Pos} {a : Addr} {vs : List Value} {j : Nat} {Q : Unit → Loc → Led → Prop} (H : Amb K p loose c) (hm : (a, PySem.W.listOf vs.toArray j) ∈ n)
    (h1 : (assignEach elts env).length = vs.toArray.size) (h2 : (assignEach elts env).findIdx? (fun x => x.1) = none)
    (h : W prog w c (assignInOrder ((assignEach elts env).map (·.2)) vs) Q E l n) : W prog w c (assign (.Tuple elts k pos) env (.ref a)) Q E l n := fun s S => by
  obtain ⟨m, F, hl⟩ := S.fr
  exact kun_list F S.nw (isList_of S.nw hm) H.hd h1 h2 fun h' F' N' => h _ ⟨S.gens, S.drawn, S.os, ⟨m, F', hl⟩, N', S.nd, S.lk⟩
variable {Q : Value → Loc → Led → Prop}
theorem St.addTwo {s : Shared} {h' : Heap} {x : Addr} {o : Obj} (S : St c l n s) (F : ∃ m, Fr c.h₀ c.L h' m ∧ ∀ q ∈ l, m q.1 = q.2) (N : News c.h₀ c.L h' ((x, o) :: n)) (hx : s.heap.objs.size ≤ x) : St c l ((x, o) :: n) { s with heap := h' } :=
  ⟨S.gens, S.drawn, S.os, F, N, nd_newN S.nd fun q hq => Nat.ne_of_lt (Nat.lt_of_lt_of_le (Heap.lt_size (S.nw q hq).1) hx), S.lk⟩
theorem w_slL {value lo hi : Expr} {q pos : Pos}
    (hs : ∀ a b, subscripted (.Slice (some lo) (some hi) none q) false (.ref a) (.ref b) = operate [.ref b, .ref a] (getItem (.ref a) (.ref b))) (hg : ∀ a r, letTemporaryGo value (.ref a) r = pure ())
    (h : W prog w c (eval value env) (fun o l' n' => ∃ a its k, o = .ref a ∧ (a, PySem.W.listOf its k) ∈ n' ∧ its.size ≤ sizeLine ∧ W prog w c (eval lo env) (fun i l' n' => ∃ x tx, i = .int x tx ∧
      W prog w c (eval hi env) (fun j l' n' => ∃ y ty, j = .int y ty ∧ (a, PySem.W.listOf its k) ∈ n' ∧ ∀ D, Q (.ref D) l' ((D, PySem.W.listOf (slicePick its (some x) (some y) none) 0) :: n')) E l' n') E l' n') E l n) :
    W prog w c (eval (.Subscript value (.Slice (some lo) (some hi) none q) pos) env) Q E l n := fun _ S => by
  refine Subscript_ (h.go S fun o s' l' n' S' x => ?_)
  obtain ⟨a, its, k, rfl, hm, hz, kk⟩ := x
  refine wpAny_Slice (evalPart_some_step (kk.go S' fun i s2 l2 n2 S2 y => ?_))
  obtain ⟨xi, ta, rfl, kk⟩ := y
  refine evalPart_some_step (kk.go S2 fun j s3 l3 n3 S3 z => ?_)
  obtain ⟨yi, tb, rfl, hm3, kk⟩ := z
  obtain ⟨m, F, hl⟩ := S3.fr
  exact evalPart_none_step (slice_list F S3.nw (isList_of S3.nw hm3) (.int xi ta) (.int yi tb) (fun h' F' N' => W.fin (S3.addTwo ⟨m, F', hl⟩ N' (Nat.le_succ _)) (kk _)) (hs _ _) (hg _) hz)
theorem w_slLT {value hi : Expr} {q pos : Pos}
    (hs : ∀ a b, subscripted (.Slice none (some hi) none q) false (.ref a) (.ref b) = operate [.ref b, .ref a] (getItem (.ref a) (.ref b))) (hg : ∀ a r, letTemporaryGo value (.ref a) r = pure ())
    (h : W prog w c (eval value env) (fun o l' n' => ∃ a its k, o = .ref a ∧ (a, PySem.W.listOf its k) ∈ n' ∧ its.size ≤ sizeLine ∧
      W prog w c (eval hi env) (fun j l' n' => ∃ y ty, j = .int y ty ∧ (a, PySem.W.listOf its k) ∈ n' ∧ ∀ D, Q (.ref D) l' ((D, PySem.W.listOf (slicePick its none (some y) none) 0) :: n')) E l' n') E l n) :
    W prog w c (eval (.Subscript value (.Slice none (some hi) none q) pos) env) Q E l n := fun _ S => by
  refine Subscript_ (h.go S fun o s' l' n' S' x => ?_)
  obtain ⟨a, its, k, rfl, hm, hz, kk⟩ := x
  refine wpAny_Slice (evalPart_none_step (evalPart_some_step (kk.go S' fun j s3 l3 n3 S3 z => ?_)))
  obtain ⟨yi, tb, rfl, hm3, kk⟩ := z
  obtain ⟨m, F, hl⟩ := S3.fr
  exact evalPart_none_step (slice_list F S3.nw (isList_of S3.nw hm3) .none (.int yi tb) (fun h' F' N' => W.fin (S3.addTwo ⟨m, F', hl⟩ N' (Nat.le_succ _)) (kk _)) (hs _ _) (hg _) hz)
theorem pick_one (us : List Value) (i : Nat) (hi : i < us.length) : slicePick us.toArray (some ((i : Int) + 1)) (some ((i : Int) + 2)) none = ((us.drop (i + 1)).take 1).toArray := by
  rw [slicePick_plain]
  simp only [Option.elim]
  rw [show ((i : Int) + 1) = ((i + 1 : Nat) : Int) from rfl, show ((i : Int) + 2) = ((i + 2 : Nat) : Int) from rfl, clipAt_nat, clipAt_nat]
  rw [show us.toArray.size = us.length from rfl, Nat.min_eq_left (show i + 1 ≤ us.length by omega)]
  by_cases h : i + 2 ≤ us.length
  · rw [Nat.min_eq_left h, show i + 2 - (i + 1) = 1 by omega]
  · rw [Nat.min_eq_right (by omega), show us.length - (i + 1) = 0 by omega, List.drop_eq_nil_of_le (show us.length ≤ i + 1 by omega)]; rfl
theorem w_for_enum {x y nm : Str} {px py tp np cpos pos : Pos} {tk : Nat} {arg : Expr} {body : List Stmt} {a : Addr} {its : Array Value} {k : Nat} {Q : Flow → Loc → Led → Prop} (hh : c.A.handled = none) (hs : ∀ x, foldedSetIterable (.Call (.Name nm np) [arg] [] cpos) env x = pure x)
    (hst : starEach [arg] env = (false, eval arg env) :: starEach [] env) (hpl : ((backTo cpos (starEach [] env)).any fun x => x.fst) = false)
    (hnm : W prog w c (eval (.Name nm np) env) (fun v l' n' => v = .type "enumerate" ∧ l' = l ∧ n' = n) E l n)
    (harg : W prog w c (spliced (backTo cpos (starEach [arg] env))) (fun vs l' n' => vs = [.ref a] ∧ l' = l ∧ n' = n) E l n)
    (hm : (a, PySem.W.listOf its k) ∈ n) (J : Nat → Loc → Led → Prop) (h0 : J 0 l n) (hJm : ∀ i l₁ n₁, J i l₁ n₁ → (a, PySem.W.listOf its k) ∈ n₁)
    (step : ∀ i v l₁ n₁ t, its[i]? = some v → J i l₁ n₁ → ∀ own (E' : Value → Shared → Prop), W prog w c (assignInOrder ((assignEach [.Name x px, .Name y py] env).map (·.2)) [.int (i : Nat) t, v]) (fun _ l₂ n₂ => W prog w c (execs body env) (fun f l₃ n₃ => match f with
        | .next | .cont => ∃ n₄, Cut own n₃ n₄ ∧ J (i + 1) l₃ n₄
        | .brk => Q .next l₃ n₃
        | .ret v => Q (.ret v) l₃ n₃) E' l₂ n₂) E' l₁ (own ++ n₁))
    (fin : ∀ l₁ n₁, J its.size l₁ n₁ → Q .next l₁ n₁) :
    W prog w c (exec (.For (.Tuple [.Name x px, .Name y py] tk tp) (.Call (.Name nm np) [arg] [] cpos) body [] pos) env) Q E l n := w_forK hs fun s S => by
  refine wpAny_Call_Name_kw (hnm.go S fun v s1 l1 n1 S1 z => ?_)
  obtain ⟨rfl, rfl, rfl⟩ := z
  refine PyProof.Rows.callWith_type1 (harg.go S1 fun vs s2 l2 n2 S2 z => ?_) hst hpl
  obtain ⟨rfl, rfl, rfl⟩ := z
  have hl := isList_of S2.nw hm
  have hlt : a < s2.heap.objs.size := by obtain ⟨_, e, _⟩ := hl; exact Heap.lt_size e
  refine call_enumerate_list hl fun h' he hi hsz hk => ?_
  obtain ⟨m, F, hlc⟩ := S2.fr
  have S3 : St c l2 n2 { s2 with heap := h' } := S2.put (tk := s2.toks) ⟨m, F.keeps hk, hlc⟩ (S2.nw.grown hk) S2.nd S2.lk
  have hL : c.L < s2.heap.objs.size := F.ns.lt
  have hnone : ∀ b, s2.heap.objs.size ≤ b → c.h₀.get? b = none := fun b hb => by
    cases g : c.h₀.get? b with
    | none => rfl
    | some o => exact absurd (Heap.lt_size (F.keep _ _ g)) (Nat.not_lt_of_le hb)
  have hnew : ∀ b, s2.heap.objs.size ≤ b → b ≠ c.L ∧ c.h₀.get? b = none ∧ ∀ q ∈ n2, q.1 ≠ b := fun b hb => ⟨Nat.ne_of_gt (Nat.lt_of_lt_of_le hL hb), hnone b hb, fun q hq => Nat.ne_of_lt (Nat.lt_of_lt_of_le (Heap.lt_size (S2.nw q hq).1) hb)⟩
  refine wpAny_pyIter_enum he ⟨s2.heap.objs.size + 1, _, _, _, _, _, _, [(a, PySem.W.listOf its k)], l2, n2, J, rfl, KTurns.ofWalksU (WalksT.enumerate hh (s2.heap.objs.size + 1) s2.heap.objs.size a (Nat.succ_ne_self _) (Nat.ne_of_lt (Nat.lt_succ_of_lt hlt)) (Nat.ne_of_lt hlt) its).toU,
    ⟨⟨_, he⟩, hi, hl.at fun o e => hk _ o e⟩, S3, ?_, ?_, ?_, ?_, h0, fun i l₁ n₁ hJ q hq => ?_, ?_, fin⟩
  · simp
  · rintro i h ⟨⟨old, h1⟩, h2, _⟩ b hb
    rcases List.mem_cons.mp hb with rfl | hb
    · exact ⟨_, h1⟩
    · rw [List.mem_singleton.mp hb]; obtain ⟨o, e, _⟩ := h2; exact ⟨o, e⟩
  · intro b hb
    rcases List.mem_cons.mp hb with rfl | hb
    · exact hnew _ (Nat.le_succ _)
    · rw [List.mem_singleton.mp hb]; exact hnew _ (Nat.le_refl _)
  · intro b hb
    rcases List.mem_cons.mp hb with rfl | hb
    · exact .inl (.head _)
    · rcases List.mem_cons.mp hb with rfl | hb
      · exact .inl (.tail _ (.head _))
      · rw [List.mem_singleton.mp hb]; exact .inr (.inr (.head _))
  · rw [List.mem_singleton.mp hq]; exact hJm i l₁ n₁ hJ
  · rintro i v l₁ n₁ own E' s4 hi4 ⟨T, vals, rfl, ⟨ti, x4, hx4, rfl⟩, hT⟩ hJ Sx
    obtain ⟨m4, F4, hl4⟩ := Sx.fr
    obtain ⟨oT, eT, cT, nT, dT⟩ := hT
    refine unpackN_ F4 Sx.nw ⟨oT, eT, cT, nT, dT⟩ hh rfl rfl fun h5 F5 N5 => ?_
    exact (step i x4 l₁ n₁ ti hx4 hJ own E') _ ⟨Sx.gens, Sx.drawn, Sx.os, ⟨m4, F5, hl4⟩, N5, Sx.nd, Sx.lk⟩
theorem w_for_enumP {x y nm : Str} {px py tp np cpos pos : Pos} {tk : Nat} {arg : Expr} {body : List Stmt} {a : Addr} {its : Array Value} {k : Nat} {Q : Flow → Loc → Led → Prop} (hh : c.A.handled = none) (hs : ∀ x, foldedSetIterable (.Call (.Name nm np) [arg] [] cpos) env x = pure x)
    (hst : starEach [arg] env = (false, eval arg env) :: starEach [] env) (hpl : ((backTo cpos (starEach [] env)).any fun x => x.fst) = false)
    (hnm : W prog w c (eval (.Name nm np) env) (fun v l' n' => v = .type "enumerate" ∧ l' = l ∧ n' = n) E l n)
    (harg : W prog w c (spliced (backTo cpos (starEach [arg] env))) (fun vs l' n' => vs = [.ref a] ∧ l' = l ∧ n' = n) E l n)
    (hm : (a, PySem.W.listOf its k) ∈ n) (J : Nat → Loc → Led → Prop) (h0 : J 0 l n) (hJm : ∀ i l₁ n₁, J i l₁ n₁ → (a, PySem.W.listOf its k) ∈ n₁)
    (step : ∀ i v l₁ n₁ t, its[i]? = some v → J i l₁ n₁ → ∀ own (E' : Value → Shared → Prop) (P : Flow → Loc → Led → Prop), (∀ l₃ n₃ n₄, Cut own n₃ n₄ → J (i + 1) l₃ n₄ → P .next l₃ n₃) → (∀ l₃ n₃ n₄, Cut own n₃ n₄ → J (i + 1) l₃ n₄ → P .cont l₃ n₃) →
      W prog w c (assignInOrder ((assignEach [.Name x px, .Name y py] env).map (·.2)) [.int (i : Nat) t, v]) (fun _ l₂ n₂ => W prog w c (execs body env) P E' l₂ n₂) E' l₁ (own ++ n₁))
    (fin : ∀ l₁ n₁, J its.size l₁ n₁ → Q .next l₁ n₁) :
    W prog w c (exec (.For (.Tuple [.Name x px, .Name y py] tk tp) (.Call (.Name nm np) [arg] [] cpos) body [] pos) env) Q E l n :=
  w_for_enum hh hs hst hpl hnm harg hm J h0 hJm (fun i v l₁ n₁ t hv hJ own E' => step i v l₁ n₁ t hv hJ own E' _ (fun _ _ n₄ a b => ⟨n₄, a, b⟩) fun _ _ n₄ a b => ⟨n₄, a, b⟩) fin
theorem w_perm {α : Type} {t : Sem α} {Q : α → Loc → Led → Prop} {n' : Led} (hp : n.Perm n') (h : W prog w c t Q E l n') : W prog w c t Q E l n := fun s S =>
  h s ⟨S.gens, S.drawn, S.os, S.fr, fun q hq => S.nw q (hp.mem_iff.mpr hq), (hp.map _).nodup_iff.mp S.nd, S.lk⟩
end

-- ===== Ps
noncomputable abbrev Frame := Nat × Option (List Dat)
noncomputable def popsM (nx : Bool) : List Frame → List Dat → List Frame × List Dat
  | [], told => ([], told)
  | (a, some x) :: st, told => popsM nx st [dIF [65 + a] x told]
  | (a, none) :: st, told => if nx then ((a, none) :: st, told) else popsM nx st [dIF [65 + a] told []]
noncomputable def setM : List Frame → List Dat → List Frame
  | [], _ => []
  | (a, _) :: st, t => (a, some t) :: st
noncomputable def aftM (s : List Frame × List Dat) : List Frame × List Dat := (setM s.1 s.2, s.2)
noncomputable def isElse : List Ev → Bool
  | .elseE :: _ => true
  | _ => false
noncomputable def stepM (nx : Bool) (e : Ev) (s : List Frame × List Dat) : List Frame × List Dat := match e with
  | .ifE a => ((a, none) :: s.1, s.2)
  | .elseE => s
  | .doE k n => aftM (popsM nx s.1 (doTrees k n))
noncomputable def dueM : List Ev → List Frame × List Dat → List Frame × List Dat
  | [], s => s
  | e :: r, s => dueM r (stepM (isElse r) e s)
theorem RowL.due {e : List Ev} {x : List Dat} {k : Nat} (h : RowL e x k) : ∀ (rest : List Ev) (st : List Frame) (t0 : List Dat), (k = 0 ∨ rest = []) → dueM (e ++ rest) (st, t0) = dueM rest (aftM (popsM (isElse rest) st x)) := by
  induction h with
  | one => intro rest st t0 _; rfl
  | @ifT a es x k h ih =>
    intro rest st t0 hc
    have hr : rest = [] := by rcases hc with h | h; · cases h
                              · exact h
    subst hr
    show dueM (es ++ []) ((a, none) :: st, t0) = _
    rw [ih [] _ _ (.inr rfl)]
    rfl
  | @ifE a e1 e2 x y k h1 h2 ih1 ih2 =>
    intro rest st t0 hc
    show dueM ((e1 ++ .elseE :: e2) ++ rest) ((a, none) :: st, t0) = _
    rw [List.append_assoc, List.cons_append, ih1 _ _ _ (.inl rfl)]
    show dueM (e2 ++ rest) ((a, some x) :: st, x) = _
    rw [ih2 _ _ _ hc]
    rfl
theorem RowL.told {e : List Ev} {x : List Dat} {k : Nat} (h : RowL e x k) : (dueM e ([], [])).2 = x := by
  have := h.due [] [] [] (.inr rfl)
  rw [List.append_nil] at this
  rw [this]; rfl
-- ===== depth
theorem kq_mono : ∀ {n m : Nat} {d : Dat}, kqdOk n d = true → n ≤ m → kqdOk m d = true := by
  intro n
  induction n with
  | zero =>
    intro m d h _
    cases d <;> first | (simp [kqdOk] at h ⊢; done) | (cases m <;> simp [kqdOk] at h ⊢ <;> exact h) | (cases m <;> simp [kqdOk] at h)
  | succ n ih =>
    intro m d h hm
    cases m with
    | zero => omega
    | succ m =>
      cases d <;> first | exact h | (simp only [kqdOk, List.all_eq_true] at h ⊢; exact fun x hx => ih (h x hx) (by omega))
noncomputable def kqL (b : Nat) (x : List Dat) : Prop := kqdOk (4 + 2 * b) (.list x) = true
theorem kqL.mono {b c : Nat} {x : List Dat} (h : kqL b x) (hc : b ≤ c) : kqL c x := kq_mono h (by omega)
theorem strOk_abc {a : Nat} (h : a < 3) : PyData.strOk (S [65 + a]) = true := by
  have : a = 0 ∨ a = 1 ∨ a = 2 := by omega
  rcases this with rfl | rfl | rfl <;> decide +kernel
theorem kqL_if {b a : Nat} {x y : List Dat} (ha : a < 3) (hx : kqL b x) (hy : kqL b y) : kqL (b + 1) [dIF [65 + a] x y] := by
  unfold kqL at hx hy ⊢
  rw [show 4 + 2 * (b + 1) = (4 + 2 * b) + 1 + 1 by omega]
  unfold dIF
  simp only [kqdOk, List.all_cons, List.all_nil, Bool.and_true, Bool.and_eq_true]
  refine ⟨by decide +kernel, ?_, hx, hy⟩
  rw [show 4 + 2 * b = (3 + 2 * b) + 1 by omega]
  simp only [kqdOk, List.all_cons, List.all_nil, Bool.and_true, Bool.and_eq_true]
  exact ⟨by decide +kernel, strOk_abc ha⟩
theorem kqL_nil {b : Nat} : kqL b [] := by unfold kqL; rw [show 4 + 2 * b = (3 + 2 * b) + 1 by omega]; rfl
theorem kqL_do {k n : Nat} (h : k < 4) : kqL 0 (doTrees k n) := by
  have : k = 0 ∨ k = 1 ∨ k = 2 ∨ k = 3 := by omega
  have s1 : PyData.strOk (Str.ofString "GOTO") = true := by decide +kernel
  have s2 : PyData.strOk (Str.ofString "STOP") = true := by decide +kernel
  have s3 : PyData.strOk (Str.ofString "NEXT") = true := by decide +kernel
  have s4 : PyData.strOk (Str.ofString "END") = true := by decide +kernel
  have s5 : PyData.strOk (Str.ofString "GOSUB") = true := by decide +kernel
  rcases this with rfl | rfl | rfl | rfl <;> simp [kqL, doTrees, kqdOk, dGOTO, dSTOP, dNEXT, dEND, dGOSUB, s1, s2, s3, s4, s5]
noncomputable def oDat : Option (List Dat) → Dat
  | none => .none
  | some x => .list x
noncomputable def fdat (f : Frame) : Dat := .list [.str (S [65 + f.1]), oDat f.2]

-- ===== L14
noncomputable def FirstIn (nt : Led) (b : Nat) (v : Value) (o : Option (List Dat)) : Prop := match o with
  | none => v = .none
  | some x => DatIn nt v (.list x) ∧ kqL b x
inductive Cells (nt : Led) (b : Nat) : Led → List Value → List Frame → Prop
  | nil : Cells nt b [] [] []
  | snoc {cs : Led} {vs : List Value} {st : List Frame} {P : Addr} {a : Nat} {o : Option (List Dat)} {v : Value} {t : Tok} {j : Nat} : Cells nt b cs vs st → FirstIn nt b v o → a < 3 →
      Cells nt b (cs ++ [(P, PySem.W.listOf [.str (S [65 + a]) t, v].toArray j)]) (vs ++ [.ref P]) ((a, o) :: st)
theorem first_none {nt : Led} {b : Nat} : FirstIn nt b .none none := rfl
theorem first_some {nt : Led} {b : Nat} {v : Value} {x : List Dat} (h : DatIn nt v (.list x)) (k : kqL b x) : FirstIn nt b v (some x) := ⟨h, k⟩
theorem FirstIn.mono {nt nt' : Led} {b b' : Nat} {v : Value} {o : Option (List Dat)} (h : FirstIn nt b v o) (hs : ∀ q ∈ nt, q ∈ nt') (hb : b ≤ b') : FirstIn nt' b' v o := by
  cases o with
  | none => exact h
  | some x => exact ⟨h.1.mono hs, h.2.mono hb⟩
theorem Cells.mono {nt nt' : Led} {b b' : Nat} {cs : Led} {vs : List Value} {st : List Frame} (h : Cells nt b cs vs st) (hs : ∀ q ∈ nt, q ∈ nt') (hb : b ≤ b') : Cells nt' b' cs vs st := by
  induction h with
  | nil => exact .nil
  | snoc _ hf ha ih => exact .snoc ih (hf.mono hs hb) ha
theorem Cells.len {nt : Led} {b : Nat} {cs : Led} {vs : List Value} {st : List Frame} (h : Cells nt b cs vs st) : vs.length = st.length := by
  induction h with
  | nil => rfl
  | snoc _ _ _ ih => simp [ih]
theorem FirstIn.dat {nt : Led} {b : Nat} {v : Value} {o : Option (List Dat)} (h : FirstIn nt b v o) : DatIn nt v (oDat o) := by
  cases o with
  | none => obtain rfl : v = .none := h; exact .none
  | some x => exact h.1
theorem Cells.dats {nt n : Led} {b : Nat} {cs : Led} {vs : List Value} {st : List Frame} (h : Cells nt b cs vs st) (h1 : ∀ q ∈ cs, q ∈ n) (h2 : ∀ q ∈ nt, q ∈ n) : DatAll n vs (st.reverse.map fdat) := by
  induction h with
  | nil => exact .nil
  | @snoc cs vs st P a o v t j _ hf ha ih =>
    rw [List.reverse_cons, List.map_append]
    exact dat_snoc (ih fun q hq => h1 q (List.mem_append_left _ hq)) (.list (h1 _ (List.mem_append_right _ (.head _))) (.cons (.str _ _) (.cons (hf.dat.mono h2) .nil)))
theorem Cells.kq {nt : Led} {b : Nat} {cs : Led} {vs : List Value} {st : List Frame} (h : Cells nt b cs vs st) (hb : b ≤ 20) : kqdOk 60 (.list (st.reverse.map fdat)) = true := by
  show kqdOk (59 + 1) _ = true
  simp only [kqdOk, List.all_eq_true, List.mem_map, List.mem_reverse]
  rintro d ⟨f, hf, rfl⟩
  induction h with
  | nil => cases hf
  | @snoc cs vs st P a o v t j _ hfi ha ih =>
    rcases List.mem_cons.mp hf with rfl | hf
    · show kqdOk (58 + 1) (.list _) = true
      simp only [kqdOk, List.all_cons, List.all_nil, Bool.and_true, Bool.and_eq_true]
      refine ⟨strOk_abc ha, ?_⟩
      cases o with
      | none => rfl
      | some x => exact kq_mono hfi.2 (by omega)
    · exact ih hf
theorem evdat_kq {e : Ev} (h : e.Ok) : kqdOk 59 e.dat = true := by
  have s1 : PyData.strOk (Str.ofString "if") = true := by decide +kernel
  have s2 : PyData.strOk (Str.ofString "else") = true := by decide +kernel
  have s3 : PyData.strOk (Str.ofString "do") = true := by decide +kernel
  cases e with
  | ifE a => show kqdOk (58 + 1) (.tuple _) = true; simp only [kqdOk, List.all_cons, List.all_nil, Bool.and_true, Bool.and_eq_true]; exact ⟨s1, strOk_abc h⟩
  | elseE => show kqdOk (58 + 1) (.tuple _) = true; simp only [kqdOk, List.all_cons, List.all_nil, Bool.and_true, Bool.and_eq_true]; exact s2
  | doE k m =>
    obtain ⟨k1, k2, k3⟩ := h
    have hd := dig_ok m (by omega)
    have ht : ∀ ch ∈ doText k m, ch < 128 := by
      have hf : ∀ ch ∈ dig m, ch < 128 := fun ch hc => by have := hd.2.2.1 ch hc; simp [fig] at this; omega
      have : k = 0 ∨ k = 1 ∨ k = 2 ∨ k = 3 := by omega
      rcases this with rfl | rfl | rfl | rfl
      · exact hf
      · intro ch hc; rcases List.mem_append.mp hc with hc | hc
        · exact hf ch hc
        · exact (show ∀ ch ∈ [58, 83, 84, 79, 80], ch < 128 by decide) ch hc
      · show ∀ ch ∈ [78, 69, 88, 84, 32, 58, 58, 32, 69, 78, 68], ch < 128; decide
      · intro ch hc; rcases List.mem_append.mp hc with hc | hc
        · exact (show ∀ ch ∈ [71, 79, 83, 85, 66, 32], ch < 128 by decide) ch hc
        · exact hf ch hc
    show kqdOk (58 + 1) (.tuple _) = true
    have hx : kqdOk 58 (.list (doTrees k m)) = true := kq_mono (kqL_do k1) (by omega)
    show ([Dat.str (Str.ofString "do"), .list (doTrees k m), .str (S (doText k m))].all (kqdOk 58)) = true
    simp only [List.all_cons, List.all_nil, Bool.and_true, Bool.and_eq_true]
    exact ⟨s3, hx, strOk_S ht⟩
theorem next_else {r : List Ev} : (Dat.list ((r.take 1).map Ev.dat) = Dat.list [Ev.elseE.dat]) ↔ isElse r = true := by
  cases r with
  | nil => simp [isElse]
  | cons e r =>
    have s1 : Str.ofString "if" ≠ Str.ofString "else" := by decide +kernel
    have s2 : Str.ofString "do" ≠ Str.ofString "else" := by decide +kernel
    cases e <;> simp [isElse, Ev.dat, s1, s2]
theorem datAll_drop {m : Led} : ∀ {vs : List Value} {ds : List Dat} (k : Nat), DatAll m vs ds → DatAll m (vs.drop k) (ds.drop k)
  | _, _, 0, h => h
  | [], _, _ + 1, .nil => .nil
  | _ :: _, _, k + 1, .cons _ h => datAll_drop k h
theorem datAll_take {m : Led} : ∀ {vs : List Value} {ds : List Dat} (k : Nat), DatAll m vs ds → DatAll m (vs.take k) (ds.take k)
  | _, _, 0, _ => .nil
  | [], _, _ + 1, .nil => .nil
  | _ :: _, _, k + 1, .cons a h => .cons a (datAll_take k h)
theorem ite_T {P R : Prop} (h : P) : if True then P else R := by rw [if_pos trivial]; exact h
/-- what stands ahead of the own objects of a loop -/
inductive Col (own R : Led) : Led → Led → Prop
  | base : Col own R (own ++ R) []
  | cons {q : Addr × Obj} {L X : Led} : Col own R L X → Col own R (q :: L) (q :: X)
  | app {tl L X : Led} : Col own R L X → Col own R (tl ++ L) (tl ++ X)
theorem Col.eq {own R L X : Led} (h : Col own R L X) : L = X ++ (own ++ R) := by
  induction h with
  | base => rfl
  | cons _ ih => rw [ih]; rfl
  | app _ ih => rw [ih, List.append_assoc]
theorem kw_64 : True := by
  k_with "m_col" => (
    first | with_reducible exact Col.base | ((with_reducible apply Col.cons); k_extra "m_col") | ((with_reducible apply Col.app); k_extra "m_col")
    )
  trivial
theorem Col.perm {own L X cs R : Led} {q : Addr × Obj} (h : Col own (q :: (cs ++ R)) L X) : L.Perm (own ++ (q :: (cs ++ (X ++ R)))) := by
  rw [h.eq]
  refine (List.perm_append_comm_assoc X own _).trans (List.Perm.append_left own ?_)
  refine List.perm_middle.trans (List.Perm.cons q ?_)
  exact List.perm_append_comm_assoc X cs R
theorem Col.perm1 {own L X cs R : Led} {q c : Addr × Obj} (h : Col own (q :: ((cs ++ [c]) ++ R)) L X) : L.Perm (own ++ (q :: (cs ++ (X ++ c :: R)))) := by
  rw [List.append_assoc] at h
  exact h.perm
theorem perm_e {cs R : Led} {q e : Addr × Obj} : (e :: q :: (cs ++ R)).Perm (q :: (cs ++ (e :: R))) := (List.Perm.swap q e _).trans (List.Perm.cons q List.perm_middle.symm)
theorem perm_fin {cs R : Led} {q c e : Addr × Obj} : (e :: q :: (cs ++ c :: R)).Perm (q :: ((cs ++ [c]) ++ (e :: R))) := by
  rw [List.append_assoc]
  exact (List.Perm.swap q e _).trans (List.Perm.cons q (List.perm_middle.symm.trans (List.Perm.append_left cs (List.Perm.swap c e R))))
theorem perm_push {cs R : Led} {q c : Addr × Obj} : (c :: q :: (cs ++ R)).Perm (q :: ((cs ++ [c]) ++ R)) := by
  rw [List.append_assoc]
  exact (List.Perm.swap q c _).trans (List.Perm.cons q List.perm_middle.symm)
section
variable {prog : Program} {w : World} {c : Cx} {E : Value → Shared → Prop} {l : Loc} {n nb : Led} {t u : Tok} {env : Env} {Q : Value → Loc → Led → Prop}
theorem kw_65 : True := by
  k_with "m_C" => (
    first
      | ((with_reducible refine' w_slL ?zzhs ?zzhg ?_); (case zzhs => with_unfolding_all exact fun _ _ => rfl); (case zzhg => with_unfolding_all exact fun _ _ => rfl))
      | ((with_reducible refine' w_pop ?zze ?zzhu ?zzhsz ?_); (case zzhu => with_reducible k_extra "m_rep"); (case zze => exact rfl); (case zzhsz => (rw [line_is]; omega)))
      | (with_reducible refine' ite_T ?_)
      | (with_reducible refine' w_is_nn ?_)
      | (with_reducible refine' w_is_refnone ?_)
      | (with_reducible refine' w_isnot_nn ?_)
      | (with_reducible refine' w_isnot_refnone ?_)
      | (with_reducible refine' w_cont ?_)
      | (with_reducible refine' sq_cont ?_)
      | ((with_reducible refine' w_unpackL ?zzH ?zzhm ?zzh1 ?zzh2 ?_); (case zzH => assumption); (case zzhm => with_reducible k_extra "m_loc"); (case zzh1 => rfl); (case zzh2 => rfl))
    )
  trivial
open Classical in
theorem w_next_ne {D e1 e2 : Addr} {us : List Value} {evs : List Ev} {i j : Nat} {t : Tok} (H : AmbP w c) (hi : i < us.length) (hda : DatAll n us (evs.map Ev.dat)) (hok : ∀ e ∈ evs, e.Ok)
    (hD : (D, PySem.W.listOf (slicePick us.toArray (some ((i + 1 : Nat) : Int)) (some ((i + 2 : Nat) : Int)) none) j) ∈ n) (h1 : (e1, PySem.W.listOf [.ref e2].toArray 0) ∈ n) (h2 : (e2, tupObj [.str (Str.ofString "else") t]) ∈ n)
    (h : Q (.bool (!isElse (evs.drop (i + 1)))) l n) : W PG w c (compareOp .NotEq (.ref D) (.ref e1)) Q E l n := by
  rw [show slicePick us.toArray (some ((i + 1 : Nat) : Int)) (some ((i + 2 : Nat) : Int)) none = ((us.drop (i + 1)).take 1).toArray from pick_one us i hi] at hD
  have hd : DatAll n ((us.drop (i + 1)).take 1) (((evs.drop (i + 1)).take 1).map Ev.dat) := by
    rw [List.map_take, List.map_drop]; exact datAll_take 1 (datAll_drop _ hda)
  refine w_neD (e := .list [Ev.elseE.dat]) H (.list hD hd) (.list h1 (.cons (.tuple h2 (.cons (.str _ _) .nil)) .nil)) ?_ (by decide +kernel) ?_
  · show kqdOk (59 + 1) _ = true
    simp only [kqdOk, List.all_eq_true, List.mem_map]
    rintro d ⟨e, he, rfl⟩
    exact evdat_kq (hok e (List.mem_of_mem_drop (List.mem_of_mem_take he)))
  · cases hx : isElse (evs.drop (i + 1)) with
    | true => rw [decide_eq_true (next_else.mpr hx)]; rw [hx] at h; exact h
    | false => rw [decide_eq_false (fun z => by rw [next_else.mp z] at hx; cases hx)]; rw [hx] at h; exact h
open Classical in
theorem w_pile_ne {PL e : Addr} {k : Nat} {cs R : Led} {vs : List Value} {st : List Frame} {b : Nat} (H : AmbP w c) (hP : (PL, PySem.W.listOf vs.toArray k) ∈ n) (he : (e, PySem.W.listOf #[] 0) ∈ n) (hc : Cells R b cs vs st) (h1 : ∀ q ∈ cs, q ∈ n) (h2 : ∀ q ∈ R, q ∈ n) (hb : b ≤ 20) (h : Q (.bool (!st.isEmpty)) l n) :
    W PG w c (compareOp .NotEq (.ref PL) (.ref e)) Q E l n := by
  refine w_neD H (.list hP (hc.dats h1 h2)) (.list (vs := []) he .nil) (hc.kq hb) rfl ?_
  cases st with
  | nil => rw [decide_eq_true (by rfl)]; exact h
  | cons f st => rw [decide_eq_false (by simp)]; exact h
@[elab_as_elim] theorem Cells.elim {R : Led} {b : Nat} {cs : Led} {vs : List Value} {st : List Frame} {P : Led → List Value → List Frame → Prop} (h : Cells R b cs vs st) (h0 : P [] [] [])
    (h1 : ∀ cs vs st A a t j, Cells R b cs vs st → a < 3 → P (cs ++ [(A, PySem.W.listOf [.str (S [65 + a]) t, .none].toArray j)]) (vs ++ [.ref A]) ((a, none) :: st))
    (h2 : ∀ cs vs st A a x D us n t j, Cells R b cs vs st → a < 3 → (D, PySem.W.listOf us.toArray n) ∈ R → DatAll R us x → kqL b x → P (cs ++ [(A, PySem.W.listOf [.str (S [65 + a]) t, .ref D].toArray j)]) (vs ++ [.ref A]) ((a, some x) :: st)) : P cs vs st := by
  cases h with
  | nil => exact h0
  | @snoc cs vs st A a o v t j hc hf ha => cases o with
    | none => obtain rfl : v = .none := hf; exact h1 _ _ _ _ _ _ _ hc ha
    | some x =>
      obtain ⟨hf, hk⟩ := hf
      cases hf with
      | list hm hd => exact h2 _ _ _ _ _ _ _ _ _ _ _ hc ha hm hd hk
@[elab_as_elim] theorem Cells.elim1 {R : Led} {b : Nat} {cs : Led} {vs : List Value} {st : List Frame} {P : Led → List Value → List Frame → Prop} (h : Cells R b cs vs st) (h0 : P [] [] [])
    (h1 : ∀ cs vs st A a o v t j, Cells R b cs vs st → a < 3 → P (cs ++ [(A, PySem.W.listOf [.str (S [65 + a]) t, v].toArray j)]) (vs ++ [.ref A]) ((a, o) :: st)) : P cs vs st := by
  cases h with
  | nil => exact h0
  | snoc hc hf ha => exact h1 _ _ _ _ _ _ _ _ _ hc ha
/-- the loop of _law_due ahead of an event -/
inductive DueJ (EV PL : Addr) (n : Led) (evs : List Ev) (n' : Led) (i : Nat) : Loc → Prop
  | mk {k : Nat} {cs : Led} {vs : List Value} {st : List Frame} {told : List Dat} {tv : Value} {R : Led} {b : Nat} {x1 x2 x3 x4 : Option Value} (hp : n'.Perm ((PL, PySem.W.listOf vs.toArray k) :: (cs ++ R))) (hg : Grown n R) (hc : Cells R b cs vs st) (hdt : DatIn R tv (.list told))
      (hkq : kqL b told) (hb : b + st.length ≤ i) (hM : dueM (evs.drop i) (st, told) = dueM evs ([], [])) :
      DueJ EV PL n evs n' i [(Str.ofString "events", some (.ref EV)), (Str.ofString "pile", some (.ref PL)), (Str.ofString "told", some tv), (Str.ofString "at", x1), (Str.ofString "event", x2), (Str.ofString "name", x3), (Str.ofString "first", x4)]
/-- within the closing of conditions -/
inductive DueB (own : Led) (EV PL aE : Addr) (n : Led) (i : Nat) (ti : Tok) (M : List Frame → List Dat → Prop) (n' : Led) : Loc → Prop
  | mk {k : Nat} {cs : Led} {vs : List Value} {st : List Frame} {told : List Dat} {tv : Value} {R : Led} {b : Nat} {x3 x4 : Option Value} (hp : n'.Perm (own ++ ((PL, PySem.W.listOf vs.toArray k) :: (cs ++ R)))) (hg : Grown n R) (hc : Cells R b cs vs st) (hdt : DatIn R tv (.list told))
      (hkq : kqL b told) (hb : b + st.length ≤ i) (hM : M st told) :
      DueB own EV PL aE n i ti M n' [(Str.ofString "events", some (.ref EV)), (Str.ofString "pile", some (.ref PL)), (Str.ofString "told", some tv), (Str.ofString "at", some (.int (i : Nat) ti)), (Str.ofString "event", some (.ref aE)), (Str.ofString "name", x3), (Str.ofString "first", x4)]
theorem c_due {EV : Addr} {us : List Value} {j : Nat} {evs : List Ev} (H : AmbP w c) (hk : 1 ≤ c.k) (hs : Sub nb n) (hm : (EV, PySem.W.listOf us.toArray j) ∈ nb) (hda : DatAll nb us (evs.map Ev.dat)) (hok : ∀ e ∈ evs, e.Ok) (hlen : evs.length ≤ 10)
    (h : ∀ tl n', GB tl n n' → ∀ v, DatIn n' v (.list (dueM evs ([], [])).2) → kqL 20 (dueM evs ([], [])).2 → Q v l n') : W PG w c (call (.ref 806) [.ref EV]) Q E l n := by
  k_extra "m_enter"
  k_extra "m_go"
  rename_i c' env' E2 H' he' hc' hk' PL hPL TD hTD TP hTP
  have hmN := hs _ hm
  have hul := hda.length
  rw [List.length_map] at hul
  refine w_for_enumP (a := EV) (its := us.toArray) (k := j) (Amb.hd (by assumption)) (fun _ => rfl) (by with_unfolding_all rfl) (by with_unfolding_all rfl) ?nm ?ar (by with_reducible k_extra "m_loc") (fun i l' n' => DueJ EV PL n evs n' i l') ?h0 ?hJm ?step ?fin
  case nm =>
    k_extra "m_go"
    exact ⟨rfl, rfl, rfl⟩
  case ar =>
    k_extra "m_go"
    exact ⟨rfl, rfl, rfl⟩
  case h0 =>
    exact .mk (k := 0) (cs := []) (vs := []) (st := []) (told := []) (b := 0) (R := (TP, tupObj [.ref PL, .ref TD]) :: (TD, PySem.W.listOf #[] 0) :: n) (List.perm_middle (l₁ := [(TP, tupObj [.ref PL, .ref TD]), (TD, PySem.W.listOf #[] 0)])) (by k_extra "m_gr") .nil (.list (vs := []) (by with_reducible k_extra "m_loc") .nil) kqL_nil (Nat.le_refl _) rfl
  case hJm =>
    intro i l₁ n₁ hJ
    cases hJ with
    | mk hp hg => exact hp.mem_iff.mpr (.tail _ (List.mem_append_right _ (hg.all _ hmN)))
  case fin =>
    intro l₁ n₁ hJ
    cases hJ with
    | mk hp hg hc hdt hkq hb hM =>
      rename_i k cs vs st told tv R b x1 x2 x3 x4
      obtain ⟨tlR, rfl⟩ := hg
      rw [show us.toArray.size = evs.length from hul, List.drop_length] at hM
      have hM2 : told = (dueM evs ([], [])).2 := by rw [← hM]; rfl
      refine w_perm hp ?_
      rw [← List.append_assoc]
      k_extra "m_go"
      have hbl : b ≤ 20 := by have : us.toArray.size = evs.length := hul; omega
      rw [hM2] at hdt hkq
      exact h _ _ (by k_extra "m_gb") _ (hdt.mono fun q hq => .tail _ (by rw [List.append_assoc]; exact List.mem_append_right _ hq)) (hkq.mono hbl)
  case step =>
    intro i v l₁ n₁ ti hv hJ own E3 P fin1 fin2
    have hv' : us[i]? = some v := by simpa using hv
    have hi : i < evs.length := by rw [← hul]; exact (List.getElem?_eq_some_iff.mp hv').1
    have hdv : ∃ e, DatIn nb v e.dat ∧ evs[i]? = some e := by
      obtain ⟨v2, hv2, hdv⟩ := hda.get (k := i) (by rw [List.length_map]; omega)
      rw [hv'] at hv2
      obtain rfl := Option.some.inj hv2
      refine ⟨evs[i], ?_, List.getElem?_eq_getElem hi⟩
      simpa using hdv
    clear hv hv'
    cases hdv with
    | intro e hdv =>
    have hei := hdv.2
    replace hdv := hdv.1
    have hoke := hok e (List.mem_of_getElem? hei)
    have hdrop : evs.drop i = e :: evs.drop (i + 1) := by
      rw [List.drop_eq_getElem_cons hi]
      rw [List.getElem?_eq_getElem hi] at hei
      rw [Option.some.inj hei]
    clear hei
    cases hJ with
    | mk hp hg hc hdt hkq hb hM =>
    rename_i k cs vs st told tv R b x1 x2 x3 x4
    rw [hdrop] at hM
    clear hdrop
    have hvl := hc.len
    have hnR := hg.all
    refine w_perm (List.Perm.append_left own hp) ?_
    clear hp n₁
    cases e with
    | ifE a =>
      refine ev_if_k hdv fun aE j2 t2 u2 hm2 => ?_
      have hm3 := hnR _ (hs _ hm2)
      k_extra "m_go"
      exact fin2 _ _ _ (by k_extra "m_cut") (.mk perm_push hg (.snoc hc first_none hoke) hdt hkq (by (simp only [List.length_cons]; omega)) hM)
    | elseE =>
      refine ev_else_k hdv fun aE j2 t2 hm2 => ?_
      have hm3 := hnR _ (hs _ hm2)
      k_extra "m_go"
      exact fin2 _ _ _ (by k_extra "m_cut") (.mk (List.Perm.refl _) hg hc hdt hkq (by omega) hM)
    | doE kk m =>
      clear fin2
      refine ev_do_k hdv fun aE j2 t2 tr u2 hm2 h2 => ?_
      have hm3 := hnR _ (hs _ hm2)
      k_extra "m_go"
      generalize hnx : isElse (evs.drop (i + 1)) = nx at hM
      refine w_loopP (fun mm l' n' => DueB own EV PL aE n i ti (fun st2 told => mm = st2.length ∧ popsM nx st2 told = popsM nx st (doTrees kk m)) n' l')
        (fun l' n' => DueB own EV PL aE n i ti (fun st2 told => (st2, told) = popsM nx st (doTrees kk m)) n' l') st.length
        (.mk (List.Perm.refl _) hg hc (h2.mono (fun q hq => hnR q (hs q hq))) ((kqL_do hoke.1).mono (Nat.zero_le _)) hb ⟨rfl, rfl⟩) ?_ ?_
      · intro l' n' hX
        cases hX with
        | mk hp2 hg2 hc2 hdt2 hkq2 hb2 hM2 =>
        refine w_perm hp2 ?_
        clear hp2 n'
        k_extra "m_go"
        refine w_pile_ne H' (by with_reducible k_extra "m_loc") (by with_reducible k_extra "m_loc") hc2 (fun q hq => .tail _ (List.mem_append_right _ (.tail _ (List.mem_append_left _ hq)))) (fun q hq => .tail _ (List.mem_append_right _ (.tail _ (List.mem_append_right _ hq)))) (by omega) ?_
        have hM3 : dueM (evs.drop (i + 1)) (aftM (popsM nx st (doTrees kk m))) = dueM evs ([], []) := by rw [← hnx]; exact hM
        rw [← hM2] at hM3
        clear hM2 hM hnx hb hc hdt hkq hvl
        revert hb2 hM3
        refine Cells.elim1 hc2 ?_ ?_
        · intro hb2 hM3
          k_extra "m_go"
          exact fin1 _ _ _ (by k_extra "m_cut") (.mk perm_e (.cons hg2) .nil (hdt2.mono (fun q hq => .tail _ hq)) hkq2 (by (simp only [List.length_nil] at hb2 ⊢; omega)) hM3)
        · intro cs3 vs3 st3 P3 a3 o3 v3 t3 j3 hc3 ha3 hb2 hM3
          have hvl3 := hc3.len
          rw [show (!((a3, o3) :: st3).isEmpty) = true from rfl]
          simp only [List.append_assoc, List.cons_append, List.nil_append]
          k_extra "m_go"
          refine w_setitem (i := 1) (vs := [.str (S [65 + a3]) t3, v3]) (show RepAt P3 _ (PySem.W.listOf [.str (S [65 + a3]) t3, _].toArray j3) _ _ from by with_reducible k_extra "m_rep") (show 1 < 2 by decide) (by decide) ?_
          k_extra "m_go"
          exact fin1 _ _ _ (by k_extra "m_cut") (.mk perm_fin (.cons hg2) (.snoc (hc3.mono (fun q hq => .tail _ hq) (Nat.le_refl _)) (first_some (hdt2.mono (fun q hq => .tail _ hq)) hkq2) ha3) (hdt2.mono (fun q hq => .tail _ hq)) hkq2 (by (simp only [List.length_cons] at hb2 ⊢; omega)) hM3)
      · intro E4 mm l' n' hX P4 fn fc fb fr
        clear fc fr fb fin1 hM hb hc hdt hkq hvl
        cases hX with
        | mk hp2 hg2 hc2 hdt2 hkq2 hb2 hM2 =>
        refine w_perm hp2 ?_
        clear hp2 n'
        k_extra "m_go"
        refine w_pile_ne H' (by with_reducible k_extra "m_loc") (by with_reducible k_extra "m_loc") hc2 (fun q hq => .tail _ (List.mem_append_right _ (.tail _ (List.mem_append_left _ hq)))) (fun q hq => .tail _ (List.mem_append_right _ (.tail _ (List.mem_append_right _ hq)))) (by omega) ?_
        have hmR := hg2.all _ hmN
        revert hb2 hM2
        refine Cells.elim hc2 ?_ ?_ ?_
        · intro hb2 hM2
          k_extra "m_go"
          exact .mk (Col.perm (cs := []) (by k_extra "m_col")) (.app hg2) .nil (hdt2.mono (fun q hq => List.mem_append_right _ hq)) hkq2 hb2 hM2.2
        · intro cs3 vs3 st3 P a3 t3 j3 hc3 ha3 hb2 hM2
          have hvl3 := hc3.len
          have hvl3' : vs3.length ≤ 10 := by simp only [List.length_cons] at hb2; omega
          rw [show (!((a3, (none : Option (List Dat))) :: st3).isEmpty) = true from rfl]
          k_extra "m_go"
          refine ⟨EV, us.toArray, j, rfl, List.mem_cons_of_mem _ (List.mem_append_right _ (List.mem_cons_of_mem _ (List.mem_append_right _ hmR))), by (rw [line_is]; show us.length ≤ _; omega), ?_⟩
          k_extra "m_go"
          refine ⟨_, _, rfl, ?_⟩
          k_extra "m_go"
          refine ⟨_, _, rfl, List.mem_cons_of_mem _ (List.mem_append_right _ (List.mem_cons_of_mem _ (List.mem_append_right _ hmR))), fun D => ?_⟩
          k_extra "m_go"
          refine w_next_ne (us := us) (i := i) H' (by omega) (hda.mono fun q hq => .tail _ (.tail _ (.tail _ (.tail _ (List.mem_append_right _ (.tail _ (List.mem_append_right _ (hg2.all _ (hs q hq)))))))))  hok (by with_reducible k_extra "m_loc") (by with_reducible k_extra "m_loc") (by with_reducible k_extra "m_loc") ?_
          rw [hnx]
          clear hnx
          cases nx with
          | true =>
            k_extra "m_go"
            exact .mk (vs := vs3 ++ [.ref P]) (st := (a3, none) :: st3) (Col.perm (by k_extra "m_col")) (.app hg2) (.snoc (hc3.mono (fun q hq => List.mem_append_right _ hq) (Nat.le_refl _)) first_none ha3) (hdt2.mono (fun q hq => List.mem_append_right _ hq)) hkq2 hb2 hM2.2
          | false =>
            k_extra "m_go"
            exact fn st3.length _ _ (by rw [hM2.1]; exact Nat.lt_succ_self _) (.mk (Col.perm1 (by k_extra "m_col")) (.app (.cons hg2)) (hc3.mono (fun q hq => List.mem_append_right _ (.tail _ hq)) (Nat.le_succ _)) (by (simp only [List.cons_append, List.nil_append]; unfold dIF; k_extra "m_dat")) (kqL_if ha3 hkq2 kqL_nil) (by (simp only [List.length_cons] at hb2; omega)) ⟨rfl, hM2.2⟩)
        · intro cs3 vs3 st3 P a3 x3 A3 us3 n3 t3 j3 hc3 ha3 hm3' hd3 hkf3 hb2 hM2
          have hvl3 := hc3.len
          have hvl3' : vs3.length ≤ 10 := by simp only [List.length_cons] at hb2; omega
          rw [show (!((a3, some x3) :: st3).isEmpty) = true from rfl]
          have hfx := DatIn.list hm3' hd3
          k_extra "m_go"
          exact fn st3.length _ _ (by rw [hM2.1]; exact Nat.lt_succ_self _) (.mk (Col.perm1 (by k_extra "m_col")) (.app (.cons hg2)) (hc3.mono (fun q hq => List.mem_append_right _ (.tail _ hq)) (Nat.le_succ _)) (by (simp only [List.cons_append, List.nil_append]; unfold dIF; k_extra "m_dat")) (kqL_if ha3 hkf3 hkq2) (by (simp only [List.length_cons] at hb2; omega)) ⟨rfl, hM2.2⟩)
end

-- ===== Pt
noncomputable def ifs : List Ev → Nat
  | [] => 0
  | .ifE _ :: r => ifs r + 1
  | _ :: r => ifs r
theorem ifs_app : ∀ (a b : List Ev), ifs (a ++ b) = ifs a + ifs b
  | [], b => by simp [ifs]
  | .ifE _ :: r, b => by show ifs (r ++ b) + 1 = ifs r + 1 + ifs b; rw [ifs_app r b]; omega
  | .elseE :: r, b => ifs_app r b
  | .doE _ _ :: r, b => ifs_app r b
theorem ifs_len : ∀ (a : List Ev), ifs a ≤ a.length
  | [] => Nat.le_refl _
  | .ifE _ :: r => Nat.succ_le_succ (ifs_len r)
  | .elseE :: r => Nat.le_succ_of_le (ifs_len r)
  | .doE _ _ :: r => Nat.le_succ_of_le (ifs_len r)
noncomputable def tokR (es : List Ev) : List Tk := toks (rowPcs false es)
theorem tokR_if (a : Nat) (r : List Ev) : tokR (.ifE a :: r) = .wd kIF :: .wd [65 + a] :: .wd kTHEN :: tokR r := rfl
theorem tokR_else (r : List Ev) : tokR (.elseE :: r) = .wd kELSE :: tokR r := rfl
theorem rowPcs_app : ∀ (f : Bool) (a b : List Ev), rowPcs f (a ++ b) = rowPcs f a ++ rowPcs (f && a.isEmpty) b
  | f, [], b => by simp [rowPcs]
  | f, e :: r, b => by
    show evPcs f e ++ rowPcs false (r ++ b) = (evPcs f e ++ rowPcs false r) ++ rowPcs (f && false) b
    rw [rowPcs_app false r b, Bool.and_false, Bool.false_and, List.append_assoc]
theorem tokR_app (a b : List Ev) : tokR (a ++ b) = tokR a ++ tokR b := by
  unfold tokR; rw [rowPcs_app, toks_app, Bool.false_and]
/-- what may stand behind a row -/
noncomputable def TailOk (k : Nat) (T : List Tk) : Prop := T = [] ∨ (k = 0 ∧ ∃ r, T = .wd kELSE :: r)
theorem TailOk.ends {k : Nat} {T : List Tk} (h : TailOk k T) : ends T = true := by
  rcases h with rfl | ⟨_, r, rfl⟩
  · rfl
  · rfl
theorem nE {d : List Nat} {m : Nat} (h : d ≠ kELSE) : ¬ (0 < m ∧ Tk.wd d = .wd kELSE) := fun ⟨_, h2⟩ => h (by injection h2)
theorem TailOk.some {k : Nat} {T : List Tk} (h : TailOk k T) (f ne : Nat) : pSome (f + 1) (ne + 1) T = .ok [] T := by
  rcases h with rfl | ⟨_, r, rfl⟩
  · exact pSome_nil rfl
  · exact pSome_else rfl (Nat.succ_pos _)
theorem pSome_step {f ne : Nat} {r r3 r4 : List Tk} {t : Tk} {r2 : List Tk} {d : Dat} {ds : List Dat} (h : dropCol r = t :: r2) (hn : ¬ (0 < ne ∧ t = .wd kELSE)) (h1 : pOne (pSome f) ne (t :: r2) = .ok d r3) (h2 : ends r3 = true) (h3 : pSome f ne r3 = .ok ds r4) :
    pSome (f + 1) ne r = .ok (d :: ds) r4 := by
  rw [pSome_one h hn, h1]; dsimp only; rw [if_pos h2, h3]
theorem pPart_num {P : Nat → List Tk → Res (List Dat)} {ne : Nat} {d : List Nat} {r r3 : List Tk} {t : List Dat} (h1 : ends r = true) (h2 : valOf d ≤ 65529) (h3 : P (ne + 1) r = .ok t r3) : pPart P ne (.num d :: r) = .ok (dGOTO d :: t) r3 := by
  have e : (ends r && decide (valOf d ≤ 65529)) = true := by rw [h1, decide_eq_true h2]; rfl
  unfold pPart
  simp only [e, if_true, h3]
theorem pPart_wd {P : Nat → List Tk → Res (List Dat)} {ne : Nat} {d : List Nat} {r : List Tk} : pPart P ne (.wd d :: r) = P (ne + 1) (.wd d :: r) := rfl
theorem abc_no {a : Nat} (h : a < 3) : [65 + a] ∈ wordsNo := by
  have : a = 0 ∨ a = 1 ∨ a = 2 := by omega
  rcases this with rfl | rfl | rfl <;> decide
theorem pIf_no {P : Nat → List Tk → Res (List Dat)} {ne a : Nat} {r2 : List Tk} {x : List Dat} (hn : ¬ 12 ≤ ne) (ha : a < 3) (h : pPart P ne r2 = .ok x []) : pIf P ne (.wd [65 + a] :: .wd kTHEN :: r2) = .ok (dIF [65 + a] x []) [] := by
  unfold pIf; rw [if_neg hn]; dsimp only; rw [if_pos ⟨abc_no ha, rfl⟩, h]
theorem pIf_else {P : Nat → List Tk → Res (List Dat)} {ne a : Nat} {r2 r4 T : List Tk} {x y : List Dat} (hn : ¬ 12 ≤ ne) (ha : a < 3) (h : pPart P ne r2 = .ok x (.wd kELSE :: r4)) (h2 : pPart P ne r4 = .ok y T) : pIf P ne (.wd [65 + a] :: .wd kTHEN :: r2) = .ok (dIF [65 + a] x y) T := by
  unfold pIf; rw [if_neg hn]; dsimp only; rw [if_pos ⟨abc_no ha, rfl⟩, h]; dsimp only; rw [if_pos rfl, h2]
theorem do_part {k n f ne : Nat} {T : List Tk} (hok : (Ev.doE k n).Ok) (hT : TailOk 0 T) (hf : 3 ≤ f) : pPart (pSome f) ne (tokR [.doE k n] ++ T) = .ok (doTrees k n) T := by
  obtain ⟨k1, n1, n2⟩ := hok
  obtain ⟨d1, _⟩ := dig_ok n (by omega)
  have hv : valOf (dig n) ≤ 65529 := by omega
  obtain ⟨f, rfl⟩ : ∃ g, f = g + 3 := ⟨f - 3, by omega⟩
  have hz : k = 0 ∨ k = 1 ∨ k = 2 ∨ k = 3 := by omega
  rcases hz with rfl | rfl | rfl | rfl
  · exact pPart_num hT.ends hv (hT.some _ _)
  · refine pPart_num (r := .col :: .wd kSTOP :: T) rfl hv ?_
    exact pSome_step (t := .wd kSTOP) (r2 := T) rfl (nE (by decide)) pOne_STOP hT.ends (hT.some _ _)
  · show pSome (f + 3) (ne + 1) (.wd kNEXT :: .col :: .col :: .wd kEND :: T) = _
    refine pSome_step rfl (nE (by decide)) (by rw [pOne_NEXT]; exact if_pos rfl) rfl ?_
    exact pSome_step (t := .wd kEND) (r2 := T) rfl (nE (by decide)) pOne_END hT.ends (hT.some _ _)
  · show pSome (f + 3) (ne + 1) (.wd kGOSUB :: .num (dig n) :: T) = _
    exact pSome_step rfl (nE (by decide)) (by rw [pOne_GOSUB, if_pos hv]) hT.ends (hT.some _ _)
theorem RowL.parse {es : List Ev} {x : List Dat} {k : Nat} (h : RowL es x k) : (∀ e ∈ es, e.Ok) → ∀ T, TailOk k T →
    (∀ f ne, ifs es + 3 ≤ f → ne + ifs es ≤ 11 → pPart (pSome f) ne (tokR es ++ T) = .ok x T) ∧
    (∀ f ne a r, es = .ifE a :: r → ifs es + 2 ≤ f → ne + ifs es ≤ 12 → ∃ d, x = [d] ∧ pIf (pSome f) ne (.wd [65 + a] :: .wd kTHEN :: (tokR r ++ T)) = .ok d T) := by
  have fromB : ∀ {es : List Ev} {x : List Dat} {k a : Nat} {r : List Ev} {T : List Tk}, es = .ifE a :: r → TailOk k T →
      (∀ f ne, ifs es + 2 ≤ f → ne + ifs es ≤ 12 → ∃ d, x = [d] ∧ pIf (pSome f) ne (.wd [65 + a] :: .wd kTHEN :: (tokR r ++ T)) = .ok d T) →
      ∀ f ne, ifs es + 3 ≤ f → ne + ifs es ≤ 11 → pPart (pSome f) ne (tokR es ++ T) = .ok x T := by
    intro es x k a r T he hT hB f ne hf hn
    obtain ⟨f, rfl⟩ : ∃ g, f = g + 1 := ⟨f - 1, by omega⟩
    obtain ⟨d, rfl, hd⟩ := hB f (ne + 1) (by omega) (by omega)
    subst he
    show pSome (f + 1) (ne + 1) (.wd kIF :: .wd [65 + a] :: .wd kTHEN :: (tokR r ++ T)) = _
    obtain ⟨f2, rfl⟩ : ∃ g, f = g + 1 := ⟨f - 1, by omega⟩
    exact pSome_step rfl (nE (by decide)) (by rw [pOne_IF]; exact hd) hT.ends (hT.some _ _)
  induction h with
  | @one k n =>
    intro hok T hT
    exact ⟨fun f ne hf _ => do_part (hok _ (.head _)) hT (by omega), fun f ne a r he => by cases he⟩
  | @ifT a es x k h ih =>
    intro hok T hT
    have hT0 : T = [] := by rcases hT with h | ⟨h, _⟩; · exact h
                            · cases h
    subst hT0
    have hB : ∀ f ne, ifs (.ifE a :: es) + 2 ≤ f → ne + ifs (.ifE a :: es) ≤ 12 → ∃ d, [dIF [65 + a] x []] = [d] ∧ pIf (pSome f) ne (.wd [65 + a] :: .wd kTHEN :: (tokR es ++ [])) = .ok d [] := by
      intro f ne hf hn
      have e : ifs (.ifE a :: es) = ifs es + 1 := rfl
      exact ⟨_, rfl, pIf_no (by omega) (hok _ (.head _)) ((ih (fun e he => hok e (.tail _ he)) [] (.inl rfl)).1 f ne (by omega) (by omega))⟩
    exact ⟨fromB rfl hT hB, fun f ne b r he hf hn => by injection he with h1 h2; injection h1 with h1; subst h1 h2; exact hB f ne hf hn⟩
  | @ifE a e1 e2 x y k h1 h2 ih1 ih2 =>
    intro hok T hT
    have hB : ∀ f ne, ifs (.ifE a :: (e1 ++ .elseE :: e2)) + 2 ≤ f → ne + ifs (.ifE a :: (e1 ++ .elseE :: e2)) ≤ 12 → ∃ d, [dIF [65 + a] x y] = [d] ∧ pIf (pSome f) ne (.wd [65 + a] :: .wd kTHEN :: (tokR (e1 ++ .elseE :: e2) ++ T)) = .ok d T := by
      intro f ne hf hn
      have e : ifs (.ifE a :: (e1 ++ .elseE :: e2)) = ifs e1 + ifs e2 + 1 := by
        show ifs (e1 ++ .elseE :: e2) + 1 = _
        rw [ifs_app]; rfl
      refine ⟨_, rfl, ?_⟩
      rw [tokR_app, tokR_else, List.append_assoc, List.cons_append]
      refine pIf_else (by omega) (hok _ (.head _)) ((ih1 (fun e he => hok e (.tail _ (List.mem_append_left _ he))) _ (.inr ⟨rfl, _, rfl⟩)).1 f ne (by omega) (by omega)) ((ih2 (fun e he => hok e (.tail _ (List.mem_append_right _ (.tail _ he)))) T hT).1 f ne (by omega) (by omega))
    exact ⟨fromB rfl hT hB, fun f ne b r he hf hn => by injection he with h1 h2; injection h1 with h1; subst h1 h2; exact hB f ne hf hn⟩
theorem pSome_else0 {f : Nat} {r : List Tk} : pSome (f + 1) 0 (.wd kELSE :: r) = .err sSN := by
  rw [pSome_one (t := .wd kELSE) (r2 := r) rfl (fun h => absurd h.1 (Nat.lt_irrefl _)), pOne_ELSE]
theorem pSome_stepE {f ne : Nat} {r r3 : List Tk} {t : Tk} {r2 : List Tk} {d : Dat} {xc : Str} (h : dropCol r = t :: r2) (hn : ¬ (0 < ne ∧ t = .wd kELSE)) (h1 : pOne (pSome f) ne (t :: r2) = .ok d r3) (h2 : ends r3 = true) (h3 : pSome f ne r3 = .err xc) :
    pSome (f + 1) ne r = .err xc := by
  rw [pSome_one h hn, h1]; dsimp only; rw [if_pos h2, h3]
theorem n0 {t : Tk} : ¬ (0 < 0 ∧ t = .wd kELSE) := fun h => absurd h.1 (Nat.lt_irrefl _)
noncomputable def Tail0 (f : Nat) (T : List Tk) (x : List Dat) (R : Res (List Dat)) : Prop := (T = [] ∧ R = .ok x []) ∨ ((∃ r, T = .wd kELSE :: r) ∧ R = .err sSN)
theorem top_row {es : List Ev} {x : List Dat} {k : Nat} (h : RowL es x k) (hok : ∀ e ∈ es, e.Ok) (hi : ifs es ≤ 12) (T : List Tk) (hT : TailOk k T) {R : Res (List Dat)} (hR : (T = [] ∧ R = .ok x []) ∨ ((∃ r, T = .wd kELSE :: r) ∧ R = .err sSN)) (F : Nat) :
    pSome (F + 20) 0 (toks (rowPcs true es) ++ T) = R := by
  have fin : ∀ {f : Nat} {r : List Tk} {t : Tk} {r2 : List Tk} {d : Dat}, x = [d] → dropCol r = t :: r2 → pOne (pSome (f + 1)) 0 (t :: r2) = .ok d T → pSome (f + 2) 0 r = R := by
    intro f r t r2 d hx hd ho
    rcases hR with ⟨rfl, rfl⟩ | ⟨⟨r', rfl⟩, rfl⟩
    · rw [hx]; exact pSome_step hd n0 ho rfl (pSome_nil rfl)
    · exact pSome_stepE hd n0 ho rfl pSome_else0
  have fin2 : ∀ {f : Nat} {r : List Tk} {t : Tk} {r2 r3 : List Tk} {t3 : Tk} {r4 : List Tk} {d d2 : Dat}, x = [d, d2] → dropCol r = t :: r2 → pOne (pSome (f + 2)) 0 (t :: r2) = .ok d r3 → ends r3 = true → dropCol r3 = t3 :: r4 → pOne (pSome (f + 1)) 0 (t3 :: r4) = .ok d2 T → pSome (f + 3) 0 r = R := by
    intro f r t r2 r3 t3 r4 d d2 hx hd ho he hd2 ho2
    rcases hR with ⟨rfl, rfl⟩ | ⟨⟨r', rfl⟩, rfl⟩
    · rw [hx]; exact pSome_step hd n0 ho he (pSome_step hd2 n0 ho2 rfl (pSome_nil rfl))
    · exact pSome_stepE hd n0 ho he (pSome_stepE hd2 n0 ho2 rfl pSome_else0)
  cases h with
  | @one kk n =>
    obtain ⟨k1, n1, n2⟩ := hok _ (.head _)
    obtain ⟨d1, _⟩ := dig_ok n (by omega)
    have hv : valOf (dig n) ≤ 65529 := by omega
    have hz : kk = 0 ∨ kk = 1 ∨ kk = 2 ∨ kk = 3 := by omega
    rcases hz with rfl | rfl | rfl | rfl
    · exact fin (t := .wd kGOTO) (r2 := .num (dig n) :: T) rfl rfl (by rw [pOne_GOTO, if_pos hv])
    · exact fin2 (t := .wd kGOTO) (r2 := .num (dig n) :: .col :: .wd kSTOP :: T) rfl rfl (by rw [pOne_GOTO, if_pos hv]) rfl (t3 := .wd kSTOP) (r4 := T) rfl pOne_STOP
    · exact fin2 (t := .wd kNEXT) (r2 := .col :: .col :: .wd kEND :: T) rfl rfl (by rw [pOne_NEXT]; exact if_pos rfl) rfl (t3 := .wd kEND) (r4 := T) rfl pOne_END
    · exact fin (t := .wd kGOSUB) (r2 := .num (dig n) :: T) rfl rfl (by rw [pOne_GOSUB, if_pos hv])
  | @ifT a r x k h =>
    obtain ⟨d, hd, hp⟩ := (RowL.parse (.ifT (a := a) h) hok T hT).2 (F + 19) 0 a r rfl (by omega) (by omega)
    exact fin (f := F + 18) (t := .wd kIF) (r2 := .wd [65 + a] :: .wd kTHEN :: (tokR r ++ T)) hd rfl (by rw [pOne_IF]; exact hp)
  | @ifE a e1 e2 x y k h1 h2 =>
    obtain ⟨d, hd, hp⟩ := (RowL.parse (.ifE (a := a) h1 h2) hok T hT).2 (F + 19) 0 a _ rfl (by omega) (by omega)
    exact fin (f := F + 18) (t := .wd kIF) (r2 := .wd [65 + a] :: .wd kTHEN :: (tokR (e1 ++ .elseE :: e2) ++ T)) hd rfl (by rw [pOne_IF]; exact hp)
-- ===== the pieces of a row read well
noncomputable def seqOk : List Ev → Prop
  | [] => True
  | .doE _ _ :: r => (r = [] ∨ isElse r = true) ∧ seqOk r
  | _ :: r => seqOk r
theorem RowL.seq {es : List Ev} {x : List Dat} {k : Nat} (h : RowL es x k) : ∀ rest, (rest = [] ∨ isElse rest = true) → seqOk rest → seqOk (es ++ rest) := by
  induction h with
  | one => intro rest h1 h2; exact ⟨h1, h2⟩
  | ifT _ ih => intro rest h1 h2; exact ih rest h1 h2
  | ifE _ _ ih1 ih2 => intro rest h1 h2; rw [List.cons_append, List.append_assoc]; exact ih1 _ (.inr rfl) (ih2 rest h1 h2)
theorem num_ok {n : Nat} (h1 : 1 ≤ n) (h2 : n ≤ 90) : (Tk.num (dig n)).Ok := by
  have h := dig_ok n (by omega)
  exact ⟨h.2.1, h.2.2.1, by have := h.2.2.2.1; omega⟩
theorem okP_ev {f : Bool} {e : Ev} {R : List Pc} (he : e.Ok) (hR : okP R) (hF : (∃ k n, e = .doE k n) → Follow R) : okP (evPcs f e ++ R) := by
  have wIF : (Tk.wd kIF).Ok := by show kIF ∈ wordsAll; decide
  have wTHEN : (Tk.wd kTHEN).Ok := by show kTHEN ∈ wordsAll; decide
  have wELSE : (Tk.wd kELSE).Ok := by show kELSE ∈ wordsAll; decide
  have wGOTO : (Tk.wd kGOTO).Ok := by show kGOTO ∈ wordsAll; decide
  have wSTOP : (Tk.wd kSTOP).Ok := by show kSTOP ∈ wordsAll; decide
  have wNEXT : (Tk.wd kNEXT).Ok := by show kNEXT ∈ wordsAll; decide
  have wEND : (Tk.wd kEND).Ok := by show kEND ∈ wordsAll; decide
  have wGOSUB : (Tk.wd kGOSUB).Ok := by show kGOSUB ∈ wordsAll; decide
  cases e with
  | ifE a =>
    have wA : (Tk.wd [65 + a]).Ok := List.mem_append_right _ (abc_no he)
    exact ⟨wIF, .inr trivial, wA, .inr trivial, wTHEN, .inr trivial, hR⟩
  | elseE => exact ⟨wELSE, .inr trivial, hR⟩
  | doE k n =>
    obtain ⟨k1, n1, n2⟩ := he
    have hN := num_ok n1 n2
    have hFR := hF ⟨_, _, rfl⟩
    have : k = 0 ∨ k = 1 ∨ k = 2 ∨ k = 3 := by omega
    rcases this with rfl | rfl | rfl | rfl
    · cases f
      · exact ⟨hN, .inr hFR, hR⟩
      · exact ⟨wGOTO, .inr trivial, hN, .inr hFR, hR⟩
    · cases f
      · exact ⟨hN, .inr rfl, trivial, .inl rfl, wSTOP, .inr hFR, hR⟩
      · exact ⟨wGOTO, .inr trivial, hN, .inr rfl, trivial, .inl rfl, wSTOP, .inr hFR, hR⟩
    · exact ⟨wNEXT, .inr trivial, trivial, .inl rfl, trivial, .inl rfl, wEND, .inr hFR, hR⟩
    · exact ⟨wGOSUB, .inr trivial, hN, .inr hFR, hR⟩
theorem okP_row : ∀ {es : List Ev} {f : Bool} {R : List Pc}, seqOk es → (∀ e ∈ es, e.Ok) → okP R → Follow R → okP (rowPcs f es ++ R)
  | [], _, _, _, _, hR, _ => hR
  | e :: r, f, R, hs, ho, hR, hF => by
    show okP ((evPcs f e ++ rowPcs false r) ++ R)
    rw [List.append_assoc]
    have hr : seqOk r := by cases e <;> first | exact hs | exact hs.2
    refine okP_ev (ho e (.head _)) (okP_row hr (fun e he => ho e (.tail _ he)) hR hF) ?_
    rintro ⟨k, n, rfl⟩
    rcases hs.1 with rfl | h
    · exact hF
    · cases r with
      | nil => cases h
      | cons a r => cases a with
        | elseE => exact trivial
        | ifE _ => cases h
        | doE _ _ => cases h

-- ===== L15
section
variable {prog : Program} {w : World} {c : Cx} {E : Value → Shared → Prop} {l : Loc} {n nb : Led} {t u : Tok} {env : Env} {K : Frag} {p : Program} {loose : List Str} {Q : Value → Loc → Led → Prop}
theorem w_nd {α : Type} {t : Sem α} {Q : α → Loc → Led → Prop} (h : (n.map (·.1)).Nodup → W prog w c t Q E l n) : W prog w c t Q E l n := fun s S => h S.nd s S
theorem w_slT0 {value hi : Expr} {q pos : Pos}
    (hs : ∀ a b, subscripted (.Slice none (some hi) none q) false (.ref a) (.ref b) = operate [.ref b, .ref a] (getItem (.ref a) (.ref b))) (hg : ∀ a r, letTemporaryGo value (.ref a) r = pure ())
    (h : W prog w c (eval value env) (fun o l' n' => ∃ a its, o = .ref a ∧ c.h₀.IsList a its ∧ its.size ≤ sizeLine ∧
      W prog w c (eval hi env) (fun j l' n' => ∃ y ty, j = .int y ty ∧ ∀ D, Q (.ref D) l' ((D, PySem.W.listOf (slicePick its none (some y) none) 0) :: n')) E l' n') E l n) :
    W prog w c (eval (.Subscript value (.Slice none (some hi) none q) pos) env) Q E l n := fun _ S => by
  refine Subscript_ (h.go S fun o s' l' n' S' x => ?_)
  obtain ⟨a, its, rfl, hm, hz, kk⟩ := x
  refine wpAny_Slice (evalPart_none_step (evalPart_some_step (kk.go S' fun j s3 l3 n3 S3 z => ?_)))
  obtain ⟨yi, tb, rfl, kk⟩ := z
  obtain ⟨m, F, hl⟩ := S3.fr
  exact evalPart_none_step (slice_list F S3.nw (hm.at fun o e => F.keep _ o e) .none (.int yi tb) (fun h' F' N' => W.fin (S3.addTwo ⟨m, F', hl⟩ N' (Nat.le_succ _)) (kk _)) (hs _ _) (fun r => hg a r) hz)
theorem w_sum {a : Addr} {vs : List Value} {ns : List Int} {k : Nat} (H : Amb K p loose c) (hm : (a, PySem.W.listOf vs.toArray k) ∈ n) (hi : IntsAre vs ns) (h : ∀ t, Q (.int ns.sum t) l n) : W prog w c (call (.builtin "sum") [.ref a]) Q E l n := fun s S => by
  obtain ⟨xs, hx⟩ := hi.allInts.items
  refine sum_intListG H.hd (hx ▸ isList_of S.nw hm) fun h' tk t' hk => ?_
  have e : preSum (numAt xs) xs.size = ns.sum := by
    rw [preSum_eq, List.take_of_length_le (by simp), ← nums_intItems, ← hx, List.toList_toArray, hi.numsOf]
  obtain ⟨m, F, hl⟩ := S.fr
  rw [e]
  exact W.fin (S.put ⟨m, F.keeps hk, hl⟩ (S.nw.grown hk) S.nd S.lk) (h t')
theorem w_isi_list {a : Addr} {its : Array Value} {k : Nat} (hm : (a, PySem.W.listOf its k) ∈ n) (h : Q (.bool false) l n) : W prog w c (call (.builtin "isinstance") [.ref a, .type "str"]) Q E l n := fun s S =>
  IsiPair.list_str (S.nw _ hm).1 rfl (W.fin S.tok h)
theorem ints_of_abs {vs ys : List Value} (h : Paired (fun v y => (∃ a t, v = .int a t) → ∃ b t, y = .int b t) vs ys) {ns : List Int} (hi : IntsAre vs ns) : ∃ ms, IntsAre ys ms := by
  induction h generalizing ns with
  | nil => exact ⟨_, .nil⟩
  | cons h1 _ ih =>
    cases hi with
    | cons a t hi =>
      obtain ⟨ms, hm⟩ := ih hi
      obtain ⟨b, t2, rfl⟩ := h1 ⟨_, _, rfl⟩
      exact ⟨_, .cons _ _ hm⟩
theorem intsAre_mem {vs : List Value} {ns : List Int} (hi : IntsAre vs ns) : ∀ v ∈ vs, ∃ a t, v = .int a t := by
  induction hi with
  | nil => intro v h; cases h
  | cons a t _ ih =>
    intro v h
    rcases List.mem_cons.mp h with rfl | h
    · exact ⟨_, _, rfl⟩
    · exact ih v h
-- ===== what an event of the ledger opens with
noncomputable def headIs (nb : Led) (x : Str) : Value → Bool
  | .ref a => match nb.lookup a with
    | some o => (match o.data with
      | .seq its _ => (match its[0]? with
        | some (Value.str y _) => y == x
        | _ => false)
      | _ => false)
    | none => false
  | _ => false
theorem lookup_of {nb : Led} (nd : (nb.map (·.1)).Nodup) {a : Addr} {o : Obj} (h : (a, o) ∈ nb) : nb.lookup a = some o := by
  induction nb with
  | nil => cases h
  | cons q r ih =>
    obtain ⟨b, ob⟩ := q
    rw [List.lookup_cons]
    have nd' := List.nodup_cons.mp nd
    rcases List.mem_cons.mp h with e | h
    · cases e; simp
    · have : a ≠ b := fun e => nd'.1 (List.mem_map.mpr ⟨_, h, e⟩)
      rw [beq_eq_false_iff_ne.mpr this]
      exact ih nd'.2 h
noncomputable def Ev.head : Ev → Str
  | .ifE _ => Str.ofString "if"
  | .elseE => Str.ofString "else"
  | .doE _ _ => Str.ofString "do"
theorem ev_tup {nb : Led} {v : Value} {e : Ev} (h : DatIn nb v e.dat) : ∃ a t r k, v = .ref a ∧ (a, ({ cls := .type "tuple", data := .seq (Value.str e.head t :: r).toArray k } : Obj)) ∈ nb := by
  cases e with
  | ifE a => cases h with | tuple hm hd => cases hd with | cons h1 h2 => cases h1; exact ⟨_, _, _, _, rfl, hm⟩
  | elseE => cases h with | tuple hm hd => cases hd with | cons h1 h2 => cases h1; exact ⟨_, _, _, _, rfl, hm⟩
  | doE k m => cases h with | tuple hm hd => cases hd with | cons h1 h2 => cases h1; exact ⟨_, _, _, _, rfl, hm⟩
theorem head_is {nb : Led} (nd : (nb.map (·.1)).Nodup) {a : Addr} {x y : Str} {t : Tok} {r : List Value} {k : Nat} (h : (a, ({ cls := .type "tuple", data := .seq (Value.str y t :: r).toArray k } : Obj)) ∈ nb) : headIs nb x (.ref a) = (y == x) := by
  unfold headIs
  simp only [lookup_of nd h]
  rfl
noncomputable def cnt (x : Str) : List Ev → Nat
  | [] => 0
  | e :: r => (if (e.head == x) = true then 1 else 0) + cnt x r
theorem filter_cnt {nb : Led} (nd : (nb.map (·.1)).Nodup) (x : Str) : ∀ {evs : List Ev} {us : List Value}, DatAll nb us (evs.map Ev.dat) → (us.filter (headIs nb x)).length = cnt x evs
  | [], _, .nil => rfl
  | e :: r, v :: us, .cons h1 h2 => by
    obtain ⟨a, t, rr, k, rfl, hm⟩ := ev_tup h1
    rw [List.filter_cons, head_is nd hm]
    show _ = (if (e.head == x) = true then 1 else 0) + cnt x r
    rw [← filter_cnt nd x h2]
    cases e.head == x <;> simp <;> omega
theorem paired_len {α β : Type} {F : α → β → Prop} {a : List α} {b : List β} (h : Paired F a b) : a.length = b.length := by
  induction h with
  | nil => rfl
  | cons _ _ ih => simp [ih]
theorem cnt_app (x : Str) : ∀ (a b : List Ev), cnt x (a ++ b) = cnt x a + cnt x b
  | [], b => by simp [cnt]
  | e :: r, b => by show _ + cnt x (r ++ b) = _ + cnt x r + cnt x b; rw [cnt_app x r b]; omega
theorem RowL.cnts {es : List Ev} {x : List Dat} {k : Nat} (h : RowL es x k) : cnt (Str.ofString "if") es = cnt (Str.ofString "else") es + k := by
  have a1 : (Str.ofString "if" == Str.ofString "if") = true := by decide +kernel
  have a2 : (Str.ofString "else" == Str.ofString "if") = false := by decide +kernel
  have a3 : (Str.ofString "do" == Str.ofString "if") = false := by decide +kernel
  have b1 : (Str.ofString "if" == Str.ofString "else") = false := by decide +kernel
  have b2 : (Str.ofString "else" == Str.ofString "else") = true := by decide +kernel
  have b3 : (Str.ofString "do" == Str.ofString "else") = false := by decide +kernel
  induction h with
  | one => simp [cnt, Ev.head, a3, b3]
  | ifT _ ih => simp [cnt, Ev.head, b1, ih]; omega
  | ifE _ _ ih1 ih2 => simp [cnt, Ev.head, cnt_app, a1, a2, b1, b2, ih1, ih2]; omega
theorem cnt_ifs : ∀ (es : List Ev), cnt (Str.ofString "if") es = ifs es := by
  have a1 : (Str.ofString "if" == Str.ofString "if") = true := by decide +kernel
  have a2 : (Str.ofString "else" == Str.ofString "if") = false := by decide +kernel
  have a3 : (Str.ofString "do" == Str.ofString "if") = false := by decide +kernel
  intro es
  induction es with
  | nil => rfl
  | cons e r ih => cases e <;> simp [cnt, Ev.head, ifs, a1, a2, a3, ih]; omega
-- ===== ELSE 1, again and again
noncomputable def elss : Nat → List Ev
  | 0 => []
  | k + 1 => .elseE :: .doE 0 1 :: elss k
theorem elss_snoc : ∀ k, elss (k + 1) = elss k ++ [.elseE, .doE 0 1]
  | 0 => rfl
  | k + 1 => congrArg (fun z => Ev.elseE :: Ev.doE 0 1 :: z) (elss_snoc k)
theorem elss_ok : ∀ k, ∀ e ∈ elss k, e.Ok
  | 0, _, h => nomatch h
  | k + 1, e, h => by
    rcases List.mem_cons.mp h with rfl | h
    · trivial
    · rcases List.mem_cons.mp h with rfl | h
      · exact ⟨by decide, by decide, by decide⟩
      · exact elss_ok k e h
theorem elss_seq : ∀ k, seqOk (elss k)
  | 0 => trivial
  | k + 1 => ⟨by cases k with | zero => exact .inl rfl | succ k => exact .inr rfl, elss_seq k⟩
theorem ifs_elss : ∀ k, ifs (elss k) = 0
  | 0 => rfl
  | k + 1 => ifs_elss k
theorem RowL.filled : ∀ {k : Nat} {es : List Ev} {x : List Dat}, RowL es x k → ∃ y, RowL (es ++ elss k) y 0
  | 0, es, x, h => ⟨x, by rw [show elss 0 = [] from rfl, List.append_nil]; exact h⟩
  | k + 1, es, x, h => by
    obtain ⟨y, hy⟩ := h.ext rfl (RowL.one (k := 0) (n := 1))
    obtain ⟨z, hz⟩ := RowL.filled (k := k) hy
    exact ⟨z, by rw [List.append_assoc] at hz; exact hz⟩
theorem RowL.ne {es : List Ev} {x : List Dat} {k : Nat} (h : RowL es x k) : es.isEmpty = false := by cases h <;> rfl
noncomputable def txtE1 : List Nat := [32, 69, 76, 83, 69, 32, 49]
theorem dig1 : dig 1 = [49] := by decide +kernel
theorem flat_elss : ∀ k, flat (rowPcs false (elss k)) = (List.replicate k txtE1).flatten
  | 0 => rfl
  | k + 1 => by
    rw [List.replicate_succ, List.flatten_cons, ← flat_elss k]
    show flat (evPcs false .elseE ++ (evPcs false (.doE 0 1) ++ rowPcs false (elss k))) = _
    rw [flat_app, flat_app]
    show [32] ++ (kELSE ++ ([32] ++ [])) ++ ((dig 1 ++ []) ++ _) = _
    rw [dig1]; rfl
theorem flat_more {es : List Ev} {x : List Dat} {lk : Nat} (h : RowL es x lk) (k : Nat) : flat (rowPcs true (es ++ elss k)) = flat (rowPcs true es) ++ (List.replicate k txtE1).flatten := by
  rw [rowPcs_app, h.ne, flat_app, Bool.true_and, flat_elss]
theorem sn_row {es : List Ev} {x : List Dat} {lk : Nat} (h : RowL es x lk) (hok : ∀ e ∈ es, e.Ok) (hi : ifs es ≤ 12) (F : Nat) : pSome (F + 20) 0 (toks (rowPcs true (es ++ elss (lk + 1)))) = .err sSN := by
  obtain ⟨y, hy⟩ := h.filled
  have e : toks (rowPcs true (es ++ elss (lk + 1))) = toks (rowPcs true (es ++ elss lk)) ++ [.wd kELSE, .num (dig 1)] := by
    rw [elss_snoc, ← List.append_assoc, rowPcs_app true (es ++ elss lk), hy.ne, toks_app]; rfl
  rw [e]
  refine top_row hy (fun e he => ?_) (by rw [ifs_app, ifs_elss]; exact hi) _ (.inr ⟨rfl, _, rfl⟩) (.inr ⟨⟨_, rfl⟩, rfl⟩) F
  rcases List.mem_append.mp he with he | he
  · exact hok e he
  · exact elss_ok _ e he
theorem ok_row {es : List Ev} {x : List Dat} {lk : Nat} (h : RowL es x lk) (hok : ∀ e ∈ es, e.Ok) (hi : ifs es ≤ 12) (F : Nat) : pSome (F + 20) 0 (toks (rowPcs true es)) = .ok x [] := by
  have := top_row h hok hi [] (.inl rfl) (.inl ⟨rfl, rfl⟩) F
  rwa [List.append_nil] at this
theorem okP_es {es : List Ev} {x : List Dat} {lk : Nat} (h : RowL es x lk) (hok : ∀ e ∈ es, e.Ok) (k : Nat) : okP (rowPcs true (es ++ elss k)) := by
  have hs : seqOk (es ++ elss k) := h.seq _ (by cases k with | zero => exact .inl rfl | succ k => exact .inr rfl) (elss_seq k)
  have := okP_row (f := true) (R := []) hs (fun e he => (List.mem_append.mp he).elim (hok e) (elss_ok k e)) trivial trivial
  rwa [List.append_nil] at this
end

-- ===== Pw
theorem litE1 : Str.ofString " ELSE 1" = S txtE1 := by decide +kernel
theorem mul_ok : ∀ k, k < 15 → MulOk (Str.ofString " ELSE 1") ((k : Nat) : Int) := by unfold MulOk; decide +kernel
theorem mul_is : ∀ k, k < 15 → Txt.mul (Str.ofString " ELSE 1") ((k : Nat) : Int) = S (List.replicate k txtE1).flatten := by decide +kernel
theorem len_E1 (k : Nat) : (List.replicate k txtE1).flatten.length = 7 * k := by
  simp [List.length_flatten, txtE1]; omega
/-- the row of the one tree that the law spells out -/
noncomputable def oneEvs : List Ev := [.ifE 0, .ifE 1, .doE 0 1, .elseE, .doE 0 2]
noncomputable def oneTree : List Dat := [dIF [65] [dIF [66] (doTrees 0 1) (doTrees 0 2)] []]
theorem one_row : RowL oneEvs oneTree 1 := .ifT (.ifE .one .one)
theorem one_ok : ∀ e ∈ oneEvs, e.Ok := by
  intro e he
  simp only [oneEvs, List.mem_cons, List.not_mem_nil, or_false] at he
  rcases he with rfl | rfl | rfl | rfl | rfl
  · exact (by decide : 0 < 3)
  · exact (by decide : 1 < 3)
  · exact ⟨by decide, by decide, by decide⟩
  · trivial
  · exact ⟨by decide, by decide, by decide⟩
theorem one_txt : Str.ofString "IF A THEN IF B THEN 1 ELSE 2" = S (flat (rowPcs true oneEvs)) := by decide +kernel
theorem one_dat : Dat.list oneTree = .list [.tuple [.str (Str.ofString "IF"), .tuple [.str (Str.ofString "name"), .str (Str.ofString "A")], .list [.tuple [.str (Str.ofString "IF"), .tuple [.str (Str.ofString "name"), .str (Str.ofString "B")], .list [.tuple [.str (Str.ofString "GOTO"), .int 1]], .list [.tuple [.str (Str.ofString "GOTO"), .int 2]]]], .list []]] := by
  have d1 : valOf (dig 1) = 1 := by decide +kernel
  have d2 : valOf (dig 2) = 2 := by decide +kernel
  have a1 : Str.ofString "A" = S [65] := by decide +kernel
  have a2 : Str.ofString "B" = S [66] := by decide +kernel
  rw [a1, a2]
  show Dat.list [.tuple [_, _, .list [.tuple [_, _, .list [.tuple [_, .int (valOf (dig 1) : Nat)]], .list [.tuple [_, .int (valOf (dig 2) : Nat)]]]], .list []]] = _
  rw [d1, d2]; rfl
theorem one_kq : kqdOk 60 (.list oneTree) = true := by decide +kernel
-- ===== the rows of the last question
noncomputable def wayP : Nat → List Pc
  | 0 => [.tk (.wd kIF), .sp, .tk (.wd [65]), .sp, .tk (.wd kTHEN), .sp]
  | _ => [.tk (.wd kIF), .sp, .tk (.wd [65]), .sp, .tk (.wd kTHEN), .sp, .tk (.num [49]), .sp, .tk (.wd kELSE), .sp]
noncomputable def wayN (i : Nat) : Nat → List Pc
  | 0 => [.tk (.wd kEND)]
  | k + 1 => wayP i ++ wayN i k
noncomputable def wayS : Nat → Str
  | 0 => Str.ofString "IF A THEN "
  | _ => Str.ofString "IF A THEN 1 ELSE "
theorem okP_way {i : Nat} (hi : i < 2) : ∀ k, okP (wayN i k)
  | 0 => ⟨(show kEND ∈ wordsAll by decide), .inr trivial, trivial⟩
  | k + 1 => by
    have h := okP_way hi k
    have wIF : (Tk.wd kIF).Ok := by show kIF ∈ wordsAll; decide
    have wA : (Tk.wd [65]).Ok := by show [65] ∈ wordsAll; decide
    have wTHEN : (Tk.wd kTHEN).Ok := by show kTHEN ∈ wordsAll; decide
    have wELSE : (Tk.wd kELSE).Ok := by show kELSE ∈ wordsAll; decide
    have wN : (Tk.num [49]).Ok := dig1 ▸ num_ok (n := 1) (by decide) (by decide)
    have : i = 0 ∨ i = 1 := by omega
    rcases this with rfl | rfl
    · exact ⟨wIF, .inr trivial, wA, .inr trivial, wTHEN, .inr trivial, h⟩
    · exact ⟨wIF, .inr trivial, wA, .inr trivial, wTHEN, .inr trivial, wN, .inr trivial, wELSE, .inr trivial, h⟩
noncomputable def isOk : Res (List Dat) → Bool
  | .ok _ _ => true
  | _ => false
noncomputable def isSTr : Res (List Dat) → Bool
  | .err x => x == sST
  | _ => false
theorem way13 : ∀ i, i < 2 → isSTr (pSome 40 0 (toks (wayN i 13))) = true := by decide +kernel
theorem way12 : ∀ i, i < 2 → isOk (pSome 40 0 (toks (wayN i 12))) = true := by decide +kernel
theorem way13_is {i : Nat} (hi : i < 2) : pSome 40 0 (toks (wayN i 13)) = .err sST := by
  have h := way13 i hi
  revert h
  generalize pSome 40 0 (toks (wayN i 13)) = r
  cases r with
  | err x => intro h; rw [show x = sST from eq_of_beq h]
  | ok _ _ => intro h; cases h
  | stuck => intro h; cases h
theorem way12_is {i : Nat} (hi : i < 2) : ∃ ds r, pSome 40 0 (toks (wayN i 12)) = .ok ds r := by
  have h := way12 i hi
  revert h
  generalize pSome 40 0 (toks (wayN i 12)) = r
  cases r with
  | err x => intro h; cases h
  | ok a b => intro _; exact ⟨a, b, rfl⟩
  | stuck => intro h; cases h
theorem way_mul13 : ∀ i, i < 2 → MulOk (wayS i) 13 ∧ Txt.mul (wayS i) 13 ++ Str.ofString "END" = S (flat (wayN i 13)) ∧ (Txt.mul (wayS i) 13).length ≤ 240 ∧ (flat (wayN i 13)).length ≤ 255 := by unfold MulOk; decide +kernel
theorem way_mul12 : ∀ i, i < 2 → MulOk (wayS i) 12 ∧ Txt.mul (wayS i) 12 ++ Str.ofString "END" = S (flat (wayN i 12)) ∧ (Txt.mul (wayS i) 12).length ≤ 240 ∧ (flat (wayN i 12)).length ≤ 255 := by unfold MulOk; decide +kernel

-- ===== L16
theorem law_start {w : World} {cs : Scope} {nm : Str} {body : List Stmt} {R : Flow → Shared → Prop} {E : Value → Shared → Prop} {s₁ : Shared} {h₁ : Heap} {tk : Nat} {mean : ExcName → Option Value} {mg mb : Str → Option Value} {fa SCa : Addr} {cdv : Value} {vs : List Value} {base : Heap} {look : Str → Option Value} {l : Loc}
    (KX : (hd.heap_39 w.params).In s₁.heap) (T : Top hd.view_39 LW mean mg mb s₁.heap) (K0 : Below callerA base [] s₁.heap) (F : Fr s₁.heap s₁.heap.objs.size h₁ look) (N0 : News s₁.heap s₁.heap.objs.size h₁ []) (hS : s₁.heap.IsList SCa vs.toArray)
    (hk : cs.kind = .function) {nms : List Str} (hnm : l.map (·.1) = nms) (hloc : ∀ x ∈ nms, cs.names.lookup x = some .local) (hnd : nms.Nodup) (hlook : ∀ q ∈ l, look q.1 = q.2)
    (key : ∀ (c : Cx) (env : Env) (E : Value → Shared → Prop), AmbP w c → c.k = 90 → c.cs = cs → env = envOf nm cs c.L fa cdv → c.A.frames = some [envOf nm c.cs c.L fa cdv] → c.h₀.IsList SCa vs.toArray → W PG w c (execs body env) (fun fl _ _ => fl = .ret (.bool true)) E l [])
    (fin : ∀ h m tk, Fr s₁.heap s₁.heap.objs.size h m → R (.ret (.bool true)) { s₁ with heap := h, toks := tk }) :
    wpAny (model PG w) (callerA.deeper (envOf nm cs s₁.heap.objs.size fa cdv)) (execs body (envOf nm cs s₁.heap.objs.size fa cdv)) R E { s₁ with heap := h₁, toks := tk } := by
  let c : Cx := { A := callerA.deeper (envOf nm cs s₁.heap.objs.size fa cdv), h₀ := s₁.heap, L := s₁.heap.objs.size, s₀ := s₁, cs := cs, k := 90 }
  have hA : c.A.frames = some [envOf nm cs s₁.heap.objs.size fa cdv] := Around.frames_deeper rfl
  have H : AmbP w c := ⟨KX, ⟨mean, mg, mb, T⟩, ⟨callerA, base, [], _, K0, hA, rfl, hk⟩, rfl, by show 301 + 1 + 90 < _; decide, by show 4 + _ + 16 * 90 + 200 < _; decide⟩
  have S0 : St c l [] { s₁ with heap := h₁, toks := tk } := ⟨rfl, rfl, rfl, ⟨look, F, hlook⟩, N0, List.nodup_nil, ⟨hk, fun q hq => hloc _ (hnm ▸ List.mem_map_of_mem hq), hnm ▸ hnd⟩⟩
  refine W.go (c := c) (key c _ E H rfl rfl rfl hA hS) S0 fun fl s' l' n' S' e => ?_
  subst e
  obtain ⟨m, F', _⟩ := S'.fr
  obtain ⟨hp, gg, dr, tk', os⟩ := s'
  have e1 : gg = s₁.gens := S'.gens
  have e2 : dr = s₁.drawn := S'.drawn
  have e3 : os = s₁.os := S'.os
  subst e1 e2 e3
  exact fin hp m tk' F'
theorem law_post (ns : List Int) : PySem.Challenge.rw_pq0154_01.row.claim.post [ofPy (PyData.list (List.map PyData.int ns))] (WData.bool true) [ofPy (PyData.list (List.map PyData.int ns))] = true := by
  wrow_post
section
variable {prog : Program} {w : World} {c : Cx} {E : Value → Shared → Prop} {l : Loc} {n nb : Led} {t u : Tok} {env : Env} {K : Frag} {p : Program} {loose : List Str} {Q : Value → Loc → Led → Prop}
theorem w_slT1 {value hi : Expr} {q pos : Pos}
    (hs : ∀ a b, subscripted (.Slice none (some hi) none q) false (.ref a) (.ref b) = operate [.ref b, .ref a] (getItem (.ref a) (.ref b))) (hg : ∀ a r, letTemporaryGo value (.ref a) r = pure ())
    (h : W prog w c (eval value env) (fun o l' n' => ∃ (a : Addr) (vs : List Value), o = .ref a ∧ c.h₀.IsList a vs.toArray ∧ vs.length ≤ sizeLine ∧
      W prog w c (eval hi env) (fun j l' n' => ∃ (y : Nat) (ty : Tok), j = .int (y : Int) ty ∧ ∀ D, Q (.ref D) l' ((D, PySem.W.listOf (vs.take y).toArray 0) :: n')) E l' n') E l n) :
    W prog w c (eval (.Subscript value (.Slice none (some hi) none q) pos) env) Q E l n :=
  w_slT0 hs hg (h.mono fun o l' n' ⟨a, vs, e, h1, h2, k⟩ => ⟨a, _, e, h1, by simpa using h2, k.mono fun j l' n' ⟨y, ty, e, k⟩ => ⟨_, ty, e, fun D => by rw [slicePick_upto']; exact k D⟩⟩)
theorem ld_builtK {x : Str} {pos : Pos} {v : Value} {scope : Scope} {cl : List (Str × Addr)} {C : Addr} {M : Model} {A : Around} {s : Shared} {R : Value → Shared → Prop} (kp : ∀ b o, c.h₀.get? b = some o → s.heap.get? b = some o) (H : Amb K p loose c) (e : nsIn K mainGlobals x = some none) (hv : bootBuiltins x = some v) (hn : x ≠ "__name__") (h : R v s)
    (hg : env.globals = mainGlobals) (hb : env.builtins = builtinsNs) (hk : (compEnvC scope cl C env).scope.kind = .function) (hx : (compEnvC scope cl C env).kindOf x = some .globalImplicit) (hd : (x == ("__debug__" : Str)) = false) :
    wpAny M A (eval (.Name x pos) (compEnvC scope cl C env)) R E s := by
  obtain ⟨_, mg, mb, T⟩ := H.T
  exact Name_function_global hk hx (loadGlobal_builtin (env := compEnvC scope cl C env) (show s.heap.Ns env.globals mg from hg ▸ (T.keeps kp).g) (mg_none_of H.X T.g e) (show s.heap.Ns env.builtins mb from hb ▸ (T.keeps kp).b) ((T.builtins x hn).trans hv) h) hd
open Classical in
theorem w_neD_same {u v : Value} {d : Dat} (H : Amb K p loose c) (hu : DatIn n u d) (hv : DatIn n v d) (hd : kqdOk 60 d = true) (h : Q (.bool false) l n) : W prog w c (compareOp .NotEq u v) Q E l n :=
  w_neD H hu hv hd hd (by rw [decide_eq_true rfl]; exact h)
theorem w_named {α : Type} {t : Sem α} {Q : α → Loc → Led → Prop} (h : ∀ N : Led, W prog w c t Q E l N) : W prog w c t Q E l n := h n
theorem cnt_le (x : Str) : ∀ es : List Ev, cnt x es ≤ es.length
  | [] => Nat.le_refl _
  | e :: r => by
    have := cnt_le x r
    show (if (e.head == x) = true then 1 else 0) + cnt x r ≤ r.length + 1
    split <;> omega
theorem w_len_cnt {a : Addr} {ys : List Value} {k m : Nat} (hm : (a, PySem.W.listOf ys.toArray k) ∈ n) (hy : ys.length = m) (h10 : m ≤ 10) (h : ∀ t, Q (.int (m : Int) t) l n) : W prog w c (call (.builtin "len") [.ref a]) Q E l n := by
  subst hy
  exact w_len_list hm (Nat.lt_of_le_of_lt h10 (by decide)) h
theorem datAll_mem {nb : Led} {evs : List Ev} : ∀ {us : List Value}, DatAll nb us (evs.map Ev.dat) → ∀ v ∈ us, ∃ e : Ev, DatIn nb v e.dat := by
  induction evs with
  | nil => intro us h v hv; cases h; cases hv
  | cons e r ih =>
    intro us h v hv
    cases h with
    | cons h1 h2 =>
      rcases List.mem_cons.mp hv with rfl | hv
      · exact ⟨e, h1⟩
      · exact ih h2 v hv
noncomputable def scEv : Scope := { kind := .function, names := [(Str.ofString ".0", .local), (Str.ofString "event", .local)], isGenerator := false, isCoroutine := false }
theorem w_count {k0 k1 k2 : Nat} {p0 p1 p2 p3 p4 p5 p6 p7 pos : Pos} {sc : Scope} {x : Str} {EV : Addr} {us : List Value} {j : Nat} {evs : List Ev} {cn : Str} {cs : Scope} {a : Addr} {ccd : Value} (H : Amb K p loose c) (hsc : sc = scEv) (he : env = envOf cn cs c.L a ccd) (hc : c.cs = cs) (hl : (Str.ofString "events", some (.ref EV)) ∈ l)
    (hs : Sub nb n) (hm : (EV, PySem.W.listOf us.toArray j) ∈ nb) (hda : DatAll nb us (evs.map Ev.dat)) (hlen : us.length ≤ 64)
    (h : ∀ D ys k, (ys : List Value).length = cnt x evs → Q (.ref D) l ((D, PySem.W.listOf ys.toArray k) :: n)) :
    W prog w c (eval (.ListComp (.Constant (.int 1) k0 p0) [⟨.Name (Str.ofString "event") p1, .Name (Str.ofString "events") p2, [.Compare (.Subscript (.Name (Str.ofString "event") p3) (.Constant (.int 0) k1 p4) p5) [.Eq] [.Constant (.str x) k2 p6] p7], 0⟩] sc pos) env) Q E l n := by
  subst hsc
  refine w_nd fun nd => ?_
  have hda := hda.mono hs
  have si : ∀ m : Nat, seqIndex? 0 (m + 1) = some 0 := fun m => by unfold seqIndex?; simp
  refine' w_comp_list (cl := []) (headIs n x) (fun _ _ => True) H.hd ?hclos ?hcell rfl ?hnames rfl (fun _ => rfl) ?_
  case hclos => rw [he]; rfl
  case hcell => decide
  case hnames => decide +kernel
  refine w_local he hc rfl hl (by decide +kernel) ⟨EV, _, j, rfl, hs _ hm, by rw [line_is, List.size_toArray]; omega, ?tests, ?elt, ?fin⟩
  case tests =>
    intro C v s₃ m₃ E' hv hns hmm hK
    obtain ⟨e, hd⟩ := datAll_mem hda v (by simpa using hv)
    obtain ⟨a', t, r, k, rfl, hmt⟩ := ev_tup hd
    have ht : IsTup s₃.heap a' (Value.str e.head t :: r).toArray := ⟨_, hK.led _ hmt, rfl, k, rfl⟩
    refine wpAny_tests_one (wpAny_isTrue_Compare1 (Subscript_ (ldVarK (v := .ref a') hns hmm (wpAny_Constant_int ?_))) (by with_unfolding_all rfl))
    refine item_tupleT (s := { s₃ with toks := s₃.toks + 1 }) ht (by decide) (by decide) (j := 0) (si _) (by rfl) (Calls.Constant_str ?_) (by with_unfolding_all rfl)
    with_reducible refine eq_str ?_
    refine wpAny_truthy_bool ⟨(head_is nd hmt).symm, s₃.heap, _, rfl, fun _ _ e => e⟩
  case elt =>
    intro C v s₃ m₃ E' hv _ hns hmm hK
    exact wpAny_Constant_int ⟨trivial, s₃.heap, _, rfl, fun _ _ e => e⟩
  intro D ys k hD hp
  refine h D ys k ?_
  rw [← paired_len hp, List.toList_toArray]
  exact filter_cnt nd x hda
end
theorem kw_66 : True := by
  k_with "m_C" => (
    first
      | ((with_reducible refine' w_count ?zzH ?zzhsc ?zzhe ?zzhc ?zzhl ?zzhs ?zzhm ?zzhda ?zzhlen ?_); (case zzH => assumption); (case zzhsc => rfl); (case zzhe => assumption); (case zzhc => assumption); (case zzhl => with_reducible k_extra "m_loc"); (case zzhm => assumption); (case zzhda => assumption); (case zzhs => k_extra "m_sub"); (case zzhlen => assumption); intro _ _ _ _)
      | ((with_reducible refine' w_slT1 ?zzhs ?zzhg ?_); (case zzhs => with_unfolding_all exact fun _ _ => rfl); (case zzhg => with_unfolding_all exact fun _ _ => rfl))
    )
  trivial
theorem law_try : PySem.Challenge.rw_pq0154_01.Holds := by
  refine hd (by rfl) (by rfl) (by rfl) ?_
  k_fill
  intro w s₀ s₁ mg mb G Y fa o pm cd doc dV kV ho hdd hcd hD hmg hg args vals as hpre hlay hrd hwl hlo
  have KX := kIn_of Y
  refine Ground.open G ?_
  intro T B D TE TW
  clear TE TW B D
  obtain ⟨_, _, he, B0⟩ := based_of_top T rfl hmg ho hdd
  have he' : cd = _ := he
  subst he'
  clear he B0 hmg
  have TA := at_of_top T
  wrow_args hpre hlay hrd hwl hlo
  refine enter_call ?_
  w_top on
  refine codeAny_mono ?_ (fun _ _ g => GoodW.toG g)
  have K0 := below_caller (Top.heap T)
  w_call any ho hdd hcd hD T F
  clear hdd TA
  rename Below _ _ _ _ => K0
  rename Heap.IsList _ _ _ => hL
  rename IntsAre _ _ => hI
  rename (¬ (_ < _)) => hc
  rename Fr _ _ _ _ => F
  rename News _ _ _ _ => N0
  rename Addr => xx
  rename List Value => vs0
  rename List Int => ns0
  refine law_start (l := [(Str.ofString "script", some (.ref xx)), (Str.ofString "shelf", none), (Str.ofString "events", none), (Str.ofString "row", none), (Str.ofString "many", none), (Str.ofString "one", none), (Str.ofString "way", none)]) (by assumption) (by assumption) K0 F N0 hL rfl (nms := [Str.ofString "script", Str.ofString "shelf", Str.ofString "events", Str.ofString "row", Str.ofString "many", Str.ofString "one", Str.ofString "way"]) rfl ?hloc ?hnd ?hlook ?key ?fin
  case fin =>
    intro h m tk Fr
    refine goodW_bool Fr (by assumption) ?hn ?hp rfl
    case hn => intro cls; rfl
    case hp => exact law_post _
  case hnd => decide +kernel
  case hloc => decide +kernel
  case hlook =>
    intro q hq
    simp only [List.mem_cons, List.not_mem_nil, or_false] at hq
    rcases hq with rfl | rfl | rfl | rfl | rfl | rfl | rfl <;> rfl
  case key =>
    intro c env E H hk hcs he hA hS
    dsimp only at hcs he
    dsimp only
    clear hL F N0 K0
    have hlen : vs0.length ≤ sizeLine := by
      have := hI.length
      rw [line_is, this]; omega
    k_extra "m_go"
    refine ⟨_, _, rfl, hS, hlen, ?_⟩
    k_extra "m_go"
    refine ⟨40, _, rfl, fun LS => ?_⟩
    k_extra "m_go"
    refine' w_comp_list (cl := []) (fun _ => true) (fun v y => (∃ a t, v = .int a t) → ∃ b t, y = .int b t) H.hd ?hclos ?hcell rfl ?hnames rfl (fun _ => rfl) ?_
    case hclos => rw [he]; rfl
    case hcell => decide
    case hnames => decide +kernel
    k_extra "m_go"
    refine ⟨_, _, rfl, hS, hlen, ?_⟩
    k_extra "m_go"
    have hI4 := hI.take 40
    refine ⟨40, _, rfl, fun LT => ⟨LT, _, _, rfl, List.mem_cons_self, by rw [List.size_toArray, List.length_take]; omega, ?tests, ?elt, ?fin⟩⟩
    case tests =>
      intro C v s₃ m₃ E' hv hns hm hK
      exact wpAny_tests_nil ⟨rfl, s₃.heap, s₃.toks, rfl, fun _ _ e => e⟩
    case elt =>
      intro C v s₃ m₃ E' hv _ hns hm hK
      obtain ⟨a, t, rfl⟩ := intsAre_mem hI4 v (by simpa using hv)
      refine wpAny_Call_Name_kw (ld_builtK hK.base H (b_abs _) bb_abs (by decide +kernel) ?_ (by rw [he]; rfl) (by rw [he]; rfl) rfl rfl (by decide +kernel))
      refine PyProof.Rows.callWith_builtin1 ?_ (by with_unfolding_all rfl) (by with_unfolding_all rfl)
      refine spliced_more (ldVarK (v := .int a t) hns hm (spliced_none (call_abs_int fun u tk => ⟨fun _ => ⟨_, _, rfl⟩, s₃.heap, tk, rfl, fun _ _ e => e⟩))) (by with_unfolding_all rfl)
    intro D ys j hD hp
    have hYs : ∃ ms, IntsAre ys ms := ints_of_abs (by rwa [show (vs0.take 40).toArray.toList = vs0.take 40 from rfl, List.filter_eq_self.mpr (fun _ _ => rfl)] at hp) hI4
    obtain ⟨ms, hY⟩ := hYs
    k_extra "m_go"
    refine w_sum H (List.mem_cons_self) hY fun tsum => ?_
    k_extra "m_go"
    have hl4 : (ns0.take 40).length ≤ 64 := by rw [List.length_take]; omega
    refine c_events (cnt := 0) (vs := vs0.take 40) H (by omega) rfl (by with_reducible k_extra "m_loc") hI4 hl4 fun ea eb => gb_all fun tl EV us ej evs lk hmE hda hg hlenE hok => ?_
    obtain ⟨x, hrow⟩ := hg
    have hifs : ifs evs ≤ 12 := Nat.le_trans (ifs_len evs) (by omega)
    k_extra "m_go"
    refine c_row (nb := tl) H (by omega) (by k_extra "m_sub") hmE hda hok hlenE fun t1 => grown_all fun tl1 => ?_
    k_extra "m_go"
    have hfn : c.cs.kind = .function := by rw [hcs]
    have hlr : (flat (rowPcs true evs)).length ≤ 170 := Nat.le_trans (rowPcs_len hok) (by omega)
    have hok1 : okP (rowPcs true evs) := by
      have := okP_es hrow hok 0
      rwa [show elss 0 = [] from rfl, List.append_nil] at this
    have hp1 := ok_row hrow hok hifs 0
    refine c_heard (F := 0 + 20) (by decide) H (by omega) hA hfn hok1 (by omega) (by rw [hp1]; exact nofun) (fun ds r hR => gb_all fun tl2 a2 hd2 => ?_) (fun xc hR => by rw [hp1] at hR; cases hR)
    rw [hp1] at hR
    injection hR with e1 e2
    subst e1
    k_extra "m_go"
    refine c_due (nb := tl) H (by omega) (by k_extra "m_sub") hmE hda hok hlenE fun tl3 n3 hgb3 v hv hkq => ?_
    have hn3 := hgb3.eq
    subst hn3
    rw [hrow.told] at hv hkq
    have hkx : kqdOk 60 (.list x) = true := kq_mono hkq (by decide)
    refine w_neD_same H (hd2.mono (by k_extra "m_sub")) hv hkx ?_
    have hlenU : us.length ≤ 64 := by
      have := hda.length
      rw [List.length_map] at this; omega
    k_extra "m_go"
    rename_i D1 ys1 k1 hy1
    refine w_len_cnt (ys := ys1) (k := k1) (by with_reducible k_extra "m_loc") hy1 (Nat.le_trans (cnt_le _ _) hlenE) fun tn1 => ?_
    k_extra "m_go"
    rename_i D2 ys2 k2 hy2
    refine w_len_cnt (ys := ys2) (k := k2) (by with_reducible k_extra "m_loc") hy2 (Nat.le_trans (cnt_le _ _) hlenE) fun tn2 => ?_
    have hmany : ((cnt (Str.ofString "if") evs : Nat) : Int) - ((cnt (Str.ofString "else") evs : Nat) : Int) = (lk : Nat) := by
      have := hrow.cnts; omega
    have hlk : lk ≤ 10 := by
      have h1 := hrow.cnts
      have h2 : cnt (Str.ofString "if") evs ≤ 10 := Nat.le_trans (cnt_le _ _) hlenE
      omega
    refine w_sub_int fun tm => ?_
    rw [hmany]
    k_extra "m_go"
    refine w_mul_str (mul_ok _ (by omega)) fun tk1 => ?_
    rw [mul_is _ (show lk + 1 < 15 by omega)]
    have hl2 := flat_more hrow (lk + 1)
    have hl3 : (flat (rowPcs true (evs ++ elss (lk + 1)))).length ≤ 255 := by
      rw [hl2, List.length_append, len_E1]; omega
    refine w_add_str (by rw [S_len, S_len, len_E1, line_is]; omega) fun tk2 => ?_
    rw [S_app, ← hl2]
    k_extra "m_go"
    have hp2 := sn_row hrow hok hifs 0
    refine c_heard (F := 0 + 20) (by decide) H (by omega) hA hfn (okP_es hrow hok (lk + 1)) hl3 (by rw [hp2]; exact nofun) (fun ds r hR => by rw [hp2] at hR; cases hR) (fun xc hR tx => ?_)
    rw [hp2] at hR
    injection hR with e3
    subst e3
    k_extra "m_go"
    rw [one_txt]
    have hp3 := ok_row one_row one_ok (by decide) 0
    have hok3 : okP (rowPcs true oneEvs) := by
      have := okP_es one_row one_ok 0
      rwa [show elss 0 = [] from rfl, List.append_nil] at this
    refine c_heard (F := 0 + 20) (by decide) H (by omega) hA hfn hok3 (by decide +kernel) (by rw [hp3]; exact nofun) (fun ds r hR => gb_all fun tl4 a4 hd4 => ?_) (fun xc hR => by rw [hp3] at hR; cases hR)
    rw [hp3] at hR
    injection hR with e4 _
    subst e4
    k_extra "m_go"
    refine w_neD_same H (hd4.mono (by k_extra "m_sub")) ?hone one_kq ?_
    case hone =>
      rw [one_dat]; k_extra "m_dat"
    k_extra "m_go"
    refine w_for_tup (Amb.hd (by assumption)) (fun _ => rfl) ?_
    refine w_named fun N0 => ?_
    k_extra "m_go"
    refine ⟨_, _, _, rfl, List.mem_cons_self, fun i l' n' => ∃ x : Option Value, l' = [(Str.ofString "script", _), (Str.ofString "shelf", _), (Str.ofString "events", _), (Str.ofString "row", _), (Str.ofString "many", _), (Str.ofString "one", _), (Str.ofString "way", x)] ∧ Grown _ n', ⟨none, rfl, Grown.refl⟩, ?_, ?_, ?_⟩
    · rintro i l₁ n₁ ⟨x, rfl, tl, rfl⟩
      exact List.mem_append_right _ List.mem_cons_self
    · rintro i v l₁ n₁ hv ⟨x, rfl, tl5, rfl⟩ own E3
      obtain ⟨tw, rfl, hi⟩ : ∃ tw, v = .str (wayS i) tw ∧ i < 2 := by
        match i, hv with
        | 0, hv => cases hv; exact ⟨_, rfl, by decide⟩
        | 1, hv => cases hv; exact ⟨_, rfl, by decide⟩
        | i + 2, hv => simp at hv
      obtain ⟨m1, m2, m3, m4⟩ := way_mul13 i hi
      obtain ⟨q1, q2, q3, q4⟩ := way_mul12 i hi
      have hend : (Str.ofString "END").length = 3 := by decide +kernel
      have w13 := way13_is hi
      obtain ⟨ds12, r12, w12⟩ := way12_is hi
      show W PG w _ (assign _ _ _) _ _ _ _
      k_extra "m_go"
      refine w_mul_str m1 fun _ => ?_
      k_extra "m_go"
      rw [m2]
      k_extra "m_go"
      refine c_heard (F := 40) (by decide) H (by omega) hA hfn (okP_way hi 13) m4 (by rw [w13]; exact nofun) (fun ds r hR => by rw [w13] at hR; cases hR) (fun xc hR tx => ?_)
      rw [w13] at hR
      injection hR with e5
      subst e5
      k_extra "m_go"
      refine w_mul_str q1 fun _ => ?_
      k_extra "m_go"
      rw [q2]
      k_extra "m_go"
      refine c_heard (F := 40) (by decide) H (by omega) hA hfn (okP_way hi 12) q4 (by rw [w12]; exact nofun) (fun ds r hR => gb_all fun tl6 a6 hd6 => ?_) (fun xc hR => by rw [w12] at hR; cases hR)
      cases hd6 with
      | list hm6 hda6 =>
        k_extra "m_go"
        refine w_isi_list (by with_reducible k_extra "m_loc") ?_
        k_extra "m_go"
        exact ⟨_, by k_extra "m_cut", _, rfl, by k_extra "m_gr"⟩
    · rintro l₁ n₁ ⟨x, rfl, tl5, rfl⟩
      k_extra "m_go"
      rfl

end Mine
theorem PySem.Challenge.cw_pq0154_01_holds : PySem.Challenge.rw_pq0154_01.Holds :=
  Mine.law_try
