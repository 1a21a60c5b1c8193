import PyProof.Rows.All
import Wide.All
import OpenK.AllK
import Wide.FinOn
import PyProof.ExcAttrAll.Exception
import PyProof.Rows.RuleN_abs
import Lean
import PySem.Challenge.RW_pf0024_01
set_option Elab.async false
set_option linter.unusedVariables false
set_option maxRecDepth 100000
set_option maxHeartbeats 8000000
-- H0
open PySem PySem.W PyProof.Rows
namespace Mine

noncomputable def vS (s : String) (t : Tok) : Value := .str (Str.ofString s) t
noncomputable def vI (i : Int) : Value := .int i 0
noncomputable def vR (a : Addr) : Value := .ref a
noncomputable def vE (P : Params) (s : String) (t : Tok) (v : Value) : DictEntry := { hash := PyData.keyHash P (Str.ofString s), key := .str (Str.ofString s) t, val := v }
noncomputable def tuO (xs : Array Value) : Obj := { cls := .type "tuple", data := .seq xs }
noncomputable def coO (xs : Array Value) : Obj := { cls := .type "code", data := .fields xs }
noncomputable def diO (es : Array DictEntry) (n : Nat) : Obj := { cls := .type "dict", data := .dict es n }
noncomputable def stm (i : Nat) : Stmt := (PySem.Challenge.pw_pf0024_01.main.body[i]?).getD (.Pass default)
noncomputable def inner (s : Stmt) (i : Nat) : Stmt := match s with
  | .ClassDef _ _ _ b .. => (b[i]?).getD (.Pass default)
  | _ => .Pass default
noncomputable def fnO (s : Stmt) (q : String) (cl : List (Str × Addr)) (df pm : Value) (code : Addr) (ct : Value) : Obj := match s with
  | .FunctionDef name args body _ _ _ scope _ _ _ => { cls := .type "function", data := .func { name, qualname := Str.ofString q, params := args, body := .stmts body, scope, globals := 3, closure := cl, defaults := df, kwdefaults := .none, pyModule := pm, code := .ref code, closureTuple := ct } }
  | _ => default
noncomputable def noO (xs : Array Value) : Obj := { cls := .none, data := .fields xs }
noncomputable def prO (s : Stmt) (q : String) : Obj := match s with
  | .FunctionDef name args body _ _ _ scope _ _ _ => { cls := .none, data := .func { name, qualname := Str.ofString q, params := args, body := .stmts body, scope, globals := 0, closure := [], defaults := .none, kwdefaults := .none } }
  | _ => default
noncomputable def heapK : Params → Frag := fun P => [
(2, { cls := .none, data := Data.dict #[vE P "type.__subclasses__.Exception.0" 221 (vI 34), vE P "type.__subclasses__.Exception.n" 222 (vI 1)] 2 }),
(3, diO #[vE P "__name__" 165 (vS "law_pf0024_01" 1425), vE P "__doc__" 166 .none, vE P "__package__" 167 .none, vE P "__loader__" 168 (.builtin "__main__.__loader__#opaque"), vE P "__spec__" 169 .none, vE P "__annotations__" 170 (vR 6), vE P "__builtins__" 171 (vR 4), vE P "__file__" 173 (vS "/claim/cut.py" 172), vE P "__cached__" 174 .none, vE P "MOST_EXPONENT" 190 (.int 99 189), vE P "BasicError" 224 (vR 34), vE P "figures_of" 233 (vR 44), vE P "MOST_SIGNS" 237 (.int 255 236), vE P "MOST_FIGURES_tokens" 239 (.int 40 238), vE P "SIGNS" 241 (vS "+-*/\\^(),;:#&@" 240), vE P "ORDERS" 243 (vS "<=>" 242), vE P "PAIRS" 262 (vR 45), vE P "WORDS" 264 (vS "LET PRINT USING INPUT LINE IF THEN ELSE GOTO GOSUB ON RETURN FOR TO STEP NEXT WHILE WEND DEF FNEND READ DATA RESTORE DIM ERASE OPTION BASE SWAP ERROR RESUME STOP END REM RANDOMIZE DEFINT DEFSNG DEFSTR MAT ZER CON IDN INV TRN OPEN OUTPUT APPEND RANDOM AS CLOSE FIELD LSET RSET GET PUT WRITE CHAIN COMMON TRON TROFF AND OR XOR EQV IMP NOT MOD" 263), vE P "FUNCTION_WORDS" 266 (vS "ABS ASC CHR$ CINT CSNG CVI CVS EDIT$ EOF ERL ERR FIX FRE HEX$ INSTR INT LCASE$ LEFT$ LEN LOC LOF LPOS LTRIM$ MAX MID$ MIN MKI$ MKS$ OCT$ PI POS RIGHT$ RND RTRIM$ SEG$ SGN SPACE$ SPC SQR STR$ STRING$ SWAP% TAB UCASE$ VAL XLATE$" 265), vE P "functions" 272 (vR 52), vE P "is_word" 279 (vR 306), vE P "is_word_tokens" 280 (vR 59), vE P "is_letter" 287 (vR 66), vE P "is_figure" 294 (vR 73), vE P "capital" 300 (vR 78), vE P "figures_end" 308 (vR 85), vE P "skipped" 316 (vR 92), vE P "power_end" 326 (vR 99), vE P "number_at" 338 (vR 106), vE P "name_end" 346 (vR 113), vE P "text_at" 355 (vR 120), vE P "order_at" 365 (vR 127), vE P "data_end" 374 (vR 134), vE P "remark_of" 381 (vR 141), vE P "word_at" 392 (vR 148), vE P "tokens_at" 403 (vR 155), vE P "tokens_of" 413 (vR 162), vE P "STRENGTH" 470 (vR 163), vE P "NOT_STRENGTH" 472 (.int 6 471), vE P "MINUS_STRENGTH" 474 (.int 12 473), vE P "MOST_OPEN" 476 (.int 60 475), vE P "NO_ARGS" 483 (vR 165), vE P "NO_TOKEN" 486 (vR 166), vE P "MOST_FIGURES_exprread" 488 (.int 60 487), vE P "MOST_POWER" 490 (.int 999 489), vE P "token_at" 498 (vR 173), vE P "is_sign" 507 (vR 180), vE P "expect" 516 (vR 187), vE P "figures_at" 526 (vR 194), vE P "power_at" 538 (vR 201), vE P "told_exactly" 547 (vR 208), vE P "number_tree" 560 (vR 215), vE P "Level" 594 (vR 232), vE P "join_up" 604 (vR 243), vE P "finished" 612 (vR 250), vE P "opened" 621 (vR 257), vE P "plain_operand" 631 (vR 264), vE P "take_operand" 644 (vR 271), vE P "take_operator" 656 (vR 278), vE P "expression" 668 (vR 285), vE P "expressions" 678 (vR 292), vE P "target" 689 (vR 299), vE P "MOST_LINE" 693 (.int 65529 692), vE P "is_word_stmtparts" 703 (vR 306), vE P "is_end" 713 (vR 313), vE P "need_word" 722 (vR 320), vE P "line_number" 734 (vR 327), vE P "line_numbers" 744 (vR 334), vE P "plain_name" 754 (vR 341), vE P "plain_names" 764 (vR 348), vE P "targets" 774 (vR 355), vE P "channel_at" 783 (vR 362), vE P "read_def" 797 (vR 369), vE P "read_dim" 807 (vR 376), vE P "read_erase" 816 (vR 383), vE P "read_option" 825 (vR 390), vE P "pieces_of" 836 (vR 397), vE P "read_data" 846 (vR 404), vE P "read_read" 855 (vR 411), vE P "letter_at" 864 (vR 418), vE P "read_kinds" 870 (vR 423), vE P "read_swap" 880 (vR 430), vE P "read_error" 889 (vR 437), vE P "read_randomize" 898 (vR 444), vE P "declarations" 904 (vR 451), vE P "MODES" 919 (vR 452), vE P "numbered_channel" 927 (vR 459), vE P "read_open" 942 (vR 466), vE P "read_close" 952 (vR 473), vE P "read_field" 964 (vR 480), vE P "read_set" 975 (vR 487), vE P "read_lset" 983 (vR 494), vE P "read_rset" 991 (vR 501), vE P "read_move" 1002 (vR 508), vE P "read_get" 1010 (vR 515), vE P "read_put" 1018 (vR 522), vE P "read_write" 1028 (vR 529), vE P "read_chain" 1038 (vR 536), vE P "read_common" 1048 (vR 543), vE P "file_statements" 1054 (vR 550), vE P "FILLS" 1060 (vR 551), vE P "SIGNS_OF_TWO" 1064 (vR 552), vE P "bounds_at" 1073 (vR 559), vE P "read_rows" 1085 (vR 566), vE P "read_shown" 1098 (vR 573), vE P "read_of_one" 1107 (vR 580), vE P "read_form" 1121 (vR 587), vE P "read_mat" 1133 (vR 594), vE P "MOST_NESTED" 1137 (.int 12 1136), vE P "ONE_WORD" 1156 (vR 595), vE P "KIND_WORDS" 1166 (vR 596), vE P "read_let" 1178 (vR 603), vE P "read_middle" 1190 (vR 610), vE P "item_at" 1200 (vR 617), vE P "read_print" 1211 (vR 624), vE P "read_using" 1224 (vR 631), vE P "prompt_at" 1234 (vR 638), vE P "read_input" 1246 (vR 645), vE P "read_line" 1258 (vR 652), vE P "read_goto" 1267 (vR 659), vE P "read_gosub" 1276 (vR 666), vE P "read_on" 1288 (vR 673), vE P "line_or_none" 1296 (vR 680), vE P "read_return" 1305 (vR 687), vE P "read_restore" 1314 (vR 694), vE P "read_resume" 1323 (vR 701), vE P "read_for" 1335 (vR 708), vE P "read_next" 1344 (vR 715), vE P "read_while" 1353 (vR 722), vE P "statement_readers" 1360 (vR 729), vE P "read_one" 1373 (vR 736), vE P "read_part" 1386 (vR 743), vE P "read_if" 1400 (vR 750), vE P "read_some" 1414 (vR 757), vE P "read_row" 1424 (vR 764), vE P "_law_words" 1432 (vR 771), vE P "_law_numbers" 1438 (vR 778), vE P "_law_dip" 1448 (vR 785), vE P "_law_heard" 1456 (vR 792), vE P "_law_places" 1466 (vR 799), vE P "_law_opened" 1474 (vR 806), vE P "law" 1480 (vR 811)] 142),
(15, tuO #[(.type "Exception")]),
(18, { cls := (.type "cell"), data := Data.cell (some ((vR 34))) }),
(23, tuO #[(vS "" 203)]),
(24, tuO #[(vR 18)]),
(25, tuO #[(vS "__class__" 207)]),
(27, tuO #[(vS "self" 208), (vS "code" 209), (vS "told" 210)]),
(28, tuO #[]),
(30, coO #[(vS "__init__" 204), (vS "BasicError.__init__" 205), (vS "/claim/cut.py" 206), (vI 5), (vI 3), (vI 0), (vI 0), (vI 3), (vR 25), (.bool true), (vI 181), (vR 26), .none, (vR 27), (vR 28), (vR 29), (vI 211), (vI 5), (vS "/claim/cut.py" 212)]),
(31, fnO (inner (stm 2) 0) "BasicError.__init__" [(Str.ofString "__class__", 18)] (vR 23) (vS "basicplus.values" 187) 30 (vR 24)),
(32, tuO #[(vS "code" 214), (vS "told" 215)]),
(33, diO #[vE P "__module__" 198 (vS "basicplus.values" 187), vE P "__firstlineno__" 202 (.int 3 201), vE P "__init__" 213 (vR 31), vE P "__static_attributes__" 216 (vR 32), vE P "__weakref__" 219 (vR 35), vE P "__doc__" 220 .none] 4),
(34, { cls := (.type "type"), data := Data.cls { name := Str.ofString "BasicError", bases := [(.type "Exception")], mro := [(vR 34), (.type "Exception"), (.type "BaseException"), (.type "object")], ns := 33, qualname := Str.ofString "BasicError" }, slots := #[some ((vR 15)), none, some ((vS "BasicError" 191)), some ((vS "BasicError" 199)), some ((.builtin "Exception.__new__")), some ((.bool true))] }),
(35, { cls := (.type "getset_descriptor"), data := Data.fields #[(vS "__weakref__" 218), (vR 34), (.builtin "ExceptionGroup.__weakref__"), .none] }),
(38, tuO #[]),
(40, tuO #[(vS "number" 228), (vS "many" 229), (vS "bound" 230)]),
(41, tuO #[]),
(43, coO #[(vS "figures_of" 225), (vS "figures_of" 226), (vS "/claim/cut.py" 227), (vI 9), (vI 1), (vI 0), (vI 0), (vI 3), (vR 38), (.bool true), (vI 181), (vR 39), .none, (vR 40), (vR 41), (vR 42), (vI 231), (vI 9), (vS "/claim/cut.py" 232)]),
(44, fnO (stm 3) "figures_of" [] .none (vS "basicplus.values" 187) 43 .none),
(45, diO #[vE P "<=" 244 (vS "<=" 245), vE P "=<" 246 (vS "<=" 247), vE P ">=" 248 (vS ">=" 249), vE P "=>" 250 (vS ">=" 251), vE P "<>" 252 (vS "<>" 253), vE P "><" 254 (vS "<>" 255)] 6),
(46, tuO #[]),
(48, tuO #[]),
(49, tuO #[]),
(51, coO #[(vS "functions" 267), (vS "functions" 268), (vS "/claim/cut.py" 269), (vI 23), (vI 0), (vI 0), (vI 0), (vI 3), (vR 46), (.bool true), (vI 181), (vR 47), .none, (vR 48), (vR 49), (vR 50), (vI 270), (vI 23), (vS "/claim/cut.py" 271)]),
(52, fnO (stm 12) "functions" [] .none (vS "basicplus.tokens" 234) 51 .none),
(53, tuO #[]),
(55, tuO #[(vS "told" 276)]),
(56, tuO #[]),
(58, coO #[(vS "is_word" 273), (vS "is_word" 274), (vS "/claim/cut.py" 275), (vI 25), (vI 1), (vI 0), (vI 0), (vI 3), (vR 53), (.bool true), (vI 181), (vR 54), .none, (vR 55), (vR 56), (vR 57), (vI 277), (vI 25), (vS "/claim/cut.py" 278)]),
(59, fnO (stm 13) "is_word" [] .none (vS "basicplus.tokens" 234) 58 .none),
(60, tuO #[]),
(62, tuO #[(vS "sign" 284)]),
(63, tuO #[]),
(65, coO #[(vS "is_letter" 281), (vS "is_letter" 282), (vS "/claim/cut.py" 283), (vI 28), (vI 1), (vI 0), (vI 0), (vI 3), (vR 60), (.bool true), (vI 181), (vR 61), .none, (vR 62), (vR 63), (vR 64), (vI 285), (vI 28), (vS "/claim/cut.py" 286)]),
(66, fnO (stm 15) "is_letter" [] .none (vS "basicplus.tokens" 234) 65 .none),
(67, tuO #[]),
(69, tuO #[(vS "sign" 291)]),
(70, tuO #[]),
(72, coO #[(vS "is_figure" 288), (vS "is_figure" 289), (vS "/claim/cut.py" 290), (vI 30), (vI 1), (vI 0), (vI 0), (vI 3), (vR 67), (.bool true), (vI 181), (vR 68), .none, (vR 69), (vR 70), (vR 71), (vI 292), (vI 30), (vS "/claim/cut.py" 293)]),
(73, fnO (stm 16) "is_figure" [] .none (vS "basicplus.tokens" 234) 72 .none),
(74, tuO #[]),
(77, coO #[(vS "capital" 295), (vS "capital" 296), (vS "/claim/cut.py" 297), (vI 32), (vI 1), (vI 0), (vI 0), (vI 3), (vR 74), (.bool true), (vI 181), (vR 75), .none, .none, .none, (vR 76), (vI 298), (vI 32), (vS "/claim/cut.py" 299)]),
(78, fnO (stm 17) "capital" [] .none (vS "basicplus.tokens" 234) 77 .none),
(79, tuO #[]),
(81, tuO #[(vS "row" 304), (vS "at" 305)]),
(82, tuO #[]),
(84, coO #[(vS "figures_end" 301), (vS "figures_end" 302), (vS "/claim/cut.py" 303), (vI 34), (vI 2), (vI 0), (vI 0), (vI 3), (vR 79), (.bool true), (vI 181), (vR 80), .none, (vR 81), (vR 82), (vR 83), (vI 306), (vI 34), (vS "/claim/cut.py" 307)]),
(85, fnO (stm 18) "figures_end" [] .none (vS "basicplus.tokens" 234) 84 .none),
(86, tuO #[]),
(88, tuO #[(vS "row" 312), (vS "at" 313)]),
(89, tuO #[]),
(91, coO #[(vS "skipped" 309), (vS "skipped" 310), (vS "/claim/cut.py" 311), (vI 38), (vI 2), (vI 0), (vI 0), (vI 3), (vR 86), (.bool true), (vI 181), (vR 87), .none, (vR 88), (vR 89), (vR 90), (vI 314), (vI 38), (vS "/claim/cut.py" 315)]),
(92, fnO (stm 19) "skipped" [] .none (vS "basicplus.tokens" 234) 91 .none),
(93, tuO #[]),
(95, tuO #[(vS "row" 320), (vS "at" 321), (vS "begin" 322), (vS "end" 323)]),
(96, tuO #[]),
(98, coO #[(vS "power_end" 317), (vS "power_end" 318), (vS "/claim/cut.py" 319), (vI 42), (vI 2), (vI 0), (vI 0), (vI 3), (vR 93), (.bool true), (vI 181), (vR 94), .none, (vR 95), (vR 96), (vR 97), (vI 324), (vI 42), (vS "/claim/cut.py" 325)]),
(99, fnO (stm 20) "power_end" [] .none (vS "basicplus.tokens" 234) 98 .none),
(100, tuO #[]),
(102, tuO #[(vS "row" 330), (vS "at" 331), (vS "end" 332), (vS "is_plain" 333), (vS "behind" 334), (vS "last" 335)]),
(103, tuO #[]),
(105, coO #[(vS "number_at" 327), (vS "number_at" 328), (vS "/claim/cut.py" 329), (vI 50), (vI 2), (vI 0), (vI 0), (vI 3), (vR 100), (.bool true), (vI 181), (vR 101), .none, (vR 102), (vR 103), (vR 104), (vI 336), (vI 50), (vS "/claim/cut.py" 337)]),
(106, fnO (stm 21) "number_at" [] .none (vS "basicplus.tokens" 234) 105 .none),
(107, tuO #[]),
(109, tuO #[(vS "row" 342), (vS "at" 343)]),
(110, tuO #[]),
(112, coO #[(vS "name_end" 339), (vS "name_end" 340), (vS "/claim/cut.py" 341), (vI 62), (vI 2), (vI 0), (vI 0), (vI 3), (vR 107), (.bool true), (vI 181), (vR 108), .none, (vR 109), (vR 110), (vR 111), (vI 344), (vI 62), (vS "/claim/cut.py" 345)]),
(113, fnO (stm 22) "name_end" [] .none (vS "basicplus.tokens" 234) 112 .none),
(114, tuO #[]),
(116, tuO #[(vS "row" 350), (vS "at" 351), (vS "end" 352)]),
(117, tuO #[]),
(119, coO #[(vS "text_at" 347), (vS "text_at" 348), (vS "/claim/cut.py" 349), (vI 66), (vI 2), (vI 0), (vI 0), (vI 3), (vR 114), (.bool true), (vI 181), (vR 115), .none, (vR 116), (vR 117), (vR 118), (vI 353), (vI 66), (vS "/claim/cut.py" 354)]),
(120, fnO (stm 23) "text_at" [] .none (vS "basicplus.tokens" 234) 119 .none),
(121, tuO #[]),
(123, tuO #[(vS "row" 359), (vS "at" 360), (vS "later" 361), (vS "both" 362)]),
(124, tuO #[]),
(126, coO #[(vS "order_at" 356), (vS "order_at" 357), (vS "/claim/cut.py" 358), (vI 71), (vI 2), (vI 0), (vI 0), (vI 3), (vR 121), (.bool true), (vI 181), (vR 122), .none, (vR 123), (vR 124), (vR 125), (vI 363), (vI 71), (vS "/claim/cut.py" 364)]),
(127, fnO (stm 24) "order_at" [] .none (vS "basicplus.tokens" 234) 126 .none),
(128, tuO #[]),
(130, tuO #[(vS "row" 369), (vS "at" 370), (vS "is_quoted" 371)]),
(131, tuO #[]),
(133, coO #[(vS "data_end" 366), (vS "data_end" 367), (vS "/claim/cut.py" 368), (vI 77), (vI 2), (vI 0), (vI 0), (vI 3), (vR 128), (.bool true), (vI 181), (vR 129), .none, (vR 130), (vR 131), (vR 132), (vI 372), (vI 77), (vS "/claim/cut.py" 373)]),
(134, fnO (stm 25) "data_end" [] .none (vS "basicplus.tokens" 234) 133 .none),
(135, tuO #[]),
(137, tuO #[(vS "text" 378)]),
(138, tuO #[]),
(140, coO #[(vS "remark_of" 375), (vS "remark_of" 376), (vS "/claim/cut.py" 377), (vI 84), (vI 1), (vI 0), (vI 0), (vI 3), (vR 135), (.bool true), (vI 181), (vR 136), .none, (vR 137), (vR 138), (vR 139), (vI 379), (vI 84), (vS "/claim/cut.py" 380)]),
(141, fnO (stm 26) "remark_of" [] .none (vS "basicplus.tokens" 234) 140 .none),
(142, tuO #[]),
(144, tuO #[(vS "row" 385), (vS "at" 386), (vS "end" 387), (vS "told" 388), (vS "last" 389)]),
(145, tuO #[]),
(147, coO #[(vS "word_at" 382), (vS "word_at" 383), (vS "/claim/cut.py" 384), (vI 86), (vI 2), (vI 0), (vI 0), (vI 3), (vR 142), (.bool true), (vI 181), (vR 143), .none, (vR 144), (vR 145), (vR 146), (vI 390), (vI 86), (vS "/claim/cut.py" 391)]),
(148, fnO (stm 27) "word_at" [] .none (vS "basicplus.tokens" 234) 147 .none),
(149, tuO #[]),
(151, tuO #[(vS "row" 396), (vS "at" 397), (vS "sign" 398), (vS "told" 399), (vS "end" 400)]),
(152, tuO #[]),
(154, coO #[(vS "tokens_at" 393), (vS "tokens_at" 394), (vS "/claim/cut.py" 395), (vI 95), (vI 2), (vI 0), (vI 0), (vI 3), (vR 149), (.bool true), (vI 181), (vR 150), .none, (vR 151), (vR 152), (vR 153), (vI 401), (vI 95), (vS "/claim/cut.py" 402)]),
(155, fnO (stm 28) "tokens_at" [] .none (vS "basicplus.tokens" 234) 154 .none),
(156, tuO #[]),
(158, tuO #[(vS "row" 407), (vS "found" 408), (vS "at" 409), (vS "told" 410)]),
(159, tuO #[]),
(161, coO #[(vS "tokens_of" 404), (vS "tokens_of" 405), (vS "/claim/cut.py" 406), (vI 115), (vI 1), (vI 0), (vI 0), (vI 3), (vR 156), (.bool true), (vI 181), (vR 157), .none, (vR 158), (vR 159), (vR 160), (vI 411), (vI 115), (vS "/claim/cut.py" 412)]),
(162, fnO (stm 29) "tokens_of" [] .none (vS "basicplus.tokens" 234) 161 .none),
(163, diO #[vE P "IMP" 416 (.int 1 417), vE P "EQV" 419 (.int 2 420), vE P "XOR" 422 (.int 3 423), vE P "OR" 425 (.int 4 426), vE P "AND" 428 (.int 5 429), vE P "=" 431 (.int 7 432), vE P "<>" 434 (.int 7 435), vE P "<" 437 (.int 7 438), vE P ">" 440 (.int 7 441), vE P "<=" 443 (.int 7 444), vE P ">=" 446 (.int 7 447), vE P "+" 449 (.int 8 450), vE P "-" 452 (.int 8 453), vE P "MOD" 455 (.int 9 456), vE P "\\" 458 (.int 10 459), vE P "*" 461 (.int 11 462), vE P "/" 464 (.int 11 465), vE P "^" 467 (.int 13 468)] 18),
(165, tuO #[(vS "ERL" 477), (vS "ERR" 478), (vS "FRE" 479), (vS "PI" 480), (vS "POS" 481), (vS "RND" 482)]),
(166, tuO #[(vS "end" 484), (vS "" 485)]),
(167, tuO #[]),
(169, tuO #[(vS "tokens" 494), (vS "at" 495)]),
(170, tuO #[]),
(172, coO #[(vS "token_at" 491), (vS "token_at" 492), (vS "/claim/cut.py" 493), (vI 133), (vI 2), (vI 0), (vI 0), (vI 3), (vR 167), (.bool true), (vI 181), (vR 168), .none, (vR 169), (vR 170), (vR 171), (vI 496), (vI 133), (vS "/claim/cut.py" 497)]),
(173, fnO (stm 39) "token_at" [] .none (vS "basicplus.exprread" 414) 172 .none),
(174, tuO #[]),
(176, tuO #[(vS "tokens" 502), (vS "at" 503), (vS "sign" 504)]),
(177, tuO #[]),
(179, coO #[(vS "is_sign" 499), (vS "is_sign" 500), (vS "/claim/cut.py" 501), (vI 135), (vI 3), (vI 0), (vI 0), (vI 3), (vR 174), (.bool true), (vI 181), (vR 175), .none, (vR 176), (vR 177), (vR 178), (vI 505), (vI 135), (vS "/claim/cut.py" 506)]),
(180, fnO (stm 40) "is_sign" [] .none (vS "basicplus.exprread" 414) 179 .none),
(181, tuO #[]),
(183, tuO #[(vS "tokens" 511), (vS "at" 512), (vS "sign" 513)]),
(184, tuO #[]),
(186, coO #[(vS "expect" 508), (vS "expect" 509), (vS "/claim/cut.py" 510), (vI 137), (vI 3), (vI 0), (vI 0), (vI 3), (vR 181), (.bool true), (vI 181), (vR 182), .none, (vR 183), (vR 184), (vR 185), (vI 514), (vI 137), (vS "/claim/cut.py" 515)]),
(187, fnO (stm 41) "expect" [] .none (vS "basicplus.exprread" 414) 186 .none),
(188, tuO #[]),
(190, tuO #[(vS "text" 520), (vS "at" 521), (vS "found" 522), (vS "begin" 523)]),
(191, tuO #[]),
(193, coO #[(vS "figures_at" 517), (vS "figures_at" 518), (vS "/claim/cut.py" 519), (vI 141), (vI 2), (vI 0), (vI 0), (vI 3), (vR 188), (.bool true), (vI 181), (vR 189), .none, (vR 190), (vR 191), (vR 192), (vI 524), (vI 141), (vS "/claim/cut.py" 525)]),
(194, fnO (stm 42) "figures_at" [] .none (vS "basicplus.exprread" 414) 193 .none),
(195, tuO #[]),
(197, tuO #[(vS "text" 530), (vS "at" 531), (vS "sign" 532), (vS "found" 533), (vS "many" 534), (vS "end" 535)]),
(198, tuO #[]),
(200, coO #[(vS "power_at" 527), (vS "power_at" 528), (vS "/claim/cut.py" 529), (vI 149), (vI 2), (vI 0), (vI 0), (vI 3), (vR 195), (.bool true), (vI 181), (vR 196), .none, (vR 197), (vR 198), (vR 199), (vI 536), (vI 149), (vS "/claim/cut.py" 537)]),
(201, fnO (stm 43) "power_at" [] .none (vS "basicplus.exprread" 414) 200 .none),
(202, tuO #[]),
(204, tuO #[(vS "coefficient" 542), (vS "exponent" 543), (vS "first" 544)]),
(205, tuO #[]),
(207, coO #[(vS "told_exactly" 539), (vS "told_exactly" 540), (vS "/claim/cut.py" 541), (vI 157), (vI 2), (vI 0), (vI 0), (vI 3), (vR 202), (.bool true), (vI 181), (vR 203), .none, (vR 204), (vR 205), (vR 206), (vI 545), (vI 157), (vS "/claim/cut.py" 546)]),
(208, fnO (stm 44) "told_exactly" [] .none (vS "basicplus.exprread" 414) 207 .none),
(209, tuO #[]),
(211, tuO #[(vS "text" 551), (vS "front" 552), (vS "many" 553), (vS "at" 554), (vS "behind" 555), (vS "places" 556), (vS "power" 557)]),
(212, tuO #[]),
(214, coO #[(vS "number_tree" 548), (vS "number_tree" 549), (vS "/claim/cut.py" 550), (vI 166), (vI 1), (vI 0), (vI 0), (vI 3), (vR 209), (.bool true), (vI 181), (vR 210), .none, (vR 211), (vR 212), (vR 213), (vI 558), (vI 166), (vS "/claim/cut.py" 559)]),
(215, fnO (stm 45) "number_tree" [] .none (vS "basicplus.exprread" 414) 214 .none),
(223, tuO #[]),
(225, tuO #[(vS "self" 576), (vS "kind" 577), (vS "word" 578)]),
(226, tuO #[]),
(228, coO #[(vS "__init__" 573), (vS "Level.__init__" 574), (vS "/claim/cut.py" 575), (vI 177), (vI 3), (vI 0), (vI 0), (vI 3), (vR 223), (.bool true), (vI 181), (vR 224), .none, (vR 225), (vR 226), (vR 227), (vI 579), (vI 177), (vS "/claim/cut.py" 580)]),
(229, fnO (inner (stm 46) 0) "Level.__init__" [] .none (vS "basicplus.exprread" 414) 228 .none),
(230, tuO #[(vS "args" 582), (vS "kind" 583), (vS "operands" 584), (vS "operators" 585), (vS "word" 586)]),
(231, diO #[vE P "__module__" 568 (vS "basicplus.exprread" 414), vE P "__firstlineno__" 572 (.int 175 571), vE P "__init__" 581 (vR 229), vE P "__static_attributes__" 587 (vR 230), vE P "__dict__" 589 (vR 233), vE P "__weakref__" 591 (vR 234), vE P "__doc__" 592 .none] 4),
(232, { cls := (.type "type"), data := Data.cls { name := Str.ofString "Level", bases := [(.type "object")], mro := [(vR 232), (.type "object")], ns := 231, qualname := Str.ofString "Level" }, slots := #[none, none, some ((vS "Level" 561)), some ((vS "Level" 569)), some ((.builtin "object.__new__")), some ((.bool true))] }),
(233, { cls := (.type "getset_descriptor"), data := Data.fields #[(vS "__dict__" 588), (vR 232), (.builtin "function.__dict__"), (.builtin "function.__dict__#set")] }),
(234, { cls := (.type "getset_descriptor"), data := Data.fields #[(vS "__weakref__" 590), (vR 232), (.builtin "ExceptionGroup.__weakref__"), .none] }),
(237, tuO #[]),
(239, tuO #[(vS "level" 598), (vS "strength" 599), (vS "op" 600), (vS "last" 601)]),
(240, tuO #[]),
(242, coO #[(vS "join_up" 595), (vS "join_up" 596), (vS "/claim/cut.py" 597), (vI 183), (vI 2), (vI 0), (vI 0), (vI 3), (vR 237), (.bool true), (vI 181), (vR 238), .none, (vR 239), (vR 240), (vR 241), (vI 602), (vI 183), (vS "/claim/cut.py" 603)]),
(243, fnO (stm 47) "join_up" [] .none (vS "basicplus.exprread" 414) 242 .none),
(244, tuO #[]),
(246, tuO #[(vS "level" 608), (vS "last" 609)]),
(247, tuO #[]),
(249, coO #[(vS "finished" 605), (vS "finished" 606), (vS "/claim/cut.py" 607), (vI 191), (vI 1), (vI 0), (vI 0), (vI 3), (vR 244), (.bool true), (vI 181), (vR 245), .none, (vR 246), (vR 247), (vR 248), (vI 610), (vI 191), (vS "/claim/cut.py" 611)]),
(250, fnO (stm 48) "finished" [] .none (vS "basicplus.exprread" 414) 249 .none),
(251, tuO #[]),
(253, tuO #[(vS "levels" 616), (vS "kind" 617), (vS "word" 618)]),
(254, tuO #[]),
(256, coO #[(vS "opened" 613), (vS "opened" 614), (vS "/claim/cut.py" 615), (vI 197), (vI 3), (vI 0), (vI 0), (vI 3), (vR 251), (.bool true), (vI 181), (vR 252), .none, (vR 253), (vR 254), (vR 255), (vI 619), (vI 197), (vS "/claim/cut.py" 620)]),
(257, fnO (stm 49) "opened" [] .none (vS "basicplus.exprread" 414) 256 .none),
(258, tuO #[]),
(260, tuO #[(vS "tokens" 625), (vS "at" 626), (vS "kind" 627), (vS "told" 628)]),
(261, tuO #[]),
(263, coO #[(vS "plain_operand" 622), (vS "plain_operand" 623), (vS "/claim/cut.py" 624), (vI 201), (vI 2), (vI 0), (vI 0), (vI 3), (vR 258), (.bool true), (vI 181), (vR 259), .none, (vR 260), (vR 261), (vR 262), (vI 629), (vI 201), (vS "/claim/cut.py" 630)]),
(264, fnO (stm 50) "plain_operand" [] .none (vS "basicplus.exprread" 414) 263 .none),
(265, tuO #[]),
(267, tuO #[(vS "levels" 635), (vS "tokens" 636), (vS "at" 637), (vS "known" 638), (vS "kind" 639), (vS "told" 640), (vS "found" 641)]),
(268, tuO #[]),
(270, coO #[(vS "take_operand" 632), (vS "take_operand" 633), (vS "/claim/cut.py" 634), (vI 212), (vI 4), (vI 0), (vI 0), (vI 3), (vR 265), (.bool true), (vI 181), (vR 266), .none, (vR 267), (vR 268), (vR 269), (vI 642), (vI 212), (vS "/claim/cut.py" 643)]),
(271, fnO (stm 51) "take_operand" [] .none (vS "basicplus.exprread" 414) 270 .none),
(272, tuO #[]),
(274, tuO #[(vS "levels" 648), (vS "tokens" 649), (vS "at" 650), (vS "kind" 651), (vS "told" 652), (vS "here" 653)]),
(275, tuO #[]),
(277, coO #[(vS "take_operator" 645), (vS "take_operator" 646), (vS "/claim/cut.py" 647), (vI 230), (vI 3), (vI 0), (vI 0), (vI 3), (vR 272), (.bool true), (vI 181), (vR 273), .none, (vR 274), (vR 275), (vR 276), (vI 654), (vI 230), (vS "/claim/cut.py" 655)]),
(278, fnO (stm 52) "take_operator" [] .none (vS "basicplus.exprread" 414) 277 .none),
(279, tuO #[]),
(281, tuO #[(vS "tokens" 660), (vS "at" 661), (vS "levels" 662), (vS "due" 663), (vS "known" 664), (vS "is_whole" 665)]),
(282, tuO #[]),
(284, coO #[(vS "expression" 657), (vS "expression" 658), (vS "/claim/cut.py" 659), (vI 247), (vI 2), (vI 0), (vI 0), (vI 3), (vR 279), (.bool true), (vI 181), (vR 280), .none, (vR 281), (vR 282), (vR 283), (vI 666), (vI 247), (vS "/claim/cut.py" 667)]),
(285, fnO (stm 53) "expression" [] .none (vS "basicplus.exprread" 414) 284 .none),
(286, tuO #[]),
(288, tuO #[(vS "tokens" 672), (vS "at" 673), (vS "found" 674), (vS "some" 675)]),
(289, tuO #[]),
(291, coO #[(vS "expressions" 669), (vS "expressions" 670), (vS "/claim/cut.py" 671), (vI 256), (vI 2), (vI 0), (vI 0), (vI 3), (vR 286), (.bool true), (vI 181), (vR 287), .none, (vR 288), (vR 289), (vR 290), (vI 676), (vI 256), (vS "/claim/cut.py" 677)]),
(292, fnO (stm 54) "expressions" [] .none (vS "basicplus.exprread" 414) 291 .none),
(293, tuO #[]),
(295, tuO #[(vS "tokens" 682), (vS "at" 683), (vS "kind" 684), (vS "word" 685), (vS "subs" 686)]),
(296, tuO #[]),
(298, coO #[(vS "target" 679), (vS "target" 680), (vS "/claim/cut.py" 681), (vI 263), (vI 2), (vI 0), (vI 0), (vI 3), (vR 293), (.bool true), (vI 181), (vR 294), .none, (vR 295), (vR 296), (vR 297), (vI 687), (vI 263), (vS "/claim/cut.py" 688)]),
(299, fnO (stm 55) "target" [] .none (vS "basicplus.exprread" 414) 298 .none),
(300, tuO #[]),
(302, tuO #[(vS "tokens" 697), (vS "at" 698), (vS "word" 699)]),
(303, tuO #[]),
(305, coO #[(vS "is_word" 694), (vS "is_word" 695), (vS "/claim/cut.py" 696), (vI 273), (vI 3), (vI 0), (vI 0), (vI 3), (vR 300), (.bool true), (vI 181), (vR 301), .none, (vR 302), (vR 303), (vR 304), (vI 700), (vI 273), (vS "/claim/cut.py" 701)]),
(306, fnO (stm 58) "is_word" [] .none (vS "basicplus.stmtparts" 690) 305 .none),
(307, tuO #[]),
(309, tuO #[(vS "tokens" 707), (vS "at" 708), (vS "kind" 709), (vS "told" 710)]),
(310, tuO #[]),
(312, coO #[(vS "is_end" 704), (vS "is_end" 705), (vS "/claim/cut.py" 706), (vI 276), (vI 2), (vI 0), (vI 0), (vI 3), (vR 307), (.bool true), (vI 181), (vR 308), .none, (vR 309), (vR 310), (vR 311), (vI 711), (vI 276), (vS "/claim/cut.py" 712)]),
(313, fnO (stm 60) "is_end" [] .none (vS "basicplus.stmtparts" 690) 312 .none),
(314, tuO #[]),
(316, tuO #[(vS "tokens" 717), (vS "at" 718), (vS "word" 719)]),
(317, tuO #[]),
(319, coO #[(vS "need_word" 714), (vS "need_word" 715), (vS "/claim/cut.py" 716), (vI 279), (vI 3), (vI 0), (vI 0), (vI 3), (vR 314), (.bool true), (vI 181), (vR 315), .none, (vR 316), (vR 317), (vR 318), (vI 720), (vI 279), (vS "/claim/cut.py" 721)]),
(320, fnO (stm 61) "need_word" [] .none (vS "basicplus.stmtparts" 690) 319 .none),
(321, tuO #[]),
(323, tuO #[(vS "tokens" 726), (vS "at" 727), (vS "kind" 728), (vS "told" 729), (vS "found" 730), (vS "sign" 731)]),
(324, tuO #[]),
(326, coO #[(vS "line_number" 723), (vS "line_number" 724), (vS "/claim/cut.py" 725), (vI 283), (vI 2), (vI 0), (vI 0), (vI 3), (vR 321), (.bool true), (vI 181), (vR 322), .none, (vR 323), (vR 324), (vR 325), (vI 732), (vI 283), (vS "/claim/cut.py" 733)]),
(327, fnO (stm 62) "line_number" [] .none (vS "basicplus.stmtparts" 690) 326 .none),
(328, tuO #[]),
(330, tuO #[(vS "tokens" 738), (vS "at" 739), (vS "found" 740), (vS "some" 741)]),
(331, tuO #[]),
(333, coO #[(vS "line_numbers" 735), (vS "line_numbers" 736), (vS "/claim/cut.py" 737), (vI 295), (vI 2), (vI 0), (vI 0), (vI 3), (vR 328), (.bool true), (vI 181), (vR 329), .none, (vR 330), (vR 331), (vR 332), (vI 742), (vI 295), (vS "/claim/cut.py" 743)]),
(334, fnO (stm 63) "line_numbers" [] .none (vS "basicplus.stmtparts" 690) 333 .none),
(335, tuO #[]),
(337, tuO #[(vS "tokens" 748), (vS "at" 749), (vS "kind" 750), (vS "told" 751)]),
(338, tuO #[]),
(340, coO #[(vS "plain_name" 745), (vS "plain_name" 746), (vS "/claim/cut.py" 747), (vI 302), (vI 2), (vI 0), (vI 0), (vI 3), (vR 335), (.bool true), (vI 181), (vR 336), .none, (vR 337), (vR 338), (vR 339), (vI 752), (vI 302), (vS "/claim/cut.py" 753)]),
(341, fnO (stm 64) "plain_name" [] .none (vS "basicplus.stmtparts" 690) 340 .none),
(342, tuO #[]),
(344, tuO #[(vS "tokens" 758), (vS "at" 759), (vS "found" 760), (vS "some" 761)]),
(345, tuO #[]),
(347, coO #[(vS "plain_names" 755), (vS "plain_names" 756), (vS "/claim/cut.py" 757), (vI 307), (vI 2), (vI 0), (vI 0), (vI 3), (vR 342), (.bool true), (vI 181), (vR 343), .none, (vR 344), (vR 345), (vR 346), (vI 762), (vI 307), (vS "/claim/cut.py" 763)]),
(348, fnO (stm 65) "plain_names" [] .none (vS "basicplus.stmtparts" 690) 347 .none),
(349, tuO #[]),
(351, tuO #[(vS "tokens" 768), (vS "at" 769), (vS "found" 770), (vS "some" 771)]),
(352, tuO #[]),
(354, coO #[(vS "targets" 765), (vS "targets" 766), (vS "/claim/cut.py" 767), (vI 314), (vI 2), (vI 0), (vI 0), (vI 3), (vR 349), (.bool true), (vI 181), (vR 350), .none, (vR 351), (vR 352), (vR 353), (vI 772), (vI 314), (vS "/claim/cut.py" 773)]),
(355, fnO (stm 66) "targets" [] .none (vS "basicplus.stmtparts" 690) 354 .none),
(356, tuO #[]),
(358, tuO #[(vS "tokens" 778), (vS "at" 779), (vS "found" 780)]),
(359, tuO #[]),
(361, coO #[(vS "channel_at" 775), (vS "channel_at" 776), (vS "/claim/cut.py" 777), (vI 321), (vI 2), (vI 0), (vI 0), (vI 3), (vR 356), (.bool true), (vI 181), (vR 357), .none, (vR 358), (vR 359), (vR 360), (vI 781), (vI 321), (vS "/claim/cut.py" 782)]),
(362, fnO (stm 67) "channel_at" [] .none (vS "basicplus.stmtparts" 690) 361 .none),
(363, tuO #[]),
(365, tuO #[(vS "tokens" 789), (vS "at" 790), (vS "kind" 791), (vS "name" 792), (vS "params" 793), (vS "value" 794)]),
(366, tuO #[]),
(368, coO #[(vS "read_def" 786), (vS "read_def" 787), (vS "/claim/cut.py" 788), (vI 327), (vI 2), (vI 0), (vI 0), (vI 3), (vR 363), (.bool true), (vI 181), (vR 364), .none, (vR 365), (vR 366), (vR 367), (vI 795), (vI 327), (vS "/claim/cut.py" 796)]),
(369, fnO (stm 69) "read_def" [] .none (vS "basicplus.declread" 784) 368 .none),
(370, tuO #[]),
(372, tuO #[(vS "tokens" 801), (vS "at" 802), (vS "some" 803), (vS "found" 804)]),
(373, tuO #[]),
(375, coO #[(vS "read_dim" 798), (vS "read_dim" 799), (vS "/claim/cut.py" 800), (vI 339), (vI 2), (vI 0), (vI 0), (vI 3), (vR 370), (.bool true), (vI 181), (vR 371), .none, (vR 372), (vR 373), (vR 374), (vI 805), (vI 339), (vS "/claim/cut.py" 806)]),
(376, fnO (stm 70) "read_dim" [] .none (vS "basicplus.declread" 784) 375 .none),
(377, tuO #[]),
(379, tuO #[(vS "tokens" 811), (vS "at" 812), (vS "names" 813)]),
(380, tuO #[]),
(382, coO #[(vS "read_erase" 808), (vS "read_erase" 809), (vS "/claim/cut.py" 810), (vI 349), (vI 2), (vI 0), (vI 0), (vI 3), (vR 377), (.bool true), (vI 181), (vR 378), .none, (vR 379), (vR 380), (vR 381), (vI 814), (vI 349), (vS "/claim/cut.py" 815)]),
(383, fnO (stm 71) "read_erase" [] .none (vS "basicplus.declread" 784) 382 .none),
(384, tuO #[]),
(386, tuO #[(vS "tokens" 820), (vS "at" 821), (vS "base" 822)]),
(387, tuO #[]),
(389, coO #[(vS "read_option" 817), (vS "read_option" 818), (vS "/claim/cut.py" 819), (vI 352), (vI 2), (vI 0), (vI 0), (vI 3), (vR 384), (.bool true), (vI 181), (vR 385), .none, (vR 386), (vR 387), (vR 388), (vI 823), (vI 352), (vS "/claim/cut.py" 824)]),
(390, fnO (stm 72) "read_option" [] .none (vS "basicplus.declread" 784) 389 .none),
(391, tuO #[]),
(393, tuO #[(vS "text" 829), (vS "found" 830), (vS "here" 831), (vS "is_quoted" 832), (vS "sign" 833)]),
(394, tuO #[]),
(396, coO #[(vS "pieces_of" 826), (vS "pieces_of" 827), (vS "/claim/cut.py" 828), (vI 357), (vI 1), (vI 0), (vI 0), (vI 3), (vR 391), (.bool true), (vI 181), (vR 392), .none, (vR 393), (vR 394), (vR 395), (vI 834), (vI 357), (vS "/claim/cut.py" 835)]),
(397, fnO (stm 73) "pieces_of" [] .none (vS "basicplus.declread" 784) 396 .none),
(398, tuO #[]),
(400, tuO #[(vS "tokens" 840), (vS "at" 841), (vS "kind" 842), (vS "told" 843)]),
(401, tuO #[]),
(403, coO #[(vS "read_data" 837), (vS "read_data" 838), (vS "/claim/cut.py" 839), (vI 368), (vI 2), (vI 0), (vI 0), (vI 3), (vR 398), (.bool true), (vI 181), (vR 399), .none, (vR 400), (vR 401), (vR 402), (vI 844), (vI 368), (vS "/claim/cut.py" 845)]),
(404, fnO (stm 74) "read_data" [] .none (vS "basicplus.declread" 784) 403 .none),
(405, tuO #[]),
(407, tuO #[(vS "tokens" 850), (vS "at" 851), (vS "some" 852)]),
(408, tuO #[]),
(410, coO #[(vS "read_read" 847), (vS "read_read" 848), (vS "/claim/cut.py" 849), (vI 371), (vI 2), (vI 0), (vI 0), (vI 3), (vR 405), (.bool true), (vI 181), (vR 406), .none, (vR 407), (vR 408), (vR 409), (vI 853), (vI 371), (vS "/claim/cut.py" 854)]),
(411, fnO (stm 75) "read_read" [] .none (vS "basicplus.declread" 784) 410 .none),
(412, tuO #[]),
(414, tuO #[(vS "tokens" 859), (vS "at" 860), (vS "name" 861)]),
(415, tuO #[]),
(417, coO #[(vS "letter_at" 856), (vS "letter_at" 857), (vS "/claim/cut.py" 858), (vI 374), (vI 2), (vI 0), (vI 0), (vI 3), (vR 412), (.bool true), (vI 181), (vR 413), .none, (vR 414), (vR 415), (vR 416), (vI 862), (vI 374), (vS "/claim/cut.py" 863)]),
(418, fnO (stm 76) "letter_at" [] .none (vS "basicplus.declread" 784) 417 .none),
(419, tuO #[]),
(422, coO #[(vS "read_kinds" 865), (vS "read_kinds" 866), (vS "/claim/cut.py" 867), (vI 379), (vI 3), (vI 0), (vI 0), (vI 3), (vR 419), (.bool true), (vI 181), (vR 420), .none, .none, .none, (vR 421), (vI 868), (vI 379), (vS "/claim/cut.py" 869)]),
(423, fnO (stm 77) "read_kinds" [] .none (vS "basicplus.declread" 784) 422 .none),
(424, tuO #[]),
(426, tuO #[(vS "tokens" 874), (vS "at" 875), (vS "one" 876), (vS "other" 877)]),
(427, tuO #[]),
(429, coO #[(vS "read_swap" 871), (vS "read_swap" 872), (vS "/claim/cut.py" 873), (vI 392), (vI 2), (vI 0), (vI 0), (vI 3), (vR 424), (.bool true), (vI 181), (vR 425), .none, (vR 426), (vR 427), (vR 428), (vI 878), (vI 392), (vS "/claim/cut.py" 879)]),
(430, fnO (stm 78) "read_swap" [] .none (vS "basicplus.declread" 784) 429 .none),
(431, tuO #[]),
(433, tuO #[(vS "tokens" 884), (vS "at" 885), (vS "value" 886)]),
(434, tuO #[]),
(436, coO #[(vS "read_error" 881), (vS "read_error" 882), (vS "/claim/cut.py" 883), (vI 396), (vI 2), (vI 0), (vI 0), (vI 3), (vR 431), (.bool true), (vI 181), (vR 432), .none, (vR 433), (vR 434), (vR 435), (vI 887), (vI 396), (vS "/claim/cut.py" 888)]),
(437, fnO (stm 79) "read_error" [] .none (vS "basicplus.declread" 784) 436 .none),
(438, tuO #[]),
(440, tuO #[(vS "tokens" 893), (vS "at" 894), (vS "value" 895)]),
(441, tuO #[]),
(443, coO #[(vS "read_randomize" 890), (vS "read_randomize" 891), (vS "/claim/cut.py" 892), (vI 399), (vI 2), (vI 0), (vI 0), (vI 3), (vR 438), (.bool true), (vI 181), (vR 439), .none, (vR 440), (vR 441), (vR 442), (vI 896), (vI 399), (vS "/claim/cut.py" 897)]),
(444, fnO (stm 80) "read_randomize" [] .none (vS "basicplus.declread" 784) 443 .none),
(445, tuO #[]),
(447, tuO #[]),
(448, tuO #[]),
(450, coO #[(vS "declarations" 899), (vS "declarations" 900), (vS "/claim/cut.py" 901), (vI 402), (vI 0), (vI 0), (vI 0), (vI 3), (vR 445), (.bool true), (vI 181), (vR 446), .none, (vR 447), (vR 448), (vR 449), (vI 902), (vI 402), (vS "/claim/cut.py" 903)]),
(451, fnO (stm 81) "declarations" [] .none (vS "basicplus.declread" 784) 450 .none),
(452, diO #[vE P "INPUT" 907 (vS "I" 908), vE P "OUTPUT" 909 (vS "O" 910), vE P "APPEND" 911 (vS "A" 912), vE P "RANDOM" 913 (vS "R" 914)] 4),
(453, tuO #[]),
(455, tuO #[(vS "tokens" 923), (vS "at" 924)]),
(456, tuO #[]),
(458, coO #[(vS "numbered_channel" 920), (vS "numbered_channel" 921), (vS "/claim/cut.py" 922), (vI 406), (vI 2), (vI 0), (vI 0), (vI 3), (vR 453), (.bool true), (vI 181), (vR 454), .none, (vR 455), (vR 456), (vR 457), (vI 925), (vI 406), (vS "/claim/cut.py" 926)]),
(459, fnO (stm 84) "numbered_channel" [] .none (vS "basicplus.fileread" 905) 458 .none),
(460, tuO #[]),
(462, tuO #[(vS "tokens" 931), (vS "at" 932), (vS "name" 933), (vS "mode" 934), (vS "kind" 935), (vS "told" 936), (vS "behind" 937), (vS "channel" 938), (vS "size" 939)]),
(463, tuO #[]),
(465, coO #[(vS "read_open" 928), (vS "read_open" 929), (vS "/claim/cut.py" 930), (vI 408), (vI 2), (vI 0), (vI 0), (vI 3), (vR 460), (.bool true), (vI 181), (vR 461), .none, (vR 462), (vR 463), (vR 464), (vI 940), (vI 408), (vS "/claim/cut.py" 941)]),
(466, fnO (stm 85) "read_open" [] .none (vS "basicplus.fileread" 905) 465 .none),
(467, tuO #[]),
(469, tuO #[(vS "tokens" 946), (vS "at" 947), (vS "found" 948), (vS "some" 949)]),
(470, tuO #[]),
(472, coO #[(vS "read_close" 943), (vS "read_close" 944), (vS "/claim/cut.py" 945), (vI 425), (vI 2), (vI 0), (vI 0), (vI 3), (vR 467), (.bool true), (vI 181), (vR 468), .none, (vR 469), (vR 470), (vR 471), (vI 950), (vI 425), (vS "/claim/cut.py" 951)]),
(473, fnO (stm 86) "read_close" [] .none (vS "basicplus.fileread" 905) 472 .none),
(474, tuO #[]),
(476, tuO #[(vS "tokens" 956), (vS "at" 957), (vS "channel" 958), (vS "some" 959), (vS "size" 960), (vS "name" 961)]),
(477, tuO #[]),
(479, coO #[(vS "read_field" 953), (vS "read_field" 954), (vS "/claim/cut.py" 955), (vI 434), (vI 2), (vI 0), (vI 0), (vI 3), (vR 474), (.bool true), (vI 181), (vR 475), .none, (vR 476), (vR 477), (vR 478), (vI 962), (vI 434), (vS "/claim/cut.py" 963)]),
(480, fnO (stm 87) "read_field" [] .none (vS "basicplus.fileread" 905) 479 .none),
(481, tuO #[]),
(483, tuO #[(vS "tokens" 968), (vS "at" 969), (vS "word" 970), (vS "name" 971), (vS "value" 972)]),
(484, tuO #[]),
(486, coO #[(vS "read_set" 965), (vS "read_set" 966), (vS "/claim/cut.py" 967), (vI 444), (vI 3), (vI 0), (vI 0), (vI 3), (vR 481), (.bool true), (vI 181), (vR 482), .none, (vR 483), (vR 484), (vR 485), (vI 973), (vI 444), (vS "/claim/cut.py" 974)]),
(487, fnO (stm 88) "read_set" [] .none (vS "basicplus.fileread" 905) 486 .none),
(488, tuO #[]),
(490, tuO #[(vS "tokens" 979), (vS "at" 980)]),
(491, tuO #[]),
(493, coO #[(vS "read_lset" 976), (vS "read_lset" 977), (vS "/claim/cut.py" 978), (vI 448), (vI 2), (vI 0), (vI 0), (vI 3), (vR 488), (.bool true), (vI 181), (vR 489), .none, (vR 490), (vR 491), (vR 492), (vI 981), (vI 448), (vS "/claim/cut.py" 982)]),
(494, fnO (stm 89) "read_lset" [] .none (vS "basicplus.fileread" 905) 493 .none),
(495, tuO #[]),
(497, tuO #[(vS "tokens" 987), (vS "at" 988)]),
(498, tuO #[]),
(500, coO #[(vS "read_rset" 984), (vS "read_rset" 985), (vS "/claim/cut.py" 986), (vI 450), (vI 2), (vI 0), (vI 0), (vI 3), (vR 495), (.bool true), (vI 181), (vR 496), .none, (vR 497), (vR 498), (vR 499), (vI 989), (vI 450), (vS "/claim/cut.py" 990)]),
(501, fnO (stm 90) "read_rset" [] .none (vS "basicplus.fileread" 905) 500 .none),
(502, tuO #[]),
(504, tuO #[(vS "tokens" 995), (vS "at" 996), (vS "word" 997), (vS "channel" 998), (vS "record" 999)]),
(505, tuO #[]),
(507, coO #[(vS "read_move" 992), (vS "read_move" 993), (vS "/claim/cut.py" 994), (vI 452), (vI 3), (vI 0), (vI 0), (vI 3), (vR 502), (.bool true), (vI 181), (vR 503), .none, (vR 504), (vR 505), (vR 506), (vI 1000), (vI 452), (vS "/claim/cut.py" 1001)]),
(508, fnO (stm 91) "read_move" [] .none (vS "basicplus.fileread" 905) 507 .none),
(509, tuO #[]),
(511, tuO #[(vS "tokens" 1006), (vS "at" 1007)]),
(512, tuO #[]),
(514, coO #[(vS "read_get" 1003), (vS "read_get" 1004), (vS "/claim/cut.py" 1005), (vI 458), (vI 2), (vI 0), (vI 0), (vI 3), (vR 509), (.bool true), (vI 181), (vR 510), .none, (vR 511), (vR 512), (vR 513), (vI 1008), (vI 458), (vS "/claim/cut.py" 1009)]),
(515, fnO (stm 92) "read_get" [] .none (vS "basicplus.fileread" 905) 514 .none),
(516, tuO #[]),
(518, tuO #[(vS "tokens" 1014), (vS "at" 1015)]),
(519, tuO #[]),
(521, coO #[(vS "read_put" 1011), (vS "read_put" 1012), (vS "/claim/cut.py" 1013), (vI 460), (vI 2), (vI 0), (vI 0), (vI 3), (vR 516), (.bool true), (vI 181), (vR 517), .none, (vR 518), (vR 519), (vR 520), (vI 1016), (vI 460), (vS "/claim/cut.py" 1017)]),
(522, fnO (stm 93) "read_put" [] .none (vS "basicplus.fileread" 905) 521 .none),
(523, tuO #[]),
(525, tuO #[(vS "tokens" 1022), (vS "at" 1023), (vS "channel" 1024), (vS "values" 1025)]),
(526, tuO #[]),
(528, coO #[(vS "read_write" 1019), (vS "read_write" 1020), (vS "/claim/cut.py" 1021), (vI 462), (vI 2), (vI 0), (vI 0), (vI 3), (vR 523), (.bool true), (vI 181), (vR 524), .none, (vR 525), (vR 526), (vR 527), (vI 1026), (vI 462), (vS "/claim/cut.py" 1027)]),
(529, fnO (stm 94) "read_write" [] .none (vS "basicplus.fileread" 905) 528 .none),
(530, tuO #[]),
(532, tuO #[(vS "tokens" 1032), (vS "at" 1033), (vS "name" 1034), (vS "line" 1035)]),
(533, tuO #[]),
(535, coO #[(vS "read_chain" 1029), (vS "read_chain" 1030), (vS "/claim/cut.py" 1031), (vI 469), (vI 2), (vI 0), (vI 0), (vI 3), (vR 530), (.bool true), (vI 181), (vR 531), .none, (vR 532), (vR 533), (vR 534), (vI 1036), (vI 469), (vS "/claim/cut.py" 1037)]),
(536, fnO (stm 95) "read_chain" [] .none (vS "basicplus.fileread" 905) 535 .none),
(537, tuO #[]),
(539, tuO #[(vS "tokens" 1042), (vS "at" 1043), (vS "some" 1044), (vS "name" 1045)]),
(540, tuO #[]),
(542, coO #[(vS "read_common" 1039), (vS "read_common" 1040), (vS "/claim/cut.py" 1041), (vI 475), (vI 2), (vI 0), (vI 0), (vI 3), (vR 537), (.bool true), (vI 181), (vR 538), .none, (vR 539), (vR 540), (vR 541), (vI 1046), (vI 475), (vS "/claim/cut.py" 1047)]),
(543, fnO (stm 96) "read_common" [] .none (vS "basicplus.fileread" 905) 542 .none),
(544, tuO #[]),
(546, tuO #[]),
(547, tuO #[]),
(549, coO #[(vS "file_statements" 1049), (vS "file_statements" 1050), (vS "/claim/cut.py" 1051), (vI 485), (vI 0), (vI 0), (vI 0), (vI 3), (vR 544), (.bool true), (vI 181), (vR 545), .none, (vR 546), (vR 547), (vR 548), (vI 1052), (vI 485), (vS "/claim/cut.py" 1053)]),
(550, fnO (stm 97) "file_statements" [] .none (vS "basicplus.fileread" 905) 549 .none),
(551, tuO #[(vS "ZER" 1057), (vS "CON" 1058), (vS "IDN" 1059)]),
(552, tuO #[(vS "+" 1061), (vS "-" 1062), (vS "*" 1063)]),
(553, tuO #[]),
(555, tuO #[(vS "tokens" 1068), (vS "at" 1069), (vS "found" 1070)]),
(556, tuO #[]),
(558, coO #[(vS "bounds_at" 1065), (vS "bounds_at" 1066), (vS "/claim/cut.py" 1067), (vI 490), (vI 2), (vI 0), (vI 0), (vI 3), (vR 553), (.bool true), (vI 181), (vR 554), .none, (vR 555), (vR 556), (vR 557), (vI 1071), (vI 490), (vS "/claim/cut.py" 1072)]),
(559, fnO (stm 101) "bounds_at" [] .none (vS "basicplus.matread" 1055) 558 .none),
(560, tuO #[]),
(562, tuO #[(vS "tokens" 1077), (vS "at" 1078), (vS "word" 1079), (vS "some" 1080), (vS "name" 1081), (vS "bounds" 1082)]),
(563, tuO #[]),
(565, coO #[(vS "read_rows" 1074), (vS "read_rows" 1075), (vS "/claim/cut.py" 1076), (vI 495), (vI 3), (vI 0), (vI 0), (vI 3), (vR 560), (.bool true), (vI 181), (vR 561), .none, (vR 562), (vR 563), (vR 564), (vI 1083), (vI 495), (vS "/claim/cut.py" 1084)]),
(566, fnO (stm 102) "read_rows" [] .none (vS "basicplus.matread" 1055) 565 .none),
(567, tuO #[]),
(569, tuO #[(vS "tokens" 1089), (vS "at" 1090), (vS "some" 1091), (vS "name" 1092), (vS "kind" 1093), (vS "told" 1094), (vS "sign" 1095)]),
(570, tuO #[]),
(572, coO #[(vS "read_shown" 1086), (vS "read_shown" 1087), (vS "/claim/cut.py" 1088), (vI 504), (vI 2), (vI 0), (vI 0), (vI 3), (vR 567), (.bool true), (vI 181), (vR 568), .none, (vR 569), (vR 570), (vR 571), (vI 1096), (vI 504), (vS "/claim/cut.py" 1097)]),
(573, fnO (stm 103) "read_shown" [] .none (vS "basicplus.matread" 1055) 572 .none),
(574, tuO #[]),
(576, tuO #[(vS "tokens" 1102), (vS "at" 1103), (vS "name" 1104)]),
(577, tuO #[]),
(579, coO #[(vS "read_of_one" 1099), (vS "read_of_one" 1100), (vS "/claim/cut.py" 1101), (vI 517), (vI 2), (vI 0), (vI 0), (vI 3), (vR 574), (.bool true), (vI 181), (vR 575), .none, (vR 576), (vR 577), (vR 578), (vI 1105), (vI 517), (vS "/claim/cut.py" 1106)]),
(580, fnO (stm 104) "read_of_one" [] .none (vS "basicplus.matread" 1055) 579 .none),
(581, tuO #[]),
(583, tuO #[(vS "tokens" 1111), (vS "at" 1112), (vS "kind" 1113), (vS "told" 1114), (vS "bounds" 1115), (vS "name" 1116), (vS "value" 1117), (vS "other" 1118)]),
(584, tuO #[]),
(586, coO #[(vS "read_form" 1108), (vS "read_form" 1109), (vS "/claim/cut.py" 1110), (vI 520), (vI 2), (vI 0), (vI 0), (vI 3), (vR 581), (.bool true), (vI 181), (vR 582), .none, (vR 583), (vR 584), (vR 585), (vI 1119), (vI 520), (vS "/claim/cut.py" 1120)]),
(587, fnO (stm 105) "read_form" [] .none (vS "basicplus.matread" 1055) 586 .none),
(588, tuO #[]),
(590, tuO #[(vS "tokens" 1125), (vS "at" 1126), (vS "kind" 1127), (vS "told" 1128), (vS "name" 1129), (vS "form" 1130)]),
(591, tuO #[]),
(593, coO #[(vS "read_mat" 1122), (vS "read_mat" 1123), (vS "/claim/cut.py" 1124), (vI 538), (vI 2), (vI 0), (vI 0), (vI 3), (vR 588), (.bool true), (vI 181), (vR 589), .none, (vR 590), (vR 591), (vR 592), (vI 1131), (vI 538), (vS "/claim/cut.py" 1132)]),
(594, fnO (stm 106) "read_mat" [] .none (vS "basicplus.matread" 1055) 593 .none),
(595, diO #[vE P "WEND" 1138 (vS "WEND" 1139), vE P "FNEND" 1140 (vS "FNEND" 1141), vE P "STOP" 1142 (vS "STOP" 1143), vE P "END" 1144 (vS "END" 1145), vE P "TRON" 1146 (vS "TRON" 1147), vE P "TROFF" 1148 (vS "TROFF" 1149)] 6),
(596, diO #[vE P "DEFINT" 1157 (vS "whole" 1158), vE P "DEFSNG" 1159 (vS "decimal" 1160), vE P "DEFSTR" 1161 (vS "text" 1162)] 3),
(597, tuO #[]),
(599, tuO #[(vS "tokens" 1170), (vS "at" 1171), (vS "kind" 1172), (vS "told" 1173), (vS "goal" 1174), (vS "value" 1175)]),
(600, tuO #[]),
(602, coO #[(vS "read_let" 1167), (vS "read_let" 1168), (vS "/claim/cut.py" 1169), (vI 551), (vI 2), (vI 0), (vI 0), (vI 3), (vR 597), (.bool true), (vI 181), (vR 598), .none, (vR 599), (vR 600), (vR 601), (vI 1176), (vI 551), (vS "/claim/cut.py" 1177)]),
(603, fnO (stm 111) "read_let" [] .none (vS "basicplus.stmtread" 1134) 602 .none),
(604, tuO #[]),
(606, tuO #[(vS "tokens" 1182), (vS "at" 1183), (vS "goal" 1184), (vS "begin" 1185), (vS "many" 1186), (vS "value" 1187)]),
(607, tuO #[]),
(609, coO #[(vS "read_middle" 1179), (vS "read_middle" 1180), (vS "/claim/cut.py" 1181), (vI 559), (vI 2), (vI 0), (vI 0), (vI 3), (vR 604), (.bool true), (vI 181), (vR 605), .none, (vR 606), (vR 607), (vR 608), (vI 1188), (vI 559), (vS "/claim/cut.py" 1189)]),
(610, fnO (stm 112) "read_middle" [] .none (vS "basicplus.stmtread" 1134) 609 .none),
(611, tuO #[]),
(613, tuO #[(vS "tokens" 1194), (vS "at" 1195), (vS "word" 1196), (vS "value" 1197)]),
(614, tuO #[]),
(616, coO #[(vS "item_at" 1191), (vS "item_at" 1192), (vS "/claim/cut.py" 1193), (vI 568), (vI 2), (vI 0), (vI 0), (vI 3), (vR 611), (.bool true), (vI 181), (vR 612), .none, (vR 613), (vR 614), (vR 615), (vI 1198), (vI 568), (vS "/claim/cut.py" 1199)]),
(617, fnO (stm 113) "item_at" [] .none (vS "basicplus.stmtread" 1134) 616 .none),
(618, tuO #[]),
(620, tuO #[(vS "tokens" 1204), (vS "at" 1205), (vS "channel" 1206), (vS "items" 1207), (vS "found" 1208)]),
(621, tuO #[]),
(623, coO #[(vS "read_print" 1201), (vS "read_print" 1202), (vS "/claim/cut.py" 1203), (vI 579), (vI 2), (vI 0), (vI 0), (vI 3), (vR 618), (.bool true), (vI 181), (vR 619), .none, (vR 620), (vR 621), (vR 622), (vI 1209), (vI 579), (vS "/claim/cut.py" 1210)]),
(624, fnO (stm 114) "read_print" [] .none (vS "basicplus.stmtread" 1134) 623 .none),
(625, tuO #[]),
(627, tuO #[(vS "tokens" 1215), (vS "at" 1216), (vS "channel" 1217), (vS "picture" 1218), (vS "values" 1219), (vS "is_open" 1220), (vS "found" 1221)]),
(628, tuO #[]),
(630, coO #[(vS "read_using" 1212), (vS "read_using" 1213), (vS "/claim/cut.py" 1214), (vI 588), (vI 3), (vI 0), (vI 0), (vI 3), (vR 625), (.bool true), (vI 181), (vR 626), .none, (vR 627), (vR 628), (vR 629), (vI 1222), (vI 588), (vS "/claim/cut.py" 1223)]),
(631, fnO (stm 115) "read_using" [] .none (vS "basicplus.stmtread" 1134) 630 .none),
(632, tuO #[]),
(634, tuO #[(vS "tokens" 1228), (vS "at" 1229), (vS "kind" 1230), (vS "told" 1231)]),
(635, tuO #[]),
(637, coO #[(vS "prompt_at" 1225), (vS "prompt_at" 1226), (vS "/claim/cut.py" 1227), (vI 602), (vI 2), (vI 0), (vI 0), (vI 3), (vR 632), (.bool true), (vI 181), (vR 633), .none, (vR 634), (vR 635), (vR 636), (vI 1232), (vI 602), (vS "/claim/cut.py" 1233)]),
(638, fnO (stm 116) "prompt_at" [] .none (vS "basicplus.stmtread" 1134) 637 .none),
(639, tuO #[]),
(641, tuO #[(vS "tokens" 1238), (vS "at" 1239), (vS "channel" 1240), (vS "prompt" 1241), (vS "is_marked" 1242), (vS "some" 1243)]),
(642, tuO #[]),
(644, coO #[(vS "read_input" 1235), (vS "read_input" 1236), (vS "/claim/cut.py" 1237), (vI 609), (vI 2), (vI 0), (vI 0), (vI 3), (vR 639), (.bool true), (vI 181), (vR 640), .none, (vR 641), (vR 642), (vR 643), (vI 1244), (vI 609), (vS "/claim/cut.py" 1245)]),
(645, fnO (stm 117) "read_input" [] .none (vS "basicplus.stmtread" 1134) 644 .none),
(646, tuO #[]),
(648, tuO #[(vS "tokens" 1250), (vS "at" 1251), (vS "channel" 1252), (vS "prompt" 1253), (vS "is_marked" 1254), (vS "goal" 1255)]),
(649, tuO #[]),
(651, coO #[(vS "read_line" 1247), (vS "read_line" 1248), (vS "/claim/cut.py" 1249), (vI 614), (vI 2), (vI 0), (vI 0), (vI 3), (vR 646), (.bool true), (vI 181), (vR 647), .none, (vR 648), (vR 649), (vR 650), (vI 1256), (vI 614), (vS "/claim/cut.py" 1257)]),
(652, fnO (stm 118) "read_line" [] .none (vS "basicplus.stmtread" 1134) 651 .none),
(653, tuO #[]),
(655, tuO #[(vS "tokens" 1262), (vS "at" 1263), (vS "goal" 1264)]),
(656, tuO #[]),
(658, coO #[(vS "read_goto" 1259), (vS "read_goto" 1260), (vS "/claim/cut.py" 1261), (vI 619), (vI 2), (vI 0), (vI 0), (vI 3), (vR 653), (.bool true), (vI 181), (vR 654), .none, (vR 655), (vR 656), (vR 657), (vI 1265), (vI 619), (vS "/claim/cut.py" 1266)]),
(659, fnO (stm 119) "read_goto" [] .none (vS "basicplus.stmtread" 1134) 658 .none),
(660, tuO #[]),
(662, tuO #[(vS "tokens" 1271), (vS "at" 1272), (vS "goal" 1273)]),
(663, tuO #[]),
(665, coO #[(vS "read_gosub" 1268), (vS "read_gosub" 1269), (vS "/claim/cut.py" 1270), (vI 622), (vI 2), (vI 0), (vI 0), (vI 3), (vR 660), (.bool true), (vI 181), (vR 661), .none, (vR 662), (vR 663), (vR 664), (vI 1274), (vI 622), (vS "/claim/cut.py" 1275)]),
(666, fnO (stm 120) "read_gosub" [] .none (vS "basicplus.stmtread" 1134) 665 .none),
(667, tuO #[]),
(669, tuO #[(vS "tokens" 1280), (vS "at" 1281), (vS "goal" 1282), (vS "value" 1283), (vS "word" 1284), (vS "goals" 1285)]),
(670, tuO #[]),
(672, coO #[(vS "read_on" 1277), (vS "read_on" 1278), (vS "/claim/cut.py" 1279), (vI 625), (vI 2), (vI 0), (vI 0), (vI 3), (vR 667), (.bool true), (vI 181), (vR 668), .none, (vR 669), (vR 670), (vR 671), (vI 1286), (vI 625), (vS "/claim/cut.py" 1287)]),
(673, fnO (stm 121) "read_on" [] .none (vS "basicplus.stmtread" 1134) 672 .none),
(674, tuO #[]),
(676, tuO #[(vS "tokens" 1292), (vS "at" 1293)]),
(677, tuO #[]),
(679, coO #[(vS "line_or_none" 1289), (vS "line_or_none" 1290), (vS "/claim/cut.py" 1291), (vI 633), (vI 2), (vI 0), (vI 0), (vI 3), (vR 674), (.bool true), (vI 181), (vR 675), .none, (vR 676), (vR 677), (vR 678), (vI 1294), (vI 633), (vS "/claim/cut.py" 1295)]),
(680, fnO (stm 122) "line_or_none" [] .none (vS "basicplus.stmtread" 1134) 679 .none),
(681, tuO #[]),
(683, tuO #[(vS "tokens" 1300), (vS "at" 1301), (vS "goal" 1302)]),
(684, tuO #[]),
(686, coO #[(vS "read_return" 1297), (vS "read_return" 1298), (vS "/claim/cut.py" 1299), (vI 635), (vI 2), (vI 0), (vI 0), (vI 3), (vR 681), (.bool true), (vI 181), (vR 682), .none, (vR 683), (vR 684), (vR 685), (vI 1303), (vI 635), (vS "/claim/cut.py" 1304)]),
(687, fnO (stm 123) "read_return" [] .none (vS "basicplus.stmtread" 1134) 686 .none),
(688, tuO #[]),
(690, tuO #[(vS "tokens" 1309), (vS "at" 1310), (vS "goal" 1311)]),
(691, tuO #[]),
(693, coO #[(vS "read_restore" 1306), (vS "read_restore" 1307), (vS "/claim/cut.py" 1308), (vI 638), (vI 2), (vI 0), (vI 0), (vI 3), (vR 688), (.bool true), (vI 181), (vR 689), .none, (vR 690), (vR 691), (vR 692), (vI 1312), (vI 638), (vS "/claim/cut.py" 1313)]),
(694, fnO (stm 124) "read_restore" [] .none (vS "basicplus.stmtread" 1134) 693 .none),
(695, tuO #[]),
(697, tuO #[(vS "tokens" 1318), (vS "at" 1319), (vS "goal" 1320)]),
(698, tuO #[]),
(700, coO #[(vS "read_resume" 1315), (vS "read_resume" 1316), (vS "/claim/cut.py" 1317), (vI 641), (vI 2), (vI 0), (vI 0), (vI 3), (vR 695), (.bool true), (vI 181), (vR 696), .none, (vR 697), (vR 698), (vR 699), (vI 1321), (vI 641), (vS "/claim/cut.py" 1322)]),
(701, fnO (stm 125) "read_resume" [] .none (vS "basicplus.stmtread" 1134) 700 .none),
(702, tuO #[]),
(704, tuO #[(vS "tokens" 1327), (vS "at" 1328), (vS "name" 1329), (vS "begin" 1330), (vS "end" 1331), (vS "pace" 1332)]),
(705, tuO #[]),
(707, coO #[(vS "read_for" 1324), (vS "read_for" 1325), (vS "/claim/cut.py" 1326), (vI 646), (vI 2), (vI 0), (vI 0), (vI 3), (vR 702), (.bool true), (vI 181), (vR 703), .none, (vR 704), (vR 705), (vR 706), (vI 1333), (vI 646), (vS "/claim/cut.py" 1334)]),
(708, fnO (stm 126) "read_for" [] .none (vS "basicplus.stmtread" 1134) 707 .none),
(709, tuO #[]),
(711, tuO #[(vS "tokens" 1339), (vS "at" 1340), (vS "names" 1341)]),
(712, tuO #[]),
(714, coO #[(vS "read_next" 1336), (vS "read_next" 1337), (vS "/claim/cut.py" 1338), (vI 654), (vI 2), (vI 0), (vI 0), (vI 3), (vR 709), (.bool true), (vI 181), (vR 710), .none, (vR 711), (vR 712), (vR 713), (vI 1342), (vI 654), (vS "/claim/cut.py" 1343)]),
(715, fnO (stm 127) "read_next" [] .none (vS "basicplus.stmtread" 1134) 714 .none),
(716, tuO #[]),
(718, tuO #[(vS "tokens" 1348), (vS "at" 1349), (vS "value" 1350)]),
(719, tuO #[]),
(721, coO #[(vS "read_while" 1345), (vS "read_while" 1346), (vS "/claim/cut.py" 1347), (vI 657), (vI 2), (vI 0), (vI 0), (vI 3), (vR 716), (.bool true), (vI 181), (vR 717), .none, (vR 718), (vR 719), (vR 720), (vI 1351), (vI 657), (vS "/claim/cut.py" 1352)]),
(722, fnO (stm 128) "read_while" [] .none (vS "basicplus.stmtread" 1134) 721 .none),
(723, tuO #[]),
(725, tuO #[(vS "found" 1357)]),
(726, tuO #[]),
(728, coO #[(vS "statement_readers" 1354), (vS "statement_readers" 1355), (vS "/claim/cut.py" 1356), (vI 660), (vI 0), (vI 0), (vI 0), (vI 3), (vR 723), (.bool true), (vI 181), (vR 724), .none, (vR 725), (vR 726), (vR 727), (vI 1358), (vI 660), (vS "/claim/cut.py" 1359)]),
(729, fnO (stm 129) "statement_readers" [] .none (vS "basicplus.stmtread" 1134) 728 .none),
(730, tuO #[]),
(732, tuO #[(vS "tokens" 1364), (vS "at" 1365), (vS "readers" 1366), (vS "nested" 1367), (vS "kind" 1368), (vS "told" 1369), (vS "work" 1370)]),
(733, tuO #[]),
(735, coO #[(vS "read_one" 1361), (vS "read_one" 1362), (vS "/claim/cut.py" 1363), (vI 665), (vI 4), (vI 0), (vI 0), (vI 3), (vR 730), (.bool true), (vI 181), (vR 731), .none, (vR 732), (vR 733), (vR 734), (vI 1371), (vI 665), (vS "/claim/cut.py" 1372)]),
(736, fnO (stm 130) "read_one" [] .none (vS "basicplus.stmtread" 1134) 735 .none),
(737, tuO #[]),
(739, tuO #[(vS "tokens" 1377), (vS "at" 1378), (vS "readers" 1379), (vS "nested" 1380), (vS "ahead" 1381), (vS "goal" 1382), (vS "found" 1383)]),
(740, tuO #[]),
(742, coO #[(vS "read_part" 1374), (vS "read_part" 1375), (vS "/claim/cut.py" 1376), (vI 683), (vI 4), (vI 0), (vI 0), (vI 3), (vR 737), (.bool true), (vI 181), (vR 738), .none, (vR 739), (vR 740), (vR 741), (vI 1384), (vI 683), (vS "/claim/cut.py" 1385)]),
(743, fnO (stm 131) "read_part" [] .none (vS "basicplus.stmtread" 1134) 742 .none),
(744, tuO #[]),
(746, tuO #[(vS "tokens" 1390), (vS "at" 1391), (vS "readers" 1392), (vS "nested" 1393), (vS "value" 1394), (vS "begin" 1395), (vS "ahead" 1396), (vS "behind" 1397)]),
(747, tuO #[]),
(749, coO #[(vS "read_if" 1387), (vS "read_if" 1388), (vS "/claim/cut.py" 1389), (vI 692), (vI 4), (vI 0), (vI 0), (vI 3), (vR 744), (.bool true), (vI 181), (vR 745), .none, (vR 746), (vR 747), (vR 748), (vI 1398), (vI 692), (vS "/claim/cut.py" 1399)]),
(750, fnO (stm 132) "read_if" [] .none (vS "basicplus.stmtread" 1134) 749 .none),
(751, tuO #[]),
(753, tuO #[(vS "tokens" 1404), (vS "at" 1405), (vS "readers" 1406), (vS "nested" 1407), (vS "found" 1408), (vS "kind" 1409), (vS "told" 1410), (vS "tree" 1411)]),
(754, tuO #[]),
(756, coO #[(vS "read_some" 1401), (vS "read_some" 1402), (vS "/claim/cut.py" 1403), (vI 702), (vI 4), (vI 0), (vI 0), (vI 3), (vR 751), (.bool true), (vI 181), (vR 752), .none, (vR 753), (vR 754), (vR 755), (vI 1412), (vI 702), (vS "/claim/cut.py" 1413)]),
(757, fnO (stm 133) "read_some" [] .none (vS "basicplus.stmtread" 1134) 756 .none),
(758, tuO #[]),
(760, tuO #[(vS "text" 1418), (vS "tokens" 1419), (vS "found" 1420), (vS "at" 1421)]),
(761, tuO #[]),
(763, coO #[(vS "read_row" 1415), (vS "read_row" 1416), (vS "/claim/cut.py" 1417), (vI 714), (vI 1), (vI 0), (vI 0), (vI 3), (vR 758), (.bool true), (vI 181), (vR 759), .none, (vR 760), (vR 761), (vR 762), (vI 1422), (vI 714), (vS "/claim/cut.py" 1423)]),
(764, fnO (stm 134) "read_row" [] .none (vS "basicplus.stmtread" 1134) 763 .none),
(765, tuO #[]),
(767, tuO #[]),
(768, tuO #[]),
(770, coO #[(vS "_law_words" 1427), (vS "_law_words" 1428), (vS "/claim/cut.py" 1429), (vI 719), (vI 0), (vI 0), (vI 0), (vI 3), (vR 765), (.bool true), (vI 181), (vR 766), .none, (vR 767), (vR 768), (vR 769), (vI 1430), (vI 719), (vS "/claim/cut.py" 1431)]),
(771, fnO (stm 136) "_law_words" [] .none (vS "law_pf0024_01" 1425) 770 .none),
(772, tuO #[]),
(774, tuO #[]),
(775, tuO #[]),
(777, coO #[(vS "_law_numbers" 1433), (vS "_law_numbers" 1434), (vS "/claim/cut.py" 1435), (vI 721), (vI 0), (vI 0), (vI 0), (vI 3), (vR 772), (.bool true), (vI 181), (vR 773), .none, (vR 774), (vR 775), (vR 776), (vI 1436), (vI 721), (vS "/claim/cut.py" 1437)]),
(778, fnO (stm 137) "_law_numbers" [] .none (vS "law_pf0024_01" 1425) 777 .none),
(779, tuO #[]),
(781, tuO #[(vS "well" 1442), (vS "many" 1443), (vS "cells" 1444), (vS "turn" 1445)]),
(782, tuO #[]),
(784, coO #[(vS "_law_dip" 1439), (vS "_law_dip" 1440), (vS "/claim/cut.py" 1441), (vI 723), (vI 2), (vI 0), (vI 0), (vI 3), (vR 779), (.bool true), (vI 181), (vR 780), .none, (vR 781), (vR 782), (vR 783), (vI 1446), (vI 723), (vS "/claim/cut.py" 1447)]),
(785, fnO (stm 138) "_law_dip" [] .none (vS "law_pf0024_01" 1425) 784 .none),
(786, tuO #[]),
(788, tuO #[(vS "row" 1452), (vS "refusal" 1453)]),
(789, tuO #[]),
(791, coO #[(vS "_law_heard" 1449), (vS "_law_heard" 1450), (vS "/claim/cut.py" 1451), (vI 727), (vI 1), (vI 0), (vI 0), (vI 3), (vR 786), (.bool true), (vI 181), (vR 787), .none, (vR 788), (vR 789), (vR 790), (vI 1454), (vI 727), (vS "/claim/cut.py" 1455)]),
(792, fnO (stm 139) "_law_heard" [] .none (vS "law_pf0024_01" 1425) 791 .none),
(793, tuO #[]),
(795, tuO #[(vS "word" 1460), (vS "one" 1461), (vS "two" 1462), (vS "text" 1463)]),
(796, tuO #[]),
(798, coO #[(vS "_law_places" 1457), (vS "_law_places" 1458), (vS "/claim/cut.py" 1459), (vI 732), (vI 1), (vI 0), (vI 0), (vI 3), (vR 793), (.bool true), (vI 181), (vR 794), .none, (vR 795), (vR 796), (vR 797), (vI 1464), (vI 732), (vS "/claim/cut.py" 1465)]),
(799, fnO (stm 140) "_law_places" [] .none (vS "law_pf0024_01" 1425) 798 .none),
(800, tuO #[]),
(802, tuO #[(vS "eight" 1470), (vS "here" 1471)]),
(803, tuO #[]),
(805, coO #[(vS "_law_opened" 1467), (vS "_law_opened" 1468), (vS "/claim/cut.py" 1469), (vI 735), (vI 0), (vI 0), (vI 0), (vI 3), (vR 800), (.bool true), (vI 181), (vR 801), .none, (vR 802), (vR 803), (vR 804), (vI 1472), (vI 735), (vS "/claim/cut.py" 1473)]),
(806, fnO (stm 141) "_law_opened" [] .none (vS "law_pf0024_01" 1425) 805 .none),
(807, tuO #[]),
(810, coO #[(vS "law" 1475), (vS "law" 1476), (vS "/claim/cut.py" 1477), (vI 738), (vI 1), (vI 0), (vI 0), (vI 3), (vR 807), (.bool true), (vI 181), (vR 808), .none, .none, .none, (vR 809), (vI 1478), (vI 738), (vS "/claim/cut.py" 1479)]),
(811, fnO (stm 142) "law" [] .none (vS "law_pf0024_01" 1425) 810 .none)]
noncomputable def asK : List Addr := [2, 3, 15, 18, 23, 24, 25, 27, 28, 30, 31, 32, 33, 34, 35, 38, 40, 41, 43, 44, 45, 46, 48, 49, 51, 52, 53, 55, 56, 58, 59, 60, 62, 63, 65, 66, 67, 69, 70, 72, 73, 74, 77, 78, 79, 81, 82, 84, 85, 86, 88, 89, 91, 92, 93, 95, 96, 98, 99, 100, 102, 103, 105, 106, 107, 109, 110, 112, 113, 114, 116, 117, 119, 120, 121, 123, 124, 126, 127, 128, 130, 131, 133, 134, 135, 137, 138, 140, 141, 142, 144, 145, 147, 148, 149, 151, 152, 154, 155, 156, 158, 159, 161, 162, 163, 165, 166, 167, 169, 170, 172, 173, 174, 176, 177, 179, 180, 181, 183, 184, 186, 187, 188, 190, 191, 193, 194, 195, 197, 198, 200, 201, 202, 204, 205, 207, 208, 209, 211, 212, 214, 215, 223, 225, 226, 228, 229, 230, 231, 232, 233, 234, 237, 239, 240, 242, 243, 244, 246, 247, 249, 250, 251, 253, 254, 256, 257, 258, 260, 261, 263, 264, 265, 267, 268, 270, 271, 272, 274, 275, 277, 278, 279, 281, 282, 284, 285, 286, 288, 289, 291, 292, 293, 295, 296, 298, 299, 300, 302, 303, 305, 306, 307, 309, 310, 312, 313, 314, 316, 317, 319, 320, 321, 323, 324, 326, 327, 328, 330, 331, 333, 334, 335, 337, 338, 340, 341, 342, 344, 345, 347, 348, 349, 351, 352, 354, 355, 356, 358, 359, 361, 362, 363, 365, 366, 368, 369, 370, 372, 373, 375, 376, 377, 379, 380, 382, 383, 384, 386, 387, 389, 390, 391, 393, 394, 396, 397, 398, 400, 401, 403, 404, 405, 407, 408, 410, 411, 412, 414, 415, 417, 418, 419, 422, 423, 424, 426, 427, 429, 430, 431, 433, 434, 436, 437, 438, 440, 441, 443, 444, 445, 447, 448, 450, 451, 452, 453, 455, 456, 458, 459, 460, 462, 463, 465, 466, 467, 469, 470, 472, 473, 474, 476, 477, 479, 480, 481, 483, 484, 486, 487, 488, 490, 491, 493, 494, 495, 497, 498, 500, 501, 502, 504, 505, 507, 508, 509, 511, 512, 514, 515, 516, 518, 519, 521, 522, 523, 525, 526, 528, 529, 530, 532, 533, 535, 536, 537, 539, 540, 542, 543, 544, 546, 547, 549, 550, 551, 552, 553, 555, 556, 558, 559, 560, 562, 563, 565, 566, 567, 569, 570, 572, 573, 574, 576, 577, 579, 580, 581, 583, 584, 586, 587, 588, 590, 591, 593, 594, 595, 596, 597, 599, 600, 602, 603, 604, 606, 607, 609, 610, 611, 613, 614, 616, 617, 618, 620, 621, 623, 624, 625, 627, 628, 630, 631, 632, 634, 635, 637, 638, 639, 641, 642, 644, 645, 646, 648, 649, 651, 652, 653, 655, 656, 658, 659, 660, 662, 663, 665, 666, 667, 669, 670, 672, 673, 674, 676, 677, 679, 680, 681, 683, 684, 686, 687, 688, 690, 691, 693, 694, 695, 697, 698, 700, 701, 702, 704, 705, 707, 708, 709, 711, 712, 714, 715, 716, 718, 719, 721, 722, 723, 725, 726, 728, 729, 730, 732, 733, 735, 736, 737, 739, 740, 742, 743, 744, 746, 747, 749, 750, 751, 753, 754, 756, 757, 758, 760, 761, 763, 764, 765, 767, 768, 770, 771, 772, 774, 775, 777, 778, 779, 781, 782, 784, 785, 786, 788, 789, 791, 792, 793, 795, 796, 798, 799, 800, 802, 803, 805, 806, 807, 810, 811]
noncomputable def restK : Params → Frag := fun P => [
(0, PySem.W.boot_o_0 P),
(1, PySem.W.boot_o_1 P),
(4, PySem.W.boot_o_4 P),
(5, PySem.W.boot_o_5 P),
(6, PySem.W.boot_o_6 P),
(7, PySem.W.boot_o_7 P),
(8, PySem.W.boot_o_8 P),
(9, PySem.W.boot_o_9 P),
(10, PySem.W.boot_o_10 P),
(11, tuO #[]),
(12, noO #[(vI 3), (vI 0), (vR 21), (vI 9), (vI 0), (vR 43), (vI 23), (vI 0), (vR 51), (vI 25), (vI 0), (vR 58), (vI 28), (vI 0), (vR 65), (vI 30), (vI 0), (vR 72), (vI 32), (vI 0), (vR 77), (vI 34), (vI 0), (vR 84), (vI 38), (vI 0), (vR 91), (vI 42), (vI 0), (vR 98), (vI 50), (vI 0), (vR 105), (vI 62), (vI 0), (vR 112), (vI 66), (vI 0), (vR 119), (vI 71), (vI 0), (vR 126), (vI 77), (vI 0), (vR 133), (vI 84), (vI 0), (vR 140), (vI 86), (vI 0), (vR 147), (vI 95), (vI 0), (vR 154), (vI 115), (vI 0), (vR 161), (vI 133), (vI 0), (vR 172), (vI 135), (vI 0), (vR 179), (vI 137), (vI 0), (vR 186), (vI 141), (vI 0), (vR 193), (vI 149), (vI 0), (vR 200), (vI 157), (vI 0), (vR 207), (vI 166), (vI 0), (vR 214), (vI 175), (vI 0), (vR 221), (vI 183), (vI 0), (vR 242), (vI 191), (vI 0), (vR 249), (vI 197), (vI 0), (vR 256), (vI 201), (vI 0), (vR 263), (vI 212), (vI 0), (vR 270), (vI 230), (vI 0), (vR 277), (vI 247), (vI 0), (vR 284), (vI 256), (vI 0), (vR 291), (vI 263), (vI 0), (vR 298), (vI 273), (vI 0), (vR 305), (vI 276), (vI 0), (vR 312), (vI 279), (vI 0), (vR 319), (vI 283), (vI 0), (vR 326), (vI 295), (vI 0), (vR 333), (vI 302), (vI 0), (vR 340), (vI 307), (vI 0), (vR 347), (vI 314), (vI 0), (vR 354), (vI 321), (vI 0), (vR 361), (vI 327), (vI 0), (vR 368), (vI 339), (vI 0), (vR 375), (vI 349), (vI 0), (vR 382), (vI 352), (vI 0), (vR 389), (vI 357), (vI 0), (vR 396), (vI 368), (vI 0), (vR 403), (vI 371), (vI 0), (vR 410), (vI 374), (vI 0), (vR 417), (vI 379), (vI 0), (vR 422), (vI 392), (vI 0), (vR 429), (vI 396), (vI 0), (vR 436), (vI 399), (vI 0), (vR 443), (vI 402), (vI 0), (vR 450), (vI 406), (vI 0), (vR 458), (vI 408), (vI 0), (vR 465), (vI 425), (vI 0), (vR 472), (vI 434), (vI 0), (vR 479), (vI 444), (vI 0), (vR 486), (vI 448), (vI 0), (vR 493), (vI 450), (vI 0), (vR 500), (vI 452), (vI 0), (vR 507), (vI 458), (vI 0), (vR 514), (vI 460), (vI 0), (vR 521), (vI 462), (vI 0), (vR 528), (vI 469), (vI 0), (vR 535), (vI 475), (vI 0), (vR 542), (vI 485), (vI 0), (vR 549), (vI 490), (vI 0), (vR 558), (vI 495), (vI 0), (vR 565), (vI 504), (vI 0), (vR 572), (vI 517), (vI 0), (vR 579), (vI 520), (vI 0), (vR 586), (vI 538), (vI 0), (vR 593), (vI 551), (vI 0), (vR 602), (vI 559), (vI 0), (vR 609), (vI 568), (vI 0), (vR 616), (vI 579), (vI 0), (vR 623), (vI 588), (vI 0), (vR 630), (vI 602), (vI 0), (vR 637), (vI 609), (vI 0), (vR 644), (vI 614), (vI 0), (vR 651), (vI 619), (vI 0), (vR 658), (vI 622), (vI 0), (vR 665), (vI 625), (vI 0), (vR 672), (vI 633), (vI 0), (vR 679), (vI 635), (vI 0), (vR 686), (vI 638), (vI 0), (vR 693), (vI 641), (vI 0), (vR 700), (vI 646), (vI 0), (vR 707), (vI 654), (vI 0), (vR 714), (vI 657), (vI 0), (vR 721), (vI 660), (vI 0), (vR 728), (vI 665), (vI 0), (vR 735), (vI 683), (vI 0), (vR 742), (vI 692), (vI 0), (vR 749), (vI 702), (vI 0), (vR 756), (vI 714), (vI 0), (vR 763), (vI 719), (vI 0), (vR 770), (vI 721), (vI 0), (vR 777), (vI 723), (vI 0), (vR 784), (vI 727), (vI 0), (vR 791), (vI 732), (vI 0), (vR 798), (vI 735), (vI 0), (vR 805), (vI 738), (vI 0), (vR 810)]),
(13, coO #[(vS "<module>" 182), (vS "<module>" 183), (vS "/claim/cut.py" 184), (vI 1), (vI 0), (vI 0), (vI 0), (vI 0), (vR 11), (.bool false), (vI 181), (vR 12), .none, .none, .none, .none, (vI 185), (vI 1), (vS "/claim/cut.py" 186)]),
(14, { cls := (.type "frame"), slots := #[some ((vR 13)), some ((vR 3)), some ((vR 3)), none, some ((vS "__main__" 164)), none, some ((vR 0))] }),
(16, { cls := (.type "builtin_function_or_method"), data := Data.fields #[(.builtin "type.__prepare__"), (.type "type")] }),
(17, diO #[vE P "__module__" 198 (vS "basicplus.values" 187), vE P "__qualname__" 200 (vS "BasicError" 199), vE P "__firstlineno__" 202 (.int 3 201), vE P "__init__" 213 (vR 31), vE P "__static_attributes__" 216 (vR 32), vE P "__classcell__" 217 (vR 18)] 6),
(19, tuO #[]),
(20, noO #[(vI 5), (vI 4), (vR 30)]),
(21, coO #[(vS "BasicError" 193), (vS "BasicError" 194), (vS "/claim/cut.py" 195), (vI 3), (vI 0), (vI 0), (vI 0), (vI 0), (vR 19), (.bool false), (vI 181), (vR 20), .none, .none, .none, .none, (vI 196), (vI 3), (vS "/claim/cut.py" 197)]),
(22, { cls := (.type "frame"), slots := #[some ((vR 21)), some ((vR 3)), some ((vR 17)), none, some ((vS "basicplus.values" 187)), none, some ((vR 0))] }),
(26, noO #[]),
(29, prO (inner (stm 2) 0) "BasicError.__init__"),
(36, { cls := (.type "super"), data := Data.fields #[(vR 34), (vR 34), (vR 34)] }),
(37, { cls := (.type "builtin_function_or_method"), data := Data.fields #[(.builtin "object.__init_subclass__"), (vR 34)] }),
(39, noO #[]),
(42, prO (stm 3) "figures_of"),
(47, noO #[]),
(50, prO (stm 12) "functions"),
(54, noO #[]),
(57, prO (stm 13) "is_word"),
(61, noO #[]),
(64, prO (stm 15) "is_letter"),
(68, noO #[]),
(71, prO (stm 16) "is_figure"),
(75, noO #[]),
(76, prO (stm 17) "capital"),
(80, noO #[]),
(83, prO (stm 18) "figures_end"),
(87, noO #[]),
(90, prO (stm 19) "skipped"),
(94, noO #[]),
(97, prO (stm 20) "power_end"),
(101, noO #[]),
(104, prO (stm 21) "number_at"),
(108, noO #[]),
(111, prO (stm 22) "name_end"),
(115, noO #[]),
(118, prO (stm 23) "text_at"),
(122, noO #[]),
(125, prO (stm 24) "order_at"),
(129, noO #[]),
(132, prO (stm 25) "data_end"),
(136, noO #[]),
(139, prO (stm 26) "remark_of"),
(143, noO #[]),
(146, prO (stm 27) "word_at"),
(150, noO #[]),
(153, prO (stm 28) "tokens_at"),
(157, noO #[]),
(160, prO (stm 29) "tokens_of"),
(164, diO #[vE P "^" 467 (.int 13 468)] 1),
(168, noO #[]),
(171, prO (stm 39) "token_at"),
(175, noO #[]),
(178, prO (stm 40) "is_sign"),
(182, noO #[]),
(185, prO (stm 41) "expect"),
(189, noO #[]),
(192, prO (stm 42) "figures_at"),
(196, noO #[]),
(199, prO (stm 43) "power_at"),
(203, noO #[]),
(206, prO (stm 44) "told_exactly"),
(210, noO #[]),
(213, prO (stm 45) "number_tree"),
(216, tuO #[]),
(217, { cls := (.type "builtin_function_or_method"), data := Data.fields #[(.builtin "type.__prepare__"), (.type "type")] }),
(218, diO #[vE P "__module__" 568 (vS "basicplus.exprread" 414), vE P "__qualname__" 570 (vS "Level" 569), vE P "__firstlineno__" 572 (.int 175 571), vE P "__init__" 581 (vR 229), vE P "__static_attributes__" 587 (vR 230)] 5),
(219, tuO #[]),
(220, noO #[(vI 177), (vI 4), (vR 228)]),
(221, coO #[(vS "Level" 563), (vS "Level" 564), (vS "/claim/cut.py" 565), (vI 175), (vI 0), (vI 0), (vI 0), (vI 0), (vR 219), (.bool false), (vI 181), (vR 220), .none, .none, .none, .none, (vI 566), (vI 175), (vS "/claim/cut.py" 567)]),
(222, { cls := (.type "frame"), slots := #[some ((vR 221)), some ((vR 3)), some ((vR 218)), none, some ((vS "basicplus.exprread" 414)), none, some ((vR 0))] }),
(224, noO #[]),
(227, prO (inner (stm 46) 0) "Level.__init__"),
(235, { cls := (.type "super"), data := Data.fields #[(vR 232), (vR 232), (vR 232)] }),
(236, { cls := (.type "builtin_function_or_method"), data := Data.fields #[(.builtin "object.__init_subclass__"), (vR 232)] }),
(238, noO #[]),
(241, prO (stm 47) "join_up"),
(245, noO #[]),
(248, prO (stm 48) "finished"),
(252, noO #[]),
(255, prO (stm 49) "opened"),
(259, noO #[]),
(262, prO (stm 50) "plain_operand"),
(266, noO #[]),
(269, prO (stm 51) "take_operand"),
(273, noO #[]),
(276, prO (stm 52) "take_operator"),
(280, noO #[]),
(283, prO (stm 53) "expression"),
(287, noO #[]),
(290, prO (stm 54) "expressions"),
(294, noO #[]),
(297, prO (stm 55) "target"),
(301, noO #[]),
(304, prO (stm 58) "is_word"),
(308, noO #[]),
(311, prO (stm 60) "is_end"),
(315, noO #[]),
(318, prO (stm 61) "need_word"),
(322, noO #[]),
(325, prO (stm 62) "line_number"),
(329, noO #[]),
(332, prO (stm 63) "line_numbers"),
(336, noO #[]),
(339, prO (stm 64) "plain_name"),
(343, noO #[]),
(346, prO (stm 65) "plain_names"),
(350, noO #[]),
(353, prO (stm 66) "targets"),
(357, noO #[]),
(360, prO (stm 67) "channel_at"),
(364, noO #[]),
(367, prO (stm 69) "read_def"),
(371, noO #[]),
(374, prO (stm 70) "read_dim"),
(378, noO #[]),
(381, prO (stm 71) "read_erase"),
(385, noO #[]),
(388, prO (stm 72) "read_option"),
(392, noO #[]),
(395, prO (stm 73) "pieces_of"),
(399, noO #[]),
(402, prO (stm 74) "read_data"),
(406, noO #[]),
(409, prO (stm 75) "read_read"),
(413, noO #[]),
(416, prO (stm 76) "letter_at"),
(420, noO #[]),
(421, prO (stm 77) "read_kinds"),
(425, noO #[]),
(428, prO (stm 78) "read_swap"),
(432, noO #[]),
(435, prO (stm 79) "read_error"),
(439, noO #[]),
(442, prO (stm 80) "read_randomize"),
(446, noO #[]),
(449, prO (stm 81) "declarations"),
(454, noO #[]),
(457, prO (stm 84) "numbered_channel"),
(461, noO #[]),
(464, prO (stm 85) "read_open"),
(468, noO #[]),
(471, prO (stm 86) "read_close"),
(475, noO #[]),
(478, prO (stm 87) "read_field"),
(482, noO #[]),
(485, prO (stm 88) "read_set"),
(489, noO #[]),
(492, prO (stm 89) "read_lset"),
(496, noO #[]),
(499, prO (stm 90) "read_rset"),
(503, noO #[]),
(506, prO (stm 91) "read_move"),
(510, noO #[]),
(513, prO (stm 92) "read_get"),
(517, noO #[]),
(520, prO (stm 93) "read_put"),
(524, noO #[]),
(527, prO (stm 94) "read_write"),
(531, noO #[]),
(534, prO (stm 95) "read_chain"),
(538, noO #[]),
(541, prO (stm 96) "read_common"),
(545, noO #[]),
(548, prO (stm 97) "file_statements"),
(554, noO #[]),
(557, prO (stm 101) "bounds_at"),
(561, noO #[]),
(564, prO (stm 102) "read_rows"),
(568, noO #[]),
(571, prO (stm 103) "read_shown"),
(575, noO #[]),
(578, prO (stm 104) "read_of_one"),
(582, noO #[]),
(585, prO (stm 105) "read_form"),
(589, noO #[]),
(592, prO (stm 106) "read_mat"),
(598, noO #[]),
(601, prO (stm 111) "read_let"),
(605, noO #[]),
(608, prO (stm 112) "read_middle"),
(612, noO #[]),
(615, prO (stm 113) "item_at"),
(619, noO #[]),
(622, prO (stm 114) "read_print"),
(626, noO #[]),
(629, prO (stm 115) "read_using"),
(633, noO #[]),
(636, prO (stm 116) "prompt_at"),
(640, noO #[]),
(643, prO (stm 117) "read_input"),
(647, noO #[]),
(650, prO (stm 118) "read_line"),
(654, noO #[]),
(657, prO (stm 119) "read_goto"),
(661, noO #[]),
(664, prO (stm 120) "read_gosub"),
(668, noO #[]),
(671, prO (stm 121) "read_on"),
(675, noO #[]),
(678, prO (stm 122) "line_or_none"),
(682, noO #[]),
(685, prO (stm 123) "read_return"),
(689, noO #[]),
(692, prO (stm 124) "read_restore"),
(696, noO #[]),
(699, prO (stm 125) "read_resume"),
(703, noO #[]),
(706, prO (stm 126) "read_for"),
(710, noO #[]),
(713, prO (stm 127) "read_next"),
(717, noO #[]),
(720, prO (stm 128) "read_while"),
(724, noO #[]),
(727, prO (stm 129) "statement_readers"),
(731, noO #[]),
(734, prO (stm 130) "read_one"),
(738, noO #[]),
(741, prO (stm 131) "read_part"),
(745, noO #[]),
(748, prO (stm 132) "read_if"),
(752, noO #[]),
(755, prO (stm 133) "read_some"),
(759, noO #[]),
(762, prO (stm 134) "read_row"),
(766, noO #[]),
(769, prO (stm 136) "_law_words"),
(773, noO #[]),
(776, prO (stm 137) "_law_numbers"),
(780, noO #[]),
(783, prO (stm 138) "_law_dip"),
(787, noO #[]),
(790, prO (stm 139) "_law_heard"),
(794, noO #[]),
(797, prO (stm 140) "_law_places"),
(801, noO #[]),
(804, prO (stm 141) "_law_opened"),
(808, noO #[]),
(809, prO (stm 142) "law")]
noncomputable def mergeK : Nat → Frag → Frag → Frag
  | 0, _, _ => []
  | n + 1, [], ys => ys
  | n + 1, xs, [] => xs
  | n + 1, x :: xs, y :: ys => match Nat.blt x.1 y.1 with
    | true => x :: mergeK n xs (y :: ys)
    | false => y :: mergeK n (x :: xs) ys
noncomputable def treeK (P : Params) : BT := (mergeK 812 (heapK P) (restK P)).foldl (fun t x => t.ins x.1 x.2) .nil
theorem asK_eq (P : Params) : asK = (heapK P).map (·.1) := by kernel_rfl
noncomputable abbrev pw : Program := PySem.Challenge.pw_pf0024_01
noncomputable def viewK : Program := { PySem.Challenge.pw_pf0024_01 with main := { PySem.Challenge.pw_pf0024_01.main with body := [stm 142] } }
noncomputable def namesL : List Str := [Str.ofString "MOST_EXPONENT", Str.ofString "BasicError", Str.ofString "figures_of", Str.ofString "MOST_SIGNS", Str.ofString "MOST_FIGURES_tokens", Str.ofString "SIGNS", Str.ofString "ORDERS", Str.ofString "PAIRS", Str.ofString "WORDS", Str.ofString "FUNCTION_WORDS", Str.ofString "functions", Str.ofString "is_word", Str.ofString "is_word_tokens", Str.ofString "is_letter", Str.ofString "is_figure", Str.ofString "capital", Str.ofString "figures_end", Str.ofString "skipped", Str.ofString "power_end", Str.ofString "number_at", Str.ofString "name_end", Str.ofString "text_at", Str.ofString "order_at", Str.ofString "data_end", Str.ofString "remark_of", Str.ofString "word_at", Str.ofString "tokens_at", Str.ofString "tokens_of", Str.ofString "STRENGTH", Str.ofString "NOT_STRENGTH", Str.ofString "MINUS_STRENGTH", Str.ofString "MOST_OPEN", Str.ofString "NO_ARGS", Str.ofString "NO_TOKEN", Str.ofString "MOST_FIGURES_exprread", Str.ofString "MOST_POWER", Str.ofString "token_at", Str.ofString "is_sign", Str.ofString "expect", Str.ofString "figures_at", Str.ofString "power_at", Str.ofString "told_exactly", Str.ofString "number_tree", Str.ofString "Level", Str.ofString "join_up", Str.ofString "finished", Str.ofString "opened", Str.ofString "plain_operand", Str.ofString "take_operand", Str.ofString "take_operator", Str.ofString "expression", Str.ofString "expressions", Str.ofString "target", Str.ofString "MOST_LINE", Str.ofString "is_word_stmtparts", Str.ofString "is_end", Str.ofString "need_word", Str.ofString "line_number", Str.ofString "line_numbers", Str.ofString "plain_name", Str.ofString "plain_names", Str.ofString "targets", Str.ofString "channel_at", Str.ofString "read_def", Str.ofString "read_dim", Str.ofString "read_erase", Str.ofString "read_option", Str.ofString "pieces_of", Str.ofString "read_data", Str.ofString "read_read", Str.ofString "letter_at", Str.ofString "read_kinds", Str.ofString "read_swap", Str.ofString "read_error", Str.ofString "read_randomize", Str.ofString "declarations", Str.ofString "MODES", Str.ofString "numbered_channel", Str.ofString "read_open", Str.ofString "read_close", Str.ofString "read_field", Str.ofString "read_set", Str.ofString "read_lset", Str.ofString "read_rset", Str.ofString "read_move", Str.ofString "read_get", Str.ofString "read_put", Str.ofString "read_write", Str.ofString "read_chain", Str.ofString "read_common", Str.ofString "file_statements", Str.ofString "FILLS", Str.ofString "SIGNS_OF_TWO", Str.ofString "bounds_at", Str.ofString "read_rows", Str.ofString "read_shown", Str.ofString "read_of_one", Str.ofString "read_form", Str.ofString "read_mat", Str.ofString "MOST_NESTED", Str.ofString "ONE_WORD", Str.ofString "KIND_WORDS", Str.ofString "read_let", Str.ofString "read_middle", Str.ofString "item_at", Str.ofString "read_print", Str.ofString "read_using", Str.ofString "prompt_at", Str.ofString "read_input", Str.ofString "read_line", Str.ofString "read_goto", Str.ofString "read_gosub", Str.ofString "read_on", Str.ofString "line_or_none", Str.ofString "read_return", Str.ofString "read_restore", Str.ofString "read_resume", Str.ofString "read_for", Str.ofString "read_next", Str.ofString "read_while", Str.ofString "statement_readers", Str.ofString "read_one", Str.ofString "read_part", Str.ofString "read_if", Str.ofString "read_some", Str.ofString "read_row", Str.ofString "_law_words", Str.ofString "_law_numbers", Str.ofString "_law_dip", Str.ofString "_law_heard", Str.ofString "_law_places", Str.ofString "_law_opened"]
end Mine
-- H1
open PySem PySem.W PyProof.Rows
namespace Mine
noncomputable def topT (ok : Thread → Bool) (stp : SharedT → Thread → Option (SharedT × Thread)) : Nat → SharedT → Thread → Option SharedT
  | 0, _, _ => none
  | n + 1, s, t => match through t with
    | true => some s
    | false => match ok t with
      | false => none
      | true => match stp s t with
        | some (s', t') => topT ok stp n s' t'
        | none => none
theorem topT_of {tb : String → Option Builtin} {p : Program} {w : World} {n₀ : Nat} {ann : Option Value} : ∀ {n : Nat} {s s' : SharedT} {t : Thread},
    topT (stepOk n₀ ann) (stepT (denote tb) p w) n s t = some s' → topRun tb p w n₀ ann n s.abs t = some s'.abs
  | 0, _, _, _, h => by simp [topT] at h
  | n + 1, s, s', t, h => by
    unfold topT at h
    unfold topRun
    cases ht : through t with
    | true => rw [ht] at h; simp only [Option.some.injEq] at h; rw [h]
    | false =>
      rw [ht] at h
      cases hk : stepOk n₀ ann t with
      | false => rw [hk] at h; simp at h
      | true =>
        rw [hk] at h
        cases hs : stepT (denote tb) p w s t with
        | none => rw [hs] at h; simp at h
        | some r =>
          obtain ⟨s₂, t₂⟩ := r
          rw [hs] at h
          rw [stepT_spec hs]
          exact topT_of h
noncomputable def treeOf (h : Heap) : BT × Nat := h.objs.toList.foldl (fun x o => (x.1.ins x.2 o, x.2 + 1)) (.nil, 0)
noncomputable def bootT (w : World) (os : OsState) : SharedT := ⟨(treeOf (boot_heap w.params)).1, 11, (boot_heap w.params).life, #[], boot_drawn, boot_toks, os⟩
theorem bootT_abs (w : World) (os : OsState) : (bootT w os).abs = ⟨boot_heap w.params, #[], boot_drawn, boot_toks, os⟩ := by kernel_rfl
theorem boot_size (w : World) : ((boot_heap w.params).isNs mainGlobals && (#[] : Array GenState).size == 0, (boot_heap w.params).objs.size, (boot_heap w.params).nsMap mainGlobals "__annotations__") = (true, 11, some (.ref 6)) := by kernel_rfl
abbrev rowW : RowW := PySem.Challenge.rw_pf0024_01.row.toRowW
noncomputable def hookK : Hook := kHook heapK asK asK_eq
noncomputable abbrev seeX : Shared → Bool := fun s => xlAt viewK [] s && recOk rowW.records s
noncomputable def endT (P : Params) (os : OsState) : SharedT := ⟨treeK P, 812, (boot_heap P).life, #[], {}, 1481, os⟩
abbrev Ran (b : Bool) : Prop := ∀ (w : World) (os : OsState),
    topT (stepOk 11 (some (.ref 6))) (stepT (denote treeTable) pw (w.withFollow "special-get-raises" b)) 4900 (bootT w os) (topStub pw) = some (endT w.params os)
theorem ran0 : Ran false := by
  unfold Ran
  rw [PySem.W.Fast.te6613529449190102663, PySem.W.Fast.te10156331382660048174, PySem.W.Fast.te11892475500146522536, PySem.W.Fast.te14364793385576792824]
  intro w os; kernel_rfl
theorem ran1 : Ran true := by
  unfold Ran
  rw [PySem.W.Fast.te6613529449190102663, PySem.W.Fast.te10156331382660048174, PySem.W.Fast.te11892475500146522536, PySem.W.Fast.te14364793385576792824]
  intro w os; kernel_rfl
noncomputable def heapF (P : Params) : Heap := ⟨((mergeK 812 (heapK P) (restK P)).map (·.2)).toArray, (boot_heap P).life⟩
theorem endT_abs (P : Params) (os : OsState) : (endT P os).abs = ⟨heapF P, #[], {}, 1481, os⟩ := by kernel_rfl
theorem top_ran (w : World) (os : OsState) : topRun treeTable pw w 11 (some (.ref 6)) 4900 ⟨boot_heap w.params, #[], boot_drawn, boot_toks, os⟩ (topStub pw) = some ⟨heapF w.params, #[], {}, 1481, os⟩ := by
  have e := World.withFollow_self w "special-get-raises"
  have h : topT (stepOk 11 (some (.ref 6))) (stepT (denote treeTable) pw (w.withFollow "special-get-raises" (w.params.followText "special-get-raises"))) 4900 (bootT w os) (topStub pw) = some (endT w.params os) := by
    cases w.params.followText "special-get-raises"
    · exact ran0 w os
    · exact ran1 w os
  rw [e] at h
  have r := topT_of h
  rw [bootT_abs, endT_abs] at r
  exact r
end Mine
-- H2
open PySem PySem.W PyProof.Rows
namespace Mine
theorem seen_all {q : Program} {loose mods : List Str} {Xt : Shared → Bool} {s : Shared}
    (h1 : seen ((recsOf q).map (·.name)) (ownsOf q) [] { s with gens := #[] } = expectedOf q) (h2 : s.heap.bltView = bltViewBooted)
    (h3a : s.heap.keysOk (looseW q loose) ((recsOf q).map (·.name)) ((litsOf q).map (·.1)) ((clssOf q (looseW q loose)).map (·.name)) = true)
    (b1 : s.heap.accountedOkI mods = true) (b2 : s.heap.isNs mainGlobals = true) (b3 : s.heap.isNs builtinsNs = true) (b4 : tablesOk q s.heap = true) (b5 : Xt s = true) (hg : s.gens = #[])
    (h4 : tabsOk q s = true) (h5 : pinSeenD q (drecsOf q) s = pinGoodD (drecsOf q)) (h6 : plainSeenE q (looseW q loose) s = plainGoodE q (looseW q loose))
    (h7 : plainSeenD q loose s = plainGoodD q loose) (h8 : wideSeen q s = wideGood q) (h9 : clsSeenW q loose s = clsGoodW q loose) : openSeen q loose mods Xt true s = openGood q loose := by
  unfold openSeen openGood
  have e : (s.gens.size == 0) = true := by rw [hg]; rfl
  rw [h1, h2, h3a, b1, b2, b3, b4, b5, h4, h5, h6, h7, h8, h9]
  simp only [e, if_true, Bool.and_true]
theorem left_of {p q : Program} {loose : List Str} {Xt : Shared → Bool} {K : Params → Frag} {as : List Addr} (e : ∀ P, as = (K P).map (·.1)) {N : Nat} {H₀ H₁ : Params → Heap} {d₀ d₁ : Drawn} {k₀ k₁ : Nat} {m₀ : Nat} {ann : Option Value} {M : Nat}
    (open_ : ∀ w : World, (fencedOpening treeTable p w N).map (fun s => (s.heap, s.gens, s.drawn, s.toks)) = some (H₀ w.params, #[], d₀, k₀))
    (size : ∀ w : World, ((H₀ w.params).isNs mainGlobals && (#[] : Array GenState).size == 0, (H₀ w.params).objs.size, (H₀ w.params).nsMap mainGlobals "__annotations__") = (true, m₀, ann))
    (run : ∀ (w : World) (os : OsState), topRun treeTable p w m₀ ann M ⟨H₀ w.params, #[], d₀, k₀, os⟩ (topStub p) = some ⟨H₁ w.params, #[], d₁, k₁, os⟩) (le : Nat.ble M N = true)
    (l0 : ∀ P os, (staticsOk (importedModules p.main.body) (H₀ P) (H₁ P) && namesBound p (H₁ P) && gensDone ⟨H₁ P, #[], d₁, k₁, os⟩ && laidKept (H₀ P) (H₁ P)) = true)
    (l1 : ∀ P os, openSeen q loose (importedModules p.main.body) Xt true ⟨H₁ P, #[], d₁, k₁, os⟩ = openGood q loose)
    (lh : ∀ P, as.map (H₁ P).get? = (K P).map fun x => some x.2) : LeftO p q loose Xt (kHook K as e).obs (kHook K as e).val N :=
  LeftO.of_pieces open_ size run le fun w => by
    funext os
    exact Prod.ext (l0 w.params os) (Prod.ext (l1 w.params os) (lh w.params))
noncomputable abbrev endS (P : Params) (os : OsState) : Shared := ⟨heapF P, #[], {}, 1481, os⟩
theorem look0 (P : Params) (os : OsState) : (staticsOk (importedModules pw.main.body) (boot_heap P) (heapF P) && namesBound pw (heapF P) && gensDone (endS P os) && laidKept (boot_heap P) (heapF P)) = true := by kernel_rfl
theorem look_1 (P : Params) (os : OsState) : seen ((recsOf viewK).map (·.name)) (ownsOf viewK) [] { endS P os with gens := #[] } = expectedOf viewK := by kernel_rfl
theorem look_2 (P : Params) : (heapF P).bltView = bltViewBooted := by kernel_rfl
theorem look_4 (P : Params) (os : OsState) : tabsOk viewK (endS P os) = true := by kernel_rfl
theorem look_5 (P : Params) (os : OsState) : pinSeenD viewK (drecsOf viewK) (endS P os) = pinGoodD (drecsOf viewK) := by kernel_rfl
theorem look_6 (P : Params) (os : OsState) : plainSeenE viewK (looseW viewK namesL) (endS P os) = plainGoodE viewK (looseW viewK namesL) := by kernel_rfl
theorem look_7 (P : Params) (os : OsState) : plainSeenD viewK namesL (endS P os) = plainGoodD viewK namesL := by kernel_rfl
theorem look_8 (P : Params) (os : OsState) : wideSeen viewK (endS P os) = wideGood viewK := by kernel_rfl
theorem look_9 (P : Params) (os : OsState) : clsSeenW viewK namesL (endS P os) = clsGoodW viewK namesL := by kernel_rfl
theorem look_3a (P : Params) : (heapF P).keysOk (looseW viewK namesL) ((recsOf viewK).map (·.name)) ((litsOf viewK).map (·.1)) ((clssOf viewK (looseW viewK namesL)).map (·.name)) = true := by kernel_rfl
theorem look_b1 (P : Params) : (heapF P).accountedOkI (importedModules pw.main.body) = true := by kernel_rfl
theorem look_b2 (P : Params) : (heapF P).isNs mainGlobals = true := by kernel_rfl
theorem look_b3 (P : Params) : (heapF P).isNs builtinsNs = true := by kernel_rfl
theorem look_b4 (P : Params) : tablesOk viewK (heapF P) = true := by kernel_rfl
theorem look_b5 (P : Params) (os : OsState) : seeX (endS P os) = true := by kernel_rfl
-- the fragment within the whole
theorem mem_merge : ∀ (n : Nat) (xs ys : Frag), xs.length + ys.length ≤ n → ∀ x ∈ xs, x ∈ mergeK n xs ys
  | 0, [], _, _, x, m => nomatch m
  | 0, _ :: _, _, h, _, _ => by simp at h
  | n + 1, [], ys, _, x, m => nomatch m
  | n + 1, a :: xs, [], _, x, m => m
  | n + 1, a :: xs, b :: ys, h, x, m => by
    unfold mergeK
    simp only [List.length_cons] at h
    cases Nat.blt a.1 b.1 with
    | true =>
      rcases List.mem_cons.mp m with q | q
      · exact List.mem_cons.mpr (.inl q)
      · exact List.mem_cons.mpr (.inr (mem_merge n xs (b :: ys) (by simp only [List.length_cons]; omega) x q))
    | false => exact List.mem_cons.mpr (.inr (mem_merge n (a :: xs) ys (by simp only [List.length_cons]; omega) x m))
noncomputable def inRow : Nat → List Nat → Bool
  | _, [] => true
  | i, a :: r => match Nat.beq a i with | true => inRow (i + 1) r | false => false
theorem get_row : ∀ (xs : Frag) (i : Nat), inRow i (xs.map (·.1)) = true → ∀ (k : Nat) (o : Obj), (k, o) ∈ xs → i ≤ k ∧ (xs.map (·.2))[k - i]? = some o
  | [], _, _, _, _, m => nomatch m
  | a :: xs, i, h, k, o, m => by
    simp only [List.map_cons, inRow] at h
    cases hb : Nat.beq a.1 i with
    | false => rw [hb] at h; cases h
    | true =>
      rw [hb] at h
      have e : a.1 = i := Nat.eq_of_beq_eq_true hb
      rcases List.mem_cons.mp m with q | q
      · subst q; subst e; simp
      · obtain ⟨h1, h2⟩ := get_row xs (i + 1) h k o q
        refine ⟨by omega, ?_⟩
        have e2 : k - i = (k - (i + 1)) + 1 := by omega
        rw [e2, List.map_cons, List.getElem?_cons_succ]
        exact h2
theorem row_all (P : Params) : inRow 0 ((mergeK 812 (heapK P) (restK P)).map (·.1)) = true := by kernel_rfl
theorem row_len (P : Params) : Nat.ble ((heapK P).length + (restK P).length) 812 = true := by kernel_rfl
noncomputable def live : Obj → Bool
  | ⟨_, _, .freed, _⟩ => false
  | _ => true
theorem get_live {h : Heap} {a : Addr} {o : Obj} (e : h.objs[a]? = some o) (l : live o = true) : h.get? a = some o := by
  unfold Heap.get?
  rw [e]
  split
  · rename_i e'
    cases e'
    cases l
  · rfl
theorem row_live (P : Params) : ((heapK P).all fun x => live x.2) = true := by kernel_rfl
theorem look_h (P : Params) : asK.map (heapF P).get? = (heapK P).map fun p => some p.2 := by
  rw [asK_eq P, List.map_map]
  refine List.map_congr_left fun x hx => ?_
  obtain ⟨_, h⟩ := get_row _ 0 (row_all P) x.1 x.2 (mem_merge 812 _ _ (Nat.le_of_ble_eq_true (row_len P)) x hx)
  exact get_live (h := heapF P) ((List.getElem?_toArray ..).trans h) (List.all_eq_true.mp (row_live P) x hx)
theorem look_all (P : Params) (os : OsState) : openSeen viewK namesL (importedModules pw.main.body) seeX true (endS P os) = openGood viewK namesL :=
  seen_all (look_1 P os) (look_2 P) (look_3a P) (look_b1 P) (look_b2 P) (look_b3 P) (look_b4 P) (look_b5 P os) rfl (look_4 P os) (look_5 P os) (look_6 P os) (look_7 P os) (look_8 P os) (look_9 P os)
theorem opens : opening pw = plainProg pw.main.scope.names := by kernel_rfl
theorem fences (s : Shared) : fenceModules? pw s = some s := by kernel_rfl
theorem left : LeftO pw viewK namesL seeX hookK.obs hookK.val 4900 :=
  left_of asK_eq (H₀ := boot_heap) (boot_open opens (by decide) fences) boot_size top_ran (by decide) look0 look_all look_h
end Mine
-- H3
open PySem PySem.W PyProof.Rows
namespace Mine
theorem bare0 : List.filter (readsOut pw pw.main.body) [Str.ofString "vars", Str.ofString "dir", Str.ofString "locals"] = [] := by
  rw [PySem.W.Fast.te13343964577679436407]
  kernel_rfl
theorem imps0 : (!(importedModules pw.main.body).all cThrough.contains) = false := by kernel_rfl
theorem res0 : namesResolve pw = true := by
  rw [PySem.W.Fast.te8377067652309620493]
  kernel_rfl
theorem meet0 : (namesMeet pw pw.main.body fun x n => attrL n) = true := by
  rw [PySem.W.Fast.te17119622794617984870, PySem.W.Fast.te17868728402115742887]
  kernel_rfl
theorem road0 : noRoadLSs { strict := false, foot := none, bare := [] } pw.main.body = true := by
  rw [PySem.W.Fast.te8326940854005059898]
  kernel_rfl
theorem road0' : noRoadLSs { strict := !(importedModules pw.main.body).all cThrough.contains, foot := none, bare := List.filter (readsOut pw pw.main.body) [Str.ofString "vars", Str.ofString "dir", Str.ofString "locals"] } pw.main.body = true := by
  rw [imps0, bare0]
  exact road0
theorem meet1 : (namesMeet PySem.Challenge.rw_pf0024_01.prog PySem.Challenge.rw_pf0024_01.above fun x n => !PySem.Challenge.rw_pf0024_01.own.contains n) = true := by
  rw [PySem.W.Fast.te17119622794617984870, PySem.W.Fast.te10792542408131684335]
  kernel_rfl
theorem reads1 : (PySem.Challenge.rw_pf0024_01.bound'.all fun n => !builtinNamed n || PySem.Challenge.rw_pf0024_01.about == [n] || !PySem.Challenge.rw_pf0024_01.reads n) = true := by
  rw [PySem.W.Fast.te797321630700447069, PySem.W.Fast.te6984425678791042302, PySem.W.Fast.named_eq]
  kernel_rfl
theorem looks0 : looksOpen pw = true := by
  unfold looksOpen
  exact look_both (look_both (look_both (look_both (look_both (by kernel_rfl) (by kernel_rfl)) res0) (by kernel_rfl)) road0') meet0
theorem part0 : PySem.Challenge.rw_pf0024_01.row.wellSaid = true := by
  unfold OpenRow.wellSaid OpenRow.partSaid
  repeat' with_reducible refine look_both ?_ ?_
  · exact looks0
  all_goals kernel_rfl
theorem said : PySem.Challenge.rw_pf0024_01.wellSaid = true := by
  unfold OpenLaw.wellSaid
  repeat' with_reducible refine look_both ?_ ?_
  · exact part0
  all_goals first | with_reducible exact meet1 | with_reducible exact reads1 | kernel_rfl
end Mine
-- H4
open PySem PySem.W PyProof.Rows
namespace Mine
noncomputable def lawD : DefRec := match stm 142 with | .FunctionDef name args body _ _ _ scope _ _ pos => ⟨name, args, body, scope, pos⟩ | _ => ⟨default, default, default, default, default⟩
theorem def_law : defOf viewK PySem.Challenge.rw_pf0024_01.row.name = some (lawD, []) := by kernel_rfl
theorem the_law : PySem.Challenge.rw_pf0024_01.row.prog.theDef PySem.Challenge.rw_pf0024_01.row.name = some (lawD.params, lawD.body, lawD.scope) := by kernel_rfl
theorem kw_law : kwWritten? lawD.params.kwonlyargs lawD.params.kw_defaults = some [] := by kernel_rfl
theorem chains_ok : (chainsOk viewK && opensWell PySem.Challenge.rw_pf0024_01.row.prog && (frees PySem.Challenge.rw_pf0024_01.row.toRowW && PySem.Challenge.rw_pf0024_01.row.within.isEmpty)) = true := by kernel_rfl
theorem law_bare : PySem.Challenge.rw_pf0024_01.row.prog.bare := ⟨rfl, rfl, rfl, rfl, rfl, by decide +kernel⟩
theorem law_promised : PySem.Challenge.rw_pf0024_01.row.toRowW.promised := ⟨[.list []], by decide +kernel, by decide +kernel⟩
theorem head (call : WalkO viewK namesL (XL viewK []) hookK.says PySem.Challenge.rw_pf0024_01.row.toRowW lawD [] fun f vs => PySem.call f vs) : PySem.Challenge.rw_pf0024_01.Holds :=
  holds_law said fun k1 => holds_open (Xt := seeX) left hookK.of hookK.keeps (fun s e => xl_of s (Bool.and_eq_true_iff.mp e).1) XL.keeps def_law the_law kw_law (fun s e => recFacts_of (Bool.and_eq_true_iff.mp e).2) rfl k1 chains_ok law_bare law_promised call
end Mine
-- MIr0
namespace Mine
noncomputable abbrev Txt := List Nat

inductive D where
  | unb | none
  | bool (b : Bool)
  | int (i : Int)
  | str (l : Txt)
  | ref (i : Nat)
  | fn (k : Nat)
  | tup (ds : List D)

inductive Ob where
  | list (ds : List D)
  | dict (es : List (Txt × D))
  | lev (fs : List D)
  | ns
noncomputable abbrev Sg := List Ob

inductive Op where
  | eq | ne | lt | le | gt | ge | mem | nmem | isnot

inductive Ex where
  | lit (d : D)
  | loc (x : Nat)
  | glb (n : Txt) (d : D)
  | cmp (op : Op) (l r : Ex)
  | btw (l m r : Ex)
  | nt (e : Ex)
  | neg (n : Nat)
  | bop (isAnd : Bool) (es : List Ex)
  | ife (t a b : Ex)
  | add (l r : Ex)
  | mns (l r : Ex)
  | mul (l r : Ex)
  | call (f : Nat) (es : List Ex)
  | callv (x : Nat) (es : List Ex)
  | len (e : Ex)
  | ord (e : Ex)
  | lev (a b : Ex)
  | app (o e : Ex)
  | ext (o e : Ex)
  | upd (o e : Ex)
  | pop (o : Ex)
  | find (o a b c : Ex)
  | spl (k : Nat)
  | attr (o : Ex) (j : Nat)
  | sub (o i : Ex)
  | slc (o : Ex) (lo hi : Option Ex)
  | tup (es : List Ex)
  | lst (es : List Ex)
  | dct (ks : List Txt) (fs : List (Txt × Nat))

inductive St where
  | asg (x : Nat) (e : Ex)
  | asgT (xs : List Nat) (e : Ex)
  | aug (x : Nat) (e : Ex)
  | ex (e : Ex)
  | ret (e : Ex)
  | ifs (t : Ex) (a b : List St)
  | whl (t : Ex) (b : List St)
  | rai (a b : Ex)
  | fors (x : Nat) (e : Ex) (b : List St)
  | dead

inductive Bd where
  | body (ss : List St)
  | hand
  | never
structure Fn where
  name : Txt
  arity : Nat
  slots : List Txt
  bd : Bd

inductive Fl where
  | next
  | ret (d : D)
inductive Ans where
  | v (d : D)
  | vs (ds : List D)
  | b (b : Bool)
  | f (fl : Fl) (ρ : List D)
inductive R where
  | stuck
  | exc (c : Txt) (σ : Sg)
  | ok (a : Ans) (σ : Sg)

inductive Task where
  | E (x : Ex) (ρ : List D)
  | Es (xs : List Ex) (ρ : List D)
  | T (x : Ex) (ρ : List D)
  | Ts (isAnd : Bool) (xs : List Ex) (ρ : List D)
  | Vs (isAnd : Bool) (xs : List Ex) (ρ : List D)
  | S (s : St) (ρ : List D)
  | Ss (ss : List St) (ρ : List D)
  | C (f : Nat) (ds : List D)

noncomputable def nth {α : Type} : List α → Nat → Option α
  | [], _ => none
  | x :: l, n => match n with
    | 0 => some x
    | n + 1 => nth l n
noncomputable def put {α : Type} : List α → Nat → α → List α
  | [], _, _ => []
  | x :: l, n, y => match n with
    | 0 => y :: l
    | n + 1 => x :: put l n y
noncomputable def beqL : Txt → Txt → Bool
  | [], [] => true
  | x :: l, y :: m => match Nat.beq x y with
    | true => beqL l m
    | false => false
  | _, _ => false
noncomputable def leL : Txt → Txt → Bool
  | [], _ => true
  | _ :: _, [] => false
  | x :: l, y :: m => match Nat.blt x y with
    | true => true
    | false => match Nat.beq x y with
      | true => leL l m
      | false => false
noncomputable def hasN : List Nat → Nat → Bool
  | [], _ => false
  | x :: l, y => match Nat.beq x y with
    | true => true
    | false => hasN l y
noncomputable def hasL : List Txt → Txt → Bool
  | [], _ => false
  | x :: l, y => match beqL x y with
    | true => true
    | false => hasL l y
noncomputable def beqLL : List Txt → List Txt → Bool
  | [], [] => true
  | x :: l, y :: m => match beqL x y with
    | true => beqLL l m
    | false => false
  | _, _ => false
noncomputable def strsD : List D → Option (List Txt)
  | [] => some []
  | d :: ds => match d with
    | .str l => match strsD ds with
      | some r => some (l :: r)
      | none => none
    | _ => none
noncomputable def leI : Int → Int → Bool
  | .ofNat a, .ofNat b => Nat.ble a b
  | .ofNat _, .negSucc _ => false
  | .negSucc _, .ofNat _ => true
  | .negSucc a, .negSucc b => Nat.ble b a
noncomputable def eqI : Int → Int → Bool
  | .ofNat a, .ofNat b => Nat.beq a b
  | .ofNat _, .negSucc _ => false
  | .negSucc _, .ofNat _ => false
  | .negSucc a, .negSucc b => Nat.beq a b
noncomputable def dget : List (Txt × D) → Txt → Option D
  | [], _ => none
  | p :: l, k => match beqL p.1 k with
    | true => some p.2
    | false => dget l k
noncomputable def dhas : List (Txt × D) → Txt → Bool
  | [], _ => false
  | p :: l, k => match beqL p.1 k with
    | true => true
    | false => dhas l k
noncomputable def dmod : List (Txt × D) → Txt → D → List (Txt × D)
  | [], _, _ => []
  | p :: l, k, d => match beqL p.1 k with
    | true => (p.1, d) :: dmod l k d
    | false => p :: dmod l k d
noncomputable def dput (es : List (Txt × D)) (k : Txt) (d : D) : List (Txt × D) := match dhas es k with
  | true => dmod es k d
  | false => es ++ [(k, d)]
noncomputable def dputs : List (Txt × D) → List (Txt × D) → List (Txt × D)
  | es, [] => es
  | es, p :: l => dputs (dput es p.1 p.2) l

noncomputable def okT : Txt → Bool
  | [] => true
  | x :: l => match Nat.blt x 1114112 with
    | true => okT l
    | false => false
noncomputable def okTs : List Txt → Bool
  | [] => true
  | x :: l => match okT x with
    | true => okTs l
    | false => false
noncomputable def small (n : Nat) : Bool := Nat.blt n 1000000
noncomputable def eqD : D → D → Option Bool
  | .str x, .str y => some (beqL x y)
  | .int x, .int y => some (eqI x y)
  | .none, .int _ => some false
  | .tup xs, .tup ys => match strsD xs, strsD ys with
    | some a, some b => match okTs a, okTs b with
      | true, true => some (beqLL a b)
      | _, _ => none
    | _, _ => none
  | _, _ => none
noncomputable def memD (σ : Sg) : D → D → Option Bool
  | .str x, .tup ys => match strsD ys with
    | some b => some (hasL b x)
    | none => none
  | .str x, .ref i => match nth σ i with
    | some (.list ys) => match strsD ys with
      | some b => some (hasL b x)
      | none => none
    | some (.dict es) => match dget es x with
      | some _ => some true
      | none => some false
    | _ => none
  | .str x, .str y => match x with
    | [c] => some (hasN y c)
    | _ => none
  | _, _ => none
noncomputable def notO : Option Bool → Option Bool
  | some b => some (!b)
  | none => none
noncomputable def ltD : D → D → Option Bool
  | .int x, .int y => some (!(leI y x))
  | _, _ => none
noncomputable def leD : D → D → Option Bool
  | .int x, .int y => some (leI x y)
  | _, _ => none
noncomputable def isnotD : D → D → Option Bool
  | .none, .none => some false
  | .tup _, .none => some true
  | _, _ => none
noncomputable def cmpD (σ : Sg) (op : Op) (a b : D) : Option Bool := match op with
  | .eq => eqD a b
  | .ne => notO (eqD a b)
  | .lt => ltD a b
  | .le => leD a b
  | .gt => ltD b a
  | .ge => leD b a
  | .mem => memD σ a b
  | .nmem => notO (memD σ a b)
  | .isnot => isnotD a b
noncomputable def lesD : D → D → Option Bool
  | .str x, .str y => some (leL x y)
  | _, _ => none
noncomputable def addD (σ : Sg) : D → D → Option (D × Sg)
  | .int x, .int y => some (.int (x + y), σ)
  | .str x, .str y => match small (x.length + y.length) with
    | true => some (.str (x ++ y), σ)
    | false => none
  | .ref i, .ref j => match nth σ i, nth σ j with
    | some (.list xs), some (.list ys) => match small (xs.length + ys.length) with
      | true => some (.ref σ.length, σ ++ [.list (xs ++ ys)])
      | false => none
    | _, _ => none
  | _, _ => none
noncomputable def natOf : Int → Option Nat
  | .ofNat n => match small n with
    | true => some n
    | false => none
  | .negSucc _ => none
noncomputable def idx {α : Type} (l : List α) : Int → Option α
  | .ofNat n => match small n with
    | true => nth l n
    | false => none
  | .negSucc n => match Nat.blt n l.length, small n with
    | true, true => nth l (l.length - (n + 1))
    | _, _ => none
noncomputable def subD (σ : Sg) : D → D → Option D
  | .str l, .int i => match natOf i with
    | some n => match nth l n with
      | some c => some (.str [c])
      | none => none
    | none => none
  | .tup ds, .int i => idx ds i
  | .ref j, .int i => match nth σ j with
    | some (.list ds) => idx ds i
    | _ => none
  | .ref j, .str k => match nth σ j with
    | some (.dict es) => dget es k
    | _ => none
  | _, _ => none
noncomputable def slcD : D → Option D → Option D → Option D
  | .str l, some (.int i), some (.int j) => match natOf i, natOf j with
    | some m, some n => match Nat.ble m n, small l.length with
      | true, true => some (.str ((l.take n).drop m))
      | _, _ => none
    | _, _ => none
  | .str l, some (.int i), none => match natOf i with
    | some m => match small l.length with
      | true => some (.str (l.drop m))
      | false => none
    | _ => none
  | .str l, none, some (.int j) => match natOf j with
    | some n => match small l.length with
      | true => some (.str (l.take n))
      | false => none
    | _ => none
  | _, _, _ => none
noncomputable def lenD (σ : Sg) : D → Option Int
  | .str l => match small l.length with
    | true => some (.ofNat l.length)
    | false => none
  | .ref i => match nth σ i with
    | some (.list ds) => match small ds.length with
      | true => some (.ofNat ds.length)
      | false => none
    | _ => none
  | _ => none
noncomputable def butLast {α : Type} : List α → Option (List α × α)
  | [] => none
  | [x] => some ([], x)
  | x :: y :: l => match butLast (y :: l) with
    | some p => some (x :: p.1, p.2)
    | none => none
noncomputable def capN (c : Nat) : Nat := match Nat.ble 97 c with
  | true => match Nat.ble c 122 with
    | true => c - 32
    | false => c
  | false => c
noncomputable def cap (l : Txt) : Txt := l.map capN

noncomputable def bindV (r : R) (f : D → Sg → R) : R := match r with
  | .ok a σ => match a with
    | .v d => f d σ
    | _ => .stuck
  | .exc c σ => .exc c σ
  | .stuck => .stuck
noncomputable def bindVs (r : R) (f : List D → Sg → R) : R := match r with
  | .ok a σ => match a with
    | .vs d => f d σ
    | _ => .stuck
  | .exc c σ => .exc c σ
  | .stuck => .stuck
noncomputable def bindB (r : R) (f : Bool → Sg → R) : R := match r with
  | .ok a σ => match a with
    | .b d => f d σ
    | _ => .stuck
  | .exc c σ => .exc c σ
  | .stuck => .stuck
noncomputable def bindF (r : R) (f : List D → Sg → R) (g : D → List D → Sg → R) : R := match r with
  | .ok a σ => match a with
    | .f fl ρ => match fl with
      | .next => f ρ σ
      | .ret d => g d ρ σ
    | _ => .stuck
  | .exc c σ => .exc c σ
  | .stuck => .stuck
/-- no exception on its way -/
noncomputable def noX : R → R
  | .exc _ _ => .stuck
  | r => r
noncomputable def forsR (body : List D → Sg → R) (x : Nat) : Txt → List D → Sg → R
  | [], ρ, σ => .ok (.f .next ρ) σ
  | c :: l, ρ, σ => bindF (noX (body (put ρ x (.str [c])) σ)) (fun ρ σ => forsR body x l ρ σ) fun d ρ σ => .ok (.f (.ret d) ρ) σ
noncomputable def vO (σ : Sg) : Option D → R
  | some d => .ok (.v d) σ
  | none => .stuck
noncomputable def bO (σ : Sg) : Option Bool → R
  | some d => .ok (.v (.bool d)) σ
  | none => .stuck
noncomputable def puts : List D → List Nat → List D → List D
  | ρ, x :: xs, d :: ds => puts (put ρ x d) xs ds
  | ρ, _, _ => ρ
noncomputable def nodupN : List Nat → Bool
  | [] => true
  | x :: l => match hasN l x with
    | true => false
    | false => nodupN l
noncomputable def findD : D → D → D → D → Option D
  | .str l, .str [c], .int i, .int j => match natOf i, natOf j with
    | some m, some n => match hasN ((l.take n).drop m) c with
      | true => none
      | false => some (.int (.negSucc 0))
    | _, _ => none
  | _, _, _, _ => none
noncomputable def isListD (σ : Sg) : D → Option Nat
  | .ref i => match nth σ i with
    | some (.list _) => some i
    | _ => none
  | _ => none
noncomputable def isDictD (σ : Sg) : D → Option Nat
  | .ref i => match nth σ i with
    | some (.dict _) => some i
    | _ => none
  | _ => none
noncomputable def isStrD : D → Bool
  | .str _ => true
  | _ => false
noncomputable def blanks : Nat → List D
  | 0 => []
  | n + 1 => .unb :: blanks n
noncomputable def zipF : List Txt → List (Txt × Nat) → List (Txt × D)
  | k :: ks, f :: fs => (k, .fn f.2) :: zipF ks fs
  | _, _ => []

section
variable (F : List Fn) (W : List (Txt × List Txt)) (k0 : Nat)
/-- an object that may be turned: not one of the module's own -/
noncomputable def own (σ : Sg) (i : Nat) : Option Ob := match Nat.ble k0 i with
  | true => nth σ i
  | false => none
noncomputable def stepE (ih : Task → Sg → R) (x : Ex) (ρ : List D) (σ : Sg) : R := match x with
  | .lit d => .ok (.v d) σ
  | .loc i => match nth ρ i with
    | some d => match d with
      | .unb => .stuck
      | d => .ok (.v d) σ
    | none => .stuck
  | .glb _ d => .ok (.v d) σ
  | .cmp op l r => bindV (ih (.E l ρ) σ) fun a σ => bindV (ih (.E r ρ) σ) fun b σ => bO σ (cmpD σ op a b)
  | .btw l m r => bindV (ih (.E l ρ) σ) fun a σ => bindV (ih (.E m ρ) σ) fun b σ => match lesD a b with
    | some true => bindV (ih (.E r ρ) σ) fun c σ => bO σ (lesD b c)
    | some false => .ok (.v (.bool false)) σ
    | none => .stuck
  | .nt e => bindV (ih (.E e ρ) σ) fun d σ => match d with
    | .bool b => .ok (.v (.bool (!b))) σ
    | _ => .stuck
  | .neg n => .ok (.v (.int (-(Int.ofNat n)))) σ
  | .bop a es => ih (.Vs a es ρ) σ
  | .ife t a b => bindB (ih (.T t ρ) σ) fun c σ => match c with
    | true => ih (.E a ρ) σ
    | false => ih (.E b ρ) σ
  | .add l r => bindV (ih (.E l ρ) σ) fun a σ => bindV (ih (.E r ρ) σ) fun b σ => match addD σ a b with
    | some p => .ok (.v p.1) p.2
    | none => .stuck
  | .mns l r => bindV (ih (.E l ρ) σ) fun a σ => bindV (ih (.E r ρ) σ) fun b σ => match a, b with
    | .int x, .int y => .ok (.v (.int (x - y))) σ
    | _, _ => .stuck
  | .mul l r => bindV (ih (.E l ρ) σ) fun a σ => bindV (ih (.E r ρ) σ) fun b σ => match a, b with
    | .int x, .int (.ofNat y) => match small y with
      | true => .ok (.v (.int (x * .ofNat y))) σ
      | false => .stuck
    | _, _ => .stuck
  | .call f es => bindVs (ih (.Es es ρ) σ) fun ds σ => ih (.C f ds) σ
  | .callv x es => match nth ρ x with
    | some (.fn f) => match nth F f with
      | some _ => bindVs (ih (.Es es ρ) σ) fun ds σ => ih (.C f ds) σ
      | none => .stuck
    | _ => .stuck
  | .len e => bindV (ih (.E e ρ) σ) fun d σ => match lenD σ d with
    | some n => .ok (.v (.int n)) σ
    | none => .stuck
  | .ord e => bindV (ih (.E e ρ) σ) fun d σ => match d with
    | .str [c] => .ok (.v (.int (.ofNat c))) σ
    | _ => .stuck
  | .lev a b => bindV (ih (.E a ρ) σ) fun a σ => bindV (ih (.E b ρ) σ) fun b σ =>
      .ok (.v (.ref (σ.length + 3))) (σ ++ [.list [], .list [], .list [], .lev [a, b, .ref σ.length, .ref (σ.length + 1), .ref (σ.length + 2)], .ns])
  | .app o e => bindV (ih (.E o ρ) σ) fun o σ => match isListD σ o with
    | some i => bindV (ih (.E e ρ) σ) fun d σ => match own k0 σ i with
      | some (.list ds) => match small ds.length with
        | true => .ok (.v .none) (put σ i (.list (ds ++ [d])))
        | false => .stuck
      | _ => .stuck
    | none => .stuck
  | .ext o e => bindV (ih (.E o ρ) σ) fun o σ => match isListD σ o with
    | some i => bindV (ih (.E e ρ) σ) fun d σ => match isListD σ d with
      | some j => match own k0 σ i, nth σ j with
        | some (.list ds), some (.list es) => match Nat.beq i j, small (ds.length + es.length) with
          | false, true => .ok (.v .none) (put σ i (.list (ds ++ es)))
          | _, _ => .stuck
        | _, _ => .stuck
      | none => .stuck
    | none => .stuck
  | .upd o e => bindV (ih (.E o ρ) σ) fun o σ => match isDictD σ o with
    | some i => bindV (ih (.E e ρ) σ) fun d σ => match isDictD σ d with
      | some j => match own k0 σ i, nth σ j with
        | some (.dict ds), some (.dict es) => match Nat.beq i j, small (ds.length + es.length) with
          | false, true => .ok (.v .none) (put σ i (.dict (dputs ds es)))
          | _, _ => .stuck
        | _, _ => .stuck
      | none => .stuck
    | none => .stuck
  | .pop o => bindV (ih (.E o ρ) σ) fun o σ => match isListD σ o with
    | some i => match own k0 σ i with
      | some (.list ds) => match butLast ds, small ds.length with
        | some p, true => .ok (.v p.2) (put σ i (.list p.1))
        | _, _ => .stuck
      | _ => .stuck
    | none => .stuck
  | .find o a b c => bindV (ih (.E o ρ) σ) fun o σ => match isStrD o with
    | true => bindV (ih (.E a ρ) σ) fun a σ => bindV (ih (.E b ρ) σ) fun b σ => bindV (ih (.E c ρ) σ) fun c σ => vO σ (findD o a b c)
    | false => .stuck
  | .spl k => match nth W k with
    | some p => .ok (.v (.ref σ.length)) (σ ++ [.list (p.2.map .str)])
    | none => .stuck
  | .attr o j => bindV (ih (.E o ρ) σ) fun o σ => match o with
    | .ref i => match nth σ i with
      | some (.lev fs) => vO σ (nth fs j)
      | _ => .stuck
    | _ => .stuck
  | .sub o i => bindV (ih (.E o ρ) σ) fun o σ => bindV (ih (.E i ρ) σ) fun i σ => vO σ (subD σ o i)
  | .slc o lo hi => bindV (ih (.E o ρ) σ) fun o σ => match lo with
    | none => match hi with
      | none => .stuck
      | some h => bindV (ih (.E h ρ) σ) fun h σ => vO σ (slcD o none (some h))
    | some l => bindV (ih (.E l ρ) σ) fun l σ => match hi with
      | none => vO σ (slcD o (some l) none)
      | some h => bindV (ih (.E h ρ) σ) fun h σ => vO σ (slcD o (some l) (some h))
  | .tup es => bindVs (ih (.Es es ρ) σ) fun ds σ => match small ds.length with
    | true => .ok (.v (.tup ds)) σ
    | false => .stuck
  | .lst es => bindVs (ih (.Es es ρ) σ) fun ds σ => match small ds.length with
    | true => .ok (.v (.ref σ.length)) (σ ++ [.list ds])
    | false => .stuck
  | .dct ks fs => .ok (.v (.ref σ.length)) (σ ++ [.dict (dputs [] (zipF ks fs))])
noncomputable def stepT (ih : Task → Sg → R) (x : Ex) (ρ : List D) (σ : Sg) : R := match x with
  | .nt e => bindB (ih (.T e ρ) σ) fun b σ => .ok (.b (!b)) σ
  | .bop a es => ih (.Ts a es ρ) σ
  | .ife t a b => bindB (ih (.T t ρ) σ) fun c σ => match c with
    | true => ih (.T a ρ) σ
    | false => ih (.T b ρ) σ
  | .cmp op l r => bindV (ih (.E l ρ) σ) fun a σ => bindV (ih (.E r ρ) σ) fun b σ => match cmpD σ op a b with
    | some b => .ok (.b b) σ
    | none => .stuck
  | .btw l m r => bindV (ih (.E l ρ) σ) fun a σ => bindV (ih (.E m ρ) σ) fun b σ => match lesD a b with
    | some true => bindV (ih (.E r ρ) σ) fun c σ => match lesD b c with
      | some b => .ok (.b b) σ
      | none => .stuck
    | some false => .ok (.b false) σ
    | none => .stuck
  | .lit d => match d with
    | .bool b => .ok (.b b) σ
    | _ => .stuck
  | .loc i => match nth ρ i with
    | some d => match d with
      | .bool b => .ok (.b b) σ
      | _ => .stuck
    | none => .stuck
  | .call f es => bindVs (ih (.Es es ρ) σ) fun ds σ => bindV (ih (.C f ds) σ) fun d σ => match d with
    | .bool b => .ok (.b b) σ
    | _ => .stuck
  | _ => .stuck
noncomputable def stepS (ih : Task → Sg → R) (s : St) (ρ : List D) (σ : Sg) : R := match s with
  | .asg x e => bindV (ih (.E e ρ) σ) fun d σ => .ok (.f .next (put ρ x d)) σ
  | .asgT xs e => bindV (ih (.E e ρ) σ) fun d σ => match d with
    | .tup ds => match Nat.beq ds.length xs.length, nodupN xs with
      | true, true => .ok (.f .next (puts ρ xs ds)) σ
      | _, _ => .stuck
    | _ => .stuck
  | .aug x e => match nth ρ x with
    | some (.int a) => bindV (ih (.E e ρ) σ) fun d σ => match d with
      | .int b => .ok (.f .next (put ρ x (.int (a + b)))) σ
      | _ => .stuck
    | _ => .stuck
  | .ex e => bindV (ih (.E e ρ) σ) fun _ σ => .ok (.f .next ρ) σ
  | .ret e => bindV (ih (.E e ρ) σ) fun d σ => .ok (.f (.ret d) ρ) σ
  | .ifs t a b => bindB (ih (.T t ρ) σ) fun c σ => match c with
    | true => ih (.Ss a ρ) σ
    | false => ih (.Ss b ρ) σ
  | .whl t b => bindB (ih (.T t ρ) σ) fun c σ => match c with
    | true => bindF (ih (.Ss b ρ) σ) (fun ρ σ => ih (.S (.whl t b) ρ) σ) fun d ρ σ => .ok (.f (.ret d) ρ) σ
    | false => .ok (.f .next ρ) σ
  | .rai a b => bindV (ih (.E a ρ) σ) fun a σ => bindV (ih (.E b ρ) σ) fun _ σ => match a with
    | .str c => .exc c σ
    | _ => .stuck
  | .fors x e b => bindV (ih (.E e ρ) σ) fun d σ => match d with
    | .str l => forsR (fun ρ σ => ih (.Ss b ρ) σ) x l ρ σ
    | _ => .stuck
  | .dead => .stuck
noncomputable def step (ih : Task → Sg → R) (t : Task) (σ : Sg) : R := match t with
  | .E x ρ => stepE F W k0 ih x ρ σ
  | .Es xs ρ => match xs with
    | [] => .ok (.vs []) σ
    | x :: xs => bindV (ih (.E x ρ) σ) fun d σ => bindVs (ih (.Es xs ρ) σ) fun ds σ => .ok (.vs (d :: ds)) σ
  | .T x ρ => stepT ih x ρ σ
  | .Ts a xs ρ => match xs with
    | [] => .ok (.b a) σ
    | x :: xs => bindB (ih (.T x ρ) σ) fun b σ => match a, b with
      | true, true => ih (.Ts a xs ρ) σ
      | true, false => .ok (.b false) σ
      | false, true => .ok (.b true) σ
      | false, false => ih (.Ts a xs ρ) σ
  | .Vs a xs ρ => match xs with
    | [] => .stuck
    | [x] => ih (.E x ρ) σ
    | x :: xs => bindV (ih (.E x ρ) σ) fun d σ => match d with
      | .bool b => match a, b with
        | true, true => ih (.Vs a xs ρ) σ
        | true, false => .ok (.v (.bool false)) σ
        | false, true => .ok (.v (.bool true)) σ
        | false, false => ih (.Vs a xs ρ) σ
      | _ => .stuck
  | .S s ρ => stepS ih s ρ σ
  | .Ss ss ρ => match ss with
    | [] => .ok (.f .next ρ) σ
    | s :: ss => bindF (ih (.S s ρ) σ) (fun ρ σ => ih (.Ss ss ρ) σ) fun d ρ σ => .ok (.f (.ret d) ρ) σ
  | .C f ds => match nth F f with
    | some fn => match Nat.beq ds.length fn.arity with
      | true => match fn.bd with
        | .body ss => bindF (ih (.Ss ss (ds ++ blanks (fn.slots.length - fn.arity))) σ) (fun _ σ => .ok (.v .none) σ) fun d _ σ => .ok (.v d) σ
        | .hand => match ds with
          | [.str l] => match small l.length with
            | true => .ok (.v (.str (cap l))) σ
            | false => .stuck
          | _ => .stuck
        | .never => .stuck
      | false => .stuck
    | none => .stuck
noncomputable def run (n : Nat) : Task → Sg → R := Nat.rec (fun _ _ => .stuck) (fun _ ih => step F W k0 ih) n
theorem run_succ (n : Nat) (t : Task) (σ : Sg) : run F W k0 (n + 1) t σ = step F W k0 (run F W k0 n) t σ := rfl
end
end Mine
-- IR
namespace Mine
-- 0 functions
noncomputable def f0 : Fn := ⟨[102,117,110,99,116,105,111,110,115], 0, [], .body [(.ret (.spl 1))]⟩
-- 1 is_word_tokens
noncomputable def f1 : Fn := ⟨[105,115,95,119,111,114,100,95,116,111,107,101,110,115], 1, [[116,111,108,100]], .body [(.ret (.bop false [(.cmp .mem (.loc 0) (.spl 0)), (.cmp .mem (.loc 0) (.call 0 []))]))]⟩
-- 2 is_letter
noncomputable def f2 : Fn := ⟨[105,115,95,108,101,116,116,101,114], 1, [[115,105,103,110]], .body [(.ret (.bop false [(.btw (.lit (.str [65])) (.loc 0) (.lit (.str [90]))), (.btw (.lit (.str [97])) (.loc 0) (.lit (.str [122])))]))]⟩
-- 3 is_figure
noncomputable def f3 : Fn := ⟨[105,115,95,102,105,103,117,114,101], 1, [[115,105,103,110]], .body [(.ret (.btw (.lit (.str [48])) (.loc 0) (.lit (.str [57]))))]⟩
-- 4 capital (by hand)
noncomputable def f4 : Fn := ⟨[99,97,112,105,116,97,108], 1, [[116,101,120,116], [115,105,103,110]], .hand⟩
-- 5 figures_end
noncomputable def f5 : Fn := ⟨[102,105,103,117,114,101,115,95,101,110,100], 2, [[114,111,119], [97,116]], .body [(.whl (.bop true [(.cmp .lt (.loc 1) (.len (.loc 0))), (.call 3 [(.sub (.loc 0) (.loc 1))])]) [(.aug 1 (.lit (.int (.ofNat 1))))]), (.ret (.loc 1))]⟩
-- 6 skipped
noncomputable def f6 : Fn := ⟨[115,107,105,112,112,101,100], 2, [[114,111,119], [97,116]], .body [(.whl (.bop true [(.cmp .lt (.loc 1) (.len (.loc 0))), (.cmp .mem (.sub (.loc 0) (.loc 1)) (.lit (.str [32,9])))]) [(.aug 1 (.lit (.int (.ofNat 1))))]), (.ret (.loc 1))]⟩
-- 7 power_end
noncomputable def f7 : Fn := ⟨[112,111,119,101,114,95,101,110,100], 2, [[114,111,119], [97,116], [98,101,103,105,110], [101,110,100]], .body [(.ifs (.cmp .nmem (.slc (.loc 0) (some (.loc 1)) (some (.add (.loc 1) (.lit (.int (.ofNat 1)))))) (.tup [(.lit (.str [69])), (.lit (.str [101]))])) [(.ret (.loc 1))] []), .dead, .dead, .dead, .dead]⟩
-- 8 number_at
noncomputable def f8 : Fn := ⟨[110,117,109,98,101,114,95,97,116], 2, [[114,111,119], [97,116], [101,110,100], [105,115,95,112,108,97,105,110], [98,101,104,105,110,100], [108,97,115,116]], .body [(.asg 2 (.call 5 [(.loc 0), (.loc 1)])), (.ifs (.cmp .eq (.slc (.loc 0) (some (.loc 2)) (some (.add (.loc 2) (.lit (.int (.ofNat 1)))))) (.lit (.str [46]))) [.dead] []), (.ifs (.cmp .gt (.mns (.loc 2) (.loc 1)) (.glb [77,79,83,84,95,70,73,71,85,82,69,83,95,116,111,107,101,110,115] (.int (.ofNat 40)))) [.dead] []), (.asg 3 (.cmp .lt (.find (.loc 0) (.lit (.str [46])) (.loc 1) (.loc 2)) (.lit (.int (.ofNat 0))))), (.asg 4 (.call 7 [(.loc 0), (.loc 2)])), (.asg 5 (.slc (.loc 0) (some (.loc 4)) (some (.add (.loc 4) (.lit (.int (.ofNat 1))))))), (.ifs (.bop false [(.cmp .eq (.loc 5) (.lit (.str [33]))), (.bop true [(.cmp .eq (.loc 5) (.lit (.str [37]))), (.loc 3), (.cmp .eq (.loc 4) (.loc 2))])]) [.dead] []), (.ret (.tup [(.tup [(.lit (.str [110,117,109,98,101,114])), (.call 4 [(.slc (.loc 0) (some (.loc 1)) (some (.loc 4)))])]), (.loc 4)]))]⟩
-- 9 name_end
noncomputable def f9 : Fn := ⟨[110,97,109,101,95,101,110,100], 2, [[114,111,119], [97,116]], .body [(.whl (.bop true [(.cmp .lt (.loc 1) (.len (.loc 0))), (.bop false [(.call 2 [(.sub (.loc 0) (.loc 1))]), (.call 3 [(.sub (.loc 0) (.loc 1))]), (.cmp .eq (.sub (.loc 0) (.loc 1)) (.lit (.str [46])))])]) [(.aug 1 (.lit (.int (.ofNat 1))))]), (.ret (.ife (.bop true [(.cmp .mem (.slc (.loc 0) (some (.loc 1)) (some (.add (.loc 1) (.lit (.int (.ofNat 1)))))) (.tup [(.lit (.str [37])), (.lit (.str [36])), (.lit (.str [33]))])), (.cmp .ne (.slc (.loc 0) (some (.loc 1)) (some (.add (.loc 1) (.lit (.int (.ofNat 1)))))) (.lit (.str [])))]) (.add (.loc 1) (.lit (.int (.ofNat 1)))) (.loc 1)))]⟩
-- 10 order_at
noncomputable def f10 : Fn := ⟨[111,114,100,101,114,95,97,116], 2, [[114,111,119], [97,116], [108,97,116,101,114], [98,111,116,104]], .body [(.asg 2 (.call 6 [(.loc 0), (.add (.loc 1) (.lit (.int (.ofNat 1))))])), (.asg 3 (.add (.sub (.loc 0) (.loc 1)) (.slc (.loc 0) (some (.loc 2)) (some (.add (.loc 2) (.lit (.int (.ofNat 1)))))))), (.ifs (.cmp .mem (.loc 3) (.glb [80,65,73,82,83] (.ref 0))) [.dead] []), (.ret (.tup [(.tup [(.lit (.str [115,105,103,110])), (.sub (.loc 0) (.loc 1))]), (.add (.loc 1) (.lit (.int (.ofNat 1))))]))]⟩
-- 11 word_at
noncomputable def f11 : Fn := ⟨[119,111,114,100,95,97,116], 2, [[114,111,119], [97,116], [101,110,100], [116,111,108,100], [108,97,115,116]], .body [(.asg 2 (.call 9 [(.loc 0), (.loc 1)])), (.asg 3 (.call 4 [(.slc (.loc 0) (some (.loc 1)) (some (.loc 2)))])), (.ifs (.cmp .eq (.loc 3) (.lit (.str [82,69,77]))) [.dead] []), (.ifs (.cmp .eq (.loc 3) (.lit (.str [68,65,84,65]))) [.dead, .dead] []), (.ret (.tup [(.lst [(.tup [(.ife (.call 1 [(.loc 3)]) (.lit (.str [119,111,114,100])) (.lit (.str [110,97,109,101]))), (.loc 3)])]), (.loc 2)]))]⟩
-- 12 tokens_at
noncomputable def f12 : Fn := ⟨[116,111,107,101,110,115,95,97,116], 2, [[114,111,119], [97,116], [115,105,103,110], [116,111,108,100], [101,110,100]], .body [(.asg 2 (.sub (.loc 0) (.loc 1))), (.ifs (.bop false [(.call 3 [(.loc 2)]), (.bop true [(.cmp .eq (.loc 2) (.lit (.str [46]))), (.call 3 [(.slc (.loc 0) (some (.add (.loc 1) (.lit (.int (.ofNat 1))))) (some (.add (.loc 1) (.lit (.int (.ofNat 2))))))])])]) [(.asgT [3, 4] (.call 8 [(.loc 0), (.loc 1)])), (.ret (.tup [(.lst [(.loc 3)]), (.loc 4)]))] []), (.ifs (.call 2 [(.loc 2)]) [(.ret (.call 11 [(.loc 0), (.loc 1)]))] []), (.ifs (.cmp .eq (.loc 2) (.lit (.str [34]))) [.dead, .dead] []), (.ifs (.cmp .mem (.loc 2) (.glb [79,82,68,69,82,83] (.str [60,61,62]))) [(.asgT [3, 4] (.call 10 [(.loc 0), (.loc 1)])), (.ret (.tup [(.lst [(.loc 3)]), (.loc 4)]))] []), (.ifs (.cmp .eq (.loc 2) (.lit (.str [63]))) [.dead] []), (.ifs (.cmp .eq (.loc 2) (.lit (.str [39]))) [.dead] []), (.ifs (.cmp .mem (.loc 2) (.glb [83,73,71,78,83] (.str [43,45,42,47,92,94,40,41,44,59,58,35,38,64]))) [(.ret (.tup [(.lst [(.tup [(.lit (.str [115,105,103,110])), (.loc 2)])]), (.add (.loc 1) (.lit (.int (.ofNat 1))))]))] []), .dead]⟩
-- 13 tokens_of
noncomputable def f13 : Fn := ⟨[116,111,107,101,110,115,95,111,102], 1, [[114,111,119], [102,111,117,110,100], [97,116], [116,111,108,100]], .body [(.ifs (.cmp .gt (.len (.loc 0)) (.glb [77,79,83,84,95,83,73,71,78,83] (.int (.ofNat 255)))) [.dead] []), (.asgT [1, 2] (.tup [(.lst []), (.call 6 [(.loc 0), (.lit (.int (.ofNat 0)))])])), (.whl (.cmp .lt (.loc 2) (.len (.loc 0))) [(.asgT [3, 2] (.call 12 [(.loc 0), (.loc 2)])), (.ex (.ext (.loc 1) (.loc 3))), (.asg 2 (.call 6 [(.loc 0), (.loc 2)]))]), (.ret (.loc 1))]⟩
-- 14 token_at
noncomputable def f14 : Fn := ⟨[116,111,107,101,110,95,97,116], 2, [[116,111,107,101,110,115], [97,116]], .body [(.ret (.ife (.cmp .lt (.loc 1) (.len (.loc 0))) (.sub (.loc 0) (.loc 1)) (.glb [78,79,95,84,79,75,69,78] (.tup [(.str [101,110,100]), (.str [])]))))]⟩
-- 15 is_sign
noncomputable def f15 : Fn := ⟨[105,115,95,115,105,103,110], 3, [[116,111,107,101,110,115], [97,116], [115,105,103,110]], .body [(.ret (.cmp .eq (.call 14 [(.loc 0), (.loc 1)]) (.tup [(.lit (.str [115,105,103,110])), (.loc 2)])))]⟩
-- 16 expect
noncomputable def f16 : Fn := ⟨[101,120,112,101,99,116], 3, [[116,111,107,101,110,115], [97,116], [115,105,103,110]], .body [(.ifs (.nt (.call 15 [(.loc 0), (.loc 1), (.loc 2)])) [.dead] []), (.ret (.add (.loc 1) (.lit (.int (.ofNat 1)))))]⟩
-- 17 figures_at
noncomputable def f17 : Fn := ⟨[102,105,103,117,114,101,115,95,97,116], 2, [[116,101,120,116], [97,116], [102,111,117,110,100], [98,101,103,105,110]], .body [(.asgT [2, 3] (.tup [(.lit (.int (.ofNat 0))), (.loc 1)])), (.whl (.bop true [(.cmp .lt (.loc 1) (.len (.loc 0))), (.btw (.lit (.str [48])) (.sub (.loc 0) (.loc 1)) (.lit (.str [57])))]) [(.asg 2 (.mns (.add (.mul (.loc 2) (.lit (.int (.ofNat 10)))) (.ord (.sub (.loc 0) (.loc 1)))) (.lit (.int (.ofNat 48))))), (.aug 1 (.lit (.int (.ofNat 1)))), (.ifs (.cmp .gt (.mns (.loc 1) (.loc 3)) (.glb [77,79,83,84,95,70,73,71,85,82,69,83,95,101,120,112,114,114,101,97,100] (.int (.ofNat 60)))) [.dead] [])]), (.ret (.tup [(.loc 2), (.mns (.loc 1) (.loc 3)), (.loc 1)]))]⟩
-- 18 number_tree
noncomputable def f18 : Fn := ⟨[110,117,109,98,101,114,95,116,114,101,101], 1, [[116,101,120,116], [102,114,111,110,116], [109,97,110,121], [97,116], [98,101,104,105,110,100], [112,108,97,99,101,115], [112,111,119,101,114]], .body [(.asgT [1, 2, 3] (.call 17 [(.loc 0), (.lit (.int (.ofNat 0)))])), (.ifs (.cmp .mem (.slc (.loc 0) (some (.loc 3)) none) (.tup [(.lit (.str [])), (.lit (.str [37]))])) [(.ret (.tup [(.lit (.str [119,104,111,108,101])), (.loc 1)]))] []), .dead, .dead, .dead, .dead]⟩
-- 19 join_up
noncomputable def f19 : Fn := ⟨[106,111,105,110,95,117,112], 2, [[108,101,118,101,108], [115,116,114,101,110,103,116,104], [111,112], [108,97,115,116]], .body [(.whl (.bop true [(.cmp .gt (.len (.attr (.loc 0) 4)) (.lit (.int (.ofNat 0)))), (.cmp .ge (.sub (.sub (.attr (.loc 0) 4) (.neg 1)) (.lit (.int (.ofNat 1)))) (.loc 1))]) [(.asg 2 (.sub (.pop (.attr (.loc 0) 4)) (.lit (.int (.ofNat 0))))), (.asg 3 (.pop (.attr (.loc 0) 3))), (.ifs (.bop false [(.cmp .eq (.loc 2) (.lit (.str [110,101,103]))), (.cmp .eq (.loc 2) (.lit (.str [110,111,116])))]) [.dead] [(.ex (.app (.attr (.loc 0) 3) (.tup [(.lit (.str [116,119,111])), (.loc 2), (.pop (.attr (.loc 0) 3)), (.loc 3)])))])])]⟩
-- 20 finished
noncomputable def f20 : Fn := ⟨[102,105,110,105,115,104,101,100], 1, [[108,101,118,101,108], [108,97,115,116]], .body [(.ex (.call 19 [(.loc 0), (.lit (.int (.ofNat 0)))])), (.asg 1 (.pop (.attr (.loc 0) 3))), (.ifs (.cmp .mem (.attr (.loc 0) 0) (.tup [(.lit (.str [116,111,112])), (.lit (.str [103,114,111,117,112]))])) [(.ret (.loc 1))] []), (.ret (.tup [(.attr (.loc 0) 0), (.attr (.loc 0) 1), (.add (.attr (.loc 0) 2) (.lst [(.loc 1)]))]))]⟩
-- 21 opened
noncomputable def f21 : Fn := ⟨[111,112,101,110,101,100], 3, [[108,101,118,101,108,115], [107,105,110,100], [119,111,114,100]], .body [(.ifs (.cmp .gt (.len (.loc 0)) (.glb [77,79,83,84,95,79,80,69,78] (.int (.ofNat 60)))) [.dead] []), (.ex (.app (.loc 0) (.lev (.loc 1) (.loc 2))))]⟩
-- 22 plain_operand
noncomputable def f22 : Fn := ⟨[112,108,97,105,110,95,111,112,101,114,97,110,100], 2, [[116,111,107,101,110,115], [97,116], [107,105,110,100], [116,111,108,100]], .body [(.asgT [2, 3] (.call 14 [(.loc 0), (.loc 1)])), (.ifs (.cmp .eq (.loc 2) (.lit (.str [110,117,109,98,101,114]))) [(.ret (.call 18 [(.loc 3)]))] []), (.ifs (.cmp .eq (.loc 2) (.lit (.str [116,101,120,116]))) [.dead] []), (.ifs (.call 15 [(.loc 0), (.add (.loc 1) (.lit (.int (.ofNat 1)))), (.lit (.str [40]))]) [(.ret (.lit .none))] []), (.ifs (.cmp .eq (.loc 2) (.lit (.str [110,97,109,101]))) [(.ret (.ife (.cmp .eq (.slc (.loc 3) none (some (.lit (.int (.ofNat 2))))) (.lit (.str [70,78]))) (.tup [(.lit (.str [102,110])), (.loc 3), (.lst [])]) (.tup [(.lit (.str [110,97,109,101])), (.loc 3)])))] []), .dead]⟩
-- 23 take_operand
noncomputable def f23 : Fn := ⟨[116,97,107,101,95,111,112,101,114,97,110,100], 4, [[108,101,118,101,108,115], [116,111,107,101,110,115], [97,116], [107,110,111,119,110], [102,111,117,110,100], [107,105,110,100], [116,111,108,100]], .body [(.asgT [5, 6] (.call 14 [(.loc 1), (.loc 2)])), (.asg 4 (.call 22 [(.loc 1), (.loc 2)])), (.ifs (.cmp .isnot (.loc 4) (.lit .none)) [(.ex (.app (.attr (.sub (.loc 0) (.neg 1)) 3) (.loc 4))), (.ret (.tup [(.add (.loc 2) (.lit (.int (.ofNat 1)))), (.lit (.bool true))]))] []), (.ifs (.bop true [(.cmp .eq (.loc 5) (.lit (.str [115,105,103,110]))), (.cmp .eq (.loc 6) (.lit (.str [45])))]) [.dead] [(.ifs (.bop true [(.cmp .eq (.loc 5) (.lit (.str [119,111,114,100]))), (.cmp .eq (.loc 6) (.lit (.str [78,79,84])))]) [.dead] [(.ifs (.bop true [(.cmp .eq (.loc 5) (.lit (.str [115,105,103,110]))), (.cmp .eq (.loc 6) (.lit (.str [40])))]) [.dead] [(.ifs (.bop false [(.cmp .eq (.loc 5) (.lit (.str [110,97,109,101]))), (.bop true [(.cmp .eq (.loc 5) (.lit (.str [119,111,114,100]))), (.cmp .mem (.loc 6) (.loc 3))])]) [(.asg 2 (.mns (.call 16 [(.loc 1), (.add (.loc 2) (.lit (.int (.ofNat 1)))), (.lit (.str [40]))]) (.lit (.int (.ofNat 1))))), (.ex (.call 21 [(.loc 0), (.ife (.cmp .eq (.loc 5) (.lit (.str [119,111,114,100]))) (.lit (.str [99,97,108,108])) (.ife (.cmp .eq (.slc (.loc 6) none (some (.lit (.int (.ofNat 2))))) (.lit (.str [70,78]))) (.lit (.str [102,110])) (.lit (.str [105,116,101,109])))), (.loc 6)]))] [.dead])])])]), (.ret (.tup [(.add (.loc 2) (.lit (.int (.ofNat 1)))), (.lit (.bool false))]))]⟩
-- 24 take_operator
noncomputable def f24 : Fn := ⟨[116,97,107,101,95,111,112,101,114,97,116,111,114], 3, [[108,101,118,101,108,115], [116,111,107,101,110,115], [97,116], [104,101,114,101], [107,105,110,100], [116,111,108,100]], .body [(.asgT [4, 5] (.call 14 [(.loc 1), (.loc 2)])), (.asg 3 (.sub (.loc 0) (.neg 1))), (.ifs (.bop true [(.cmp .mem (.loc 4) (.tup [(.lit (.str [115,105,103,110])), (.lit (.str [119,111,114,100]))])), (.cmp .mem (.loc 5) (.glb [83,84,82,69,78,71,84,72] (.ref 1)))]) [(.ex (.call 19 [(.loc 3), (.sub (.glb [83,84,82,69,78,71,84,72] (.ref 1)) (.loc 5))])), (.ex (.app (.attr (.loc 3) 4) (.tup [(.loc 5), (.sub (.glb [83,84,82,69,78,71,84,72] (.ref 1)) (.loc 5))]))), (.ret (.tup [(.add (.loc 2) (.lit (.int (.ofNat 1)))), (.lit (.str [111,112,101,114,97,110,100]))]))] []), (.ifs (.cmp .eq (.attr (.loc 3) 0) (.lit (.str [116,111,112]))) [(.ret (.tup [(.loc 2), (.lit (.str [101,110,100]))]))] []), (.ifs (.bop true [(.cmp .eq (.loc 4) (.lit (.str [115,105,103,110]))), (.cmp .eq (.loc 5) (.lit (.str [44]))), (.cmp .ne (.attr (.loc 3) 0) (.lit (.str [103,114,111,117,112])))]) [.dead, .dead, .dead] []), (.asg 2 (.call 16 [(.loc 1), (.loc 2), (.lit (.str [41]))])), (.ex (.pop (.loc 0))), (.ex (.app (.attr (.sub (.loc 0) (.neg 1)) 3) (.call 20 [(.loc 3)]))), (.ret (.tup [(.loc 2), (.lit (.str [111,112,101,114,97,116,111,114]))]))]⟩
-- 25 expression
noncomputable def f25 : Fn := ⟨[101,120,112,114,101,115,115,105,111,110], 2, [[116,111,107,101,110,115], [97,116], [108,101,118,101,108,115], [100,117,101], [107,110,111,119,110], [105,115,95,119,104,111,108,101]], .body [(.asgT [2, 3, 4] (.tup [(.lst [(.lev (.lit (.str [116,111,112])) (.lit (.str [])))]), (.lit (.str [111,112,101,114,97,110,100])), (.call 0 [])])), (.whl (.cmp .ne (.loc 3) (.lit (.str [101,110,100]))) [(.ifs (.cmp .eq (.loc 3) (.lit (.str [111,112,101,114,97,110,100]))) [(.asgT [1, 5] (.call 23 [(.loc 2), (.loc 0), (.loc 1), (.loc 4)])), (.asg 3 (.ife (.loc 5) (.lit (.str [111,112,101,114,97,116,111,114])) (.lit (.str [111,112,101,114,97,110,100]))))] [(.asgT [1, 3] (.call 24 [(.loc 2), (.loc 0), (.loc 1)]))])]), (.ret (.tup [(.call 20 [(.sub (.loc 2) (.lit (.int (.ofNat 0))))]), (.loc 1)]))]⟩
-- 26 expressions
noncomputable def f26 : Fn := ⟨[101,120,112,114,101,115,115,105,111,110,115], 2, [[116,111,107,101,110,115], [97,116], [115,111,109,101], [102,111,117,110,100]], .body [(.asgT [3, 1] (.call 25 [(.loc 0), (.loc 1)])), (.asg 2 (.lst [(.loc 3)])), (.whl (.call 15 [(.loc 0), (.loc 1), (.lit (.str [44]))]) [.dead, .dead]), (.ret (.tup [(.loc 2), (.loc 1)]))]⟩
-- 27 target
noncomputable def f27 : Fn := ⟨[116,97,114,103,101,116], 2, [[116,111,107,101,110,115], [97,116], [107,105,110,100], [119,111,114,100], [115,117,98,115]], .body [(.asgT [2, 3] (.call 14 [(.loc 0), (.loc 1)])), (.ifs (.bop false [(.cmp .ne (.loc 2) (.lit (.str [110,97,109,101]))), (.cmp .eq (.slc (.loc 3) none (some (.lit (.int (.ofNat 2))))) (.lit (.str [70,78])))]) [(.rai (.lit (.str [83,78])) (.loc 1))] []), (.ifs (.nt (.call 15 [(.loc 0), (.add (.loc 1) (.lit (.int (.ofNat 1)))), (.lit (.str [40]))])) [(.ret (.tup [(.tup [(.lit (.str [110,97,109,101])), (.loc 3)]), (.add (.loc 1) (.lit (.int (.ofNat 1))))]))] []), (.asgT [4, 1] (.call 26 [(.loc 0), (.add (.loc 1) (.lit (.int (.ofNat 2))))])), (.ret (.tup [(.tup [(.lit (.str [105,116,101,109])), (.loc 3), (.loc 4)]), (.call 16 [(.loc 0), (.loc 1), (.lit (.str [41]))])]))]⟩
-- 28 is_word
noncomputable def f28 : Fn := ⟨[105,115,95,119,111,114,100], 3, [[116,111,107,101,110,115], [97,116], [119,111,114,100]], .body [(.ret (.cmp .eq (.call 14 [(.loc 0), (.loc 1)]) (.tup [(.lit (.str [119,111,114,100])), (.loc 2)])))]⟩
-- 29 is_end
noncomputable def f29 : Fn := ⟨[105,115,95,101,110,100], 2, [[116,111,107,101,110,115], [97,116], [107,105,110,100], [116,111,108,100]], .body [(.asgT [2, 3] (.call 14 [(.loc 0), (.loc 1)])), (.ret (.bop false [(.cmp .mem (.loc 2) (.tup [(.lit (.str [101,110,100])), (.lit (.str [114,101,109]))])), (.bop true [(.cmp .eq (.loc 2) (.lit (.str [115,105,103,110]))), (.cmp .eq (.loc 3) (.lit (.str [58])))]), (.bop true [(.cmp .eq (.loc 2) (.lit (.str [119,111,114,100]))), (.cmp .eq (.loc 3) (.lit (.str [69,76,83,69])))])]))]⟩
-- 30 need_word
noncomputable def f30 : Fn := ⟨[110,101,101,100,95,119,111,114,100], 3, [[116,111,107,101,110,115], [97,116], [119,111,114,100]], .body [(.ifs (.nt (.call 28 [(.loc 0), (.loc 1), (.loc 2)])) [.dead] []), (.ret (.add (.loc 1) (.lit (.int (.ofNat 1)))))]⟩
-- 31 line_number
noncomputable def f31 : Fn := ⟨[108,105,110,101,95,110,117,109,98,101,114], 2, [[116,111,107,101,110,115], [97,116], [102,111,117,110,100], [115,105,103,110], [107,105,110,100], [116,111,108,100]], .body [(.asgT [4, 5] (.call 14 [(.loc 0), (.loc 1)])), (.ifs (.bop false [(.cmp .ne (.loc 4) (.lit (.str [110,117,109,98,101,114]))), (.cmp .gt (.len (.loc 5)) (.lit (.int (.ofNat 5))))]) [.dead] []), (.asg 2 (.lit (.int (.ofNat 0)))), (.fors 3 (.loc 5) [(.ifs (.nt (.btw (.lit (.str [48])) (.loc 3) (.lit (.str [57])))) [.dead] []), (.asg 2 (.mns (.add (.mul (.loc 2) (.lit (.int (.ofNat 10)))) (.ord (.loc 3))) (.lit (.int (.ofNat 48)))))]), (.ifs (.cmp .gt (.loc 2) (.glb [77,79,83,84,95,76,73,78,69] (.int (.ofNat 65529)))) [.dead] []), (.ret (.tup [(.loc 2), (.add (.loc 1) (.lit (.int (.ofNat 1))))]))]⟩
-- 32 plain_name
noncomputable def f32 : Fn := ⟨[112,108,97,105,110,95,110,97,109,101], 2, [[116,111,107,101,110,115], [97,116], [107,105,110,100], [116,111,108,100]], .body [(.asgT [2, 3] (.call 14 [(.loc 0), (.loc 1)])), (.ifs (.bop false [(.cmp .ne (.loc 2) (.lit (.str [110,97,109,101]))), (.cmp .eq (.slc (.loc 3) none (some (.lit (.int (.ofNat 2))))) (.lit (.str [70,78])))]) [(.rai (.lit (.str [83,78])) (.loc 1))] []), (.ret (.tup [(.loc 3), (.add (.loc 1) (.lit (.int (.ofNat 1))))]))]⟩
-- 33 plain_names
noncomputable def f33 : Fn := ⟨[112,108,97,105,110,95,110,97,109,101,115], 2, [[116,111,107,101,110,115], [97,116], [115,111,109,101], [102,111,117,110,100]], .body [(.asgT [3, 1] (.call 32 [(.loc 0), (.loc 1)])), (.asg 2 (.lst [(.loc 3)])), (.whl (.call 15 [(.loc 0), (.loc 1), (.lit (.str [44]))]) [(.asgT [3, 1] (.call 32 [(.loc 0), (.add (.loc 1) (.lit (.int (.ofNat 1))))])), (.ex (.app (.loc 2) (.loc 3)))]), (.ret (.tup [(.loc 2), (.loc 1)]))]⟩
-- 34 targets
noncomputable def f34 : Fn := ⟨[116,97,114,103,101,116,115], 2, [[116,111,107,101,110,115], [97,116], [115,111,109,101], [102,111,117,110,100]], .body [(.asgT [3, 1] (.call 27 [(.loc 0), (.loc 1)])), (.asg 2 (.lst [(.loc 3)])), (.whl (.call 15 [(.loc 0), (.loc 1), (.lit (.str [44]))]) [(.asgT [3, 1] (.call 27 [(.loc 0), (.add (.loc 1) (.lit (.int (.ofNat 1))))])), (.ex (.app (.loc 2) (.loc 3)))]), (.ret (.tup [(.loc 2), (.loc 1)]))]⟩
-- 35 channel_at
noncomputable def f35 : Fn := ⟨[99,104,97,110,110,101,108,95,97,116], 2, [[116,111,107,101,110,115], [97,116], [102,111,117,110,100]], .body [(.ifs (.nt (.call 15 [(.loc 0), (.loc 1), (.lit (.str [35]))])) [(.ret (.tup [(.lit .none), (.loc 1)]))] []), .dead, .dead]⟩
-- 36 read_def
noncomputable def f36 : Fn := ⟨[114,101,97,100,95,100,101,102], 2, [[116,111,107,101,110,115], [97,116], [107,105,110,100], [110,97,109,101], [112,97,114,97,109,115], [118,97,108,117,101]], .body [(.asgT [2, 3] (.call 14 [(.loc 0), (.loc 1)])), (.ifs (.bop false [(.cmp .ne (.loc 2) (.lit (.str [110,97,109,101]))), (.cmp .ne (.slc (.loc 3) none (some (.lit (.int (.ofNat 2))))) (.lit (.str [70,78]))), (.cmp .lt (.len (.loc 3)) (.lit (.int (.ofNat 3))))]) [(.rai (.lit (.str [83,78])) (.loc 1))] []), (.asgT [4, 1] (.tup [(.lst []), (.add (.loc 1) (.lit (.int (.ofNat 1))))])), (.ifs (.call 15 [(.loc 0), (.loc 1), (.lit (.str [40]))]) [(.asgT [4, 1] (.call 33 [(.loc 0), (.add (.loc 1) (.lit (.int (.ofNat 1))))])), (.asg 1 (.call 16 [(.loc 0), (.loc 1), (.lit (.str [41]))]))] []), (.ifs (.nt (.call 15 [(.loc 0), (.loc 1), (.lit (.str [61]))])) [(.ret (.tup [(.tup [(.lit (.str [68,69,70,76,73,78,69,83])), (.loc 3), (.loc 4)]), (.loc 1)]))] []), (.asgT [5, 1] (.call 25 [(.loc 0), (.add (.loc 1) (.lit (.int (.ofNat 1))))])), (.ret (.tup [(.tup [(.lit (.str [68,69,70])), (.loc 3), (.loc 4), (.loc 5)]), (.loc 1)]))]⟩
-- 37 read_dim
noncomputable def f37 : Fn := ⟨[114,101,97,100,95,100,105,109], 2, [[116,111,107,101,110,115], [97,116], [115,111,109,101], [102,111,117,110,100]], .body [(.asg 2 (.lst [])), (.whl (.lit (.bool true)) [(.asgT [3, 1] (.call 27 [(.loc 0), (.loc 1)])), (.ifs (.cmp .ne (.sub (.loc 3) (.lit (.int (.ofNat 0)))) (.lit (.str [105,116,101,109]))) [.dead] []), (.ex (.app (.loc 2) (.tup [(.sub (.loc 3) (.lit (.int (.ofNat 1)))), (.sub (.loc 3) (.lit (.int (.ofNat 2))))]))), (.ifs (.nt (.call 15 [(.loc 0), (.loc 1), (.lit (.str [44]))])) [(.ret (.tup [(.tup [(.lit (.str [68,73,77])), (.loc 2)]), (.loc 1)]))] []), .dead])]⟩
-- 38 read_erase
noncomputable def f38 : Fn := ⟨[114,101,97,100,95,101,114,97,115,101], 2, [[116,111,107,101,110,115], [97,116], [110,97,109,101,115]], .body [(.asgT [2, 1] (.call 33 [(.loc 0), (.loc 1)])), (.ret (.tup [(.tup [(.lit (.str [69,82,65,83,69])), (.loc 2)]), (.loc 1)]))]⟩
-- 39 read_read
noncomputable def f39 : Fn := ⟨[114,101,97,100,95,114,101,97,100], 2, [[116,111,107,101,110,115], [97,116], [115,111,109,101]], .body [(.asgT [2, 1] (.call 34 [(.loc 0), (.loc 1)])), (.ret (.tup [(.tup [(.lit (.str [82,69,65,68])), (.loc 2)]), (.loc 1)]))]⟩
-- 40 read_swap
noncomputable def f40 : Fn := ⟨[114,101,97,100,95,115,119,97,112], 2, [[116,111,107,101,110,115], [97,116], [111,110,101], [111,116,104,101,114]], .body [(.asgT [2, 1] (.call 27 [(.loc 0), (.loc 1)])), (.asgT [3, 1] (.call 27 [(.loc 0), (.call 16 [(.loc 0), (.loc 1), (.lit (.str [44]))])])), (.ret (.tup [(.tup [(.lit (.str [83,87,65,80])), (.loc 2), (.loc 3)]), (.loc 1)]))]⟩
-- 41 declarations
noncomputable def f41 : Fn := ⟨[100,101,99,108,97,114,97,116,105,111,110,115], 0, [], .body [(.ret (.dct [[68,69,70], [68,73,77], [69,82,65,83,69], [79,80,84,73,79,78], [68,65,84,65], [82,69,65,68], [83,87,65,80], [69,82,82,79,82], [82,65,78,68,79,77,73,90,69]] [([114,101,97,100,95,100,101,102], 36), ([114,101,97,100,95,100,105,109], 37), ([114,101,97,100,95,101,114,97,115,101], 38), ([114,101,97,100,95,111,112,116,105,111,110], 71), ([114,101,97,100,95,100,97,116,97], 72), ([114,101,97,100,95,114,101,97,100], 39), ([114,101,97,100,95,115,119,97,112], 40), ([114,101,97,100,95,101,114,114,111,114], 73), ([114,101,97,100,95,114,97,110,100,111,109,105,122,101], 74)]))]⟩
-- 42 numbered_channel
noncomputable def f42 : Fn := ⟨[110,117,109,98,101,114,101,100,95,99,104,97,110,110,101,108], 2, [[116,111,107,101,110,115], [97,116]], .body [(.ret (.call 25 [(.loc 0), (.ife (.call 15 [(.loc 0), (.loc 1), (.lit (.str [35]))]) (.add (.loc 1) (.lit (.int (.ofNat 1)))) (.loc 1))]))]⟩
-- 43 read_open
noncomputable def f43 : Fn := ⟨[114,101,97,100,95,111,112,101,110], 2, [[116,111,107,101,110,115], [97,116], [109,111,100,101], [98,101,104,105,110,100], [115,105,122,101], [110,97,109,101], [99,104,97,110,110,101,108], [107,105,110,100], [116,111,108,100]], .body [(.asgT [5, 1] (.call 25 [(.loc 0), (.loc 1)])), (.asg 2 (.lit (.str [82]))), (.ifs (.cmp .eq (.call 14 [(.loc 0), (.loc 1)]) (.tup [(.lit (.str [119,111,114,100])), (.lit (.str [70,79,82]))])) [(.asgT [7, 8] (.call 14 [(.loc 0), (.add (.loc 1) (.lit (.int (.ofNat 1))))])), (.ifs (.bop false [(.cmp .ne (.loc 7) (.lit (.str [119,111,114,100]))), (.cmp .nmem (.loc 8) (.glb [77,79,68,69,83] (.ref 2)))]) [.dead] []), (.asgT [2, 1] (.tup [(.sub (.glb [77,79,68,69,83] (.ref 2)) (.loc 8)), (.add (.loc 1) (.lit (.int (.ofNat 2))))]))] []), (.asg 1 (.call 30 [(.loc 0), (.loc 1), (.lit (.str [65,83]))])), (.asg 3 (.call 14 [(.loc 0), (.add (.loc 1) (.lit (.int (.ofNat 1))))])), (.ifs (.bop true [(.cmp .eq (.call 14 [(.loc 0), (.loc 1)]) (.tup [(.lit (.str [110,97,109,101])), (.lit (.str [70,73,76,69]))])), (.bop false [(.cmp .eq (.loc 3) (.tup [(.lit (.str [115,105,103,110])), (.lit (.str [35]))])), (.cmp .mem (.sub (.loc 3) (.lit (.int (.ofNat 0)))) (.tup [(.lit (.str [110,97,109,101])), (.lit (.str [110,117,109,98,101,114]))]))])]) [(.aug 1 (.lit (.int (.ofNat 1))))] []), (.asgT [6, 1] (.call 42 [(.loc 0), (.loc 1)])), (.asg 4 (.lit .none)), (.ifs (.cmp .eq (.call 14 [(.loc 0), (.loc 1)]) (.tup [(.lit (.str [119,111,114,100])), (.lit (.str [76,69,78]))])) [(.asgT [4, 1] (.call 25 [(.loc 0), (.call 16 [(.loc 0), (.add (.loc 1) (.lit (.int (.ofNat 1)))), (.lit (.str [61]))])]))] []), (.ret (.tup [(.tup [(.lit (.str [79,80,69,78])), (.loc 2), (.loc 6), (.loc 5), (.loc 4)]), (.loc 1)]))]⟩
-- 44 read_field
noncomputable def f44 : Fn := ⟨[114,101,97,100,95,102,105,101,108,100], 2, [[116,111,107,101,110,115], [97,116], [115,111,109,101], [99,104,97,110,110,101,108], [115,105,122,101], [110,97,109,101]], .body [(.asgT [3, 1] (.call 42 [(.loc 0), (.loc 1)])), (.asg 2 (.lst [])), (.whl (.call 15 [(.loc 0), (.loc 1), (.lit (.str [44]))]) [(.asgT [4, 1] (.call 25 [(.loc 0), (.add (.loc 1) (.lit (.int (.ofNat 1))))])), (.asgT [5, 1] (.call 32 [(.loc 0), (.call 30 [(.loc 0), (.loc 1), (.lit (.str [65,83]))])])), (.ex (.app (.loc 2) (.tup [(.loc 4), (.loc 5)])))]), (.ifs (.cmp .eq (.len (.loc 2)) (.lit (.int (.ofNat 0)))) [.dead] []), (.ret (.tup [(.tup [(.lit (.str [70,73,69,76,68])), (.loc 3), (.loc 2)]), (.loc 1)]))]⟩
-- 45 read_set
noncomputable def f45 : Fn := ⟨[114,101,97,100,95,115,101,116], 3, [[116,111,107,101,110,115], [97,116], [119,111,114,100], [110,97,109,101], [118,97,108,117,101]], .body [(.asgT [3, 1] (.call 32 [(.loc 0), (.loc 1)])), (.asgT [4, 1] (.call 25 [(.loc 0), (.call 16 [(.loc 0), (.loc 1), (.lit (.str [61]))])])), (.ret (.tup [(.tup [(.loc 2), (.loc 3), (.loc 4)]), (.loc 1)]))]⟩
-- 46 read_lset
noncomputable def f46 : Fn := ⟨[114,101,97,100,95,108,115,101,116], 2, [[116,111,107,101,110,115], [97,116]], .body [(.ret (.call 45 [(.loc 0), (.loc 1), (.lit (.str [76,83,69,84]))]))]⟩
-- 47 read_rset
noncomputable def f47 : Fn := ⟨[114,101,97,100,95,114,115,101,116], 2, [[116,111,107,101,110,115], [97,116]], .body [(.ret (.call 45 [(.loc 0), (.loc 1), (.lit (.str [82,83,69,84]))]))]⟩
-- 48 read_common
noncomputable def f48 : Fn := ⟨[114,101,97,100,95,99,111,109,109,111,110], 2, [[116,111,107,101,110,115], [97,116], [115,111,109,101], [110,97,109,101]], .body [(.asg 2 (.lst [])), (.whl (.lit (.bool true)) [(.asgT [3, 1] (.call 32 [(.loc 0), (.loc 1)])), (.ifs (.call 15 [(.loc 0), (.loc 1), (.lit (.str [40]))]) [(.asgT [3, 1] (.tup [(.add (.loc 3) (.lit (.str [40,41]))), (.call 16 [(.loc 0), (.add (.loc 1) (.lit (.int (.ofNat 1)))), (.lit (.str [41]))])]))] []), (.ex (.app (.loc 2) (.loc 3))), (.ifs (.nt (.call 15 [(.loc 0), (.loc 1), (.lit (.str [44]))])) [(.ret (.tup [(.tup [(.lit (.str [67,79,77,77,79,78])), (.loc 2)]), (.loc 1)]))] []), (.aug 1 (.lit (.int (.ofNat 1))))])]⟩
-- 49 file_statements
noncomputable def f49 : Fn := ⟨[102,105,108,101,95,115,116,97,116,101,109,101,110,116,115], 0, [], .body [(.ret (.dct [[79,80,69,78], [67,76,79,83,69], [70,73,69,76,68], [76,83,69,84], [82,83,69,84], [71,69,84], [80,85,84], [87,82,73,84,69], [67,72,65,73,78], [67,79,77,77,79,78]] [([114,101,97,100,95,111,112,101,110], 43), ([114,101,97,100,95,99,108,111,115,101], 75), ([114,101,97,100,95,102,105,101,108,100], 44), ([114,101,97,100,95,108,115,101,116], 46), ([114,101,97,100,95,114,115,101,116], 47), ([114,101,97,100,95,103,101,116], 76), ([114,101,97,100,95,112,117,116], 77), ([114,101,97,100,95,119,114,105,116,101], 78), ([114,101,97,100,95,99,104,97,105,110], 79), ([114,101,97,100,95,99,111,109,109,111,110], 48)]))]⟩
-- 50 bounds_at
noncomputable def f50 : Fn := ⟨[98,111,117,110,100,115,95,97,116], 2, [[116,111,107,101,110,115], [97,116], [102,111,117,110,100]], .body [(.ifs (.nt (.call 15 [(.loc 0), (.loc 1), (.lit (.str [40]))])) [.dead] []), (.asgT [2, 1] (.call 26 [(.loc 0), (.add (.loc 1) (.lit (.int (.ofNat 1))))])), (.ret (.tup [(.loc 2), (.call 16 [(.loc 0), (.loc 1), (.lit (.str [41]))])]))]⟩
-- 51 read_rows
noncomputable def f51 : Fn := ⟨[114,101,97,100,95,114,111,119,115], 3, [[116,111,107,101,110,115], [97,116], [119,111,114,100], [115,111,109,101], [110,97,109,101], [98,111,117,110,100,115]], .body [(.asg 3 (.lst [])), (.whl (.lit (.bool true)) [(.asgT [4, 1] (.call 32 [(.loc 0), (.loc 1)])), (.asgT [5, 1] (.call 50 [(.loc 0), (.loc 1)])), (.ex (.app (.loc 3) (.tup [(.loc 4), (.loc 5)]))), (.ifs (.nt (.call 15 [(.loc 0), (.loc 1), (.lit (.str [44]))])) [(.ret (.tup [(.tup [(.lit (.str [77,65,84])), (.loc 2), (.loc 3)]), (.loc 1)]))] []), .dead])]⟩
-- 52 read_shown
noncomputable def f52 : Fn := ⟨[114,101,97,100,95,115,104,111,119,110], 2, [[116,111,107,101,110,115], [97,116], [115,111,109,101], [115,105,103,110], [110,97,109,101], [107,105,110,100], [116,111,108,100]], .body [(.asg 2 (.lst [])), (.whl (.cmp .eq (.sub (.call 14 [(.loc 0), (.loc 1)]) (.lit (.int (.ofNat 0)))) (.lit (.str [110,97,109,101]))) [(.asgT [4, 1] (.call 32 [(.loc 0), (.loc 1)])), (.asgT [5, 6] (.call 14 [(.loc 0), (.loc 1)])), (.asg 3 (.ife (.bop true [(.cmp .eq (.loc 5) (.lit (.str [115,105,103,110]))), (.cmp .mem (.loc 6) (.tup [(.lit (.str [44])), (.lit (.str [59]))]))]) (.loc 6) (.lit (.str [])))), (.ex (.app (.loc 2) (.tup [(.loc 4), (.loc 3)]))), (.ifs (.cmp .eq (.loc 3) (.lit (.str []))) [.dead] []), (.aug 1 (.lit (.int (.ofNat 1))))]), (.ifs (.cmp .eq (.len (.loc 2)) (.lit (.int (.ofNat 0)))) [.dead] []), (.ret (.tup [(.tup [(.lit (.str [77,65,84])), (.lit (.str [80,82,73,78,84])), (.loc 2)]), (.loc 1)]))]⟩
-- 53 read_of_one
noncomputable def f53 : Fn := ⟨[114,101,97,100,95,111,102,95,111,110,101], 2, [[116,111,107,101,110,115], [97,116], [110,97,109,101]], .body [(.asgT [2, 1] (.call 32 [(.loc 0), (.call 16 [(.loc 0), (.loc 1), (.lit (.str [40]))])])), (.ret (.tup [(.loc 2), (.call 16 [(.loc 0), (.loc 1), (.lit (.str [41]))])]))]⟩
-- 54 read_form
noncomputable def f54 : Fn := ⟨[114,101,97,100,95,102,111,114,109], 2, [[116,111,107,101,110,115], [97,116], [107,105,110,100], [116,111,108,100], [110,97,109,101], [111,116,104,101,114], [98,111,117,110,100,115], [118,97,108,117,101]], .body [(.asgT [2, 3] (.call 14 [(.loc 0), (.loc 1)])), (.ifs (.bop true [(.cmp .eq (.loc 2) (.lit (.str [119,111,114,100]))), (.cmp .mem (.loc 3) (.glb [70,73,76,76,83] (.tup [(.str [90,69,82]), (.str [67,79,78]), (.str [73,68,78])])))]) [.dead, .dead] []), (.ifs (.bop true [(.cmp .eq (.loc 2) (.lit (.str [119,111,114,100]))), (.cmp .mem (.loc 3) (.tup [(.lit (.str [84,82,78])), (.lit (.str [73,78,86]))]))]) [(.asgT [4, 1] (.call 53 [(.loc 0), (.add (.loc 1) (.lit (.int (.ofNat 1))))])), (.ret (.tup [(.tup [(.loc 3), (.loc 4)]), (.loc 1)]))] []), (.ifs (.call 15 [(.loc 0), (.loc 1), (.lit (.str [40]))]) [(.asgT [7, 1] (.call 25 [(.loc 0), (.add (.loc 1) (.lit (.int (.ofNat 1))))])), (.asgT [4, 1] (.call 32 [(.loc 0), (.call 16 [(.loc 0), (.call 16 [(.loc 0), (.loc 1), (.lit (.str [41]))]), (.lit (.str [42]))])])), (.ret (.tup [(.tup [(.lit (.str [115,99,97,108,101,100])), (.loc 7), (.loc 4)]), (.loc 1)]))] []), (.asgT [4, 1] (.call 32 [(.loc 0), (.loc 1)])), (.asgT [2, 3] (.call 14 [(.loc 0), (.loc 1)])), (.ifs (.bop false [(.cmp .ne (.loc 2) (.lit (.str [115,105,103,110]))), (.cmp .nmem (.loc 3) (.glb [83,73,71,78,83,95,79,70,95,84,87,79] (.tup [(.str [43]), (.str [45]), (.str [42])])))]) [(.ret (.tup [(.tup [(.lit (.str [99,111,112,121])), (.loc 4)]), (.loc 1)]))] []), (.asgT [5, 1] (.call 32 [(.loc 0), (.add (.loc 1) (.lit (.int (.ofNat 1))))])), (.ret (.tup [(.tup [(.lit (.str [116,119,111])), (.loc 3), (.loc 4), (.loc 5)]), (.loc 1)]))]⟩
-- 55 read_mat
noncomputable def f55 : Fn := ⟨[114,101,97,100,95,109,97,116], 2, [[116,111,107,101,110,115], [97,116], [107,105,110,100], [116,111,108,100], [110,97,109,101], [102,111,114,109]], .body [(.asgT [2, 3] (.call 14 [(.loc 0), (.loc 1)])), (.ifs (.bop true [(.cmp .eq (.loc 2) (.lit (.str [119,111,114,100]))), (.cmp .mem (.loc 3) (.tup [(.lit (.str [82,69,65,68])), (.lit (.str [73,78,80,85,84]))]))]) [(.ret (.call 51 [(.loc 0), (.add (.loc 1) (.lit (.int (.ofNat 1)))), (.loc 3)]))] []), (.ifs (.bop true [(.cmp .eq (.loc 2) (.lit (.str [119,111,114,100]))), (.cmp .eq (.loc 3) (.lit (.str [80,82,73,78,84])))]) [(.ret (.call 52 [(.loc 0), (.add (.loc 1) (.lit (.int (.ofNat 1))))]))] []), (.asgT [4, 1] (.call 32 [(.loc 0), (.loc 1)])), (.asgT [5, 1] (.call 54 [(.loc 0), (.call 16 [(.loc 0), (.loc 1), (.lit (.str [61]))])])), (.ret (.tup [(.tup [(.lit (.str [77,65,84])), (.lit (.str [83,69,84])), (.loc 4), (.loc 5)]), (.loc 1)]))]⟩
-- 56 read_let
noncomputable def f56 : Fn := ⟨[114,101,97,100,95,108,101,116], 2, [[116,111,107,101,110,115], [97,116], [107,105,110,100], [116,111,108,100], [118,97,108,117,101], [103,111,97,108]], .body [(.asgT [2, 3] (.call 14 [(.loc 0), (.loc 1)])), (.ifs (.bop true [(.cmp .eq (.loc 2) (.lit (.str [110,97,109,101]))), (.cmp .eq (.slc (.loc 3) none (some (.lit (.int (.ofNat 2))))) (.lit (.str [70,78])))]) [(.asgT [5, 1] (.tup [(.tup [(.lit (.str [110,97,109,101])), (.loc 3)]), (.add (.loc 1) (.lit (.int (.ofNat 1))))]))] [(.asgT [5, 1] (.call 27 [(.loc 0), (.loc 1)]))]), (.asgT [4, 1] (.call 25 [(.loc 0), (.call 16 [(.loc 0), (.loc 1), (.lit (.str [61]))])])), (.ret (.tup [(.tup [(.lit (.str [76,69,84])), (.loc 5), (.loc 4)]), (.loc 1)]))]⟩
-- 57 prompt_at
noncomputable def f57 : Fn := ⟨[112,114,111,109,112,116,95,97,116], 2, [[116,111,107,101,110,115], [97,116], [107,105,110,100], [116,111,108,100]], .body [(.asgT [2, 3] (.call 14 [(.loc 0), (.loc 1)])), (.ifs (.cmp .ne (.loc 2) (.lit (.str [116,101,120,116]))) [(.ret (.tup [(.lit .none), (.lit (.bool true)), (.loc 1)]))] []), .dead, .dead]⟩
-- 58 read_input
noncomputable def f58 : Fn := ⟨[114,101,97,100,95,105,110,112,117,116], 2, [[116,111,107,101,110,115], [97,116], [99,104,97,110,110,101,108], [112,114,111,109,112,116], [105,115,95,109,97,114,107,101,100], [115,111,109,101]], .body [(.asgT [2, 1] (.call 35 [(.loc 0), (.loc 1)])), (.asgT [3, 4, 1] (.call 57 [(.loc 0), (.loc 1)])), (.asgT [5, 1] (.call 34 [(.loc 0), (.loc 1)])), (.ret (.tup [(.tup [(.lit (.str [73,78,80,85,84])), (.loc 2), (.loc 3), (.loc 4), (.loc 5)]), (.loc 1)]))]⟩
-- 59 line_or_none
noncomputable def f59 : Fn := ⟨[108,105,110,101,95,111,114,95,110,111,110,101], 2, [[116,111,107,101,110,115], [97,116]], .body [(.ret (.ife (.call 29 [(.loc 0), (.loc 1)]) (.tup [(.lit .none), (.loc 1)]) (.call 31 [(.loc 0), (.loc 1)])))]⟩
-- 60 read_resume
noncomputable def f60 : Fn := ⟨[114,101,97,100,95,114,101,115,117,109,101], 2, [[116,111,107,101,110,115], [97,116], [103,111,97,108]], .body [(.ifs (.call 28 [(.loc 0), (.loc 1), (.lit (.str [78,69,88,84]))]) [.dead] []), (.asgT [2, 1] (.call 59 [(.loc 0), (.loc 1)])), (.ret (.tup [(.tup [(.lit (.str [82,69,83,85,77,69])), (.ife (.cmp .eq (.loc 2) (.lit (.int (.ofNat 0)))) (.lit .none) (.loc 2))]), (.loc 1)]))]⟩
-- 61 read_for
noncomputable def f61 : Fn := ⟨[114,101,97,100,95,102,111,114], 2, [[116,111,107,101,110,115], [97,116], [112,97,99,101], [110,97,109,101], [98,101,103,105,110], [101,110,100]], .body [(.asgT [3, 1] (.call 32 [(.loc 0), (.loc 1)])), (.asgT [4, 1] (.call 25 [(.loc 0), (.call 16 [(.loc 0), (.loc 1), (.lit (.str [61]))])])), (.asgT [5, 1] (.call 25 [(.loc 0), (.call 30 [(.loc 0), (.loc 1), (.lit (.str [84,79]))])])), (.asg 2 (.lit .none)), (.ifs (.call 28 [(.loc 0), (.loc 1), (.lit (.str [83,84,69,80]))]) [.dead] []), (.ret (.tup [(.tup [(.lit (.str [70,79,82])), (.loc 3), (.loc 4), (.loc 5), (.loc 2)]), (.loc 1)]))]⟩
-- 62 read_next
noncomputable def f62 : Fn := ⟨[114,101,97,100,95,110,101,120,116], 2, [[116,111,107,101,110,115], [97,116], [110,97,109,101,115]], .body [(.asgT [2, 1] (.ife (.call 29 [(.loc 0), (.loc 1)]) (.tup [(.lst []), (.loc 1)]) (.call 33 [(.loc 0), (.loc 1)]))), (.ret (.tup [(.tup [(.lit (.str [78,69,88,84])), (.loc 2)]), (.loc 1)]))]⟩
-- 63 statement_readers
noncomputable def f63 : Fn := ⟨[115,116,97,116,101,109,101,110,116,95,114,101,97,100,101,114,115], 0, [[102,111,117,110,100]], .body [(.asg 0 (.dct [[76,69,84], [80,82,73,78,84], [73,78,80,85,84], [76,73,78,69], [71,79,84,79], [71,79,83,85,66], [79,78], [82,69,84,85,82,78], [82,69,83,84,79,82,69], [82,69,83,85,77,69], [70,79,82], [78,69,88,84], [87,72,73,76,69], [77,73,68,36], [77,65,84]] [([114,101,97,100,95,108,101,116], 56), ([114,101,97,100,95,112,114,105,110,116], 80), ([114,101,97,100,95,105,110,112,117,116], 58), ([114,101,97,100,95,108,105,110,101], 81), ([114,101,97,100,95,103,111,116,111], 82), ([114,101,97,100,95,103,111,115,117,98], 83), ([114,101,97,100,95,111,110], 84), ([114,101,97,100,95,114,101,116,117,114,110], 85), ([114,101,97,100,95,114,101,115,116,111,114,101], 86), ([114,101,97,100,95,114,101,115,117,109,101], 60), ([114,101,97,100,95,102,111,114], 61), ([114,101,97,100,95,110,101,120,116], 62), ([114,101,97,100,95,119,104,105,108,101], 87), ([114,101,97,100,95,109,105,100,100,108,101], 88), ([114,101,97,100,95,109,97,116], 55)])), (.ex (.upd (.loc 0) (.call 41 []))), (.ex (.upd (.loc 0) (.call 49 []))), (.ret (.loc 0))]⟩
-- 64 read_one
noncomputable def f64 : Fn := ⟨[114,101,97,100,95,111,110,101], 4, [[116,111,107,101,110,115], [97,116], [114,101,97,100,101,114,115], [110,101,115,116,101,100], [119,111,114,107], [107,105,110,100], [116,111,108,100]], .body [(.asgT [5, 6] (.call 14 [(.loc 0), (.loc 1)])), (.ifs (.cmp .eq (.loc 5) (.lit (.str [114,101,109]))) [.dead] []), (.ifs (.cmp .eq (.loc 5) (.lit (.str [110,97,109,101]))) [(.ret (.call 56 [(.loc 0), (.loc 1)]))] []), (.ifs (.cmp .ne (.loc 5) (.lit (.str [119,111,114,100]))) [.dead] []), (.ifs (.cmp .eq (.loc 6) (.lit (.str [73,70]))) [.dead] []), (.ifs (.cmp .mem (.loc 6) (.glb [79,78,69,95,87,79,82,68] (.ref 3))) [(.ret (.tup [(.tup [(.sub (.glb [79,78,69,95,87,79,82,68] (.ref 3)) (.loc 6))]), (.add (.loc 1) (.lit (.int (.ofNat 1))))]))] []), (.ifs (.cmp .mem (.loc 6) (.glb [75,73,78,68,95,87,79,82,68,83] (.ref 4))) [.dead] []), (.ifs (.cmp .nmem (.loc 6) (.loc 2)) [.dead] []), (.asg 4 (.sub (.loc 2) (.loc 6))), (.ret (.callv 4 [(.loc 0), (.add (.loc 1) (.lit (.int (.ofNat 1))))]))]⟩
-- 65 read_some
noncomputable def f65 : Fn := ⟨[114,101,97,100,95,115,111,109,101], 4, [[116,111,107,101,110,115], [97,116], [114,101,97,100,101,114,115], [110,101,115,116,101,100], [102,111,117,110,100], [107,105,110,100], [116,111,108,100], [116,114,101,101]], .body [(.asg 4 (.lst [])), (.whl (.lit (.bool true)) [(.whl (.call 15 [(.loc 0), (.loc 1), (.lit (.str [58]))]) [(.aug 1 (.lit (.int (.ofNat 1))))]), (.asgT [5, 6] (.call 14 [(.loc 0), (.loc 1)])), (.ifs (.bop false [(.cmp .eq (.loc 5) (.lit (.str [101,110,100]))), (.bop true [(.cmp .gt (.loc 3) (.lit (.int (.ofNat 0)))), (.cmp .eq (.tup [(.loc 5), (.loc 6)]) (.tup [(.lit (.str [119,111,114,100])), (.lit (.str [69,76,83,69]))]))])]) [(.ret (.tup [(.loc 4), (.loc 1)]))] []), (.asgT [7, 1] (.call 64 [(.loc 0), (.loc 1), (.loc 2), (.loc 3)])), (.ex (.app (.loc 4) (.loc 7))), (.ifs (.nt (.call 29 [(.loc 0), (.loc 1)])) [.dead] [])])]⟩
-- 66 read_row
noncomputable def f66 : Fn := ⟨[114,101,97,100,95,114,111,119], 1, [[116,101,120,116], [116,111,107,101,110,115], [102,111,117,110,100], [97,116]], .body [(.asg 1 (.call 13 [(.loc 0)])), (.asgT [2, 3] (.call 65 [(.loc 1), (.lit (.int (.ofNat 0))), (.call 63 []), (.lit (.int (.ofNat 0)))])), (.ret (.loc 2))]⟩
-- 67 _law_words
noncomputable def f67 : Fn := ⟨[95,108,97,119,95,119,111,114,100,115], 0, [], .body [(.ret (.lst [(.lit (.str [65])), (.lit (.str [78,37])), (.lit (.str [67,36])), (.lit (.str [88,46,49])), (.lit (.str [70,78,65])), (.lit (.str [70,78])), (.lit (.str [70,78,37])), (.lit (.str [70,46,78])), (.lit (.str [78,70,78])), (.lit (.str [70,78,46,49]))]))]⟩
-- 68 _law_numbers
noncomputable def f68 : Fn := ⟨[95,108,97,119,95,110,117,109,98,101,114,115], 0, [], .body [(.ret (.lst [(.tup [(.lit (.str [48])), (.lit (.int (.ofNat 0)))]), (.tup [(.lit (.str [48,48])), (.lit (.int (.ofNat 0)))]), (.tup [(.lit (.str [48,48,48,48,48])), (.lit (.int (.ofNat 0)))]), (.tup [(.lit (.str [55])), (.lit (.int (.ofNat 7)))]), (.tup [(.lit (.str [48,48,55,48])), (.lit (.int (.ofNat 70)))]), (.tup [(.lit (.str [54,53,53,50,57])), (.lit (.int (.ofNat 65529)))])]))]⟩
-- 69 _law_places
noncomputable def f69 : Fn := ⟨[95,108,97,119,95,112,108,97,99,101,115], 1, [[119,111,114,100], [111,110,101], [116,119,111], [116,101,120,116]], .body [(.asgT [1, 2, 3] (.tup [(.tup [(.lit (.str [119,104,111,108,101])), (.lit (.int (.ofNat 1)))]), (.tup [(.lit (.str [119,104,111,108,101])), (.lit (.int (.ofNat 2)))]), (.tup [(.lit (.str [110,97,109,101])), (.lit (.str [65,36]))])])), (.ret (.lst [(.tup [(.add (.add (.lit (.str [70,79,82,32])) (.loc 0)) (.lit (.str [61,49,32,84,79,32,50]))), (.tup [(.lit (.str [70,79,82])), (.loc 0), (.loc 1), (.loc 2), (.lit .none)])]), (.tup [(.add (.lit (.str [78,69,88,84,32,65,44])) (.loc 0)), (.tup [(.lit (.str [78,69,88,84])), (.lst [(.lit (.str [65])), (.loc 0)])])]), (.tup [(.add (.lit (.str [78,69,88,84,32])) (.loc 0)), (.tup [(.lit (.str [78,69,88,84])), (.lst [(.loc 0)])])]), (.tup [(.add (.add (.lit (.str [69,82,65,83,69,32])) (.loc 0)) (.lit (.str [44,65]))), (.tup [(.lit (.str [69,82,65,83,69])), (.lst [(.loc 0), (.lit (.str [65]))])])]), (.tup [(.add (.lit (.str [67,79,77,77,79,78,32])) (.loc 0)), (.tup [(.lit (.str [67,79,77,77,79,78])), (.lst [(.loc 0)])])]), (.tup [(.add (.add (.lit (.str [67,79,77,77,79,78,32,65,44])) (.loc 0)) (.lit (.str [40,41]))), (.tup [(.lit (.str [67,79,77,77,79,78])), (.lst [(.lit (.str [65])), (.add (.loc 0) (.lit (.str [40,41])))])])]), (.tup [(.add (.add (.lit (.str [76,83,69,84,32])) (.loc 0)) (.lit (.str [61,65,36]))), (.tup [(.lit (.str [76,83,69,84])), (.loc 0), (.loc 3)])]), (.tup [(.add (.add (.lit (.str [82,83,69,84,32])) (.loc 0)) (.lit (.str [61,65,36]))), (.tup [(.lit (.str [82,83,69,84])), (.loc 0), (.loc 3)])]), (.tup [(.add (.lit (.str [70,73,69,76,68,32,35,49,44,50,32,65,83,32])) (.loc 0)), (.tup [(.lit (.str [70,73,69,76,68])), (.loc 1), (.lst [(.tup [(.loc 2), (.loc 0)])])])]), (.tup [(.add (.add (.lit (.str [68,69,70,32,70,78,81,40,65,44])) (.loc 0)) (.lit (.str [41,61,49]))), (.tup [(.lit (.str [68,69,70])), (.lit (.str [70,78,81])), (.lst [(.lit (.str [65])), (.loc 0)]), (.loc 1)])]), (.tup [(.add (.add (.lit (.str [68,69,70,32,70,78,81,40])) (.loc 0)) (.lit (.str [41]))), (.tup [(.lit (.str [68,69,70,76,73,78,69,83])), (.lit (.str [70,78,81])), (.lst [(.loc 0)])])]), (.tup [(.add (.add (.lit (.str [77,65,84,32])) (.loc 0)) (.lit (.str [61,65]))), (.tup [(.lit (.str [77,65,84])), (.lit (.str [83,69,84])), (.loc 0), (.tup [(.lit (.str [99,111,112,121])), (.lit (.str [65]))])])]), (.tup [(.add (.lit (.str [77,65,84,32,65,61,66,43])) (.loc 0)), (.tup [(.lit (.str [77,65,84])), (.lit (.str [83,69,84])), (.lit (.str [65])), (.tup [(.lit (.str [116,119,111])), (.lit (.str [43])), (.lit (.str [66])), (.loc 0)])])]), (.tup [(.add (.add (.lit (.str [77,65,84,32,65,61,84,82,78,40])) (.loc 0)) (.lit (.str [41]))), (.tup [(.lit (.str [77,65,84])), (.lit (.str [83,69,84])), (.lit (.str [65])), (.tup [(.lit (.str [84,82,78])), (.loc 0)])])]), (.tup [(.add (.lit (.str [77,65,84,32,65,61,40,50,41,42])) (.loc 0)), (.tup [(.lit (.str [77,65,84])), (.lit (.str [83,69,84])), (.lit (.str [65])), (.tup [(.lit (.str [115,99,97,108,101,100])), (.loc 2), (.loc 0)])])]), (.tup [(.add (.add (.lit (.str [77,65,84,32,82,69,65,68,32])) (.loc 0)) (.lit (.str [40,49,41]))), (.tup [(.lit (.str [77,65,84])), (.lit (.str [82,69,65,68])), (.lst [(.tup [(.loc 0), (.lst [(.loc 1)])])])])]), (.tup [(.add (.add (.lit (.str [77,65,84,32,80,82,73,78,84,32,65,44])) (.loc 0)) (.lit (.str [59]))), (.tup [(.lit (.str [77,65,84])), (.lit (.str [80,82,73,78,84])), (.lst [(.tup [(.lit (.str [65])), (.lit (.str [44]))]), (.tup [(.loc 0), (.lit (.str [59]))])])])]), (.tup [(.add (.lit (.str [82,69,65,68,32,65,44])) (.loc 0)), (.tup [(.lit (.str [82,69,65,68])), (.lst [(.tup [(.lit (.str [110,97,109,101])), (.lit (.str [65]))]), (.tup [(.lit (.str [110,97,109,101])), (.loc 0)])])])]), (.tup [(.add (.lit (.str [83,87,65,80,32,65,44])) (.loc 0)), (.tup [(.lit (.str [83,87,65,80])), (.tup [(.lit (.str [110,97,109,101])), (.lit (.str [65]))]), (.tup [(.lit (.str [110,97,109,101])), (.loc 0)])])]), (.tup [(.add (.add (.lit (.str [68,73,77,32])) (.loc 0)) (.lit (.str [40,50,41]))), (.tup [(.lit (.str [68,73,77])), (.lst [(.tup [(.loc 0), (.lst [(.loc 2)])])])])]), (.tup [(.add (.lit (.str [73,78,80,85,84,32])) (.loc 0)), (.tup [(.lit (.str [73,78,80,85,84])), (.lit .none), (.lit .none), (.lit (.bool true)), (.lst [(.tup [(.lit (.str [110,97,109,101])), (.loc 0)])])])])]))]⟩
-- 70 _law_opened
noncomputable def f70 : Fn := ⟨[95,108,97,119,95,111,112,101,110,101,100], 0, [[101,105,103,104,116], [104,101,114,101]], .body [(.asgT [0, 1] (.tup [(.tup [(.lit (.str [119,104,111,108,101])), (.lit (.int (.ofNat 8)))]), (.tup [(.lit (.str [110,97,109,101])), (.lit (.str [70,73,76,69]))])])), (.ret (.lst [(.tup [(.lit (.str [70,73,76,69,32,35,50])), (.tup [(.lit (.str [119,104,111,108,101])), (.lit (.int (.ofNat 2)))]), (.lit .none)]), (.tup [(.lit (.str [70,73,76,69,32,50])), (.tup [(.lit (.str [119,104,111,108,101])), (.lit (.int (.ofNat 2)))]), (.lit .none)]), (.tup [(.lit (.str [70,73,76,69,32,78,37,32,76,69,78,61,56])), (.tup [(.lit (.str [110,97,109,101])), (.lit (.str [78,37]))]), (.loc 0)]), (.tup [(.lit (.str [70,73,76,69])), (.loc 1), (.lit .none)]), (.tup [(.lit (.str [70,73,76,69,43,50])), (.tup [(.lit (.str [116,119,111])), (.lit (.str [43])), (.loc 1), (.tup [(.lit (.str [119,104,111,108,101])), (.lit (.int (.ofNat 2)))])]), (.lit .none)]), (.tup [(.lit (.str [70,73,76,69,40,50,41])), (.tup [(.lit (.str [105,116,101,109])), (.lit (.str [70,73,76,69])), (.lst [(.tup [(.lit (.str [119,104,111,108,101])), (.lit (.int (.ofNat 2)))])])]), (.lit .none)]), (.tup [(.lit (.str [70,73,76,69,32,76,69,78,61,56])), (.loc 1), (.loc 0)]), (.tup [(.lit (.str [35,70,73,76,69])), (.loc 1), (.lit .none)]), (.tup [(.lit (.str [70,73,76,69,32,70,73,76,69])), (.loc 1), (.lit .none)])]))]⟩
-- 71 read_option (never called)
noncomputable def f71 : Fn := ⟨[114,101,97,100,95,111,112,116,105,111,110], 0, [], .never⟩
-- 72 read_data (never called)
noncomputable def f72 : Fn := ⟨[114,101,97,100,95,100,97,116,97], 0, [], .never⟩
-- 73 read_error (never called)
noncomputable def f73 : Fn := ⟨[114,101,97,100,95,101,114,114,111,114], 0, [], .never⟩
-- 74 read_randomize (never called)
noncomputable def f74 : Fn := ⟨[114,101,97,100,95,114,97,110,100,111,109,105,122,101], 0, [], .never⟩
-- 75 read_close (never called)
noncomputable def f75 : Fn := ⟨[114,101,97,100,95,99,108,111,115,101], 0, [], .never⟩
-- 76 read_get (never called)
noncomputable def f76 : Fn := ⟨[114,101,97,100,95,103,101,116], 0, [], .never⟩
-- 77 read_put (never called)
noncomputable def f77 : Fn := ⟨[114,101,97,100,95,112,117,116], 0, [], .never⟩
-- 78 read_write (never called)
noncomputable def f78 : Fn := ⟨[114,101,97,100,95,119,114,105,116,101], 0, [], .never⟩
-- 79 read_chain (never called)
noncomputable def f79 : Fn := ⟨[114,101,97,100,95,99,104,97,105,110], 0, [], .never⟩
-- 80 read_print (never called)
noncomputable def f80 : Fn := ⟨[114,101,97,100,95,112,114,105,110,116], 0, [], .never⟩
-- 81 read_line (never called)
noncomputable def f81 : Fn := ⟨[114,101,97,100,95,108,105,110,101], 0, [], .never⟩
-- 82 read_goto (never called)
noncomputable def f82 : Fn := ⟨[114,101,97,100,95,103,111,116,111], 0, [], .never⟩
-- 83 read_gosub (never called)
noncomputable def f83 : Fn := ⟨[114,101,97,100,95,103,111,115,117,98], 0, [], .never⟩
-- 84 read_on (never called)
noncomputable def f84 : Fn := ⟨[114,101,97,100,95,111,110], 0, [], .never⟩
-- 85 read_return (never called)
noncomputable def f85 : Fn := ⟨[114,101,97,100,95,114,101,116,117,114,110], 0, [], .never⟩
-- 86 read_restore (never called)
noncomputable def f86 : Fn := ⟨[114,101,97,100,95,114,101,115,116,111,114,101], 0, [], .never⟩
-- 87 read_while (never called)
noncomputable def f87 : Fn := ⟨[114,101,97,100,95,119,104,105,108,101], 0, [], .never⟩
-- 88 read_middle (never called)
noncomputable def f88 : Fn := ⟨[114,101,97,100,95,109,105,100,100,108,101], 0, [], .never⟩
noncomputable def fns : List Fn := [f0, f1, f2, f3, f4, f5, f6, f7, f8, f9, f10, f11, f12, f13, f14, f15, f16, f17, f18, f19, f20, f21, f22, f23, f24, f25, f26, f27, f28, f29, f30, f31, f32, f33, f34, f35, f36, f37, f38, f39, f40, f41, f42, f43, f44, f45, f46, f47, f48, f49, f50, f51, f52, f53, f54, f55, f56, f57, f58, f59, f60, f61, f62, f63, f64, f65, f66, f67, f68, f69, f70, f71, f72, f73, f74, f75, f76, f77, f78, f79, f80, f81, f82, f83, f84, f85, f86, f87, f88]
noncomputable def d_PAIRS : List (Txt × D) := [([60,61], .str [60,61]), ([61,60], .str [60,61]), ([62,61], .str [62,61]), ([61,62], .str [62,61]), ([60,62], .str [60,62]), ([62,60], .str [60,62])]
noncomputable def d_STRENGTH : List (Txt × D) := [([73,77,80], .int (.ofNat 1)), ([69,81,86], .int (.ofNat 2)), ([88,79,82], .int (.ofNat 3)), ([79,82], .int (.ofNat 4)), ([65,78,68], .int (.ofNat 5)), ([61], .int (.ofNat 7)), ([60,62], .int (.ofNat 7)), ([60], .int (.ofNat 7)), ([62], .int (.ofNat 7)), ([60,61], .int (.ofNat 7)), ([62,61], .int (.ofNat 7)), ([43], .int (.ofNat 8)), ([45], .int (.ofNat 8)), ([77,79,68], .int (.ofNat 9)), ([92], .int (.ofNat 10)), ([42], .int (.ofNat 11)), ([47], .int (.ofNat 11)), ([94], .int (.ofNat 13))]
noncomputable def d_MODES : List (Txt × D) := [([73,78,80,85,84], .str [73]), ([79,85,84,80,85,84], .str [79]), ([65,80,80,69,78,68], .str [65]), ([82,65,78,68,79,77], .str [82])]
noncomputable def d_ONE_WORD : List (Txt × D) := [([87,69,78,68], .str [87,69,78,68]), ([70,78,69,78,68], .str [70,78,69,78,68]), ([83,84,79,80], .str [83,84,79,80]), ([69,78,68], .str [69,78,68]), ([84,82,79,78], .str [84,82,79,78]), ([84,82,79,70,70], .str [84,82,79,70,70])]
noncomputable def d_KIND_WORDS : List (Txt × D) := [([68,69,70,73,78,84], .str [119,104,111,108,101]), ([68,69,70,83,78,71], .str [100,101,99,105,109,97,108]), ([68,69,70,83,84,82], .str [116,101,120,116])]
noncomputable def dicts0 : List (Txt × List (Txt × D)) := [([80,65,73,82,83], d_PAIRS), ([83,84,82,69,78,71,84,72], d_STRENGTH), ([77,79,68,69,83], d_MODES), ([79,78,69,95,87,79,82,68], d_ONE_WORD), ([75,73,78,68,95,87,79,82,68,83], d_KIND_WORDS)]
noncomputable def spl0 : List Txt := [[76,69,84], [80,82,73,78,84], [85,83,73,78,71], [73,78,80,85,84], [76,73,78,69], [73,70], [84,72,69,78], [69,76,83,69], [71,79,84,79], [71,79,83,85,66], [79,78], [82,69,84,85,82,78], [70,79,82], [84,79], [83,84,69,80], [78,69,88,84], [87,72,73,76,69], [87,69,78,68], [68,69,70], [70,78,69,78,68], [82,69,65,68], [68,65,84,65], [82,69,83,84,79,82,69], [68,73,77], [69,82,65,83,69], [79,80,84,73,79,78], [66,65,83,69], [83,87,65,80], [69,82,82,79,82], [82,69,83,85,77,69], [83,84,79,80], [69,78,68], [82,69,77], [82,65,78,68,79,77,73,90,69], [68,69,70,73,78,84], [68,69,70,83,78,71], [68,69,70,83,84,82], [77,65,84], [90,69,82], [67,79,78], [73,68,78], [73,78,86], [84,82,78], [79,80,69,78], [79,85,84,80,85,84], [65,80,80,69,78,68], [82,65,78,68,79,77], [65,83], [67,76,79,83,69], [70,73,69,76,68], [76,83,69,84], [82,83,69,84], [71,69,84], [80,85,84], [87,82,73,84,69], [67,72,65,73,78], [67,79,77,77,79,78], [84,82,79,78], [84,82,79,70,70], [65,78,68], [79,82], [88,79,82], [69,81,86], [73,77,80], [78,79,84], [77,79,68]]
noncomputable def spl1 : List Txt := [[65,66,83], [65,83,67], [67,72,82,36], [67,73,78,84], [67,83,78,71], [67,86,73], [67,86,83], [69,68,73,84,36], [69,79,70], [69,82,76], [69,82,82], [70,73,88], [70,82,69], [72,69,88,36], [73,78,83,84,82], [73,78,84], [76,67,65,83,69,36], [76,69,70,84,36], [76,69,78], [76,79,67], [76,79,70], [76,80,79,83], [76,84,82,73,77,36], [77,65,88], [77,73,68,36], [77,73,78], [77,75,73,36], [77,75,83,36], [79,67,84,36], [80,73], [80,79,83], [82,73,71,72,84,36], [82,78,68], [82,84,82,73,77,36], [83,69,71,36], [83,71,78], [83,80,65,67,69,36], [83,80,67], [83,81,82], [83,84,82,36], [83,84,82,73,78,71,36], [83,87,65,80,37], [84,65,66], [85,67,65,83,69,36], [86,65,76], [88,76,65,84,69,36]]
noncomputable def wtab : List (Txt × List Txt) := [([76,69,84,32,80,82,73,78,84,32,85,83,73,78,71,32,73,78,80,85,84,32,76,73,78,69,32,73,70,32,84,72,69,78,32,69,76,83,69,32,71,79,84,79,32,71,79,83,85,66,32,79,78,32,82,69,84,85,82,78,32,70,79,82,32,84,79,32,83,84,69,80,32,78,69,88,84,32,87,72,73,76,69,32,87,69,78,68,32,68,69,70,32,70,78,69,78,68,32,82,69,65,68,32,68,65,84,65,32,82,69,83,84,79,82,69,32,68,73,77,32,69,82,65,83,69,32,79,80,84,73,79,78,32,66,65,83,69,32,83,87,65,80,32,69,82,82,79,82,32,82,69,83,85,77,69,32,83,84,79,80,32,69,78,68,32,82,69,77,32,82,65,78,68,79,77,73,90,69,32,68,69,70,73,78,84,32,68,69,70,83,78,71,32,68,69,70,83,84,82,32,77,65,84,32,90,69,82,32,67,79,78,32,73,68,78,32,73,78,86,32,84,82,78,32,79,80,69,78,32,79,85,84,80,85,84,32,65,80,80,69,78,68,32,82,65,78,68,79,77,32,65,83,32,67,76,79,83,69,32,70,73,69,76,68,32,76,83,69,84,32,82,83,69,84,32,71,69,84,32,80,85,84,32,87,82,73,84,69,32,67,72,65,73,78,32,67,79,77,77,79,78,32,84,82,79,78,32,84,82,79,70,70,32,65,78,68,32,79,82,32,88,79,82,32,69,81,86,32,73,77,80,32,78,79,84,32,77,79,68], spl0), ([65,66,83,32,65,83,67,32,67,72,82,36,32,67,73,78,84,32,67,83,78,71,32,67,86,73,32,67,86,83,32,69,68,73,84,36,32,69,79,70,32,69,82,76,32,69,82,82,32,70,73,88,32,70,82,69,32,72,69,88,36,32,73,78,83,84,82,32,73,78,84,32,76,67,65,83,69,36,32,76,69,70,84,36,32,76,69,78,32,76,79,67,32,76,79,70,32,76,80,79,83,32,76,84,82,73,77,36,32,77,65,88,32,77,73,68,36,32,77,73,78,32,77,75,73,36,32,77,75,83,36,32,79,67,84,36,32,80,73,32,80,79,83,32,82,73,71,72,84,36,32,82,78,68,32,82,84,82,73,77,36,32,83,69,71,36,32,83,71,78,32,83,80,65,67,69,36,32,83,80,67,32,83,81,82,32,83,84,82,36,32,83,84,82,73,78,71,36,32,83,87,65,80,37,32,84,65,66,32,85,67,65,83,69,36,32,86,65,76,32,88,76,65,84,69,36], spl1)]
noncomputable def faT : List Nat := [52, 59, 66, 73, 78, 85, 92, 99, 106, 113, 127, 148, 155, 162, 173, 180, 187, 194, 215, 243, 250, 257, 264, 271, 278, 285, 292, 299, 306, 313, 320, 327, 341, 348, 355, 362, 369, 376, 383, 411, 430, 451, 459, 466, 480, 487, 494, 501, 543, 550, 559, 566, 573, 580, 587, 594, 603, 638, 645, 680, 701, 708, 715, 729, 736, 757, 764, 771, 778, 799, 806, 390, 404, 437, 444, 473, 515, 522, 529, 536, 624, 652, 659, 666, 673, 687, 694, 722, 610]
noncomputable def faOf (k : Nat) : Nat := match nth faT k with | some a => a | none => 0
noncomputable def mu0 : List Nat := [45, 163, 452, 595, 596]
noncomputable def sg0 : Sg := [.dict d_PAIRS, .dict d_STRENGTH, .dict d_MODES, .dict d_ONE_WORD, .dict d_KIND_WORDS]
end Mine
-- S0
open PySem PySem.W PyProof.Rows PySem.Calls
namespace Mine

noncomputable def sOf (l : Txt) : Str := ⟨l.toArray⟩

theorem sOf_inj {a b : Txt} (h : sOf a = sOf b) : a = b := by
  have : a.toArray = b.toArray := congrArg Str.cps h
  simpa using this

/-- what lies in the heap and is not in M stays; tuples stay -/
structure Keep (M : List Addr) (h h' : Heap) : Prop where
  there : ∀ b o, h.get? b = some o → ∃ o', h'.get? b = some o'
  old : ∀ b o, h.get? b = some o → b ∉ M → h'.get? b = some o
  tup : ∀ b xs, IsTup h b xs → IsTup h' b xs

theorem Keep.refl (M : List Addr) (h : Heap) : Keep M h h := ⟨fun _ o e => ⟨o, e⟩, fun _ _ e _ => e, fun _ _ t => t⟩

mutual
noncomputable def V (fa : Nat → Addr) (μ : List Addr) (h : Heap) : D → Value → Prop
  | .unb, _ => False
  | .none, v => v = .none
  | .bool b, v => v = .bool b
  | .int i, v => ∃ t, v = .int i t
  | .str l, v => ∃ t, v = .str (sOf l) t
  | .ref i, v => ∃ a, nth μ i = some a ∧ v = .ref a
  | .fn k, v => v = .ref (fa k)
  | .tup ds, v => ∃ a vs, v = .ref a ∧ IsTup h a vs.toArray ∧ Vs fa μ h ds vs
noncomputable def Vs (fa : Nat → Addr) (μ : List Addr) (h : Heap) : List D → List Value → Prop
  | [], vs => vs = []
  | d :: ds, vs => ∃ v vs', vs = v :: vs' ∧ V fa μ h d v ∧ Vs fa μ h ds vs'
end

section
variable {α : Type}
theorem nth_eq (l : List α) : ∀ n, nth l n = l[n]? := by
  induction l with
  | nil => intro n; rfl
  | cons x l ih => intro n; cases n with
    | zero => rfl
    | succ n => simpa [nth] using ih n
theorem put_eq (l : List α) : ∀ n (y : α), put l n y = l.set n y := by
  induction l with
  | nil => intro n y; rfl
  | cons x l ih => intro n y; cases n with
    | zero => rfl
    | succ n => simpa [put] using ih n y
theorem nth_lt {l : List α} {n : Nat} {x : α} (h : nth l n = some x) : n < l.length := by
  rw [nth_eq] at h
  exact (List.getElem?_eq_some_iff.mp h).1
theorem nth_mem {l : List α} {n : Nat} {x : α} (h : nth l n = some x) : x ∈ l := by
  rw [nth_eq] at h
  exact List.mem_of_getElem? h
theorem nth_append {l m : List α} {n : Nat} {x : α} (h : nth l n = some x) : nth (l ++ m) n = some x := by
  have hl := nth_lt h
  rw [nth_eq] at h ⊢
  rw [List.getElem?_append_left hl]; exact h
theorem nth_append_len {l m : List α} (k : Nat) : nth (l ++ m) (l.length + k) = nth m k := by
  rw [nth_eq, nth_eq, List.getElem?_append_right (Nat.le_add_right _ _)]
  congr 1; omega
theorem nth_prefix {l m : List α} {n : Nat} {x : α} (p : l <+: m) (h : nth l n = some x) : nth m n = some x := by
  obtain ⟨t, rfl⟩ := p
  exact nth_append h
theorem length_put (l : List α) (n : Nat) (y : α) : (put l n y).length = l.length := by rw [put_eq, List.length_set]
theorem nth_put {l : List α} {n k : Nat} {y : α} (h : n < l.length) : nth (put l n y) k = if k = n then some y else nth l k := by
  rw [nth_eq, put_eq, nth_eq, List.getElem?_set]
  by_cases e : n = k
  · subst e; simp [h]
  · have : ¬ k = n := fun q => e q.symm
    simp [e, this]
theorem nth_some_of_lt {l : List α} {n : Nat} (h : n < l.length) : ∃ x, nth l n = some x := by
  rw [nth_eq]; exact ⟨l[n], List.getElem?_eq_getElem h⟩
theorem nodup_nth {l : List α} (hn : l.Nodup) {i j : Nat} {x : α} (hi : nth l i = some x) (hj : nth l j = some x) : i = j := by
  have l := nth_lt hi
  rw [nth_eq] at hi hj
  exact (List.getElem?_inj l hn).mp (hi.trans hj.symm)
end

section
variable {fa : Nat → Addr}
mutual
theorem V.mono {μ μ' : List Addr} {h h' : Heap} (p : μ <+: μ') (k : ∀ b xs, IsTup h b xs → IsTup h' b xs) : ∀ (d : D) (v : Value), V fa μ h d v → V fa μ' h' d v
  | .unb, _, x => x
  | .none, _, x => by unfold V at x ⊢; exact x
  | .bool _, _, x => by unfold V at x ⊢; exact x
  | .int _, _, x => by unfold V at x ⊢; exact x
  | .str _, _, x => by unfold V at x ⊢; exact x
  | .ref i, v, x => by
    unfold V at x ⊢
    obtain ⟨a, e, rfl⟩ := x
    exact ⟨a, nth_prefix p e, rfl⟩
  | .fn _, _, x => by unfold V at x ⊢; exact x
  | .tup ds, v, x => by
    unfold V at x ⊢
    obtain ⟨a, vs, e, t, r⟩ := x
    exact ⟨a, vs, e, k _ _ t, Vs.mono p k ds vs r⟩
theorem Vs.mono {μ μ' : List Addr} {h h' : Heap} (p : μ <+: μ') (k : ∀ b xs, IsTup h b xs → IsTup h' b xs) : ∀ (ds : List D) (vs : List Value), Vs fa μ h ds vs → Vs fa μ' h' ds vs
  | [], _, x => by unfold Vs at x ⊢; exact x
  | d :: ds, vs, x => by
    unfold Vs at x ⊢
    obtain ⟨v, vs', e, x1, x2⟩ := x
    exact ⟨v, vs', e, V.mono p k d v x1, Vs.mono p k ds vs' x2⟩
end
variable {μ : List Addr} {h : Heap}
theorem Vs.length : ∀ {ds : List D} {vs : List Value}, Vs fa μ h ds vs → vs.length = ds.length
  | [], _, x => by unfold Vs at x; subst x; rfl
  | d :: ds, _, x => by
    unfold Vs at x
    obtain ⟨v, vs', rfl, _, r⟩ := x
    simp [Vs.length r]
theorem Vs.nth : ∀ {ds : List D} {vs : List Value} {n : Nat} {d : D}, Vs fa μ h ds vs → Mine.nth ds n = some d → ∃ v, Mine.nth vs n = some v ∧ V fa μ h d v
  | [], _, _, _, _, e => nomatch e
  | d :: ds, _, n, d', x, e => by
    unfold Vs at x
    obtain ⟨v, vs', rfl, y, r⟩ := x
    cases n with
    | zero => cases e; exact ⟨v, rfl, y⟩
    | succ n => exact Vs.nth (n := n) r e
theorem Vs.append : ∀ {ds es : List D} {vs us : List Value}, Vs fa μ h ds vs → Vs fa μ h es us → Vs fa μ h (ds ++ es) (vs ++ us)
  | [], _, _, _, x, y => by unfold Vs at x; subst x; exact y
  | d :: ds, es, _, us, x, y => by
    unfold Vs at x
    obtain ⟨v, vs', rfl, x1, x2⟩ := x
    show Vs fa μ h (d :: (ds ++ es)) (v :: (vs' ++ us))
    unfold Vs
    exact ⟨v, _, rfl, x1, Vs.append x2 y⟩
theorem Vs.one {d : D} {v : Value} (x : V fa μ h d v) : Vs fa μ h [d] [v] := by unfold Vs; exact ⟨v, [], rfl, x, by unfold Vs; rfl⟩
theorem Vs.nil : Vs fa μ h [] [] := by unfold Vs; rfl
theorem Vs.cons {d : D} {v : Value} {ds vs} (x : V fa μ h d v) (y : Vs fa μ h ds vs) : Vs fa μ h (d :: ds) (v :: vs) := by unfold Vs; exact ⟨v, vs, rfl, x, y⟩
theorem Vs.butLast : ∀ {ds ds' : List D} {vs : List Value} {d : D}, Vs fa μ h ds vs → Mine.butLast ds = some (ds', d) → ∃ vs' v, vs = vs' ++ [v] ∧ Vs fa μ h ds' vs' ∧ V fa μ h d v
  | [], _, _, _, _, e => nomatch e
  | [x], _, _, _, r, e => by
    cases e
    unfold Vs at r
    obtain ⟨v, vs', rfl, y, z⟩ := r
    unfold Vs at z; subst z
    exact ⟨[], v, rfl, Vs.nil, y⟩
  | x :: y :: l, ds', vs, d, r, e => by
    unfold Vs at r
    obtain ⟨v, vs', rfl, r1, r2⟩ := r
    unfold Mine.butLast at e
    cases q : Mine.butLast (y :: l) with
    | none => rw [q] at e; cases e
    | some p =>
      rw [q] at e
      obtain ⟨p1, p2⟩ := p
      cases e
      obtain ⟨us, u, e1, e2, e3⟩ := Vs.butLast r2 q
      exact ⟨v :: us, u, by rw [e1]; rfl, Vs.cons r1 e2, e3⟩
end
end Mine
-- S1
open PySem PySem.W PyProof.Rows PySem.Calls
namespace Mine

structure Cx where
  prog : Program
  w : World
  base : Heap
  K : Frag
  p : Program
  loose : List Str
  mg : Str → Option Value
  mb : Str → Option Value
  fa : Nat → Addr
  F : List Fn
  W : List (Txt × List Txt)
  k0 : Nat
  μ0 : List Addr
  cL : Addr
  cB : Addr

noncomputable abbrev Cx.M (c : Cx) : Model := model c.prog c.w

noncomputable def Ks (fa : Nat → Addr) (μ : List Addr) (h : Heap) : List (Txt × D) → List (Str × Value) → Prop
  | [], l => l = []
  | p :: r, l => ∃ v l', l = (sOf p.1, v) :: l' ∧ V fa μ h p.2 v ∧ Ks fa μ h r l'
theorem Ks.mono {fa : Nat → Addr} {μ μ' : List Addr} {h h' : Heap} (p : μ <+: μ') (k : ∀ b xs, IsTup h b xs → IsTup h' b xs) : ∀ {l : List (Txt × D)} {es : List (Str × Value)}, Ks fa μ h l es → Ks fa μ' h' l es
  | [], _, x => x
  | _ :: _, _, x => by
    obtain ⟨v, l', e, a, b⟩ := x
    exact ⟨v, l', e, V.mono p k _ _ a, Ks.mono p k b⟩

noncomputable def levNames : List Txt := [[107,105,110,100], [119,111,114,100], [97,114,103,115], [111,112,101,114,97,110,100,115], [111,112,101,114,97,116,111,114,115]]

noncomputable def O (c : Cx) (σ : Sg) (μ : List Addr) (h : Heap) (i : Nat) (a : Addr) : Ob → Prop
  | .list ds => ∃ vs m, IsL h a vs.toArray m ∧ Vs c.fa μ h ds vs
  | .dict es => ∃ kvs, Heap.DictOf (strKind c.prog c.w) h a kvs ∧ Ks c.fa μ h es kvs ∧ (a == sysModules) = false
  | .lev fs => ∃ da es m, nth σ (i + 1) = some .ns ∧ nth μ (i + 1) = some da ∧ h.get? a = some (instObj c.cL da) ∧ h.get? da = some (dictOf es m) ∧
      ∀ j nm d, nth levNames j = some nm → nth fs j = some d → ∃ v, getL (sOf nm) es = some (some v) ∧ V c.fa μ h d v
  | .ns => ∃ es m, h.get? a = some (dictOf es m)

structure Inv (c : Cx) (h : Heap) (σ : Sg) (μ : List Addr) : Prop where
  stays : c.base.StaysIn h
  pre : c.μ0 <+: μ
  len : μ.length = σ.length
  nodup : μ.Nodup
  own : ∀ i a, nth μ i = some a → c.k0 ≤ i → c.base.objs.size ≤ a
  ob : ∀ i ob a, nth σ i = some ob → nth μ i = some a → O c σ μ h i a ob

structure Ext (N : List Addr) (μ : List Addr) (h : Heap) (μ' : List Addr) (h' : Heap) : Prop where
  pre : μ <+: μ'
  new : ∀ a ∈ μ', a ∈ μ ∨ h.get? a = none
  keep : Keep (N ++ μ) h h'

theorem Ext.refl (N μ : List Addr) (h : Heap) : Ext N μ h μ h := ⟨List.prefix_refl _, fun _ m => .inl m, Keep.refl _ _⟩
theorem Keep.gone {M : List Addr} {h h' : Heap} (k : Keep M h h') {a : Addr} (e : h'.get? a = none) : h.get? a = none := by
  cases q : h.get? a with
  | none => rfl
  | some o => obtain ⟨o', e'⟩ := k.there a o q; rw [e] at e'; cases e'
theorem Ext.trans {N N' μ μ' μ'' : List Addr} {h h' h'' : Heap} (x : Ext N μ h μ' h') (y : Ext N' μ' h' μ'' h'') (n : ∀ a ∈ N', a ∈ N ∨ h.get? a = none) : Ext N μ h μ'' h'' := by
  refine ⟨x.pre.trans y.pre, fun a m => ?_, fun b o e => ?_, fun b o e nb => ?_, fun b xs t => y.keep.tup _ _ (x.keep.tup _ _ t)⟩
  · rcases y.new a m with q | q
    · exact x.new a q
    · exact .inr (x.keep.gone q)
  · obtain ⟨o', e'⟩ := x.keep.there b o e
    exact y.keep.there b o' e'
  · refine y.keep.old b o (x.keep.old b o e nb) fun m => ?_
    rcases List.mem_append.mp m with q | q
    · rcases n b q with q | q
      · exact nb (List.mem_append_left _ q)
      · rw [e] at q; cases q
    · rcases x.new b q with q | q
      · exact nb (List.mem_append_right _ q)
      · rw [e] at q; cases q
theorem Ext.weak {N N' μ μ' : List Addr} {h h' : Heap} (x : Ext N μ h μ' h') (n : ∀ a ∈ N, a ∈ N') : Ext N' μ h μ' h' :=
  ⟨x.pre, x.new, x.keep.there, fun b o e nb => x.keep.old b o e fun m => nb ((List.mem_append.mp m).elim (fun q => List.mem_append_left _ (n b q)) fun q => List.mem_append_right _ q), x.keep.tup⟩

theorem Heap.Ns.keep1 {h h' : Heap} {a : Addr} {m : Str → Option Value} (x : h.Ns a m) (k : ∀ o, h.get? a = some o → h'.get? a = some o) : h'.Ns a m := by
  obtain ⟨o, es, ep, e, r⟩ := x
  exact ⟨o, es, ep, k o e, r⟩
theorem Ns.there {h : Heap} {a : Addr} {m : Str → Option Value} (x : h.Ns a m) : a < h.objs.size := by
  obtain ⟨o, es, ep, e, r⟩ := x
  exact Heap.lt_size e

/-- the objects at μ are there -/
theorem O.there {c : Cx} {σ : Sg} {μ : List Addr} {h : Heap} {i : Nat} {a : Addr} {ob : Ob} (x : O c σ μ h i a ob) : ∃ o, h.get? a = some o ∧ (∀ xs, ¬ IsTup h a xs) := by
  cases ob with
  | list ds =>
    obtain ⟨vs, m, e, _⟩ := x
    refine ⟨_, e, fun xs t => ?_⟩
    obtain ⟨o', e', cl', _⟩ := t
    rw [show h.get? a = _ from e] at e'; cases e'; exact absurd (show Value.type "list" = Value.type "tuple" from cl') (by decide)
  | dict es =>
    obtain ⟨kvs, ⟨o, es', ep, e, x, d, _⟩, _⟩ := x
    refine ⟨o, e, fun xs t => ?_⟩
    obtain ⟨o', e', _, n, d'⟩ := t
    rw [e] at e'; cases e'; rw [d] at d'; cases d'
  | lev fs =>
    obtain ⟨da, es, m, _, _, e, _⟩ := x
    refine ⟨_, e, fun xs t => ?_⟩
    obtain ⟨o', e', _, n, d'⟩ := t
    rw [e] at e'; cases e'; cases d'
  | ns =>
    obtain ⟨es, m, e⟩ := x
    refine ⟨_, e, fun xs t => ?_⟩
    obtain ⟨o', e', _, n, d'⟩ := t
    rw [e] at e'; cases e'; cases d'

theorem Inv.at {c : Cx} {h : Heap} {σ : Sg} {μ : List Addr} (I : Inv c h σ μ) {i : Nat} {ob : Ob} (e : nth σ i = some ob) : ∃ a, nth μ i = some a ∧ O c σ μ h i a ob := by
  obtain ⟨a, ea⟩ := nth_some_of_lt (l := μ) (by rw [I.len]; exact nth_lt e)
  exact ⟨a, ea, I.ob i ob a e ea⟩
theorem Inv.there {c : Cx} {h : Heap} {σ : Sg} {μ : List Addr} (I : Inv c h σ μ) {a : Addr} (m : a ∈ μ) : ∃ o, h.get? a = some o ∧ (∀ xs, ¬ IsTup h a xs) := by
  obtain ⟨i, hi, e⟩ := List.mem_iff_getElem.mp m
  obtain ⟨ob, eo⟩ := nth_some_of_lt (l := σ) (n := i) (by rw [← I.len]; exact hi)
  have ea : nth μ i = some a := by rw [nth_eq, List.getElem?_eq_getElem hi, e]
  exact (I.ob i ob a eo ea).there
theorem Inv.lt {c : Cx} {h : Heap} {σ : Sg} {μ : List Addr} (I : Inv c h σ μ) {a : Addr} (m : a ∈ μ) : a < h.objs.size := by
  obtain ⟨o, e, _⟩ := I.there m
  exact Heap.lt_size e

/-- an object of μ lives on where it is kept -/
theorem O.mono {c : Cx} {σ σ' : Sg} {μ μ' : List Addr} {h h' : Heap} {i : Nat} {a : Addr} {ob : Ob} (p : μ <+: μ') (ps : ∀ x, nth σ (i + 1) = some x → x = .ns → nth σ' (i + 1) = some x) (t : ∀ b xs, IsTup h b xs → IsTup h' b xs)
    (k : ∀ o, h.get? a = some o → h'.get? a = some o) (kd : ∀ b, nth σ (i + 1) = some .ns → nth μ (i + 1) = some b → ∀ o, h.get? b = some o → h'.get? b = some o) (x : O c σ μ h i a ob) : O c σ' μ' h' i a ob := by
  cases ob with
  | list ds =>
    obtain ⟨vs, m, e, r⟩ := x
    exact ⟨vs, m, k _ e, Vs.mono p t _ _ r⟩
  | dict es =>
    obtain ⟨kvs, ⟨o, es', ep, e, x, d, z⟩, r, q⟩ := x
    exact ⟨kvs, ⟨o, es', ep, k o e, x, d, z⟩, r.mono p t, q⟩
  | lev fs =>
    obtain ⟨da, es, m, s1, s2, e, n, f⟩ := x
    refine ⟨da, es, m, ps _ s1 rfl, nth_prefix p s2, k _ e, kd da s1 s2 _ n, fun j nm dd e1 e2 => ?_⟩
    obtain ⟨v, e3, e4⟩ := f j nm dd e1 e2
    exact ⟨v, e3, V.mono p t _ _ e4⟩
  | ns =>
    obtain ⟨es, m, n⟩ := x
    exact ⟨es, m, k _ n⟩

theorem Inv.keep0 {c : Cx} {h h' : Heap} {σ : Sg} {μ N : List Addr} (I : Inv c h σ μ) (old : ∀ b o, h.get? b = some o → b ∉ N → h'.get? b = some o) (tup : ∀ b xs, IsTup h b xs → IsTup h' b xs) (n : ∀ a ∈ μ, a ∉ N) (nb : ∀ a ∈ N, c.base.objs.size ≤ a) : Inv c h' σ μ := by
  refine ⟨fun b o e => old b o (I.stays b o e) fun m => absurd (Heap.lt_size e) (Nat.not_lt.mpr (nb b m)), I.pre, I.len, I.nodup, I.own, fun i ob a e1 e2 => ?_⟩
  refine O.mono (List.prefix_refl _) (fun x q _ => q) tup (fun o e => old a o e (n a (nth_mem e2))) (fun b _ q o e => old b o e (n b (nth_mem q))) (I.ob i ob a e1 e2)
theorem Inv.keep {c : Cx} {h h' : Heap} {σ : Sg} {μ N : List Addr} (I : Inv c h σ μ) (k : Keep N h h') (n : ∀ a ∈ μ, a ∉ N) (nb : ∀ a ∈ N, c.base.objs.size ≤ a) : Inv c h' σ μ :=
  I.keep0 k.old k.tup n nb

theorem Keep.push (M : List Addr) (h : Heap) (o : Obj) : Keep M h (h.push o) :=
  ⟨fun b o' e => ⟨o', Heap.get?_push_of_some _ e⟩, fun b o' e _ => Heap.get?_push_of_some _ e, fun b xs ⟨o', e, r⟩ => ⟨o', Heap.get?_push_of_some _ e, r⟩⟩
theorem Keep.of_keeps (M : List Addr) {h h' : Heap} (k : ∀ b o, h.get? b = some o → h'.get? b = some o) : Keep M h h' :=
  ⟨fun b o e => ⟨o, k b o e⟩, fun b o e _ => k b o e, fun b xs ⟨o', e, r⟩ => ⟨o', k _ _ e, r⟩⟩
theorem Keep.sameBut {M : List Addr} {h h' : Heap} {a : Addr} (s : Heap.SameBut a h h') (m : a ∈ M) (t : ∀ xs, ¬ IsTup h a xs) (w : ∃ o, h'.get? a = some o) : Keep M h h' := by
  refine ⟨fun b o e => ?_, fun b o e nb => (s.2 b fun q => nb (q ▸ m)).trans e, fun b xs ht => ?_⟩
  · by_cases q : b = a
    · subst q; exact w
    · exact ⟨o, (s.2 b q).trans e⟩
  · by_cases q : b = a
    · subst q; exact absurd ht (t xs)
    · obtain ⟨o, e, r⟩ := ht
      exact ⟨o, (s.2 b q).trans e, r⟩
theorem Ns.noTup {h : Heap} {a : Addr} {m : Str → Option Value} (x : h.Ns a m) (xs : Array Value) : ¬ IsTup h a xs := by
  obtain ⟨o, es, ep, e, d, _⟩ := x
  rintro ⟨o', e', _, n, d'⟩
  rw [e] at e'; cases e'; rw [d] at d'; cases d'

/-- new objects are taken up -/
theorem Inv.alloc {c : Cx} {h h' : Heap} {σ τ : Sg} {μ ν : List Addr} (I : Inv c h σ μ) (k : Keep [] h h') (hl : ν.length = τ.length) (hn : ν.Nodup) (ha : ∀ a ∈ ν, h.get? a = none) (hb : ∀ a ∈ ν, c.base.objs.size ≤ a)
    (ho : ∀ i ob a, nth τ i = some ob → nth ν i = some a → O c (σ ++ τ) (μ ++ ν) h' (σ.length + i) a ob) : Inv c h' (σ ++ τ) (μ ++ ν) := by
  have I' := I.keep k (fun _ _ => List.not_mem_nil) (fun _ m => absurd m List.not_mem_nil)
  refine ⟨I'.stays, I.pre.trans ⟨ν, rfl⟩, by simp [I.len, hl], ?_, fun i a e q => ?_, fun i ob a e1 e2 => ?_⟩
  · refine List.nodup_append.mpr ⟨I.nodup, hn, fun a ma b mb q => ?_⟩
    subst q
    obtain ⟨o, e, _⟩ := I.there ma
    rw [ha a mb] at e; cases e
  · by_cases li : i < μ.length
    · obtain ⟨x, ex⟩ := nth_some_of_lt li
      have := nth_append (m := ν) ex
      rw [e] at this; cases this
      exact I.own i a ex q
    · have hi : i = μ.length + (i - μ.length) := by omega
      rw [hi, nth_append_len] at e
      exact hb a (nth_mem e)
  · by_cases li : i < σ.length
    · obtain ⟨x, ex⟩ := nth_some_of_lt li
      have q := nth_append (m := τ) ex
      rw [e1] at q; cases q
      obtain ⟨y, ey⟩ := nth_some_of_lt (l := μ) (by rw [I.len]; exact li)
      have q := nth_append (m := ν) ey
      rw [e2] at q; cases q
      exact O.mono ⟨ν, rfl⟩ (fun x q _ => nth_append q) (fun _ _ t => t) (fun _ e => e) (fun _ _ _ _ e => e) (I'.ob i ob a ex ey)
    · have hi : i = σ.length + (i - σ.length) := by omega
      have e1' := e1
      have e2' := e2
      rw [hi, nth_append_len] at e1'
      rw [hi, ← I.len, nth_append_len, I.len] at e2'
      have := ho _ ob a e1' e2'
      rw [← hi] at this; exact this

/-- one object is turned -/
theorem Inv.turn {c : Cx} {h h' : Heap} {σ : Sg} {μ : List Addr} {i : Nat} {ob ob' : Ob} {a : Addr} (I : Inv c h σ μ) (e1 : nth σ i = some ob) (e2 : nth μ i = some a) (q : c.k0 ≤ i) (hs : Heap.SameBut a h h') (hn : ob ≠ .ns)
    (hx : ∀ σ', (∀ x, nth σ (i + 1) = some x → nth σ' (i + 1) = some x) → O c σ' μ h' i a ob') : Inv c h' (put σ i ob') μ := by
  have li := nth_lt e1
  have k : Keep [a] h h' := Keep.sameBut hs (List.mem_singleton.mpr rfl) (I.ob i ob a e1 e2).there.choose_spec.2 ⟨_, (hx σ fun _ e => e).there.choose_spec.1⟩
  refine ⟨fun b o e => k.old b o (I.stays b o e) fun m => ?_, I.pre, by rw [length_put]; exact I.len, I.nodup, I.own, fun j oj b f1 f2 => ?_⟩
  · have := I.own i a e2 q
    rw [List.mem_singleton.mp m] at e
    exact absurd (Heap.lt_size e) (Nat.not_lt.mpr this)
  · rw [nth_put li] at f1
    by_cases ji : j = i
    · subst ji
      rw [if_pos rfl] at f1
      cases f1
      rw [e2] at f2; cases f2
      refine hx _ fun x e => ?_
      rw [nth_put li, if_neg (by omega)]; exact e
    · rw [if_neg ji] at f1
      have ne : b ≠ a := fun z => ji (nodup_nth I.nodup (z ▸ f2) e2)
      refine O.mono (List.prefix_refl _) (fun x e z => ?_) k.tup (fun o e => (hs.2 b ne).trans e) (fun d s1 s2 o e => ?_) (I.ob j oj b f1 f2)
      · rw [nth_put li]
        by_cases w : j + 1 = i
        · rw [w, e1] at e; cases e; exact absurd z hn
        · rw [if_neg w]; exact e
      · have : d ≠ a := fun z => by
          have w : j + 1 = i := nodup_nth I.nodup (z ▸ s2) e2
          rw [w, e1] at s1; cases s1; exact hn rfl
        exact (hs.2 d this).trans e
end Mine
-- S2
open PySem PySem.W PyProof.Rows PySem.Calls
namespace Mine

structure KeepS (M : List Addr) (h h' : Heap) : Prop where
  there : ∀ b o, h.get? b = some o → ∃ o', h'.get? b = some o'
  old : ∀ b o, h.get? b = some o → b ∉ M → (∀ vs, o.data ≠ .fields vs) → ∃ sl, h'.get? b = some { o with slots := sl }
theorem Keep.s {M : List Addr} {h h' : Heap} (k : Keep M h h') : KeepS M h h' := ⟨k.there, fun b o e nb _ => ⟨o.slots, k.old b o e nb⟩⟩
theorem KeepS.trans {M : List Addr} {h h' h'' : Heap} (x : KeepS M h h') (y : KeepS M h' h'') : KeepS M h h'' :=
  ⟨fun b o e => let ⟨o', e'⟩ := x.there b o e; y.there b o' e', fun b o e nb nf => by
    obtain ⟨sl, e1⟩ := x.old b o e nb nf
    obtain ⟨sl', e2⟩ := y.old b _ e1 nb nf
    exact ⟨sl', e2⟩⟩
theorem KeepS.refl (M : List Addr) (h : Heap) : KeepS M h h := (Keep.refl M h).s
theorem KeepS.weak {M M' : List Addr} {h h' : Heap} (x : KeepS M h h') (n : ∀ a ∈ M, a ∈ M' ∨ h.get? a = none) : KeepS M' h h' :=
  ⟨x.there, fun b o e nb nf => x.old b o e (fun m => (n b m).elim nb fun q => by rw [e] at q; cases q) nf⟩
theorem Ext.s {N μ μ' : List Addr} {h h' h'' : Heap} (x : Ext N μ h μ' h') (y : KeepS (N ++ μ') h' h'') : KeepS (N ++ μ) h h'' := by
  refine ⟨fun b o e => let ⟨o', e'⟩ := x.keep.there b o e; y.there b o' e', fun b o e nb nf => y.old b o (x.keep.old b o e nb) (fun m => ?_) nf⟩
  rcases List.mem_append.mp m with q | q
  · exact nb (List.mem_append_left _ q)
  · rcases x.new b q with q | q
    · exact nb (List.mem_append_right _ q)
    · rw [e] at q; cases q

structure Rest (s s' : Shared) : Prop where
  gens : s'.gens = s.gens
  os : s'.os = s.os
theorem Rest.refl (s : Shared) : Rest s s := ⟨rfl, rfl⟩
theorem Rest.trans {s s' s'' : Shared} (x : Rest s s') (y : Rest s' s'') : Rest s s'' := ⟨y.gens.trans x.gens, y.os.trans x.os⟩

noncomputable def codeName : Txt := [99, 111, 100, 101]
/-- an exception of the text's own class on its way, in the frames fs -/
noncomputable def Exn (c : Cx) (fs : List Env) (t : Txt) (e : Value) (h : Heap) : Prop :=
  ∃ a oe vs da od tk, e = .ref a ∧ c.base.get? a = none ∧ h.get? a = some oe ∧ oe.cls = .ref c.cB ∧ oe.data = .fields vs ∧ oe.dict = some da ∧ (h.get? da = some od ∧ (∀ vs, od.data ≠ .fields vs) ∧ lookIn (sOf codeName) od = some (some (.str (sOf t) tk))) ∧ 1 < vs.size ∧ h.FunFrames c.base fs ∧ c.base.StaysIn h ∧
    (vs[1]? = some .none ∨ ∃ T oT ts x, vs[1]? = some (.ref T) ∧ c.base.get? T = none ∧ T ≠ a ∧ h.get? T = some oT ∧ oT.data = .fields ts ∧ ts[3]? = some x ∧ (x = .none ∨ ∃ (L : Addr) (env : Env) (r : List Env), env.frame = some L ∧ fs = env :: r ∧ x = rawInt L))

noncomputable def Post (c : Cx) (fs : List Env) (N μ : List Addr) (s : Shared) (E : Value → Shared → Prop) (k : Ans → Sg → List Addr → Shared → Prop) : R → Prop
  | .stuck => False
  | .exc t _ => ∀ s' e, Exn c fs t e s'.heap → KeepS (N ++ μ) s.heap s'.heap → Rest s s' → E e s'
  | .ok a σ' => ∀ μ' s', Inv c s'.heap σ' μ' → Ext N μ s.heap μ' s'.heap → Rest s s' → k a σ' μ' s'

section
variable {c : Cx} {fs : List Env} {N μ : List Addr} {s : Shared} {E : Value → Shared → Prop} {k k' : Ans → Sg → List Addr → Shared → Prop} {r : R}
theorem Post.step {μ' : List Addr} {s' : Shared} (h : Post c fs N μ s E k r) (x : Ext N μ s.heap μ' s'.heap) (q : Rest s s') : Post c fs N μ' s' E k r := by
  cases r with
  | stuck => exact h
  | exc t σ => exact fun s'' e y z w => h s'' e y (x.s z) (q.trans w)
  | ok a σ => exact fun μ'' s'' i y w => h μ'' s'' i (x.trans y fun a m => .inl m) (q.trans w)
theorem Post.less {N' : List Addr} (n : ∀ a ∈ N', a ∈ N) (h : Post c fs N μ s E k r) : Post c fs N' μ s E k r := by
  cases r with
  | stuck => exact h
  | exc t σ => exact fun s'' e y z w => h s'' e y (z.weak fun a m => .inl ((List.mem_append.mp m).elim (fun m => List.mem_append_left _ (n a m)) fun m => List.mem_append_right _ m)) w
  | ok a σ => exact fun μ'' s'' i y w => h μ'' s'' i (y.weak n) w
theorem Post.mono (h : Post c fs N μ s E k r) (m : ∀ a σ' μ' s', Inv c s'.heap σ' μ' → Ext N μ s.heap μ' s'.heap → Rest s s' → k a σ' μ' s' → k' a σ' μ' s') : Post c fs N μ s E k' r := by
  cases r with
  | stuck => exact h
  | exc t σ => exact h
  | ok a σ => exact fun μ'' s'' i y w => m _ _ _ _ i y w (h μ'' s'' i y w)
noncomputable def kV (c : Cx) (Q : Value → Shared → Prop) : Ans → Sg → List Addr → Shared → Prop := fun a _ μ' s' => match a with
  | .v d => ∀ v, V c.fa μ' s'.heap d v → Q v s'
  | _ => False
noncomputable def kVs (c : Cx) (Q : List Value → Shared → Prop) : Ans → Sg → List Addr → Shared → Prop := fun a _ μ' s' => match a with
  | .vs d => ∀ v, Vs c.fa μ' s'.heap d v → Q v s'
  | _ => False
noncomputable def kB (Q : Bool → Shared → Prop) : Ans → Sg → List Addr → Shared → Prop := fun a _ _ s' => match a with
  | .b b => Q b s'
  | _ => False
/-- a sub-run, then the rest of the evaluator's run -/
theorem Post.bindV {f : D → Sg → R} (h : Post c fs N μ s E k (Mine.bindV r f)) : Post c fs [] μ s E (fun a σ' μ' s' => match a with
    | .v d => Post c fs N μ' s' E k (f d σ')
    | _ => False) r := by
  cases r with
  | stuck => exact h
  | exc t σ => exact Post.less (r := .exc t σ) (k := k) (fun _ m => absurd m List.not_mem_nil) h
  | ok a σ =>
    cases a with
    | v d => exact fun μ' s' i x w => Post.step h (x.weak fun _ m => absurd m List.not_mem_nil) w
    | _ => exact h.elim
theorem Post.bindVs {f : List D → Sg → R} (h : Post c fs N μ s E k (Mine.bindVs r f)) : Post c fs [] μ s E (fun a σ' μ' s' => match a with
    | .vs d => Post c fs N μ' s' E k (f d σ')
    | _ => False) r := by
  cases r with
  | stuck => exact h
  | exc t σ => exact Post.less (r := .exc t σ) (k := k) (fun _ m => absurd m List.not_mem_nil) h
  | ok a σ =>
    cases a with
    | vs d => exact fun μ' s' i x w => Post.step h (x.weak fun _ m => absurd m List.not_mem_nil) w
    | _ => exact h.elim
theorem Post.bindB {f : Bool → Sg → R} (h : Post c fs N μ s E k (Mine.bindB r f)) : Post c fs [] μ s E (fun a σ' μ' s' => match a with
    | .b d => Post c fs N μ' s' E k (f d σ')
    | _ => False) r := by
  cases r with
  | stuck => exact h
  | exc t σ => exact Post.less (r := .exc t σ) (k := k) (fun _ m => absurd m List.not_mem_nil) h
  | ok a σ =>
    cases a with
    | b d => exact fun μ' s' i x w => Post.step h (x.weak fun _ m => absurd m List.not_mem_nil) w
    | _ => exact h.elim
theorem Post.bindF {f : List D → Sg → R} {g : D → List D → Sg → R} (h : Post c fs N μ s E k (Mine.bindF r f g)) : Post c fs N μ s E (fun a σ' μ' s' => match a with
    | .f fl ρ => (match fl with
      | .next => Post c fs N μ' s' E k (f ρ σ')
      | .ret d => Post c fs N μ' s' E k (g d ρ σ'))
    | _ => False) r := by
  cases r with
  | stuck => exact h
  | exc t σ => exact h
  | ok a σ =>
    cases a with
    | f fl ρ =>
      cases fl with
      | next => exact fun μ' s' i x w => Post.step h x w
      | ret d => exact fun μ' s' i x w => Post.step h x w
    | _ => exact h.elim
/-- an answer at hand -/
theorem Post.now {a : Ans} {σ' : Sg} {μ' : List Addr} {s' : Shared} (h : Post c fs N μ s E k (.ok a σ')) (i : Inv c s'.heap σ' μ') (x : Ext N μ s.heap μ' s'.heap) (q : Rest s s') : k a σ' μ' s' := h μ' s' i x q
end

/-- what stays fixed while a function's body runs -/
structure Fx where
  q : Str
  sc : Scope
  L : Addr
  a : Addr
  cd : Value
  slots : List Txt
  outer : List Env
noncomputable abbrev Fx.env (f : Fx) : Env := envOf f.q f.sc f.L f.a f.cd
noncomputable abbrev Fx.fs (f : Fx) : List Env := f.env :: f.outer

/-- the frame's names hold ρ -/
structure Loc (c : Cx) (f : Fx) (ρ : List D) (μ : List Addr) (h : Heap) : Prop where
  loc : ∃ m, h.Ns f.L m ∧ ∀ i d nm, nth ρ i = some d → d ≠ .unb → nth f.slots i = some nm → ∃ v, m (sOf nm) = some v ∧ V c.fa μ h d v
  len : ρ.length = f.slots.length

/-- where the run stands within a function's body -/
structure Here (c : Cx) (A : Around) (n : Nat) (f : Fx) (ρ : List D) (σ : Sg) (μ : List Addr) (h : Heap) : Prop extends Loc c f ρ μ h where
  inv : Inv c h σ μ
  frames : A.frames = some f.fs
  ff : h.FunFrames c.base f.fs
  off : ∀ e ∈ f.fs, ∀ b, e.frame = some b → b ∉ μ
  handled : A.handled = none
  depth : A.depth + n < recursionLimit
  units : A.units + 100 + 4 * n < cLine
  above : c.base.objs.size ≤ f.L
  kind : f.sc.kind = .function
  locals : ∀ nm ∈ f.slots, f.sc.names.lookup (sOf nm) = some .local ∧ (sOf nm == ("__debug__" : Str)) = false
  nodup : f.slots.Nodup

theorem ff_mono {base h h' : Heap} : ∀ {l : List Env}, h.FunFrames base l → (∀ e ∈ l, ∀ b, e.frame = some b → ∀ o, h.get? b = some o → (∀ vs, o.data ≠ .fields vs) → ∃ o', h'.get? b = some o' ∧ ∀ vs, o'.data ≠ .fields vs) → h'.FunFrames base l
  | [], _, _ => trivial
  | env :: rest, ⟨hk, ⟨L, o, hf, hn, ho, hd⟩, hr⟩, k => by
    obtain ⟨o', ho', hd'⟩ := k env (.head _) L hf o ho hd
    exact ⟨hk, ⟨L, o', hf, hn, ho', hd'⟩, ff_mono hr fun e he => k e (.tail _ he)⟩

section
variable {c : Cx} {A : Around} {n : Nat} {f : Fx} {ρ : List D} {σ : Sg} {μ : List Addr} {h : Heap}
theorem Here.lt (H : Here c A n f ρ σ μ h) : ∀ e ∈ f.fs, ∀ b, e.frame = some b → b < h.objs.size := fun e he b hb => by
  obtain ⟨_, o, ho, _⟩ := H.ff.mem (List.mem_filterMap.mpr ⟨e, he, hb⟩)
  exact Heap.lt_size ho
theorem Here.offL (H : Here c A n f ρ σ μ h) : f.L ∉ μ := H.off f.env (.head _) f.L rfl
theorem Here.ltL (H : Here c A n f ρ σ μ h) : f.L < h.objs.size := H.lt f.env (.head _) f.L rfl
theorem Here.off' {N μ' : List Addr} {h' : Heap} (H : Here c A n f ρ σ μ h) (x : Ext N μ h μ' h') : ∀ e ∈ f.fs, ∀ b, e.frame = some b → b ∉ μ' := fun e he b hb m => by
  rcases x.new b m with q | q
  · exact H.off e he b hb q
  · obtain ⟨_, o, ho, _⟩ := H.ff.mem (List.mem_filterMap.mpr ⟨e, he, hb⟩)
    rw [q] at ho; cases ho
/-- an expression is done: the names are as they were -/
theorem Here.move {σ' : Sg} {μ' : List Addr} {h' : Heap} (H : Here c A n f ρ σ μ h) (i : Inv c h' σ' μ') (x : Ext [] μ h μ' h') : Here c A n f ρ σ' μ' h' := by
  obtain ⟨m, hm, hl⟩ := H.loc
  refine ⟨⟨⟨m, ?_, fun i d nm e1 e2 e3 => ?_⟩, H.len⟩, i, H.frames, ff_mono H.ff fun e he b hb o ho hd => ⟨o, x.keep.old b o ho (H.off e he b hb), hd⟩, H.off' x, H.handled, H.depth, H.units, H.above, H.kind, H.locals, H.nodup⟩
  · exact Heap.Ns.keep1 hm fun o e => x.keep.old f.L o e H.offL
  · obtain ⟨v, a, b⟩ := hl i d nm e1 e2 e3
    exact ⟨v, a, V.mono x.pre x.keep.tup _ _ b⟩
/-- a statement is done: the names hold ρ' -/
theorem Here.moveL {σ' : Sg} {μ' : List Addr} {h' : Heap} {ρ' : List D} (H : Here c A n f ρ σ μ h) (i : Inv c h' σ' μ') (x : Ext [f.L] μ h μ' h') (l : Loc c f ρ' μ' h') : Here c A n f ρ' σ' μ' h' := by
  refine ⟨l, i, H.frames, ff_mono H.ff fun e he b hb o ho hd => ?_, H.off' x, H.handled, H.depth, H.units, H.above, H.kind, H.locals, H.nodup⟩
  by_cases q : b = f.L
  · subst q
    obtain ⟨m, ⟨o', es, ep, e', d', _⟩, _⟩ := l.loc
    exact ⟨o', e', fun vs z => by rw [d'] at z; cases z⟩
  · refine ⟨o, x.keep.old b o ho fun m => ?_, hd⟩
    rcases List.mem_append.mp m with m | m
    · exact q (List.mem_singleton.mp m)
    · exact H.off e he b hb m
theorem Here.less {k : Nat} (H : Here c A (n + k) f ρ σ μ h) : Here c A n f ρ σ μ h :=
  ⟨H.toLoc, H.inv, H.frames, H.ff, H.off, H.handled, by have := H.depth; omega, by have := H.units; omega, H.above, H.kind, H.locals, H.nodup⟩
theorem Here.baseLt (H : Here c A n f ρ σ μ h) : c.base.objs.size ≤ h.objs.size := Nat.le_trans H.above (Nat.le_of_lt H.ltL)
theorem Here.fr (H : Here c A n f ρ σ μ h) : ∃ m, Fr c.base f.L h m ∧ ∀ i d nm, nth ρ i = some d → d ≠ .unb → nth f.slots i = some nm → ∃ v, m (sOf nm) = some v ∧ V c.fa μ h d v := by
  obtain ⟨m, hm, hl⟩ := H.loc
  exact ⟨m, ⟨hm, H.inv.stays, H.above⟩, hl⟩
theorem Here.toks {s : Shared} {t : Nat} (H : Here c A n f ρ σ μ s.heap) : Here c A n f ρ σ μ { s with toks := t }.heap := H
end
/-- facts of the module that every run leans on -/
structure Ok (c : Cx) : Prop where
  X : c.K.In c.base
  T : TopRead c.p c.loose c.mg c.mb c.base
  keep : ∀ k fn, nth c.F k = some fn → keepIn c.K (.ref (c.fa k)) = true
  levs : ∀ nm ∈ levNames, plainGet c.K c.cL (sOf nm) = true ∧ hasDictIn c.K c.cL = true ∧ findIn c.K (.ref c.cL) (sOf nm) = some none

noncomputable def seqS (s : Str) (l : Txt) : Bool := beqL s.cps.toList l
theorem beqL_iff : ∀ {a b : Txt}, beqL a b = true ↔ a = b
  | [], [] => by simp [beqL]
  | [], _ :: _ => by simp [beqL]
  | _ :: _, [] => by simp [beqL]
  | x :: l, y :: m => by
    unfold beqL
    cases h : Nat.beq x y with
    | true =>
      have : x = y := Nat.eq_of_beq_eq_true h
      simp [beqL_iff (a := l) (b := m), this]
    | false =>
      have : x ≠ y := Nat.ne_of_beq_eq_false h
      simp [this]
theorem seqS_iff {s : Str} {l : Txt} : seqS s l = true ↔ s = sOf l := by
  unfold seqS
  rw [beqL_iff]
  cases s with | mk a =>
  constructor
  · intro h; show Str.mk a = Str.mk l.toArray; rw [← h]
  · intro h; have : a = l.toArray := congrArg Str.cps h; simp [this]
end Mine
-- C0
open PySem PySem.W PyProof.Rows PySem.Calls
namespace Mine

noncomputable def glbOk (sc : Scope) (id : Str) : Bool := decide (sc.names.lookup id = some .globalImplicit) && !(id == ("__debug__" : Str))
mutual
noncomputable def chkV (c : Cx) : D → Value → Bool
  | .none, v => match v with | .none => true | _ => false
  | .bool a, v => match v with | .bool b => (a && b) || (!a && !b) | _ => false
  | .int i, v => match v with | .int j _ => eqI i j | _ => false
  | .str l, v => match v with | .str s _ => seqS s l | _ => false
  | .fn k, v => match v with | .ref a => Nat.beq a (c.fa k) | _ => false
  | .ref i, v => match v with | .ref a => (match nth c.μ0 i with | some b => Nat.beq a b | none => false) | _ => false
  | .tup ds, v => match v with
    | .ref a => (match c.K.lookup a with
      | some o => (match o.data with | .seq vs _ => decide (o.cls = .type "tuple") && chkVs c ds vs.toList | _ => false)
      | none => false)
    | _ => false
  | .unb, _ => false
noncomputable def chkVs (c : Cx) : List D → List Value → Bool
  | [], [] => true
  | d :: ds, v :: vs => chkV c d v && chkVs c ds vs
  | _, _ => false
end
noncomputable def chkC : D → Const → Bool
  | .none, k => match k with | .none => true | _ => false
  | .bool a, k => match k with | .bool b => (a && b) || (!a && !b) | _ => false
  | .int i, k => match k with | .int j => eqI i j | _ => false
  | .str l, k => match k with | .str s => seqS s l | _ => false
  | _, _ => false
noncomputable def opOf : Op → CmpOp
  | .eq => .Eq | .ne => .NotEq | .lt => .Lt | .le => .LtE | .gt => .Gt | .ge => .GtE | .mem => .In | .nmem => .NotIn | .isnot => .IsNot
noncomputable def bopOf : Bool → BoolOp
  | true => .And | false => .Or
noncomputable def locOk (sl : List Txt) (x : Nat) (id : Str) : Bool := match nth sl x with
  | some nm => seqS id nm
  | none => false
noncomputable def refIn (c : Cx) (id : Str) (a : Addr) : Bool := match nsIn c.K mainGlobals id with
  | some (some v) => (match v with | .ref b => Nat.beq b a | _ => false)
  | _ => false
noncomputable def freeIn (c : Cx) (id : Str) : Bool := match nsIn c.K mainGlobals id with
  | some none => true
  | _ => false
noncomputable def notCall : Expr → Bool
  | .Call .. => false
  | _ => true
noncomputable def notSlice : Expr → Bool
  | .Slice .. => false
  | _ => true
noncomputable def isName : Expr → Bool
  | .Name .. => true
  | _ => false
noncomputable def splitL : Txt → Txt → List Txt
  | [], here => [here.reverse]
  | x :: l, here => match Nat.beq x 32 with
    | true => here.reverse :: splitL l []
    | false => splitL l (x :: here)
noncomputable def chkF (c : Cx) (sc : Scope) (e : Expr) (f : Txt × Nat) : Bool := match e with
  | .Name id _ => seqS id f.1 && glbOk sc id && refIn c id (c.fa f.2)
  | _ => false
noncomputable def chkD (c : Cx) (sc : Scope) : List Txt → List (Txt × Nat) → List (Option Expr) → List Expr → Bool
  | [], [], [], [] => true
  | k :: ks, f :: fs, k' :: ks', v :: vs => (match k' with
      | some e => (match e with | .Constant q _ _ => chkC (.str k) q | _ => false)
      | none => false) && chkF c sc v f && chkD c sc ks fs ks' vs
  | _, _, _, _ => false
/-- an expression's pieces -/
structure Px where
  tag : Nat
  a : Expr
  b : Expr
  c : Expr
  l : List Expr
  os : List (Option Expr)
  oa : Option Expr
  ob : Option Expr
  oc : Option Expr
  ops : List CmpOp
  kws : List Keyword
  bo : BoolOp
  uo : UnaryOp
  op : Operator
  s : Str
  k : Const
  n : Nat
  p : Pos
noncomputable def noX0 : Expr := .Constant .none 0 default
noncomputable def px0 : Px := ⟨0, noX0, noX0, noX0, [], [], none, none, none, [], [], .And, .Not, .Add, "", .none, 0, default⟩
noncomputable def parts : Expr → Px
  | .Constant k n p => { px0 with tag := 1, k, n, p }
  | .Name s p => { px0 with tag := 2, s, p }
  | .Compare a ops l p => { px0 with tag := 3, a, ops, l, p }
  | .UnaryOp uo a p => { px0 with tag := 4, uo, a, p }
  | .BoolOp bo l p => { px0 with tag := 5, bo, l, p }
  | .IfExp a b c p => { px0 with tag := 6, a, b, c, p }
  | .BinOp a op b p => { px0 with tag := 7, a, op, b, p }
  | .Call a l kws p => { px0 with tag := 8, a, l, kws, p }
  | .Attribute a s p => { px0 with tag := 9, a, s, p }
  | .Subscript a b p => { px0 with tag := 10, a, b, p }
  | .Slice oa ob oc p => { px0 with tag := 11, oa, ob, oc, p }
  | .Tuple l n p => { px0 with tag := 12, l, n, p }
  | .List l p => { px0 with tag := 13, l, p }
  | .Dict os l p => { px0 with tag := 14, os, l, p }
  | _ => px0
noncomputable def IsX (x : Px) (e : Expr) : Nat → Prop
  | 1 => e = .Constant x.k x.n x.p
  | 2 => e = .Name x.s x.p
  | 3 => e = .Compare x.a x.ops x.l x.p
  | 4 => e = .UnaryOp x.uo x.a x.p
  | 5 => e = .BoolOp x.bo x.l x.p
  | 6 => e = .IfExp x.a x.b x.c x.p
  | 7 => e = .BinOp x.a x.op x.b x.p
  | 8 => e = .Call x.a x.l x.kws x.p
  | 9 => e = .Attribute x.a x.s x.p
  | 10 => e = .Subscript x.a x.b x.p
  | 11 => e = .Slice x.oa x.ob x.oc x.p
  | 12 => e = .Tuple x.l x.n x.p
  | 13 => e = .List x.l x.p
  | 14 => e = .Dict x.os x.l x.p
  | _ => True
theorem parts_is (e : Expr) : IsX (parts e) e (parts e).tag := by cases e <;> first | rfl | trivial
theorem tagged {e : Expr} {t : Nat} (h : Nat.beq (parts e).tag t = true) : IsX (parts e) e t := Nat.eq_of_beq_eq_true h ▸ parts_is e
noncomputable def vConst (e : Expr) (f : Const → Nat → Pos → Bool) : Bool := Nat.beq (parts e).tag 1 && f (parts e).k (parts e).n (parts e).p
theorem vConst_inv {e : Expr} {f : Const → Nat → Pos → Bool} (h : vConst e f = true) : ∃ x0 x1 x2, e = .Constant x0 x1 x2 ∧ f x0 x1 x2 = true :=
  have h := Bool.and_eq_true_iff.mp h
  ⟨_, _, _, tagged h.1, h.2⟩
noncomputable def vName (e : Expr) (f : Str → Pos → Bool) : Bool := Nat.beq (parts e).tag 2 && f (parts e).s (parts e).p
theorem vName_inv {e : Expr} {f : Str → Pos → Bool} (h : vName e f = true) : ∃ x0 x1, e = .Name x0 x1 ∧ f x0 x1 = true :=
  have h := Bool.and_eq_true_iff.mp h
  ⟨_, _, tagged h.1, h.2⟩
noncomputable def vCmp (e : Expr) (f : Expr → List CmpOp → List Expr → Pos → Bool) : Bool := Nat.beq (parts e).tag 3 && f (parts e).a (parts e).ops (parts e).l (parts e).p
theorem vCmp_inv {e : Expr} {f : Expr → List CmpOp → List Expr → Pos → Bool} (h : vCmp e f = true) : ∃ x0 x1 x2 x3, e = .Compare x0 x1 x2 x3 ∧ f x0 x1 x2 x3 = true :=
  have h := Bool.and_eq_true_iff.mp h
  ⟨_, _, _, _, tagged h.1, h.2⟩
noncomputable def vUn (e : Expr) (f : UnaryOp → Expr → Pos → Bool) : Bool := Nat.beq (parts e).tag 4 && f (parts e).uo (parts e).a (parts e).p
theorem vUn_inv {e : Expr} {f : UnaryOp → Expr → Pos → Bool} (h : vUn e f = true) : ∃ x0 x1 x2, e = .UnaryOp x0 x1 x2 ∧ f x0 x1 x2 = true :=
  have h := Bool.and_eq_true_iff.mp h
  ⟨_, _, _, tagged h.1, h.2⟩
noncomputable def vBool (e : Expr) (f : BoolOp → List Expr → Pos → Bool) : Bool := Nat.beq (parts e).tag 5 && f (parts e).bo (parts e).l (parts e).p
theorem vBool_inv {e : Expr} {f : BoolOp → List Expr → Pos → Bool} (h : vBool e f = true) : ∃ x0 x1 x2, e = .BoolOp x0 x1 x2 ∧ f x0 x1 x2 = true :=
  have h := Bool.and_eq_true_iff.mp h
  ⟨_, _, _, tagged h.1, h.2⟩
noncomputable def vIf (e : Expr) (f : Expr → Expr → Expr → Pos → Bool) : Bool := Nat.beq (parts e).tag 6 && f (parts e).a (parts e).b (parts e).c (parts e).p
theorem vIf_inv {e : Expr} {f : Expr → Expr → Expr → Pos → Bool} (h : vIf e f = true) : ∃ x0 x1 x2 x3, e = .IfExp x0 x1 x2 x3 ∧ f x0 x1 x2 x3 = true :=
  have h := Bool.and_eq_true_iff.mp h
  ⟨_, _, _, _, tagged h.1, h.2⟩
noncomputable def vBin (e : Expr) (f : Expr → Operator → Expr → Pos → Bool) : Bool := Nat.beq (parts e).tag 7 && f (parts e).a (parts e).op (parts e).b (parts e).p
theorem vBin_inv {e : Expr} {f : Expr → Operator → Expr → Pos → Bool} (h : vBin e f = true) : ∃ x0 x1 x2 x3, e = .BinOp x0 x1 x2 x3 ∧ f x0 x1 x2 x3 = true :=
  have h := Bool.and_eq_true_iff.mp h
  ⟨_, _, _, _, tagged h.1, h.2⟩
noncomputable def vCall (e : Expr) (f : Expr → List Expr → List Keyword → Pos → Bool) : Bool := Nat.beq (parts e).tag 8 && f (parts e).a (parts e).l (parts e).kws (parts e).p
theorem vCall_inv {e : Expr} {f : Expr → List Expr → List Keyword → Pos → Bool} (h : vCall e f = true) : ∃ x0 x1 x2 x3, e = .Call x0 x1 x2 x3 ∧ f x0 x1 x2 x3 = true :=
  have h := Bool.and_eq_true_iff.mp h
  ⟨_, _, _, _, tagged h.1, h.2⟩
noncomputable def vAttr (e : Expr) (f : Expr → Str → Pos → Bool) : Bool := Nat.beq (parts e).tag 9 && f (parts e).a (parts e).s (parts e).p
theorem vAttr_inv {e : Expr} {f : Expr → Str → Pos → Bool} (h : vAttr e f = true) : ∃ x0 x1 x2, e = .Attribute x0 x1 x2 ∧ f x0 x1 x2 = true :=
  have h := Bool.and_eq_true_iff.mp h
  ⟨_, _, _, tagged h.1, h.2⟩
noncomputable def vSub (e : Expr) (f : Expr → Expr → Pos → Bool) : Bool := Nat.beq (parts e).tag 10 && f (parts e).a (parts e).b (parts e).p
theorem vSub_inv {e : Expr} {f : Expr → Expr → Pos → Bool} (h : vSub e f = true) : ∃ x0 x1 x2, e = .Subscript x0 x1 x2 ∧ f x0 x1 x2 = true :=
  have h := Bool.and_eq_true_iff.mp h
  ⟨_, _, _, tagged h.1, h.2⟩
noncomputable def vSlice (e : Expr) (f : Option Expr → Option Expr → Option Expr → Pos → Bool) : Bool := Nat.beq (parts e).tag 11 && f (parts e).oa (parts e).ob (parts e).oc (parts e).p
theorem vSlice_inv {e : Expr} {f : Option Expr → Option Expr → Option Expr → Pos → Bool} (h : vSlice e f = true) : ∃ x0 x1 x2 x3, e = .Slice x0 x1 x2 x3 ∧ f x0 x1 x2 x3 = true :=
  have h := Bool.and_eq_true_iff.mp h
  ⟨_, _, _, _, tagged h.1, h.2⟩
noncomputable def vTup (e : Expr) (f : List Expr → Nat → Pos → Bool) : Bool := Nat.beq (parts e).tag 12 && f (parts e).l (parts e).n (parts e).p
theorem vTup_inv {e : Expr} {f : List Expr → Nat → Pos → Bool} (h : vTup e f = true) : ∃ x0 x1 x2, e = .Tuple x0 x1 x2 ∧ f x0 x1 x2 = true :=
  have h := Bool.and_eq_true_iff.mp h
  ⟨_, _, _, tagged h.1, h.2⟩
noncomputable def vList (e : Expr) (f : List Expr → Pos → Bool) : Bool := Nat.beq (parts e).tag 13 && f (parts e).l (parts e).p
theorem vList_inv {e : Expr} {f : List Expr → Pos → Bool} (h : vList e f = true) : ∃ x0 x1, e = .List x0 x1 ∧ f x0 x1 = true :=
  have h := Bool.and_eq_true_iff.mp h
  ⟨_, _, tagged h.1, h.2⟩
noncomputable def vDict (e : Expr) (f : List (Option Expr) → List Expr → Pos → Bool) : Bool := Nat.beq (parts e).tag 14 && f (parts e).os (parts e).l (parts e).p
theorem vDict_inv {e : Expr} {f : List (Option Expr) → List Expr → Pos → Bool} (h : vDict e f = true) : ∃ x0 x1 x2, e = .Dict x0 x1 x2 ∧ f x0 x1 x2 = true :=
  have h := Bool.and_eq_true_iff.mp h
  ⟨_, _, _, tagged h.1, h.2⟩
noncomputable def v0 {α : Type} : List α → Bool
  | [] => true
  | _ :: _ => false
theorem v0_inv {α : Type} : ∀ {l : List α}, v0 l = true → l = []
  | [], _ => rfl
  | _ :: _, h => nomatch h
noncomputable def vH {α : Type} (l : List α) (f : α → List α → Bool) : Bool := match l with
  | x :: r => f x r
  | [] => false
theorem vH_inv {α : Type} {l : List α} {f : α → List α → Bool} (h : vH l f = true) : ∃ x r, l = x :: r ∧ f x r = true := match l, h with
  | x :: r, h => ⟨x, r, rfl, h⟩
  | [], h => nomatch h
noncomputable def v1 {α : Type} (l : List α) (f : α → Bool) : Bool := vH l fun x r => v0 r && f x
theorem v1_inv {α : Type} {l : List α} {f : α → Bool} (h : v1 l f = true) : ∃ x, l = [x] ∧ f x = true := by
  obtain ⟨x, r, rfl, h⟩ := vH_inv h
  obtain ⟨h1, h⟩ := Bool.and_eq_true_iff.mp h
  cases v0_inv h1
  exact ⟨x, rfl, h⟩
noncomputable def v2 {α : Type} (l : List α) (f : α → α → Bool) : Bool := vH l fun x r => v1 r (f x)
theorem v2_inv {α : Type} {l : List α} {f : α → α → Bool} (h : v2 l f = true) : ∃ x y, l = [x, y] ∧ f x y = true := by
  obtain ⟨x, r, rfl, h⟩ := vH_inv h
  obtain ⟨y, rfl, h⟩ := v1_inv h
  exact ⟨x, y, rfl, h⟩
noncomputable def v3 {α : Type} (l : List α) (f : α → α → α → Bool) : Bool := vH l fun x r => v2 r (f x)
theorem v3_inv {α : Type} {l : List α} {f : α → α → α → Bool} (h : v3 l f = true) : ∃ x y z, l = [x, y, z] ∧ f x y z = true := by
  obtain ⟨x, r, rfl, h⟩ := vH_inv h
  obtain ⟨y, z, rfl, h⟩ := v2_inv h
  exact ⟨x, y, z, rfl, h⟩
noncomputable def vSome {α : Type} (o : Option α) (f : α → Bool) : Bool := match o with
  | some x => f x
  | none => false
theorem vSome_inv {α : Type} {o : Option α} {f : α → Bool} (h : vSome o f = true) : ∃ x, o = some x ∧ f x = true := match o, h with
  | some x, h => ⟨x, rfl, h⟩
  | none, h => nomatch h
noncomputable def vNone {α : Type} : Option α → Bool
  | none => true
  | some _ => false
theorem vNone_inv {α : Type} : ∀ {o : Option α}, vNone o = true → o = none
  | none, _ => rfl
  | some _, h => nomatch h
noncomputable def vStr (k : Const) (f : Str → Bool) : Bool := match k with | .str s => f s | _ => false
theorem vStr_inv {k : Const} {f : Str → Bool} (h : vStr k f = true) : ∃ s, k = .str s ∧ f s = true := by
  cases k with
  | str s => exact ⟨s, rfl, h⟩
  | _ => cases h
noncomputable def vInt (k : Const) (f : Int → Bool) : Bool := match k with | .int i => f i | _ => false
theorem vInt_inv {k : Const} {f : Int → Bool} (h : vInt k f = true) : ∃ i, k = .int i ∧ f i = true := by
  cases k with
  | int i => exact ⟨i, rfl, h⟩
  | _ => cases h
/-- a global name called, with no words -/
noncomputable def vCallN (e : Expr) (f : Str → List Expr → Bool) : Bool := vCall e fun g es kws _ => v0 kws && vName g fun id _ => f id es
theorem vCallN_inv {e : Expr} {f : Str → List Expr → Bool} (h : vCallN e f = true) : ∃ id p es pos, e = .Call (.Name id p) es [] pos ∧ f id es = true := by
  obtain ⟨g, es, kws, pos, rfl, h⟩ := vCall_inv h
  obtain ⟨h1, h⟩ := Bool.and_eq_true_iff.mp h
  cases v0_inv h1
  obtain ⟨id, p, rfl, h⟩ := vName_inv h
  exact ⟨id, p, es, pos, rfl, h⟩
/-- an object's method called, with no words -/
noncomputable def vCallA (e : Expr) (f : Expr → Str → Pos → List Expr → Pos → Bool) : Bool := vCall e fun g es kws pos => v0 kws && vAttr g fun o nm p => f o nm p es pos
theorem vCallA_inv {e : Expr} {f : Expr → Str → Pos → List Expr → Pos → Bool} (h : vCallA e f = true) : ∃ o nm p es pos, e = .Call (.Attribute o nm p) es [] pos ∧ f o nm p es pos = true := by
  obtain ⟨g, es, kws, pos, rfl, h⟩ := vCall_inv h
  obtain ⟨h1, h⟩ := Bool.and_eq_true_iff.mp h
  cases v0_inv h1
  obtain ⟨o, nm, p, rfl, h⟩ := vAttr_inv h
  exact ⟨o, nm, p, es, pos, rfl, h⟩
mutual
noncomputable def chkE (c : Cx) (sc : Scope) (sl : List Txt) : Ex → Expr → Bool
  | .lit d, e => vConst e fun k _ _ => chkC d k
  | .loc x, e => vName e fun id _ => locOk sl x id
  | .glb n d, e => vName e fun id _ => seqS id n && glbOk sc id && (match nsIn c.K mainGlobals id with | some (some v) => chkV c d v | _ => false)
  | .cmp op l r, e => vCmp e fun l' ops rs _ => v1 ops fun o => v1 rs fun r' => decide (o = opOf op) && !(behindInMarks o r') && chkE c sc sl l l' && chkE c sc sl r r'
  | .btw l m r, e => vCmp e fun l' ops rs _ => decide (ops = [.LtE, .LtE]) && v2 rs fun m' r' => !(lastMarks [.LtE, .LtE] [m', r']) && chkE c sc sl l l' && chkE c sc sl m m' && chkE c sc sl r r'
  | .nt x, e => vUn e fun o e' _ => decide (o = .Not) && chkE c sc sl x e'
  | .neg n, e => vUn e fun o k _ => decide (o = .USub) && vConst k fun k _ _ => vInt k fun i => decide (i = (n : Int))
  | .bop a es, e => vBool e fun op es' _ => decide (op = bopOf a) && chkEs c sc sl es es'
  | .ife t a b, e => vIf e fun t' a' b' _ => chkE c sc sl t t' && chkE c sc sl a a' && chkE c sc sl b b'
  | .add l r, e => vBin e fun l' o r' _ => decide (o = .Add) && (chkE c sc sl l l' && chkE c sc sl r r')
  | .mns l r, e => vBin e fun l' o r' _ => decide (o = .Sub) && (chkE c sc sl l l' && chkE c sc sl r r')
  | .mul l r, e => vBin e fun l' o r' _ => decide (o = .Mult) && (chkE c sc sl l l' && chkE c sc sl r r')
  | .call k es, e => vCallN e fun id es' => glbOk sc id && refIn c id (c.fa k) && keepIn c.K (.ref (c.fa k)) && chkEs c sc sl es es'
  | .callv x es, e => vCallN e fun id es' => locOk sl x id && chkEs c sc sl es es'
  | .len x, e => vCallN e fun id es' => v1 es' fun e' => decide (id = ("len" : Str)) && glbOk sc id && freeIn c id && chkE c sc sl x e'
  | .ord x, e => vCallN e fun id es' => v1 es' fun e' => decide (id = ("ord" : Str)) && glbOk sc id && freeIn c id && chkE c sc sl x e'
  | .lev a b, e => vCallN e fun id es' => v2 es' fun a' b' => glbOk sc id && refIn c id c.cL && keepIn c.K (.ref c.cL) && chkE c sc sl a a' && chkE c sc sl b b'
  | .app o x, e => vCallA e fun o' nm apos es' pos => v1 es' fun e' => decide (nm = ("append" : Str)) && notCall o' && Nat.beq apos.endLine pos.line && chkE c sc sl o o' && chkE c sc sl x e'
  | .ext o x, e => vCallA e fun o' nm apos es' pos => v1 es' fun e' => decide (nm = ("extend" : Str)) && notCall o' && Nat.beq apos.endLine pos.line && chkE c sc sl o o' && chkE c sc sl x e'
  | .upd o x, e => vCallA e fun o' nm apos es' pos => v1 es' fun e' => decide (nm = ("update" : Str)) && notCall o' && Nat.beq apos.endLine pos.line && chkE c sc sl o o' && chkE c sc sl x e'
  | .pop o, e => vCallA e fun o' nm apos es' pos => v0 es' && (decide (nm = ("pop" : Str)) && notCall o' && Nat.beq apos.endLine pos.line && chkE c sc sl o o')
  | .find o x y z, e => vCallA e fun o' nm apos es' pos => v3 es' fun x' y' z' => decide (nm = ("find" : Str)) && notCall o' && Nat.beq apos.endLine pos.line && chkE c sc sl o o' && chkE c sc sl x x' && chkE c sc sl y y' && chkE c sc sl z z'
  | .spl k, e => vCallA e fun o' nm apos es' pos => vName o' fun id _ => v1 es' fun e' => vConst e' fun kk _ _ => vStr kk fun sp => decide (nm = ("split" : Str)) && decide (sp = (" " : Str)) && glbOk sc id && Nat.beq apos.endLine pos.line &&
      (match nsIn c.K mainGlobals id with
      | some (some v) => (match v with
        | .str s _ => (match nth c.W k with | some p => seqS s p.1 && small p.1.length && beqLL (splitL p.1 []) p.2 | none => false)
        | _ => false)
      | _ => false)
  | .attr o j, e => vAttr e fun o' nm _ => notCall o' && (match nth levNames j with | some l => seqS nm l | none => false) && chkE c sc sl o o'
  | .sub o i, e => vSub e fun o' i' _ => notSlice i' && chkE c sc sl o o' && chkE c sc sl i i'
  | .slc o lo hi, e => vSub e fun o' i' _ => vSlice i' fun lo' hi' st _ => vNone st && (isName o' && chkE c sc sl o o' && chkO c sc sl lo lo' && chkO c sc sl hi hi')
  | .tup es, e => vTup e fun es' _ _ => chkEs c sc sl es es'
  | .lst es, e => vList e fun es' _ => chkEs c sc sl es es'
  | .dct ks fs, e => vDict e fun ks' vs' _ => Nat.ble ks'.length 15 && Nat.blt 0 ks'.length && chkD c sc ks fs ks' vs'
noncomputable def chkEs (c : Cx) (sc : Scope) (sl : List Txt) : List Ex → List Expr → Bool
  | [], [] => true
  | x :: xs, e :: es => chkE c sc sl x e && chkEs c sc sl xs es
  | _, _ => false
noncomputable def chkO (c : Cx) (sc : Scope) (sl : List Txt) : Option Ex → Option Expr → Bool
  | none, none => true
  | some x, some e => chkE c sc sl x e
  | _, _ => false
end
noncomputable def swapOk : Expr → Bool
  | .Tuple vs _ _ => !(vs.all (constantsAlone 8)) || vs.all (foldedForSure 8)
  | _ => true
noncomputable def chkT (sl : List Txt) : List Nat → List Expr → Bool
  | [], [] => true
  | x :: xs, e :: es => vName e (fun id _ => locOk sl x id) && chkT sl xs es
  | _, _ => false
/-- a statement's pieces -/
structure Py where
  tag : Nat
  a : Expr
  b : Expr
  oa : Option Expr
  ob : Option Expr
  l : List Expr
  s : List Stmt
  t : List Stmt
  op : Operator
  p : Pos
noncomputable def py0 : Py := ⟨0, noX0, noX0, none, none, [], [], [], .Add, default⟩
noncomputable def partsS : Stmt → Py
  | .Assign l a p => { py0 with tag := 1, l, a, p }
  | .AugAssign a op b p => { py0 with tag := 2, a, op, b, p }
  | .Expr a p => { py0 with tag := 3, a, p }
  | .Return oa p => { py0 with tag := 4, oa, p }
  | .If a s t p => { py0 with tag := 5, a, s, t, p }
  | .While a s t p => { py0 with tag := 6, a, s, t, p }
  | .Raise oa ob p => { py0 with tag := 7, oa, ob, p }
  | .For a b s t p => { py0 with tag := 8, a, b, s, t, p }
  | _ => py0
noncomputable def IsS (x : Py) (e : Stmt) : Nat → Prop
  | 1 => e = .Assign x.l x.a x.p
  | 2 => e = .AugAssign x.a x.op x.b x.p
  | 3 => e = .Expr x.a x.p
  | 4 => e = .Return x.oa x.p
  | 5 => e = .If x.a x.s x.t x.p
  | 6 => e = .While x.a x.s x.t x.p
  | 7 => e = .Raise x.oa x.ob x.p
  | 8 => e = .For x.a x.b x.s x.t x.p
  | _ => True
theorem partsS_is (e : Stmt) : IsS (partsS e) e (partsS e).tag := by cases e <;> first | rfl | trivial
theorem taggedS {e : Stmt} {t : Nat} (h : Nat.beq (partsS e).tag t = true) : IsS (partsS e) e t := Nat.eq_of_beq_eq_true h ▸ partsS_is e
noncomputable def wAssign (e : Stmt) (f : List Expr → Expr → Pos → Bool) : Bool := Nat.beq (partsS e).tag 1 && f (partsS e).l (partsS e).a (partsS e).p
theorem wAssign_inv {e : Stmt} {f : List Expr → Expr → Pos → Bool} (h : wAssign e f = true) : ∃ x0 x1 x2, e = .Assign x0 x1 x2 ∧ f x0 x1 x2 = true :=
  have h := Bool.and_eq_true_iff.mp h
  ⟨_, _, _, taggedS h.1, h.2⟩
noncomputable def wAug (e : Stmt) (f : Expr → Operator → Expr → Pos → Bool) : Bool := Nat.beq (partsS e).tag 2 && f (partsS e).a (partsS e).op (partsS e).b (partsS e).p
theorem wAug_inv {e : Stmt} {f : Expr → Operator → Expr → Pos → Bool} (h : wAug e f = true) : ∃ x0 x1 x2 x3, e = .AugAssign x0 x1 x2 x3 ∧ f x0 x1 x2 x3 = true :=
  have h := Bool.and_eq_true_iff.mp h
  ⟨_, _, _, _, taggedS h.1, h.2⟩
noncomputable def wExpr (e : Stmt) (f : Expr → Pos → Bool) : Bool := Nat.beq (partsS e).tag 3 && f (partsS e).a (partsS e).p
theorem wExpr_inv {e : Stmt} {f : Expr → Pos → Bool} (h : wExpr e f = true) : ∃ x0 x1, e = .Expr x0 x1 ∧ f x0 x1 = true :=
  have h := Bool.and_eq_true_iff.mp h
  ⟨_, _, taggedS h.1, h.2⟩
noncomputable def wRet (e : Stmt) (f : Option Expr → Pos → Bool) : Bool := Nat.beq (partsS e).tag 4 && f (partsS e).oa (partsS e).p
theorem wRet_inv {e : Stmt} {f : Option Expr → Pos → Bool} (h : wRet e f = true) : ∃ x0 x1, e = .Return x0 x1 ∧ f x0 x1 = true :=
  have h := Bool.and_eq_true_iff.mp h
  ⟨_, _, taggedS h.1, h.2⟩
noncomputable def wIf (e : Stmt) (f : Expr → List Stmt → List Stmt → Pos → Bool) : Bool := Nat.beq (partsS e).tag 5 && f (partsS e).a (partsS e).s (partsS e).t (partsS e).p
theorem wIf_inv {e : Stmt} {f : Expr → List Stmt → List Stmt → Pos → Bool} (h : wIf e f = true) : ∃ x0 x1 x2 x3, e = .If x0 x1 x2 x3 ∧ f x0 x1 x2 x3 = true :=
  have h := Bool.and_eq_true_iff.mp h
  ⟨_, _, _, _, taggedS h.1, h.2⟩
noncomputable def wWhile (e : Stmt) (f : Expr → List Stmt → List Stmt → Pos → Bool) : Bool := Nat.beq (partsS e).tag 6 && f (partsS e).a (partsS e).s (partsS e).t (partsS e).p
theorem wWhile_inv {e : Stmt} {f : Expr → List Stmt → List Stmt → Pos → Bool} (h : wWhile e f = true) : ∃ x0 x1 x2 x3, e = .While x0 x1 x2 x3 ∧ f x0 x1 x2 x3 = true :=
  have h := Bool.and_eq_true_iff.mp h
  ⟨_, _, _, _, taggedS h.1, h.2⟩
noncomputable def wRaise (e : Stmt) (f : Option Expr → Option Expr → Pos → Bool) : Bool := Nat.beq (partsS e).tag 7 && f (partsS e).oa (partsS e).ob (partsS e).p
theorem wRaise_inv {e : Stmt} {f : Option Expr → Option Expr → Pos → Bool} (h : wRaise e f = true) : ∃ x0 x1 x2, e = .Raise x0 x1 x2 ∧ f x0 x1 x2 = true :=
  have h := Bool.and_eq_true_iff.mp h
  ⟨_, _, _, taggedS h.1, h.2⟩
noncomputable def wFor (e : Stmt) (f : Expr → Expr → List Stmt → List Stmt → Pos → Bool) : Bool := Nat.beq (partsS e).tag 8 && f (partsS e).a (partsS e).b (partsS e).s (partsS e).t (partsS e).p
theorem wFor_inv {e : Stmt} {f : Expr → Expr → List Stmt → List Stmt → Pos → Bool} (h : wFor e f = true) : ∃ x0 x1 x2 x3 x4, e = .For x0 x1 x2 x3 x4 ∧ f x0 x1 x2 x3 x4 = true :=
  have h := Bool.and_eq_true_iff.mp h
  ⟨_, _, _, _, _, taggedS h.1, h.2⟩
mutual
noncomputable def chkS (c : Cx) (sc : Scope) (sl : List Txt) : St → Stmt → Bool
  | .asg x e, s => wAssign s fun ts e' _ => v1 ts fun t => vName t fun id _ => locOk sl x id && chkE c sc sl e e'
  | .asgT xs e, s => wAssign s fun ts e' _ => v1 ts fun t => vTup t fun ts _ _ => swapOk e' && chkT sl xs ts && chkE c sc sl e e'
  | .aug x e, s => wAug s fun t o e' _ => decide (o = .Add) && vName t fun id _ => locOk sl x id && chkE c sc sl e e'
  | .ex e, s => wExpr s fun e' _ => chkE c sc sl e e'
  | .ret e, s => wRet s fun o _ => vSome o fun e' => chkE c sc sl e e'
  | .ifs t a b, s => wIf s fun t' a' b' _ => chkE c sc sl t t' && chkSs c sc sl a a' && chkSs c sc sl b b'
  | .whl t b, s => wWhile s fun t' b' o _ => v0 o && (chkE c sc sl t t' && chkSs c sc sl b b')
  | .rai a b, s => wRaise s fun x y _ => vNone y && vSome x fun e => vCallN e fun id es => v2 es fun a' b' => glbOk sc id && refIn c id c.cB && chkE c sc sl a a' && chkE c sc sl b b'
  | .fors x e b, s => wFor s fun t e' b' o _ => v0 o && vName t fun id _ => locOk sl x id && chkE c sc sl e e' && chkSs c sc sl b b'
  | .dead, _ => true
noncomputable def chkSs (c : Cx) (sc : Scope) (sl : List Txt) : List St → List Stmt → Bool
  | [], [] => true
  | x :: xs, e :: es => chkS c sc sl x e && chkSs c sc sl xs es
  | _, _ => false
end
section
variable {c : Cx} {sc : Scope} {sl : List Txt}
theorem tag_ne {t k : Nat} {b : Bool} (h : (Nat.beq t (k + 1) && b) = true) : t ≠ 0 := fun q => by subst q; cases h
theorem chkE_tag {x : Ex} {e : Expr} (h : chkE c sc sl x e = true) : (parts e).tag ≠ 0 := by cases x <;> exact tag_ne h
theorem inv_cmp {op : Op} {l r : Ex} {e : Expr} (h : chkE c sc sl (.cmp op l r) e = true) : ∃ l' o r' p, e = .Compare l' [o] [r'] p ∧ (decide (o = opOf op) && !(behindInMarks o r') && chkE c sc sl l l' && chkE c sc sl r r') = true := by
  obtain ⟨l', ops, rs, p, rfl, g1⟩ := vCmp_inv h
  obtain ⟨o, rfl, g2⟩ := v1_inv g1
  obtain ⟨r', rfl, g3⟩ := v1_inv g2
  exact ⟨l', o, r', p, rfl, g3⟩
theorem inv_btw {l m r : Ex} {e : Expr} (h : chkE c sc sl (.btw l m r) e = true) : ∃ l' m' r' p, e = .Compare l' [.LtE, .LtE] [m', r'] p ∧ (!(lastMarks [.LtE, .LtE] [m', r']) && chkE c sc sl l l' && chkE c sc sl m m' && chkE c sc sl r r') = true := by
  obtain ⟨l', ops, rs, p, rfl, g1⟩ := vCmp_inv h
  obtain ⟨h1, g2⟩ := Bool.and_eq_true_iff.mp g1
  cases of_decide_eq_true h1
  obtain ⟨m', r', rfl, g3⟩ := v2_inv g2
  exact ⟨l', m', r', p, rfl, g3⟩
theorem inv_nt {x : Ex} {e : Expr} (h : chkE c sc sl (.nt x) e = true) : ∃ e' p, e = .UnaryOp .Not e' p ∧ (chkE c sc sl x e') = true := by
  obtain ⟨o, e', p, rfl, g1⟩ := vUn_inv h
  obtain ⟨h1, g2⟩ := Bool.and_eq_true_iff.mp g1
  cases of_decide_eq_true h1
  exact ⟨e', p, rfl, g2⟩
theorem inv_neg {n : Nat} {e : Expr} (h : chkE c sc sl (.neg n) e = true) : ∃ i k q p, e = .UnaryOp .USub (.Constant (.int i) k q) p ∧ (decide (i = (n : Int))) = true := by
  obtain ⟨o, e', p, rfl, g1⟩ := vUn_inv h
  obtain ⟨h1, g2⟩ := Bool.and_eq_true_iff.mp g1
  cases of_decide_eq_true h1
  obtain ⟨kk, k, q, rfl, g3⟩ := vConst_inv g2
  obtain ⟨i, rfl, g4⟩ := vInt_inv g3
  exact ⟨i, k, q, p, rfl, g4⟩
theorem inv_add {l r : Ex} {e : Expr} (h : chkE c sc sl (.add l r) e = true) : ∃ l' r' p, e = .BinOp l' .Add r' p ∧ (chkE c sc sl l l' && chkE c sc sl r r') = true := by
  obtain ⟨l', o, r', p, rfl, g1⟩ := vBin_inv h
  obtain ⟨h1, g2⟩ := Bool.and_eq_true_iff.mp g1
  cases of_decide_eq_true h1
  exact ⟨l', r', p, rfl, g2⟩
theorem inv_mns {l r : Ex} {e : Expr} (h : chkE c sc sl (.mns l r) e = true) : ∃ l' r' p, e = .BinOp l' .Sub r' p ∧ (chkE c sc sl l l' && chkE c sc sl r r') = true := by
  obtain ⟨l', o, r', p, rfl, g1⟩ := vBin_inv h
  obtain ⟨h1, g2⟩ := Bool.and_eq_true_iff.mp g1
  cases of_decide_eq_true h1
  exact ⟨l', r', p, rfl, g2⟩
theorem inv_mul {l r : Ex} {e : Expr} (h : chkE c sc sl (.mul l r) e = true) : ∃ l' r' p, e = .BinOp l' .Mult r' p ∧ (chkE c sc sl l l' && chkE c sc sl r r') = true := by
  obtain ⟨l', o, r', p, rfl, g1⟩ := vBin_inv h
  obtain ⟨h1, g2⟩ := Bool.and_eq_true_iff.mp g1
  cases of_decide_eq_true h1
  exact ⟨l', r', p, rfl, g2⟩
theorem inv_len {x : Ex} {e : Expr} (h : chkE c sc sl (.len x) e = true) : ∃ id q e' p, e = .Call (.Name id q) [e'] [] p ∧ (decide (id = ("len" : Str)) && glbOk sc id && freeIn c id && chkE c sc sl x e') = true := by
  obtain ⟨id, q, es, p, rfl, g1⟩ := vCallN_inv h
  obtain ⟨e', rfl, g2⟩ := v1_inv g1
  exact ⟨id, q, e', p, rfl, g2⟩
theorem inv_ord {x : Ex} {e : Expr} (h : chkE c sc sl (.ord x) e = true) : ∃ id q e' p, e = .Call (.Name id q) [e'] [] p ∧ (decide (id = ("ord" : Str)) && glbOk sc id && freeIn c id && chkE c sc sl x e') = true := by
  obtain ⟨id, q, es, p, rfl, g1⟩ := vCallN_inv h
  obtain ⟨e', rfl, g2⟩ := v1_inv g1
  exact ⟨id, q, e', p, rfl, g2⟩
theorem inv_lev {a b : Ex} {e : Expr} (h : chkE c sc sl (.lev a b) e = true) : ∃ id q a' b' p, e = .Call (.Name id q) [a', b'] [] p ∧ (glbOk sc id && refIn c id c.cL && keepIn c.K (.ref c.cL) && chkE c sc sl a a' && chkE c sc sl b b') = true := by
  obtain ⟨id, q, es, p, rfl, g1⟩ := vCallN_inv h
  obtain ⟨a', b', rfl, g2⟩ := v2_inv g1
  exact ⟨id, q, a', b', p, rfl, g2⟩
theorem inv_app {o x : Ex} {e : Expr} (h : chkE c sc sl (.app o x) e = true) : ∃ o' nm apos e' p, e = .Call (.Attribute o' nm apos) [e'] [] p ∧ (decide (nm = ("append" : Str)) && notCall o' && Nat.beq apos.endLine p.line && chkE c sc sl o o' && chkE c sc sl x e') = true := by
  obtain ⟨o', nm, apos, es, p, rfl, g1⟩ := vCallA_inv h
  obtain ⟨e', rfl, g2⟩ := v1_inv g1
  exact ⟨o', nm, apos, e', p, rfl, g2⟩
theorem inv_ext {o x : Ex} {e : Expr} (h : chkE c sc sl (.ext o x) e = true) : ∃ o' nm apos e' p, e = .Call (.Attribute o' nm apos) [e'] [] p ∧ (decide (nm = ("extend" : Str)) && notCall o' && Nat.beq apos.endLine p.line && chkE c sc sl o o' && chkE c sc sl x e') = true := by
  obtain ⟨o', nm, apos, es, p, rfl, g1⟩ := vCallA_inv h
  obtain ⟨e', rfl, g2⟩ := v1_inv g1
  exact ⟨o', nm, apos, e', p, rfl, g2⟩
theorem inv_upd {o x : Ex} {e : Expr} (h : chkE c sc sl (.upd o x) e = true) : ∃ o' nm apos e' p, e = .Call (.Attribute o' nm apos) [e'] [] p ∧ (decide (nm = ("update" : Str)) && notCall o' && Nat.beq apos.endLine p.line && chkE c sc sl o o' && chkE c sc sl x e') = true := by
  obtain ⟨o', nm, apos, es, p, rfl, g1⟩ := vCallA_inv h
  obtain ⟨e', rfl, g2⟩ := v1_inv g1
  exact ⟨o', nm, apos, e', p, rfl, g2⟩
theorem inv_pop {o : Ex} {e : Expr} (h : chkE c sc sl (.pop o) e = true) : ∃ o' nm apos p, e = .Call (.Attribute o' nm apos) [] [] p ∧ (decide (nm = ("pop" : Str)) && notCall o' && Nat.beq apos.endLine p.line && chkE c sc sl o o') = true := by
  obtain ⟨o', nm, apos, es, p, rfl, g1⟩ := vCallA_inv h
  obtain ⟨h1, g2⟩ := Bool.and_eq_true_iff.mp g1
  cases v0_inv h1
  exact ⟨o', nm, apos, p, rfl, g2⟩
theorem inv_find {o x y z : Ex} {e : Expr} (h : chkE c sc sl (.find o x y z) e = true) : ∃ o' nm apos x' y' z' p, e = .Call (.Attribute o' nm apos) [x', y', z'] [] p ∧ (decide (nm = ("find" : Str)) && notCall o' && Nat.beq apos.endLine p.line && chkE c sc sl o o' && chkE c sc sl x x' && chkE c sc sl y y' && chkE c sc sl z z') = true := by
  obtain ⟨o', nm, apos, es, p, rfl, g1⟩ := vCallA_inv h
  obtain ⟨x', y', z', rfl, g2⟩ := v3_inv g1
  exact ⟨o', nm, apos, x', y', z', p, rfl, g2⟩
theorem inv_spl {k : Nat} {e : Expr} (h : chkE c sc sl (.spl k) e = true) : ∃ id q nm apos sp kn cp p, e = .Call (.Attribute (.Name id q) nm apos) [.Constant (.str sp) kn cp] [] p ∧ (decide (nm = ("split" : Str)) && decide (sp = (" " : Str)) && glbOk sc id && Nat.beq apos.endLine p.line &&
      (match nsIn c.K mainGlobals id with
      | some (some v) => (match v with
        | .str s _ => (match nth c.W k with | some p => seqS s p.1 && small p.1.length && beqLL (splitL p.1 []) p.2 | none => false)
        | _ => false)
      | _ => false)) = true := by
  obtain ⟨o', nm, apos, es, p, rfl, g1⟩ := vCallA_inv h
  obtain ⟨id, q, rfl, g2⟩ := vName_inv g1
  obtain ⟨e', rfl, g3⟩ := v1_inv g2
  obtain ⟨kk, kn, cp, rfl, g4⟩ := vConst_inv g3
  obtain ⟨sp, rfl, g5⟩ := vStr_inv g4
  exact ⟨id, q, nm, apos, sp, kn, cp, p, rfl, g5⟩
theorem inv_slc {o : Ex} {lo hi : Option Ex} {e : Expr} (h : chkE c sc sl (.slc o lo hi) e = true) : ∃ o' lo' hi' q p, e = .Subscript o' (.Slice lo' hi' none q) p ∧ (isName o' && chkE c sc sl o o' && chkO c sc sl lo lo' && chkO c sc sl hi hi') = true := by
  obtain ⟨o', i', p, rfl, g1⟩ := vSub_inv h
  obtain ⟨lo', hi', st, q, rfl, g2⟩ := vSlice_inv g1
  obtain ⟨h1, g3⟩ := Bool.and_eq_true_iff.mp g2
  cases vNone_inv h1
  exact ⟨o', lo', hi', q, p, rfl, g3⟩
theorem inv_asg {x : Nat} {y : Ex} {e : Stmt} (h : chkS c sc sl (.asg x y) e = true) : ∃ id q e' p, e = .Assign [.Name id q] e' p ∧ (locOk sl x id && chkE c sc sl y e') = true := by
  unfold chkS at h
  obtain ⟨ts, e', p, rfl, g1⟩ := wAssign_inv h
  obtain ⟨t, rfl, g2⟩ := v1_inv g1
  obtain ⟨id, q, rfl, g3⟩ := vName_inv g2
  exact ⟨id, q, e', p, rfl, g3⟩
theorem inv_asgT {xs : List Nat} {y : Ex} {e : Stmt} (h : chkS c sc sl (.asgT xs y) e = true) : ∃ ts n q e' p, e = .Assign [.Tuple ts n q] e' p ∧ (swapOk e' && chkT sl xs ts && chkE c sc sl y e') = true := by
  unfold chkS at h
  obtain ⟨l, e', p, rfl, g1⟩ := wAssign_inv h
  obtain ⟨t, rfl, g2⟩ := v1_inv g1
  obtain ⟨ts, n, q, rfl, g3⟩ := vTup_inv g2
  exact ⟨ts, n, q, e', p, rfl, g3⟩
theorem inv_aug {x : Nat} {y : Ex} {e : Stmt} (h : chkS c sc sl (.aug x y) e = true) : ∃ id q e' p, e = .AugAssign (.Name id q) .Add e' p ∧ (locOk sl x id && chkE c sc sl y e') = true := by
  unfold chkS at h
  obtain ⟨t, o, e', p, rfl, g1⟩ := wAug_inv h
  obtain ⟨h1, g2⟩ := Bool.and_eq_true_iff.mp g1
  cases of_decide_eq_true h1
  obtain ⟨id, q, rfl, g3⟩ := vName_inv g2
  exact ⟨id, q, e', p, rfl, g3⟩
theorem inv_ret {y : Ex} {e : Stmt} (h : chkS c sc sl (.ret y) e = true) : ∃ e' p, e = .Return (some e') p ∧ (chkE c sc sl y e') = true := by
  unfold chkS at h
  obtain ⟨o, p, rfl, g1⟩ := wRet_inv h
  obtain ⟨e', rfl, g2⟩ := vSome_inv g1
  exact ⟨e', p, rfl, g2⟩
theorem inv_whl {t : Ex} {b : List St} {e : Stmt} (h : chkS c sc sl (.whl t b) e = true) : ∃ t' b' p, e = .While t' b' [] p ∧ (chkE c sc sl t t' && chkSs c sc sl b b') = true := by
  unfold chkS at h
  obtain ⟨t', b', o, p, rfl, g1⟩ := wWhile_inv h
  obtain ⟨h1, g2⟩ := Bool.and_eq_true_iff.mp g1
  cases v0_inv h1
  exact ⟨t', b', p, rfl, g2⟩
theorem inv_rai {a b : Ex} {e : Stmt} (h : chkS c sc sl (.rai a b) e = true) : ∃ id q a' b' r p, e = .Raise (some (.Call (.Name id q) [a', b'] [] r)) none p ∧ (glbOk sc id && refIn c id c.cB && chkE c sc sl a a' && chkE c sc sl b b') = true := by
  unfold chkS at h
  obtain ⟨x, y, p, rfl, g1⟩ := wRaise_inv h
  obtain ⟨h1, g2⟩ := Bool.and_eq_true_iff.mp g1
  cases vNone_inv h1
  obtain ⟨e, rfl, g3⟩ := vSome_inv g2
  obtain ⟨id, q, es, r, rfl, g4⟩ := vCallN_inv g3
  obtain ⟨a', b', rfl, g5⟩ := v2_inv g4
  exact ⟨id, q, a', b', r, p, rfl, g5⟩
theorem inv_fors {x : Nat} {y : Ex} {b : List St} {e : Stmt} (h : chkS c sc sl (.fors x y b) e = true) : ∃ id q e' b' p, e = .For (.Name id q) e' b' [] p ∧ (locOk sl x id && chkE c sc sl y e' && chkSs c sc sl b b') = true := by
  unfold chkS at h
  obtain ⟨t, e', b', o, p, rfl, g1⟩ := wFor_inv h
  obtain ⟨h1, g2⟩ := Bool.and_eq_true_iff.mp g1
  cases v0_inv h1
  obtain ⟨id, q, rfl, g3⟩ := vName_inv g2
  exact ⟨id, q, e', b', p, rfl, g3⟩
end
end Mine
-- E1
open PySem PySem.W PyProof.Rows PySem.Calls
namespace Mine

theorem eqI_iff : ∀ {a b : Int}, eqI a b = true ↔ a = b
  | .ofNat a, .ofNat b => by simp [eqI]; omega
  | .ofNat a, .negSucc b => by simp [eqI]
  | .negSucc a, .ofNat b => by simp [eqI]
  | .negSucc a, .negSucc b => by simp [eqI]
theorem leI_iff : ∀ {a b : Int}, leI a b = true ↔ a ≤ b
  | .ofNat a, .ofNat b => by simp [leI]
  | .ofNat a, .negSucc b => by simp [leI]; omega
  | .negSucc a, .ofNat b => by simp [leI]; omega
  | .negSucc a, .negSucc b => by simp [leI]; omega
theorem eqI_beq (a b : Int) : (a == b) = eqI a b := by
  rw [Bool.eq_iff_iff, eqI_iff]; simp
theorem leI_dec (a b : Int) : decide (a ≤ b) = leI a b := by
  rw [Bool.eq_iff_iff, leI_iff]; simp
theorem beqL_str (a b : Txt) : (sOf a == sOf b) = beqL a b := by
  rw [Bool.eq_iff_iff, beqL_iff]
  constructor
  · intro h; exact sOf_inj (by simpa using h)
  · intro h; subst h; simp
theorem beqL_refl (a : Txt) : beqL a a = true := beqL_iff.mpr rfl
theorem bool_and {a b : Bool} (h : ((a && b) || (!a && !b)) = true) : a = b := by cases a <;> cases b <;> simp_all

mutual
theorem chkV_sound {c : Cx} {h : Heap} {μ : List Addr} (X : c.K.In h) (p : c.μ0 <+: μ) : ∀ (d : D) (v : Value), chkV c d v = true → V c.fa μ h d v
  | .none, v, e => by
    unfold chkV at e; unfold V
    split at e
    · rfl
    · cases e
  | .bool a, v, e => by
    unfold chkV at e; unfold V
    split at e
    · rw [bool_and e]
    · cases e
  | .int i, v, e => by
    unfold chkV at e; unfold V
    split at e
    · exact ⟨_, by rw [eqI_iff.mp e]⟩
    · cases e
  | .str l, v, e => by
    unfold chkV at e; unfold V
    split at e
    · exact ⟨_, by rw [seqS_iff.mp e]⟩
    · cases e
  | .fn k, v, e => by
    unfold chkV at e; unfold V
    split at e
    · rw [Nat.eq_of_beq_eq_true e]
    · cases e
  | .ref i, v, e => by
    unfold chkV at e; unfold V
    split at e
    · split at e
      · rename_i b hb
        exact ⟨b, nth_prefix p hb, by rw [Nat.eq_of_beq_eq_true e]⟩
      · cases e
    · cases e
  | .tup ds, v, e => by
    unfold chkV at e; unfold V
    split at e
    · rename_i a
      split at e
      · rename_i o ho
        split at e
        · rename_i vs n hd
          obtain ⟨e1, e2⟩ := Bool.and_eq_true_iff.mp e
          exact ⟨a, vs.toList, rfl, ⟨o, X _ _ ho, of_decide_eq_true e1, n, by simpa using hd⟩, chkVs_sound X p ds vs.toList e2⟩
        · cases e
      · cases e
    · cases e
  | .unb, v, e => by unfold chkV at e; cases e
theorem chkVs_sound {c : Cx} {h : Heap} {μ : List Addr} (X : c.K.In h) (p : c.μ0 <+: μ) : ∀ (ds : List D) (vs : List Value), chkVs c ds vs = true → Vs c.fa μ h ds vs
  | [], [], _ => by unfold Vs; rfl
  | d :: ds, v :: vs, e => by
    unfold chkVs at e; unfold Vs
    obtain ⟨e1, e2⟩ := Bool.and_eq_true_iff.mp e
    exact ⟨v, vs, rfl, chkV_sound X p d v e1, chkVs_sound X p ds vs e2⟩
  | [], _ :: _, e => by unfold chkVs at e; cases e
  | _ :: _, [], e => by unfold chkVs at e; cases e
end

/-- what is shown of a number of steps -/
noncomputable def kF (c : Cx) (f : Fx) (Q : Flow → Shared → Prop) : Ans → Sg → List Addr → Shared → Prop := fun a _ μ' s' => match a with
  | .f fl ρ' => Loc c f ρ' μ' s'.heap → (match fl with
    | .next => Q .next s'
    | .ret d => ∀ v, V c.fa μ' s'.heap d v → Q (.ret v) s')
  | _ => False
noncomputable abbrev Cx.run (c : Cx) (n : Nat) (t : Task) (σ : Sg) : R := Mine.run c.F c.W c.k0 n t σ
structure SoundE (c : Cx) (n : Nat) : Prop where
  E : ∀ {A : Around} {f : Fx} {ρ : List D} {σ : Sg} {μ N : List Addr} {s : Shared} {E : Value → Shared → Prop} {Q : Value → Shared → Prop} {x : Ex} {e : Expr}, Here c A n f ρ σ μ s.heap → chkE c f.sc f.slots x e = true →
      Post c f.fs N μ s E (kV c Q) (c.run n (.E x ρ) σ) → wpAny c.M A (eval e f.env) Q E s
  T : ∀ {A : Around} {f : Fx} {ρ : List D} {σ : Sg} {μ N : List Addr} {s : Shared} {E : Value → Shared → Prop} {Q : Bool → Shared → Prop} {x : Ex} {e : Expr}, Here c A n f ρ σ μ s.heap → chkE c f.sc f.slots x e = true →
      Post c f.fs N μ s E (kB Q) (c.run n (.T x ρ) σ) → wpAny c.M A (isTrue e f.env (eval e f.env)) Q E s
  Es : ∀ {A : Around} {f : Fx} {ρ : List D} {σ : Sg} {μ N : List Addr} {s : Shared} {E : Value → Shared → Prop} {Q : List Value → Shared → Prop} {xs : List Ex} {es : List Expr} {pos : Pos}, Here c A n f ρ σ μ s.heap → chkEs c f.sc f.slots xs es = true →
      Post c f.fs N μ s E (kVs c Q) (c.run n (.Es xs ρ) σ) → wpAny c.M A (spliced (backTo pos (starEach es f.env))) Q E s
  Ts : ∀ {A : Around} {f : Fx} {ρ : List D} {σ : Sg} {μ N : List Addr} {s : Shared} {E : Value → Shared → Prop} {Q : Bool → Shared → Prop} {a : Bool} {xs : List Ex} {es : List Expr}, Here c A n f ρ σ μ s.heap → chkEs c f.sc f.slots xs es = true →
      Post c f.fs N μ s E (kB Q) (c.run n (.Ts a xs ρ) σ) → wpAny c.M A (allTrue (bopOf a) es f.env) Q E s
  Vs : ∀ {A : Around} {f : Fx} {ρ : List D} {σ : Sg} {μ N : List Addr} {s : Shared} {E : Value → Shared → Prop} {Q : Value → Shared → Prop} {a : Bool} {xs : List Ex} {es : List Expr} {pos : Pos}, Here c A n f ρ σ μ s.heap → chkEs c f.sc f.slots xs es = true →
      Post c f.fs N μ s E (kV c Q) (c.run n (.Vs a xs ρ) σ) → wpAny c.M A (boolOp pos (bopOf a) (evalEach es f.env)) Q E s
  C : ∀ {A : Around} {f : Fx} {ρ : List D} {σ : Sg} {μ N : List Addr} {s : Shared} {E : Value → Shared → Prop} {Q : Value → Shared → Prop} {k : Nat} {ds : List D} {vs : List Value}, Here c A n f ρ σ μ s.heap → Mine.Vs c.fa μ s.heap ds vs →
      Post c f.fs N μ s E (kV c Q) (c.run n (.C k ds) σ) → wpAny c.M A (call (.ref (c.fa k)) vs) Q E s

section
variable {c : Cx} {A : Around} {n : Nat} {f : Fx} {ρ : List D} {σ : Sg} {μ N : List Addr} {s : Shared} {E : Value → Shared → Prop} {k : Ans → Sg → List Addr → Shared → Prop} {Q : Value → Shared → Prop}

/-- the answer stands, the heap is as it was -/
theorem Post.val {d : D} (P : Post c f.fs N μ s E (kV c Q) (.ok (.v d) σ)) (I : Inv c s.heap σ μ) {v : Value} (hv : V c.fa μ s.heap d v) (t : Nat) : Q v { s with toks := t } :=
  Post.now P (s' := { s with toks := t }) I (Ext.refl N μ s.heap) ⟨rfl, rfl⟩ v hv
theorem Post.val0 {d : D} (P : Post c f.fs N μ s E (kV c Q) (.ok (.v d) σ)) (I : Inv c s.heap σ μ) {v : Value} (hv : V c.fa μ s.heap d v) : Q v s :=
  Post.now P (s' := s) I (Ext.refl N μ s.heap) ⟨rfl, rfl⟩ v hv
theorem vO_some {σ : Sg} {o : Option D} (P : Post c f.fs N μ s E k (vO σ o)) : ∃ d, o = some d ∧ Post c f.fs N μ s E k (.ok (.v d) σ) := by
  cases o with
  | none => exact P.elim
  | some d => exact ⟨d, rfl, P⟩
theorem bO_some {σ : Sg} {o : Option Bool} (P : Post c f.fs N μ s E k (bO σ o)) : ∃ d, o = some d ∧ Post c f.fs N μ s E k (.ok (.v (.bool d)) σ) := by
  cases o with
  | none => exact P.elim
  | some d => exact ⟨d, rfl, P⟩

theorem SoundE.one (S : SoundE c n) (H : Here c A n f ρ σ μ s.heap) {x : Ex} {e : Expr} (h1 : chkE c f.sc f.slots x e = true) {g : D → Sg → R} {Q' : Value → Shared → Prop}
    (P : Post c f.fs N μ s E k (bindV (c.run n (.E x ρ) σ) g))
    (K : ∀ (d : D) (σ' : Sg) (μ' : List Addr) (s' : Shared) (v : Value), Here c A n f ρ σ' μ' s'.heap → Ext [] μ s.heap μ' s'.heap → Rest s s' → V c.fa μ' s'.heap d v → Post c f.fs N μ' s' E k (g d σ') → Q' v s') :
    wpAny c.M A (eval e f.env) Q' E s :=
  S.E (N := []) H h1 (Post.mono (Post.bindV P) fun a σ' μ' s' i x q hk => by
    cases a with
    | v d => exact fun v hv => K d σ' μ' s' v (H.move i x) x q hv hk
    | _ => exact hk.elim)
theorem SoundE.two (S : SoundE c n) (H : Here c A n f ρ σ μ s.heap) {x y : Ex} {e e' : Expr} (h1 : chkE c f.sc f.slots x e = true) (h2 : chkE c f.sc f.slots y e' = true) {g : D → D → Sg → R} {Q' : Value → Value → Shared → Prop}
    (P : Post c f.fs N μ s E k (bindV (c.run n (.E x ρ) σ) fun a σ => bindV (c.run n (.E y ρ) σ) fun b σ => g a b σ))
    (K : ∀ (d d' : D) (σ' : Sg) (μ' : List Addr) (s' : Shared) (v v' : Value), Here c A n f ρ σ' μ' s'.heap → V c.fa μ' s'.heap d v → V c.fa μ' s'.heap d' v' → Post c f.fs N μ' s' E k (g d d' σ') → Q' v v' s') :
    wpAny c.M A (eval e f.env) (fun a s₁ => wpAny c.M A (eval e' f.env) (fun b s₂ => Q' a b s₂) E s₁) E s :=
  S.one H h1 P fun d σ₁ μ₁ s₁ v H₁ x₁ q₁ hv P₁ => S.one H₁ h2 P₁ fun d' σ₂ μ₂ s₂ v' H₂ x₂ q₂ hv' P₂ => K d d' σ₂ μ₂ s₂ v v' H₂ (V.mono x₂.pre x₂.keep.tup _ _ hv) hv' P₂
theorem SoundE.args (S : SoundE c n) (H : Here c A n f ρ σ μ s.heap) {xs : List Ex} {es : List Expr} {pos : Pos} (h1 : chkEs c f.sc f.slots xs es = true) {g : List D → Sg → R} {Q' : List Value → Shared → Prop}
    (P : Post c f.fs N μ s E k (bindVs (c.run n (.Es xs ρ) σ) g))
    (K : ∀ (ds : List D) (σ' : Sg) (μ' : List Addr) (s' : Shared) (vs : List Value), Here c A n f ρ σ' μ' s'.heap → Ext [] μ s.heap μ' s'.heap → Rest s s' → Mine.Vs c.fa μ' s'.heap ds vs → Post c f.fs N μ' s' E k (g ds σ') → Q' vs s') :
    wpAny c.M A (spliced (backTo pos (starEach es f.env))) Q' E s :=
  S.Es (N := []) H h1 (Post.mono (Post.bindVs P) fun a σ' μ' s' i x q hk => by
    cases a with
    | vs d => exact fun v hv => K d σ' μ' s' v (H.move i x) x q hv hk
    | _ => exact hk.elim)
theorem SoundE.test (S : SoundE c n) (H : Here c A n f ρ σ μ s.heap) {x : Ex} {e : Expr} (h1 : chkE c f.sc f.slots x e = true) {g : Bool → Sg → R} {Q' : Bool → Shared → Prop}
    (P : Post c f.fs N μ s E k (bindB (c.run n (.T x ρ) σ) g))
    (K : ∀ (b : Bool) (σ' : Sg) (μ' : List Addr) (s' : Shared), Here c A n f ρ σ' μ' s'.heap → Ext [] μ s.heap μ' s'.heap → Rest s s' → Post c f.fs N μ' s' E k (g b σ') → Q' b s') :
    wpAny c.M A (isTrue e f.env (eval e f.env)) Q' E s :=
  S.T (N := []) H h1 (Post.mono (Post.bindB P) fun a σ' μ' s' i x q hk => by
    cases a with
    | b d => exact K d σ' μ' s' (H.move i x) x q hk
    | _ => exact hk.elim)

theorem locOk_nm {sl : List Txt} {x : Nat} {id : Str} (h : locOk sl x id = true) : ∃ nm, nth sl x = some nm ∧ id = sOf nm := by
  unfold locOk at h
  split at h
  · rename_i nm e; exact ⟨nm, e, seqS_iff.mp h⟩
  · cases h
theorem Here.read (H : Here c A n f ρ σ μ s.heap) {x : Nat} {id : Str} (hl : locOk f.slots x id = true) {d : D} (e : nth ρ x = some d) (hd : d ≠ .unb) (hQ : ∀ v, V c.fa μ s.heap d v → Q v s) :
    wpAny c.M A (loadName f.env id) Q E s := by
  obtain ⟨nm, e1, rfl⟩ := locOk_nm hl
  obtain ⟨m, F, hm⟩ := H.fr
  obtain ⟨v, e2, hv⟩ := hm x d nm e hd e1
  exact ldn F e2 (hQ v hv) H.kind (H.locals nm (nth_mem e1)).1
theorem Here.readN (H : Here c A n f ρ σ μ s.heap) {x : Nat} {id : Str} {p : Pos} (hl : locOk f.slots x id = true) {d : D} (e : nth ρ x = some d) (hd : d ≠ .unb) (hQ : ∀ v, V c.fa μ s.heap d v → Q v s) :
    wpAny c.M A (eval (.Name id p) f.env) Q E s := by
  refine wpAny_Name (H.read hl e hd hQ) ?_
  obtain ⟨nm, e1, rfl⟩ := locOk_nm hl
  exact (H.locals nm (nth_mem e1)).2
theorem Here.glb (O : Ok c) (H : Here c A n f ρ σ μ s.heap) {id : Str} {p : Pos} {v : Value} (hg : glbOk f.sc id = true) (e : nsIn c.K mainGlobals id = some (some v)) (hQ : Q v s) : wpAny c.M A (eval (.Name id p) f.env) Q E s := by
  obtain ⟨m, F, _⟩ := H.fr
  obtain ⟨h1, h2⟩ := Bool.and_eq_true_iff.mp hg
  exact name_K F O.X O.T e hQ H.kind (of_decide_eq_true h1) (by simpa using h2)
theorem Here.blt (O : Ok c) (H : Here c A n f ρ σ μ s.heap) {id : Str} {p : Pos} {v : Value} (hg : glbOk f.sc id = true) (e : freeIn c id = true) (hb : bootBuiltins id = some v) (hn : id ≠ ("__name__" : Str)) (hQ : Q v s) : wpAny c.M A (eval (.Name id p) f.env) Q E s := by
  obtain ⟨m, F, _⟩ := H.fr
  obtain ⟨h1, h2⟩ := Bool.and_eq_true_iff.mp hg
  have e' : nsIn c.K mainGlobals id = some none := by
    unfold freeIn at e
    split at e
    · assumption
    · cases e
  exact name_B F O.X O.T e' hb hn hQ H.kind (of_decide_eq_true h1) (by simpa using h2)
theorem refIn_eq {id : Str} {a : Addr} (h : refIn c id a = true) : nsIn c.K mainGlobals id = some (some (.ref a)) := by
  unfold refIn at h
  split at h
  · rename_i v e
    split at h
    · rw [e, Nat.eq_of_beq_eq_true h]
    · cases h
  · cases h
theorem Here.K (O : Ok c) (H : Here c A n f ρ σ μ s.heap) : c.K.In s.heap := O.X.keeps H.inv.stays
end

theorem strsAre_of {fa : Nat → Addr} {μ : List Addr} {h : Heap} : ∀ {ds : List D} {vs : List Value} {ls : List Txt}, Vs fa μ h ds vs → strsD ds = some ls → StrsAre vs (ls.map sOf)
  | [], _, _, x, e => by unfold Vs at x; subst x; cases e; exact .nil
  | d :: ds, _, ls, x, e => by
    unfold Vs at x
    obtain ⟨v, vs, rfl, x1, x2⟩ := x
    unfold strsD at e
    cases d with
    | str l =>
      cases q : strsD ds with
      | none => simp [q] at e
      | some r =>
        simp [q] at e
        subst e
        unfold V at x1
        obtain ⟨t, rfl⟩ := x1
        exact .cons _ _ (strsAre_of x2 q)
    | _ => cases e
theorem any_hasL (x : Txt) : ∀ ls : List Txt, ((ls.map sOf).any (· == sOf x)) = hasL ls x
  | [] => rfl
  | l :: ls => by
    simp only [List.map_cons, List.any_cons, hasL, any_hasL x ls, beqL_str]
    cases beqL l x <;> rfl
theorem reads_strs {fa : Nat → Addr} {μ : List Addr} {h : Heap} : ∀ {ds : List D} {vs : List Value} {ls : List Txt}, Vs fa μ h ds vs → strsD ds = some ls → ReadsAll h vs (ls.map fun l => PyData.str (sOf l)) []
  | [], _, _, x, e => by unfold Vs at x; subst x; cases e; exact .nil
  | d :: ds, _, ls, x, e => by
    unfold Vs at x
    obtain ⟨v, vs, rfl, x1, x2⟩ := x
    unfold strsD at e
    cases d with
    | str l =>
      cases q : strsD ds with
      | none => simp [q] at e
      | some r =>
        simp [q] at e
        subst e
        unfold V at x1
        obtain ⟨t, rfl⟩ := x1
        exact .cons (.str _ _) (reads_strs x2 q)
    | _ => cases e
theorem okT_all : ∀ {l : Txt}, okT l = true → ∀ x ∈ l, x < 1114112
  | [], _, _, m => nomatch m
  | x :: l, e, y, m => by
    unfold okT at e
    split at e
    · rename_i q
      rcases List.mem_cons.mp m with rfl | m
      · have := Nat.le_of_ble_eq_true q; omega
      · exact okT_all e y m
    · cases e
theorem canLay_strs : ∀ {ls : List Txt}, okTs ls = true → PyData.canLayAll0 (ls.map fun l => PyData.str (sOf l)) = true
  | [], _ => rfl
  | l :: ls, e => by
    unfold okTs at e
    split at e
    · rename_i q
      simp only [List.map_cons, PyData.canLayAll0, PyData.canLay0, canLay_strs e, Bool.and_true]
      show PyData.strOk (sOf l) = true
      unfold PyData.strOk sOf
      rw [← Array.all_toList]
      exact List.all_eq_true.mpr fun x m => decide_eq_true (okT_all q x m)
    · cases e
theorem depth_strs : ∀ (ls : List Txt), PyData.depthAll (ls.map fun l => PyData.str (sOf l)) = 0
  | [] => rfl
  | l :: ls => by simp [PyData.depthAll, PyData.depth, depth_strs ls]
theorem eqv_strs : ∀ (a b : List Txt), PyData.eqvAll (a.map fun l => PyData.str (sOf l)) (b.map fun l => PyData.str (sOf l)) = beqLL a b
  | [], [] => by simp [PyData.eqvAll, beqLL]
  | [], _ :: _ => by simp [PyData.eqvAll, beqLL]
  | _ :: _, [] => by simp [PyData.eqvAll, beqLL]
  | x :: a, y :: b => by
    simp only [List.map_cons, PyData.eqvAll, PyData.eqv, eqv_strs a b, beqL_str, beqLL]
    cases beqL x y <;> rfl
end Mine
-- E2
open PySem PySem.W PyProof.Rows PySem.Calls
namespace Mine
section
variable {c : Cx} {A : Around} {n : Nat} {f : Fx} {ρ : List D} {σ : Sg} {μ N : List Addr} {s : Shared} {E : Value → Shared → Prop} {k : Ans → Sg → List Addr → Shared → Prop} {Q : Value → Shared → Prop}

theorem Here.room (H : Here c A n f ρ σ μ s.heap) : A.units + 64 < cLine := by have := H.units; omega
theorem eqD_sound (H : Here c A n f ρ σ μ s.heap) {a b : D} {va vb : Value} (hv : V c.fa μ s.heap a va) (hv' : V c.fa μ s.heap b vb) {r : Bool} (e : eqD a b = some r) :
    (Q (.bool r) s → wpAny c.M A (compareOp .Eq va vb) Q E s) ∧ (Q (.bool (!r)) s → wpAny c.M A (compareOp .NotEq va vb) Q E s) := by
  unfold eqD at e
  split at e
  · rename_i x y
    unfold V at hv hv'
    obtain ⟨t, rfl⟩ := hv
    obtain ⟨u, rfl⟩ := hv'
    cases e
    exact ⟨fun q => eq_str (by rw [beqL_str]; exact q), fun q => ne_str (by rw [bne, beqL_str]; exact q)⟩
  · rename_i x y
    unfold V at hv hv'
    obtain ⟨t, rfl⟩ := hv
    obtain ⟨u, rfl⟩ := hv'
    cases e
    exact ⟨fun q => PyProof.Rows.eq_int (by rw [eqI_beq]; exact q), fun q => PyProof.Rows.ne_int (by rw [bne, eqI_beq]; exact q)⟩
  · unfold V at hv hv'
    obtain ⟨u, rfl⟩ := hv'
    subst hv
    cases e
    exact ⟨fun q => PySem.EqNone.eq_none_int q, fun q => PySem.EqNone.ne_none_int q⟩
  · rename_i xs ys
    split at e
    · rename_i la lb ea eb
      split at e
      · rename_i oa ob
        cases e
        unfold V at hv hv'
        obtain ⟨a, vs, rfl, ⟨o, ho, hc, m, hd⟩, hr⟩ := hv
        obtain ⟨b, us, rfl, ⟨o', ho', hc', m', hd'⟩, hr'⟩ := hv'
        have r1 := Reads.tuple ho hc hd (by simpa using reads_strs hr ea)
        have r2 := Reads.tuple ho' hc' hd' (by simpa using reads_strs hr' eb)
        have sh : ∀ l : List Txt, okTs l = true → SeqAt.shaped (.tuple (l.map fun l => PyData.str (sOf l))) = true := fun l h => by
          simp [SeqAt.shaped, PyData.canLay0, canLay_strs h, PyData.depth, depth_strs]
        refine ⟨fun q => eq_dataH r1 r2 (sh _ oa) (sh _ ob) H.room ?_, fun q => ne_dataH r1 r2 (sh _ oa) (sh _ ob) H.room ?_⟩
        · simp only [PyData.eqv, eqv_strs]; exact q
        · simp only [PyData.eqv, eqv_strs]; exact q
      · cases e
    · cases e
  · cases e

theorem dget_ks {c : Cx} {h : Heap} : ∀ {es : List (Txt × D)} {kvs : List (Str × Value)} {x : Txt}, Ks c.fa μ h es kvs → (match dget es x with
    | some d => ∃ v, valueAt kvs (sOf x) = some v ∧ V c.fa μ h d v
    | none => valueAt kvs (sOf x) = none)
  | [], _, x, hk => by unfold Ks at hk; subst hk; rfl
  | p :: es, _, x, hk => by
    unfold Ks at hk
    obtain ⟨v, l', rfl, hv, hr⟩ := hk
    unfold dget
    have ih := dget_ks (x := x) hr
    have e : (sOf p.1 == sOf x) = beqL p.1 x := beqL_str _ _
    cases q : beqL p.1 x with
    | true =>
      simp only
      rw [q] at e
      refine ⟨v, ?_, hv⟩
      have : sOf p.1 = sOf x := by simpa using e
      simp [valueAt, this]
    | false =>
      simp only
      rw [q] at e
      have ne : sOf p.1 ≠ sOf x := by simpa using e
      have : valueAt ((sOf p.1, v) :: l') (sOf x) = valueAt l' (sOf x) := by simp [valueAt, ne]
      rw [this]; exact ih

theorem hasN_iff : ∀ {l : List Nat} {y : Nat}, hasN l y = decide (y ∈ l)
  | [], y => by simp [hasN]
  | x :: l, y => by
    unfold hasN
    cases q : Nat.beq x y with
    | true =>
      have : x = y := Nat.eq_of_beq_eq_true q
      simp [this]
    | false =>
      have : x ≠ y := Nat.ne_of_beq_eq_false q
      have : ¬ y = x := fun e => this e.symm
      simp [hasN_iff (l := l) (y := y), this]
theorem Vs.eq_of_toArray {vs us : List Value} (h : vs.toArray.toList = us) : vs = us := by simpa using h
theorem memD_sound (H : Here c A n f ρ σ μ s.heap) {a b : D} {va vb : Value} (hv : V c.fa μ s.heap a va) (hv' : V c.fa μ s.heap b vb) {r : Bool} (e : memD σ a b = some r) :
    ((∀ t, Q (.bool r) { s with toks := t }) → wpAny c.M A (compareOp .In va vb) Q E s) ∧ ((∀ t, Q (.bool (!r)) { s with toks := t }) → wpAny c.M A (compareOp .NotIn va vb) Q E s) := by
  unfold memD at e
  split at e
  · rename_i x ys
    split at e
    · rename_i ls el
      cases e
      unfold V at hv hv'
      obtain ⟨t, rfl⟩ := hv
      obtain ⟨b, vs, rfl, ht, hr⟩ := hv'
      have hi := strsAre_of hr el
      exact ⟨fun q => in_tuple_strs ht (by simpa using hi) (by rw [any_hasL]; exact q s.toks), fun q => notin_tuple_strs ht (by simpa using hi) (by rw [any_hasL]; exact q s.toks)⟩
    · cases e
  · rename_i x i
    unfold V at hv hv'
    obtain ⟨t, rfl⟩ := hv
    obtain ⟨a, ha, rfl⟩ := hv'
    split at e
    · rename_i ys eo
      have ho := H.inv.ob _ _ _ eo ha
      obtain ⟨vs, nn, hl0, hr⟩ := ho
      have hl : s.heap.IsList a vs.toArray := ⟨_, hl0, rfl, nn, rfl⟩
      split at e
      · rename_i ls el
        cases e
        have hi := strsAre_of hr el
        exact ⟨fun q => in_list_strs hl hi (by rw [any_hasL]; exact q s.toks), fun q => notin_list_strs hl hi (by rw [any_hasL]; exact q s.toks)⟩
      · cases e
    · rename_i es eo
      have ho := H.inv.ob _ _ _ eo ha
      obtain ⟨kvs, hd, hk, hm⟩ := ho
      have g := dget_ks (x := x) hk
      split at e
      · rename_i d' ed
        cases e
        rw [ed] at g
        obtain ⟨v, g1, g2⟩ := g
        exact ⟨fun q => wpAny_in_of (strKind_is c.prog c.w (sOf x) t) hm hd.mapOf (by rw [g1]; exact q _), fun q => wpAny_notIn_of (strKind_is c.prog c.w (sOf x) t) hm hd.mapOf (by rw [g1]; exact q _)⟩
      · rename_i ed
        cases e
        rw [ed] at g
        exact ⟨fun q => wpAny_in_of (strKind_is c.prog c.w (sOf x) t) hm hd.mapOf (by rw [g]; exact q _), fun q => wpAny_notIn_of (strKind_is c.prog c.w (sOf x) t) hm hd.mapOf (by rw [g]; exact q _)⟩
    · cases e
  · rename_i x y
    unfold V at hv hv'
    obtain ⟨t, rfl⟩ := hv
    obtain ⟨u, rfl⟩ := hv'
    split at e
    · rename_i ch
      cases e
      have q1 : (!(Builtin.Str.occurrences (sOf y) (sOf [ch]) 0 (sOf y).length 1).isEmpty) = hasN y ch := by
        have := StrLaws.found_one (sOf y) ch
        refine Eq.trans this ?_
        rw [hasN_iff]
        exact decide_eq_decide.mpr (by simp [sOf])
      exact ⟨fun q => in_str (by rw [q1]; exact q s.toks), fun q => notIn_str (by rw [q1]; exact q s.toks)⟩
    · cases e
  · cases e

theorem lt_not (x y : Int) : decide (x < y) = !(leI y x) := by
  rw [← leI_dec]; by_cases h : y ≤ x <;> simp [h] <;> omega
theorem cmp_sound (H : Here c A n f ρ σ μ s.heap) {op : Op} {a b : D} {va vb : Value} (hv : V c.fa μ s.heap a va) (hv' : V c.fa μ s.heap b vb) {r : Bool} (e : cmpD σ op a b = some r)
    (hQ : ∀ t, Q (.bool r) { s with toks := t }) : wpAny c.M A (compareOp (opOf op) va vb) Q E s := by
  cases op with
  | eq => exact (eqD_sound H hv hv' e).1 (hQ s.toks)
  | ne =>
    change notO (eqD a b) = some r at e
    cases q : eqD a b with
    | none => rw [q] at e; cases e
    | some b' => rw [q] at e; cases e; exact (eqD_sound H hv hv' q).2 (hQ s.toks)
  | mem => exact (memD_sound H hv hv' e).1 hQ
  | nmem =>
    change notO (memD σ a b) = some r at e
    cases q : memD σ a b with
    | none => rw [q] at e; cases e
    | some b' => rw [q] at e; cases e; exact (memD_sound H hv hv' q).2 hQ
  | isnot =>
    change isnotD a b = some r at e
    unfold isnotD at e
    split at e
    · cases e
      unfold V at hv hv'
      subst hv hv'
      exact isNot_none (hQ s.toks)
    · cases e
      unfold V at hv hv'
      subst hv'
      obtain ⟨a, vs, rfl, _⟩ := hv
      exact isNot_none (hQ s.toks)
    · cases e
  | lt =>
    change ltD a b = some r at e
    unfold ltD at e
    split at e
    · cases e
      unfold V at hv hv'
      obtain ⟨t, rfl⟩ := hv
      obtain ⟨u, rfl⟩ := hv'
      exact PyProof.Rows.lt_int (by rw [lt_not]; exact hQ s.toks)
    · cases e
  | le =>
    change leD a b = some r at e
    unfold leD at e
    split at e
    · cases e
      unfold V at hv hv'
      obtain ⟨t, rfl⟩ := hv
      obtain ⟨u, rfl⟩ := hv'
      exact PyProof.Rows.le_int (by rw [leI_dec]; exact hQ s.toks)
    · cases e
  | gt =>
    change ltD b a = some r at e
    unfold ltD at e
    split at e
    · cases e
      unfold V at hv hv'
      obtain ⟨t, rfl⟩ := hv
      obtain ⟨u, rfl⟩ := hv'
      exact PyProof.Rows.gt_int (by rw [lt_not]; exact hQ s.toks)
    · cases e
  | ge =>
    change leD b a = some r at e
    unfold leD at e
    split at e
    · cases e
      unfold V at hv hv'
      obtain ⟨t, rfl⟩ := hv
      obtain ⟨u, rfl⟩ := hv'
      exact PyProof.Rows.ge_int (by rw [leI_dec]; exact hQ s.toks)
    · cases e
end
end Mine
-- E3
open PySem PySem.W PyProof.Rows PySem.Calls
namespace Mine
theorem le_leL : ∀ (x y : Txt), (!decide (y < x)) = leL x y
  | [], y => by simp [leL]
  | x :: l, [] => by simp [leL]
  | x :: l, y :: m => by
    unfold leL
    cases q : Nat.blt x y with
    | true =>
      have : x < y := Nat.le_of_ble_eq_true q
      simp only [Bool.not_eq_true', decide_eq_false_iff_not, List.cons_lt_cons_iff]
      omega
    | false =>
      have hn : ¬ x < y := fun z => by have := Nat.ble_eq_true_of_le (show x + 1 ≤ y from z); rw [show Nat.blt x y = Nat.ble (x+1) y from rfl] at q; rw [q] at this; cases this
      cases q' : Nat.beq x y with
      | true =>
        have e : x = y := Nat.eq_of_beq_eq_true q'
        subst e
        simp only
        rw [← le_leL l m, Bool.eq_iff_iff]
        simp [List.cons_lt_cons_iff]
      | false =>
        have ne : x ≠ y := Nat.ne_of_beq_eq_false q'
        have : y < x := by omega
        simp [List.cons_lt_cons_iff, this]

section
variable {c : Cx} {A : Around} {n : Nat} {f : Fx} {ρ : List D} {σ : Sg} {μ N : List Addr} {s : Shared} {E : Value → Shared → Prop} {k : Ans → Sg → List Addr → Shared → Prop} {Q : Value → Shared → Prop}

theorem les_sound {a b : D} {h : Heap} {va vb : Value} (hv : V c.fa μ h a va) (hv' : V c.fa μ h b vb) {r : Bool} (e : lesD a b = some r)
    (hQ : Q (.bool r) s) : wpAny c.M A (compareOp .LtE va vb) Q E s := by
  unfold lesD at e
  split at e
  · rename_i x y
    cases e
    unfold V at hv hv'
    obtain ⟨t, rfl⟩ := hv
    obtain ⟨u, rfl⟩ := hv'
    refine PySem.P.le_str ?_
    have e1 : (sOf x).cps.toList = x := by simp [sOf]
    have e2 : (sOf y).cps.toList = y := by simp [sOf]
    rw [e1, e2, le_leL]
    exact hQ
  · cases e

theorem sE_lit {d : D} {e : Expr} (H : Here c A (n + 1) f ρ σ μ s.heap) (h : chkE c f.sc f.slots (.lit d) e = true) (P : Post c f.fs N μ s E (kV c Q) (.ok (.v d) σ)) : wpAny c.M A (eval e f.env) Q E s := by
  replace h := vConst_inv h
  obtain ⟨_, _, _, rfl, h⟩ := h
  · rename_i k _ _
    cases d with
    | none =>
      simp only [chkC] at h
      split at h
      · exact wpAny_Constant_none (P.val0 H.inv (by unfold V; rfl))
      · cases h
    | bool a =>
      simp only [chkC] at h
      split at h
      · rw [← bool_and h]
        exact wpAny_Constant_bool (P.val0 H.inv (by unfold V; rfl))
      · cases h
    | int i =>
      simp only [chkC] at h
      split at h
      · rw [← eqI_iff.mp h]
        exact wpAny_Constant_int (P.val H.inv (by unfold V; exact ⟨_, rfl⟩) _)
      · cases h
    | str l =>
      simp only [chkC] at h
      split at h
      · rw [seqS_iff.mp h]
        exact wpAny_Constant_str (P.val H.inv (by unfold V; exact ⟨_, rfl⟩) _)
      · cases h
    | _ => cases h
theorem loc_some {ρ : List D} {i : Nat} {g : D → R} (P : Post c f.fs N μ s E k (match nth ρ i with | some d => (match d with | .unb => .stuck | d => g d) | none => .stuck)) : ∃ d, nth ρ i = some d ∧ d ≠ .unb ∧ Post c f.fs N μ s E k (g d) := by
  cases q : nth ρ i with
  | none => rw [q] at P; exact P.elim
  | some d =>
    rw [q] at P
    cases d with
    | unb => exact P.elim
    | _ => exact ⟨_, rfl, by simp, P⟩
theorem sE_loc {x : Nat} {e : Expr} (H : Here c A (n + 1) f ρ σ μ s.heap) (h : chkE c f.sc f.slots (.loc x) e = true) {ih : Task → Sg → R} (P : Post c f.fs N μ s E (kV c Q) (stepE c.F c.W c.k0 ih (.loc x) ρ σ)) : wpAny c.M A (eval e f.env) Q E s := by
  replace h := vName_inv h
  obtain ⟨_, _, rfl, h⟩ := h
  · obtain ⟨d, e1, e2, P⟩ := loc_some (g := fun d => .ok (.v d) σ) P
    exact H.readN h e1 e2 fun v hv => P.val0 H.inv hv
theorem sE_glb (O : Ok c) {d : D} {nm : Txt} {e : Expr} (H : Here c A (n + 1) f ρ σ μ s.heap) (h : chkE c f.sc f.slots (.glb nm d) e = true) (P : Post c f.fs N μ s E (kV c Q) (.ok (.v d) σ)) : wpAny c.M A (eval e f.env) Q E s := by
  replace h := vName_inv h
  obtain ⟨_, _, rfl, h⟩ := h
  · obtain ⟨h, h3⟩ := Bool.and_eq_true_iff.mp h
    obtain ⟨h1, h2⟩ := Bool.and_eq_true_iff.mp h
    split at h3
    · rename_i v e
      exact H.glb O h2 e (P.val0 H.inv (chkV_sound (H.K O) H.inv.pre d v h3))
    · cases h3
theorem sE_cmp {op : Op} {l r : Ex} {e : Expr} (S : SoundE c n) (H : Here c A (n + 1) f ρ σ μ s.heap) (h : chkE c f.sc f.slots (.cmp op l r) e = true) (P : Post c f.fs N μ s E (kV c Q) (stepE c.F c.W c.k0 (c.run n) (.cmp op l r) ρ σ)) : wpAny c.M A (eval e f.env) Q E s := by
  replace h := inv_cmp h
  obtain ⟨_, _, _, _, rfl, h⟩ := h
  · obtain ⟨h, h4⟩ := Bool.and_eq_true_iff.mp h
    obtain ⟨h, h3⟩ := Bool.and_eq_true_iff.mp h
    obtain ⟨h1, h2⟩ := Bool.and_eq_true_iff.mp h
    have h1 := of_decide_eq_true h1
    subst h1
    refine wpAny_Compare1 (S.two H.less h3 h4 P fun d d' σ' μ' s' v v' H' hv hv' P' => ?_) (by simpa using h2)
    obtain ⟨b, e1, P'⟩ := bO_some P'
    exact cmp_sound H' hv hv' e1 fun t => P'.val H'.inv (by unfold V; rfl) t
theorem sT_cmp {Q : Bool → Shared → Prop} {op : Op} {l r : Ex} {e : Expr} (S : SoundE c n) (H : Here c A (n + 1) f ρ σ μ s.heap) (h : chkE c f.sc f.slots (.cmp op l r) e = true) (P : Post c f.fs N μ s E (kB Q) (stepT (c.run n) (.cmp op l r) ρ σ)) : wpAny c.M A (isTrue e f.env (eval e f.env)) Q E s := by
  replace h := inv_cmp h
  obtain ⟨_, _, _, _, rfl, h⟩ := h
  · obtain ⟨h, h4⟩ := Bool.and_eq_true_iff.mp h
    obtain ⟨h, h3⟩ := Bool.and_eq_true_iff.mp h
    obtain ⟨h1, h2⟩ := Bool.and_eq_true_iff.mp h
    have h1 := of_decide_eq_true h1
    subst h1
    refine wpAny_isTrue_Compare1 (S.two H.less h3 h4 P fun d d' σ' μ' s' v v' H' hv hv' P' => ?_) (by simpa using h2)
    cases q : cmpD σ' op d d' with
    | none => rw [q] at P'; exact P'.elim
    | some b =>
      rw [q] at P'
      exact cmp_sound H' hv hv' q fun t => wpAny_truthy_bool (Post.now P' (s' := { s' with toks := t }) H'.inv (Ext.refl ..) ⟨rfl, rfl⟩)
theorem sE_btw {l m r : Ex} {e : Expr} (S : SoundE c n) (H : Here c A (n + 1) f ρ σ μ s.heap) (h : chkE c f.sc f.slots (.btw l m r) e = true) (P : Post c f.fs N μ s E (kV c Q) (stepE c.F c.W c.k0 (c.run n) (.btw l m r) ρ σ)) : wpAny c.M A (eval e f.env) Q E s := by
  replace h := inv_btw h
  obtain ⟨_, _, _, _, rfl, h⟩ := h
  · obtain ⟨h, h4⟩ := Bool.and_eq_true_iff.mp h
    obtain ⟨h, h3⟩ := Bool.and_eq_true_iff.mp h
    obtain ⟨h1, h2⟩ := Bool.and_eq_true_iff.mp h
    refine Compare_chain (S.one H.less h2 P fun d σ₁ μ₁ s₁ v H₁ x₁ q₁ hv P₁ => chain_link (S.one H₁ h3 P₁ fun d' σ₂ μ₂ s₂ v' H₂ x₂ q₂ hv' P₂ => ?_)) (by simpa using h1)
    cases q : lesD d d' with
    | none => rw [q] at P₂; exact P₂.elim
    | some b =>
      rw [q] at P₂
      refine les_sound (V.mono x₂.pre x₂.keep.tup _ _ hv) hv' q (wpAny_truthy_bool ?_)
      cases b with
      | false => exact P₂.val0 H₂.inv (by unfold V; rfl)
      | true =>
        refine chain_last (S.one H₂ h4 P₂ fun d'' σ₃ μ₃ s₃ v'' H₃ x₃ q₃ hv'' P₃ => ?_)
        obtain ⟨b, e1, P₃⟩ := bO_some P₃
        exact les_sound (V.mono x₃.pre x₃.keep.tup _ _ hv') hv'' e1 (P₃.val0 H₃.inv (by unfold V; rfl))
theorem sT_btw {Q : Bool → Shared → Prop} {l m r : Ex} {e : Expr} (S : SoundE c n) (H : Here c A (n + 1) f ρ σ μ s.heap) (h : chkE c f.sc f.slots (.btw l m r) e = true) (P : Post c f.fs N μ s E (kB Q) (stepT (c.run n) (.btw l m r) ρ σ)) : wpAny c.M A (isTrue e f.env (eval e f.env)) Q E s := by
  replace h := inv_btw h
  obtain ⟨_, _, _, _, rfl, h⟩ := h
  · obtain ⟨h, h4⟩ := Bool.and_eq_true_iff.mp h
    obtain ⟨h, h3⟩ := Bool.and_eq_true_iff.mp h
    obtain ⟨h1, h2⟩ := Bool.and_eq_true_iff.mp h
    refine isTrue_chain (S.one H.less h2 P fun d σ₁ μ₁ s₁ v H₁ x₁ q₁ hv P₁ => test_link (S.one H₁ h3 P₁ fun d' σ₂ μ₂ s₂ v' H₂ x₂ q₂ hv' P₂ => ?_)) (by simpa using h1)
    cases q : lesD d d' with
    | none => rw [q] at P₂; exact P₂.elim
    | some b =>
      rw [q] at P₂
      refine les_sound (V.mono x₂.pre x₂.keep.tup _ _ hv) hv' q (wpAny_truthy_bool ?_)
      cases b with
      | false => exact Post.now P₂ H₂.inv (Ext.refl ..) ⟨rfl, rfl⟩
      | true =>
        refine test_last (S.one H₂ h4 P₂ fun d'' σ₃ μ₃ s₃ v'' H₃ x₃ q₃ hv'' P₃ => ?_)
        cases q' : lesD d' d'' with
        | none => rw [q'] at P₃; exact P₃.elim
        | some b' =>
          rw [q'] at P₃
          exact les_sound (V.mono x₃.pre x₃.keep.tup _ _ hv') hv'' q' (wpAny_truthy_bool (Post.now P₃ H₃.inv (Ext.refl ..) ⟨rfl, rfl⟩))
theorem sE_nt {x : Ex} {e : Expr} (S : SoundE c n) (H : Here c A (n + 1) f ρ σ μ s.heap) (h : chkE c f.sc f.slots (.nt x) e = true) (P : Post c f.fs N μ s E (kV c Q) (stepE c.F c.W c.k0 (c.run n) (.nt x) ρ σ)) : wpAny c.M A (eval e f.env) Q E s := by
  replace h := inv_nt h
  obtain ⟨_, _, rfl, h⟩ := h
  · refine wpAny_UnaryOp (S.one H.less h P fun d σ₁ μ₁ s₁ v H₁ x₁ q₁ hv P₁ => not_value ?_)
    cases d with
    | bool b =>
      unfold V at hv; subst hv
      exact wpAny_truthy_bool (P₁.val0 H₁.inv (by unfold V; rfl))
    | _ => exact P₁.elim
theorem sT_nt {Q : Bool → Shared → Prop} {x : Ex} {e : Expr} (S : SoundE c n) (H : Here c A (n + 1) f ρ σ μ s.heap) (h : chkE c f.sc f.slots (.nt x) e = true) (P : Post c f.fs N μ s E (kB Q) (stepT (c.run n) (.nt x) ρ σ)) : wpAny c.M A (isTrue e f.env (eval e f.env)) Q E s := by
  replace h := inv_nt h
  obtain ⟨_, _, rfl, h⟩ := h
  · exact wpAny_isTrue_Not (S.test H.less h P fun b σ₁ μ₁ s₁ H₁ x₁ q₁ P₁ => Post.now P₁ H₁.inv (Ext.refl ..) ⟨rfl, rfl⟩)
theorem sE_neg {k : Nat} {e : Expr} (H : Here c A (n + 1) f ρ σ μ s.heap) (h : chkE c f.sc f.slots (.neg k) e = true) (P : Post c f.fs N μ s E (kV c Q) (.ok (.v (.int (-(Int.ofNat k)))) σ)) : wpAny c.M A (eval e f.env) Q E s := by
  replace h := inv_neg h
  obtain ⟨_, _, _, _, rfl, h⟩ := h
  · rw [of_decide_eq_true h]
    exact wpAny_UnaryOp (wpAny_Constant_int (PyProof.Rows.neg_int (P.val (s := s) H.inv (by unfold V; exact ⟨_, rfl⟩) _)))
theorem sE_bop {a : Bool} {xs : List Ex} {e : Expr} (S : SoundE c n) (H : Here c A (n + 1) f ρ σ μ s.heap) (h : chkE c f.sc f.slots (.bop a xs) e = true) (P : Post c f.fs N μ s E (kV c Q) (stepE c.F c.W c.k0 (c.run n) (.bop a xs) ρ σ)) : wpAny c.M A (eval e f.env) Q E s := by
  replace h := vBool_inv h
  obtain ⟨_, _, _, rfl, h⟩ := h
  · rename_i op es pos
    obtain ⟨h1, h2⟩ := Bool.and_eq_true_iff.mp h
    have h1 := of_decide_eq_true h1
    subst h1
    show wpAny c.M A (boolOp pos (bopOf a) (evalEach es f.env)) Q E s
    exact S.Vs H.less h2 P
theorem sT_bop {Q : Bool → Shared → Prop} {a : Bool} {xs : List Ex} {e : Expr} (S : SoundE c n) (H : Here c A (n + 1) f ρ σ μ s.heap) (h : chkE c f.sc f.slots (.bop a xs) e = true) (P : Post c f.fs N μ s E (kB Q) (stepT (c.run n) (.bop a xs) ρ σ)) : wpAny c.M A (isTrue e f.env (eval e f.env)) Q E s := by
  replace h := vBool_inv h
  obtain ⟨_, _, _, rfl, h⟩ := h
  · obtain ⟨h1, h2⟩ := Bool.and_eq_true_iff.mp h
    have h1 := of_decide_eq_true h1
    subst h1
    exact wpAny_isTrue_BoolOp (S.Ts H.less h2 P)
theorem sE_ife {t a b : Ex} {e : Expr} (S : SoundE c n) (H : Here c A (n + 1) f ρ σ μ s.heap) (h : chkE c f.sc f.slots (.ife t a b) e = true) (P : Post c f.fs N μ s E (kV c Q) (stepE c.F c.W c.k0 (c.run n) (.ife t a b) ρ σ)) : wpAny c.M A (eval e f.env) Q E s := by
  replace h := vIf_inv h
  obtain ⟨_, _, _, _, rfl, h⟩ := h
  · obtain ⟨h, h3⟩ := Bool.and_eq_true_iff.mp h
    obtain ⟨h1, h2⟩ := Bool.and_eq_true_iff.mp h
    refine wpAny_IfExp (S.test H.less h1 P fun b σ₁ μ₁ s₁ H₁ x₁ q₁ P₁ => ?_)
    cases b with
    | true => exact S.E H₁ h2 P₁
    | false => exact S.E H₁ h3 P₁
theorem sT_ife {Q : Bool → Shared → Prop} {t a b : Ex} {e : Expr} (S : SoundE c n) (H : Here c A (n + 1) f ρ σ μ s.heap) (h : chkE c f.sc f.slots (.ife t a b) e = true) (P : Post c f.fs N μ s E (kB Q) (stepT (c.run n) (.ife t a b) ρ σ)) : wpAny c.M A (isTrue e f.env (eval e f.env)) Q E s := by
  replace h := vIf_inv h
  obtain ⟨_, _, _, _, rfl, h⟩ := h
  · obtain ⟨h, h3⟩ := Bool.and_eq_true_iff.mp h
    obtain ⟨h1, h2⟩ := Bool.and_eq_true_iff.mp h
    show wpAny c.M A (do if ← isTrue _ f.env (eval _ f.env) then isTrue _ f.env (eval _ f.env) else isTrue _ f.env (eval _ f.env)) Q E s
    refine wpAny_bind (S.test H.less h1 P fun b σ₁ μ₁ s₁ H₁ x₁ q₁ P₁ => ?_)
    cases b with
    | true => exact S.T H₁ h2 P₁
    | false => exact S.T H₁ h3 P₁
end
end Mine
-- E4
open PySem PySem.W PyProof.Rows PySem.Calls
namespace Mine
theorem small_lt {n : Nat} (h : small n = true) : n < 1000000 := Nat.le_of_ble_eq_true h
theorem strSlice_min (i j n : Nat) : Builtin.Str.strSliceIndices (some (i : Int)) (some (j : Int)) 1 n = Builtin.Str.strSliceIndices (some ((min i n : Nat) : Int)) (some ((min j n : Nat) : Int)) 1 n := by
  unfold Builtin.Str.strSliceIndices
  simp only [show (1 : Int) > 0 by decide, if_true]
  congr 1
  · rw [if_neg (by omega), if_neg (by omega)]; omega
  · rw [if_neg (by omega), if_neg (by omega)]; omega
theorem strSlice_minF (i n : Nat) : Builtin.Str.strSliceIndices (some (i : Int)) none 1 n = Builtin.Str.strSliceIndices (some ((min i n : Nat) : Int)) none 1 n := by
  unfold Builtin.Str.strSliceIndices
  simp only [show (1 : Int) > 0 by decide, if_true]
  congr 1
  · rw [if_neg (by omega), if_neg (by omega)]; omega
theorem strSlice_minT (j n : Nat) : Builtin.Str.strSliceIndices none (some (j : Int)) 1 n = Builtin.Str.strSliceIndices none (some ((min j n : Nat) : Int)) 1 n := by
  unfold Builtin.Str.strSliceIndices
  simp only [show (1 : Int) > 0 by decide, if_true]
  congr 1
  · rw [if_neg (by omega), if_neg (by omega)]; omega
theorem sOf_toList (l : Txt) : (sOf l).cps.toList = l := by simp [sOf]
theorem sOf_len (l : Txt) : (sOf l).length = l.length := by simp [sOf, Str.length]
theorem slice_ss (l : Txt) (i j : Nat) (h : i ≤ j) : Txt.slice (sOf l) (some (i : Int)) (some (j : Int)) = sOf ((l.take j).drop i) := by
  have e : Txt.slice (sOf l) (some (i : Int)) (some (j : Int)) = Txt.slice (sOf l) (some ((min i l.length : Nat) : Int)) (some ((min j l.length : Nat) : Int)) := by
    unfold Txt.slice; rw [sOf_len, strSlice_min]
  rw [e, eq_of_beq (slice_closesL (x := sOf l) (i := ((min i l.length : Nat) : Int)) (j := ((min j l.length : Nat) : Int)) (by omega) (by omega) (by rw [sOf_len]; omega)), sOf_toList]
  show sOf _ = sOf _
  congr 1
  rw [List.drop_take]
  apply List.ext_getElem?
  intro q
  simp only [List.getElem?_take, List.getElem?_drop]
  by_cases hi : i ≤ l.length
  · have : (min i l.length : Nat) = i := by omega
    by_cases hq : q < j - i
    · by_cases hq2 : q < l.length - i
      · rw [if_pos (by omega), if_pos hq]; congr 1; omega
      · rw [if_neg (by omega), if_pos hq, List.getElem?_eq_none (by omega)]
    · rw [if_neg (by omega), if_neg hq]
  · rw [if_neg (by omega)]
    split
    · rw [List.getElem?_eq_none (by omega)]
    · rfl
theorem slice_sn (l : Txt) (i : Nat) : Txt.slice (sOf l) (some (i : Int)) none = sOf (l.drop i) := by
  have e : Txt.slice (sOf l) (some (i : Int)) none = Txt.slice (sOf l) (some ((min i l.length : Nat) : Int)) none := by
    unfold Txt.slice; rw [sOf_len, strSlice_minF]
  rw [e, eq_of_beq (slice_closes_fromL (x := sOf l) (i := ((min i l.length : Nat) : Int)) (b := (sOf l).length) (by omega) (by rw [sOf_len]; omega) rfl), sOf_toList, sOf_len]
  show sOf _ = sOf _
  congr 1
  apply List.ext_getElem?
  intro q
  simp only [List.getElem?_take, List.getElem?_drop]
  by_cases hq : q < l.length - i
  · rw [if_pos (by omega)]; congr 1; omega
  · rw [if_neg (by omega), List.getElem?_eq_none (by omega)]
theorem slice_ns (l : Txt) (j : Nat) : Txt.slice (sOf l) none (some (j : Int)) = sOf (l.take j) := by
  have e : Txt.slice (sOf l) none (some (j : Int)) = Txt.slice (sOf l) none (some ((min j l.length : Nat) : Int)) := by
    unfold Txt.slice; rw [sOf_len, strSlice_minT]
  rw [e, eq_of_beq (slice_closes_toL (x := sOf l) (j := ((min j l.length : Nat) : Int)) (by omega) (by rw [sOf_len]; omega)), sOf_toList]
  show sOf _ = sOf _
  congr 1
  apply List.ext_getElem?
  intro q
  simp only [List.getElem?_take, List.getElem?_drop]
  by_cases hq : q < j
  · by_cases hq2 : q < l.length
    · rw [if_pos (by omega), if_pos hq]; congr 1; omega
    · rw [if_neg (by omega), if_pos hq, List.getElem?_eq_none (by omega)]
  · rw [if_neg (by omega), if_neg hq]
theorem slcD_some {d : D} {x y : Option D} {r : D} (e : slcD d x y = some r) : ∃ (l : Txt) (r' : Txt) (i j : Option Nat), d = .str l ∧ x = i.map (fun n => .int (.ofNat n)) ∧ y = j.map (fun n => .int (.ofNat n)) ∧ r = .str r' ∧ small l.length = true ∧
    Txt.slice (sOf l) (i.map fun n => (n : Int)) (j.map fun n => (n : Int)) = sOf r' := by
  have nat : ∀ {i : Int} {m : Nat}, natOf i = some m → i = .ofNat m := fun {i m} h => by
    cases i with
    | ofNat k =>
      simp only [natOf] at h
      split at h
      · cases h; rfl
      · cases h
    | negSucc k => cases h
  unfold slcD at e
  split at e
  · rename_i l i j
    split at e
    · rename_i m k hm hk
      split at e
      · rename_i h1 h2
        cases e
        exact ⟨l, _, some m, some k, rfl, by rw [nat hm]; rfl, by rw [nat hk]; rfl, rfl, h2, slice_ss l m k (Nat.le_of_ble_eq_true h1)⟩
      · cases e
    · cases e
  · rename_i l i
    split at e
    · rename_i m hm
      split at e
      · rename_i h2
        cases e
        exact ⟨l, _, some m, none, rfl, by rw [nat hm]; rfl, rfl, rfl, h2, slice_sn l m⟩
      · cases e
    · cases e
  · rename_i l j
    split at e
    · rename_i m hm
      split at e
      · rename_i h2
        cases e
        exact ⟨l, _, none, some m, rfl, rfl, by rw [nat hm]; rfl, rfl, h2, slice_ns l m⟩
      · cases e
    · cases e
  · cases e

section
variable {c : Cx} {A : Around} {n : Nat} {f : Fx} {ρ : List D} {σ : Sg} {μ N : List Addr} {s : Shared} {E : Value → Shared → Prop} {k : Ans → Sg → List Addr → Shared → Prop} {Q : Value → Shared → Prop}

/-- a new object that is not taken up -/
theorem Inv.push (I : Inv c s.heap σ μ) (o : Obj) : Inv c (s.heap.push o) σ μ := I.keep (Keep.push [] s.heap o) (fun _ _ => List.not_mem_nil) (fun _ m => absurd m List.not_mem_nil)
theorem Ext.pushed (h : Heap) (o : Obj) : Ext N μ h μ (h.push o) := ⟨List.prefix_refl _, fun _ m => .inl m, Keep.push _ h o⟩
/-- a new list is taken up -/
theorem Inv.newList (H : Here c A n f ρ σ μ s.heap) {ds : List D} {vs : List Value} (hv : Vs c.fa μ s.heap ds vs) : Inv c (s.heap.push { cls := .type "list", data := .seq vs.toArray }) (σ ++ [.list ds]) (μ ++ [s.heap.objs.size]) := by
  refine H.inv.alloc (Keep.push [] s.heap _) rfl (by simp) (fun a m => by rw [List.mem_singleton.mp m]; exact Heap.get?_none_of_le (Nat.le_refl _)) (fun a m => by rw [List.mem_singleton.mp m]; exact H.baseLt) fun i ob a e1 e2 => ?_
  cases i with
  | zero =>
    cases e1; cases e2
    exact ⟨vs, _, Heap.get?_push_size _ rfl, Vs.mono ⟨_, rfl⟩ (Keep.push [] s.heap _).tup _ _ hv⟩
  | succ i => cases e1
theorem Ext.newList (h : Heap) (o : Obj) : Ext N μ h (μ ++ [h.objs.size]) (h.push o) := ⟨⟨_, rfl⟩, fun a m => (List.mem_append.mp m).elim .inl fun m => .inr (by rw [List.mem_singleton.mp m]; exact Heap.get?_none_of_le (Nat.le_refl _)), Keep.push _ h o⟩
theorem nth_len {α : Type} (l m : List α) (x : α) : nth (l ++ x :: m) l.length = some x := by
  have := nth_append_len (l := l) (m := x :: m) 0
  simpa [nth] using this
theorem Post.list (P : Post c f.fs N μ s E (kV c Q) (.ok (.v (.ref σ.length)) (σ ++ [.list ds]))) (H : Here c A n f ρ σ μ s.heap) {vs : List Value} (hv : Vs c.fa μ s.heap ds vs) :
    Q (.ref s.heap.objs.size) { s with heap := s.heap.push { cls := .type "list", data := .seq vs.toArray } } := by
  refine Post.now P (s' := { s with heap := s.heap.push { cls := .type "list", data := .seq vs.toArray } }) (Inv.newList H hv) (Ext.newList _ _) ⟨rfl, rfl⟩ _ ?_
  unfold V
  refine ⟨_, ?_, rfl⟩
  rw [← H.inv.len]; exact nth_len μ [] _

theorem sE_add {l r : Ex} {e : Expr} (S : SoundE c n) (H : Here c A (n + 1) f ρ σ μ s.heap) (h : chkE c f.sc f.slots (.add l r) e = true) (P : Post c f.fs N μ s E (kV c Q) (stepE c.F c.W c.k0 (c.run n) (.add l r) ρ σ)) : wpAny c.M A (eval e f.env) Q E s := by
  replace h := inv_add h
  obtain ⟨_, _, _, rfl, h⟩ := h
  · obtain ⟨h1, h2⟩ := Bool.and_eq_true_iff.mp h
    refine wpAny_BinOp (S.two H.less h1 h2 P fun d d' σ' μ' s' v v' H' hv hv' P' => ?_)
    cases q : addD σ' d d' with
    | none => rw [q] at P'; exact P'.elim
    | some p =>
      rw [q] at P'
      unfold addD at q
      split at q
      · cases q
        unfold V at hv hv'
        obtain ⟨t, rfl⟩ := hv
        obtain ⟨u, rfl⟩ := hv'
        exact PyProof.Rows.add_int (P'.val H'.inv (by unfold V; exact ⟨_, rfl⟩) _)
      · rename_i x y
        split at q
        · rename_i hs
          cases q
          unfold V at hv hv'
          obtain ⟨t, rfl⟩ := hv
          obtain ⟨u, rfl⟩ := hv'
          have := small_lt hs
          refine add_str (fun t' tk => ?_) (by rw [sOf_len, sOf_len, sizeLine_eq]; omega)
          have e : sOf x ++ sOf y = sOf (x ++ y) := by
            show Str.append _ _ = _
            simp [Str.append, sOf]
          rw [e]
          exact P'.val H'.inv (by unfold V; exact ⟨_, rfl⟩) _
        · cases q
      · rename_i i j
        split at q
        · rename_i xs ys e1 e2
          split at q
          · rename_i hs
            cases q
            unfold V at hv hv'
            obtain ⟨a, ea, rfl⟩ := hv
            obtain ⟨b, eb, rfl⟩ := hv'
            obtain ⟨vs, m, l1, r1⟩ := H'.inv.ob _ _ _ e1 ea
            obtain ⟨us, m', l2, r2⟩ := H'.inv.ob _ _ _ e2 eb
            have := small_lt hs
            refine PySem.P.add_list l1 l2 ?_ (by simp only [List.size_toArray, r1.length, r2.length, sizeLine_eq]; omega)
            have e : vs.toArray ++ us.toArray = (vs ++ us).toArray := by simp
            rw [e]
            exact P'.list H' (r1.append r2)
          · cases q
        · cases q
      · cases q
theorem sE_mns {l r : Ex} {e : Expr} (S : SoundE c n) (H : Here c A (n + 1) f ρ σ μ s.heap) (h : chkE c f.sc f.slots (.mns l r) e = true) (P : Post c f.fs N μ s E (kV c Q) (stepE c.F c.W c.k0 (c.run n) (.mns l r) ρ σ)) : wpAny c.M A (eval e f.env) Q E s := by
  replace h := inv_mns h
  obtain ⟨_, _, _, rfl, h⟩ := h
  · obtain ⟨h1, h2⟩ := Bool.and_eq_true_iff.mp h
    refine wpAny_BinOp (S.two H.less h1 h2 P fun d d' σ' μ' s' v v' H' hv hv' P' => ?_)
    split at P'
    · unfold V at hv hv'
      obtain ⟨t, rfl⟩ := hv
      obtain ⟨u, rfl⟩ := hv'
      exact PyProof.Rows.sub_int (P'.val H'.inv (by unfold V; exact ⟨_, rfl⟩) _)
    · exact P'.elim
theorem sE_mul {l r : Ex} {e : Expr} (S : SoundE c n) (H : Here c A (n + 1) f ρ σ μ s.heap) (h : chkE c f.sc f.slots (.mul l r) e = true) (P : Post c f.fs N μ s E (kV c Q) (stepE c.F c.W c.k0 (c.run n) (.mul l r) ρ σ)) : wpAny c.M A (eval e f.env) Q E s := by
  replace h := inv_mul h
  obtain ⟨_, _, _, rfl, h⟩ := h
  · obtain ⟨h1, h2⟩ := Bool.and_eq_true_iff.mp h
    refine wpAny_BinOp (S.two H.less h1 h2 P fun d d' σ' μ' s' v v' H' hv hv' P' => ?_)
    split at P'
    · split at P'
      · rename_i x y _ hs
        unfold V at hv hv'
        obtain ⟨t, rfl⟩ := hv
        obtain ⟨u, rfl⟩ := hv'
        have := small_lt hs
        exact PyProof.Rows.mul_int (P'.val H'.inv (by unfold V; exact ⟨_, rfl⟩) _) (IntMulOk.of_right (intBits_le_64 (by show -(2 ^ 64) < (y : Int); omega) (by show (y : Int) < 2 ^ 64; omega)))
      · exact P'.elim
    · exact P'.elim
theorem sE_tup {xs : List Ex} {e : Expr} (S : SoundE c n) (H : Here c A (n + 1) f ρ σ μ s.heap) (h : chkE c f.sc f.slots (.tup xs) e = true) (P : Post c f.fs N μ s E (kV c Q) (stepE c.F c.W c.k0 (c.run n) (.tup xs) ρ σ)) : wpAny c.M A (eval e f.env) Q E s := by
  replace h := vTup_inv h
  obtain ⟨_, _, _, rfl, h⟩ := h
  · refine wpAny_Tuple (S.args H.less h P fun ds σ₁ μ₁ s₁ vs H₁ x₁ q₁ hv P₁ => ?_)
    cases q : small ds.length with
    | false => rw [q] at P₁; exact P₁.elim
    | true =>
      rw [q] at P₁
      have := small_lt q
      refine ⟨by rw [hv.length, sizeLine_eq]; omega, ?_⟩
      refine Post.now P₁ (s' := { s₁ with heap := s₁.heap.push { cls := .type "tuple", data := .seq vs.toArray } }) (Inv.push H₁.inv _) (Ext.pushed _ _) ⟨rfl, rfl⟩ _ ?_
      unfold V
      exact ⟨_, vs, rfl, IsTup.new _ _, Vs.mono (List.prefix_refl _) (Keep.push [] s₁.heap _).tup _ _ hv⟩
theorem sE_lst {xs : List Ex} {e : Expr} (S : SoundE c n) (H : Here c A (n + 1) f ρ σ μ s.heap) (h : chkE c f.sc f.slots (.lst xs) e = true) (P : Post c f.fs N μ s E (kV c Q) (stepE c.F c.W c.k0 (c.run n) (.lst xs) ρ σ)) : wpAny c.M A (eval e f.env) Q E s := by
  replace h := vList_inv h
  obtain ⟨_, _, rfl, h⟩ := h
  · refine wpAny_List (S.args H.less h P fun ds σ₁ μ₁ s₁ vs H₁ x₁ q₁ hv P₁ => ?_)
    cases q : small ds.length with
    | false => rw [q] at P₁; exact P₁.elim
    | true =>
      rw [q] at P₁
      have := small_lt q
      exact ⟨by rw [hv.length, sizeLine_eq]; omega, P₁.list H₁ hv⟩

theorem star_of_chk {x : Ex} {e : Expr} {rest : List Expr} {env : Env} (h : chkE c f.sc f.slots x e = true) : starEach (e :: rest) env = (false, eval e env) :: starEach rest env := by
  cases e with
  | Starred v p => exact absurd rfl (chkE_tag h)
  | _ => rfl
theorem plain_of_chk {pos : Pos} : ∀ {xs : List Ex} {es : List Expr} {env : Env}, chkEs c f.sc f.slots xs es = true → (backTo pos (starEach es env)).any (·.1) = false
  | [], [], _, _ => rfl
  | x :: xs, e :: es, env, h => by
    unfold chkEs at h
    obtain ⟨h1, h2⟩ := Bool.and_eq_true_iff.mp h
    rw [star_of_chk h1]
    show (false || (backTo pos (starEach es env)).any (·.1)) = false
    rw [plain_of_chk h2]; rfl
  | [], _ :: _, _, h => by unfold chkEs at h; cases h
  | _ :: _, [], _, h => by unfold chkEs at h; cases h
theorem SoundE.callWith (O : Ok c) (S : SoundE c n) (H : Here c A n f ρ σ μ s.heap) {a : Addr} (hk : keepIn c.K (.ref a) = true) {pos : Pos} {xs : List Ex} {es : List Expr} (h : chkEs c f.sc f.slots xs es = true) {g : List D → Sg → R}
    (P : Post c f.fs N μ s E k (bindVs (c.run n (.Es xs ρ) σ) g))
    (K : ∀ (ds : List D) (σ' : Sg) (μ' : List Addr) (s' : Shared) (vs : List Value), Here c A n f ρ σ' μ' s'.heap → Mine.Vs c.fa μ' s'.heap ds vs → Post c f.fs N μ' s' E k (g ds σ') → wpAny c.M A (call (.ref a) vs) Q E s') :
    wpAny c.M A (callWith pos (.ref a) [] (backTo pos (starEach es f.env)) []) Q E s := by
  have args := S.args (pos := pos) (Q' := fun vs s₁ => c.K.In s₁.heap ∧ wpAny c.M A (call (.ref a) vs) Q E s₁) H h P fun ds σ' μ' s' vs H' x q hv P' => ⟨H'.K O, K ds σ' μ' s' vs H' hv P'⟩
  cases es with
  | nil =>
    have : xs = [] := by cases xs with | nil => rfl | cons _ _ => unfold chkEs at h; cases h
    subst this
    refine callWith_K0 (H.K O) hk ?_
    cases n with
    | zero => exact P.elim
    | succ m => exact K [] σ μ s [] H Vs.nil P
  | cons e rest =>
    cases xs with
    | nil => unfold chkEs at h; cases h
    | cons x xs =>
      unfold chkEs at h
      obtain ⟨h1, h2⟩ := Bool.and_eq_true_iff.mp h
      exact callWith_K (O.X) hk args (star_of_chk h1) (plain_of_chk h2)
end
end Mine
-- E5
open PySem PySem.W PyProof.Rows PySem.Calls
namespace Mine
section
variable {c : Cx} {A : Around} {n : Nat} {f : Fx} {ρ : List D} {σ : Sg} {μ N : List Addr} {s : Shared} {E : Value → Shared → Prop} {k : Ans → Sg → List Addr → Shared → Prop} {Q : Value → Shared → Prop}

theorem callName_eq {id : Str} {np pos : Pos} {es : List Expr} {env : Env} : eval (.Call (.Name id np) es [] pos) env = (do callWith pos (← eval (.Name id np) env) [] (backTo pos (starEach es env)) (backToKw pos (keywordEach [] env))) := rfl
theorem sE_call (O : Ok c) {k : Nat} {xs : List Ex} {e : Expr} (S : SoundE c n) (H : Here c A (n + 1) f ρ σ μ s.heap) (h : chkE c f.sc f.slots (.call k xs) e = true) (P : Post c f.fs N μ s E (kV c Q) (stepE c.F c.W c.k0 (c.run n) (.call k xs) ρ σ)) : wpAny c.M A (eval e f.env) Q E s := by
  replace h := vCallN_inv h
  obtain ⟨_, _, _, _, rfl, h⟩ := h
  · obtain ⟨h, h4⟩ := Bool.and_eq_true_iff.mp h
    obtain ⟨h, h3⟩ := Bool.and_eq_true_iff.mp h
    obtain ⟨h1, h2⟩ := Bool.and_eq_true_iff.mp h
    exact Call_ (H.less.glb O h1 (refIn_eq h2) (S.callWith O H.less h3 h4 P fun ds σ' μ' s' vs H' hv P' => S.C H' hv P')) callName_eq
theorem sT_call (O : Ok c) {Q : Bool → Shared → Prop} {k : Nat} {xs : List Ex} {e : Expr} (S : SoundE c n) (H : Here c A (n + 1) f ρ σ μ s.heap) (h : chkE c f.sc f.slots (.call k xs) e = true) (P : Post c f.fs N μ s E (kB Q) (stepT (c.run n) (.call k xs) ρ σ)) : wpAny c.M A (isTrue e f.env (eval e f.env)) Q E s := by
  replace h := vCallN_inv h
  obtain ⟨_, _, _, _, rfl, h⟩ := h
  · obtain ⟨h, h4⟩ := Bool.and_eq_true_iff.mp h
    obtain ⟨h, h3⟩ := Bool.and_eq_true_iff.mp h
    obtain ⟨h1, h2⟩ := Bool.and_eq_true_iff.mp h
    refine wpAny_isTrue_value (Call_ (H.less.glb O h1 (refIn_eq h2) (S.callWith O H.less h3 h4 P fun ds σ' μ' s' vs H' hv P' => ?_)) callName_eq)
    refine S.C (N := []) H' hv (Post.mono (Post.bindV P') fun a σ'' μ'' s'' i x q hk => ?_)
    cases a with
    | v d =>
      intro v hv'
      cases d with
      | bool b =>
        unfold V at hv'; subst hv'
        exact wpAny_truthy_bool (Post.now hk i (Ext.refl ..) ⟨rfl, rfl⟩)
      | _ => exact hk.elim
    | _ => exact hk.elim
theorem sE_callv (O : Ok c) {x : Nat} {xs : List Ex} {e : Expr} (S : SoundE c n) (H : Here c A (n + 1) f ρ σ μ s.heap) (h : chkE c f.sc f.slots (.callv x xs) e = true) (P : Post c f.fs N μ s E (kV c Q) (stepE c.F c.W c.k0 (c.run n) (.callv x xs) ρ σ)) : wpAny c.M A (eval e f.env) Q E s := by
  replace h := vCallN_inv h
  obtain ⟨_, _, _, _, rfl, h⟩ := h
  · obtain ⟨h1, h2⟩ := Bool.and_eq_true_iff.mp h
    simp only [stepE] at P
    split at P
    · rename_i g eg
      split at P
      · rename_i fn ef
        refine Call_ (H.less.readN h1 eg (by simp) fun v hv => ?_) callName_eq
        unfold V at hv; subst hv
        exact S.callWith O H.less (O.keep g fn ef) h2 P fun ds σ' μ' s' vs H' hv P' => S.C H' hv P'
      · exact P.elim
    · exact P.elim
theorem one_arg {pos : Pos} {e : Expr} {x : Ex} (h : chkE c f.sc f.slots x e = true) {id : String} (hw : wpAny c.M A (eval e f.env) (fun v s₁ => wpAny c.M A (call (.builtin id) [v]) Q E s₁) E s) :
    wpAny c.M A (callWith pos (.builtin id) [] (backTo pos (starEach [e] f.env)) []) Q E s :=
  PyProof.Rows.callWith_builtin1 (args_cons (wpAny_mono hw (fun v s₁ h₁ => args_nil h₁) fun _ _ z => z) (star_of_chk h)) (star_of_chk h) rfl
theorem sE_len (O : Ok c) {x : Ex} {e : Expr} (S : SoundE c n) (H : Here c A (n + 1) f ρ σ μ s.heap) (h : chkE c f.sc f.slots (.len x) e = true) (P : Post c f.fs N μ s E (kV c Q) (stepE c.F c.W c.k0 (c.run n) (.len x) ρ σ)) : wpAny c.M A (eval e f.env) Q E s := by
  replace h := inv_len h
  obtain ⟨_, _, _, _, rfl, h⟩ := h
  · obtain ⟨h, h4⟩ := Bool.and_eq_true_iff.mp h
    obtain ⟨h, h3⟩ := Bool.and_eq_true_iff.mp h
    obtain ⟨h1, h2⟩ := Bool.and_eq_true_iff.mp h
    have h1 := of_decide_eq_true h1
    subst h1
    refine Call_ (H.less.blt O h2 h3 Boot.«len» (by decide +kernel) (one_arg h4 (S.one H.less h4 P fun d σ' μ' s' v H' x q hv P' => ?_))) callName_eq
    cases q : lenD σ' d with
    | none => rw [q] at P'; exact P'.elim
    | some r =>
      rw [q] at P'
      unfold lenD at q
      split at q
      · rename_i l
        split at q
        · rename_i hs
          cases q
          unfold V at hv
          obtain ⟨t, rfl⟩ := hv
          have := small_lt hs
          exact len_str (by rw [sOf_len]; omega) (P'.val H'.inv (by unfold V; exact ⟨_, by rw [sOf_len]; rfl⟩) _)
        · cases q
      · rename_i i
        split at q
        · rename_i ds ei
          split at q
          · rename_i hs
            cases q
            unfold V at hv
            obtain ⟨a, ea, rfl⟩ := hv
            obtain ⟨vs, m, hl, hr⟩ := H'.inv.ob _ _ _ ei ea
            have := small_lt hs
            have hsz : vs.toArray.size = ds.length := by simp [hr.length]
            exact PyProof.Rows.len_list ⟨_, hl, rfl, m, rfl⟩ (by rw [hsz]; omega) (P'.val H'.inv (by unfold V; exact ⟨_, by rw [hsz]; rfl⟩) _)
          · cases q
        · cases q
      · cases q
theorem sE_ord (O : Ok c) {x : Ex} {e : Expr} (S : SoundE c n) (H : Here c A (n + 1) f ρ σ μ s.heap) (h : chkE c f.sc f.slots (.ord x) e = true) (P : Post c f.fs N μ s E (kV c Q) (stepE c.F c.W c.k0 (c.run n) (.ord x) ρ σ)) : wpAny c.M A (eval e f.env) Q E s := by
  replace h := inv_ord h
  obtain ⟨_, _, _, _, rfl, h⟩ := h
  · obtain ⟨h, h4⟩ := Bool.and_eq_true_iff.mp h
    obtain ⟨h, h3⟩ := Bool.and_eq_true_iff.mp h
    obtain ⟨h1, h2⟩ := Bool.and_eq_true_iff.mp h
    have h1 := of_decide_eq_true h1
    subst h1
    refine Call_ (H.less.blt O h2 h3 Boot.«ord» (by decide +kernel) (one_arg h4 (S.one H.less h4 P fun d σ' μ' s' v H' x q hv P' => ?_))) callName_eq
    split at P'
    · unfold V at hv
      obtain ⟨t, rfl⟩ := hv
      exact ord_of_one (by rw [sOf_len]; rfl) (P'.val H'.inv (by unfold V; exact ⟨_, rfl⟩) _)
    · exact P'.elim

theorem V.handed {fa : Nat → Addr} {h : Heap} {d : D} {v : Value} (x : V fa μ h d v) : handedIn v = true := by
  cases d with
  | unb => unfold V at x; exact x.elim
  | none => unfold V at x; subst x; rfl
  | bool b => unfold V at x; subst x; rfl
  | int i => unfold V at x; obtain ⟨_, rfl⟩ := x; rfl
  | str l => unfold V at x; obtain ⟨_, rfl⟩ := x; rfl
  | ref i => unfold V at x; obtain ⟨_, _, rfl⟩ := x; rfl
  | fn k => unfold V at x; subst x; rfl
  | tup ds => unfold V at x; obtain ⟨_, _, rfl, _⟩ := x; rfl
theorem attr_eq {v : Expr} {attr : Str} {pos : Pos} {env : Env} (h : notCall v = true) : eval (.Attribute v attr pos) env = (do
      let o ← eval v env
      standAt pos.atName
      let r ← holding [o] (getAttr o attr true)
      letTemporaryGo v o r
      pure r) := by
  cases v <;> first | rfl | cases h
theorem sE_attr (O : Ok c) {o : Ex} {j : Nat} {e : Expr} (S : SoundE c n) (H : Here c A (n + 1) f ρ σ μ s.heap) (h : chkE c f.sc f.slots (.attr o j) e = true) (P : Post c f.fs N μ s E (kV c Q) (stepE c.F c.W c.k0 (c.run n) (.attr o j) ρ σ)) : wpAny c.M A (eval e f.env) Q E s := by
  replace h := vAttr_inv h
  obtain ⟨_, _, _, rfl, h⟩ := h
  · obtain ⟨h, h3⟩ := Bool.and_eq_true_iff.mp h
    obtain ⟨h1, h2⟩ := Bool.and_eq_true_iff.mp h
    split at h2
    · rename_i nm en
      rw [seqS_iff.mp h2]
      refine Attribute_any_ (S.one H.less h3 P fun d σ' μ' s' v H' x q hv P' => ?_) (attr_eq h1)
      split at P'
      · rename_i i
        split at P'
        · rename_i fs ef
          obtain ⟨d', e1, P'⟩ := vO_some P'
          unfold V at hv
          obtain ⟨a, ea, rfl⟩ := hv
          obtain ⟨da, es, m, s1, s2, ho, hd, hf⟩ := H'.inv.ob _ _ _ ef ea
          obtain ⟨v, g1, g2⟩ := hf j nm d' en e1
          obtain ⟨mm, F, _⟩ := H'.fr
          obtain ⟨l1, l2, l3⟩ := O.levs nm (nth_mem en)
          exact get_own F O.X ⟨ho, rfl, rfl, hd⟩ l1 l2 l3 rfl g1 g2.handed (P'.val H'.inv g2 _)
        · exact P'.elim
      · exact P'.elim
    · cases h2
theorem sub_eq {i : Expr} (h : notSlice i = true) (o iv : Value) : subscripted i false o iv = operate [o, iv] (getItem o iv) := by
  cases i <;> first | rfl | cases h
theorem sE_sub {o i : Ex} {e : Expr} (S : SoundE c n) (H : Here c A (n + 1) f ρ σ μ s.heap) (h : chkE c f.sc f.slots (.sub o i) e = true) (P : Post c f.fs N μ s E (kV c Q) (stepE c.F c.W c.k0 (c.run n) (.sub o i) ρ σ)) : wpAny c.M A (eval e f.env) Q E s := by
  replace h := vSub_inv h
  obtain ⟨_, _, _, rfl, h⟩ := h
  · obtain ⟨h, h3⟩ := Bool.and_eq_true_iff.mp h
    obtain ⟨h1, h2⟩ := Bool.and_eq_true_iff.mp h
    refine Subscript_ (S.two H.less h2 h3 P fun d d' σ' μ' s' v v' H' hv hv' P' => ?_)
    obtain ⟨r, er, P₂⟩ := vO_some P'
    clear P'
    unfold subD at er
    split at er
    · rename_i l i
      split at er
      · rename_i m hm
        have hm' : i = .ofNat m ∧ small m = true := by
          cases i with
          | ofNat k => simp only [natOf] at hm; split at hm <;> cases hm; exact ⟨rfl, by assumption⟩
          | negSucc k => cases hm
        obtain ⟨rfl, hs⟩ := hm'
        split at er
        · rename_i ch hc
          cases er
          unfold V at hv hv'
          obtain ⟨t, rfl⟩ := hv
          obtain ⟨u, rfl⟩ := hv'
          have := small_lt hs
          have hlt := nth_lt hc
          refine tail_any (typeIs_str s' _ _) slot_str_getitem.lookup (getItem_str (c := ch) (by simp; omega) ?_ (P₂.val H'.inv (by unfold V; exact ⟨_, rfl⟩) _)) (sub_eq h1 _ _)
          rw [sOf_len]
          have e2 : seqIndex? (Int.ofNat m) l.length = some m := by
            unfold seqIndex?
            simp; omega
          rw [e2]
          rw [nth_eq] at hc
          simp [sOf, hc]
        · cases er
      · cases er
    · rename_i ds i
      unfold V at hv hv'
      obtain ⟨a, vs, rfl, ht, hr⟩ := hv
      obtain ⟨u, rfl⟩ := hv'
      refine tail_any ht.typeIs slot_tuple_getitem.lookup ?_ (sub_eq h1 _ _)
      have hl := hr.length
      unfold idx at er
      split at er
      · rename_i m
        split at er
        · rename_i hs
          have := small_lt hs
          obtain ⟨v, e1, hv⟩ := hr.nth er
          have hlt := nth_lt e1
          exact PyProof.Rows.getItem_tuple (j := m) (x := v) ht (by show -(2 ^ 63) ≤ (m : Int); omega) (by show (m : Int) < 2 ^ 63; omega) (by unfold seqIndex?; simp; omega) (by rw [nth_eq] at e1; simpa using e1) (P₂.val0 H'.inv hv)
        · cases er
      · rename_i m
        split at er
        · rename_i hb hs
          have := small_lt hs
          have hb : m < ds.length := Nat.le_of_ble_eq_true hb
          obtain ⟨v, e1, hv⟩ := hr.nth er
          have hlt := nth_lt e1
          refine PyProof.Rows.getItem_tuple (j := ds.length - (m + 1)) (x := v) ht (by omega) (by omega) ?_ (by rw [nth_eq] at e1; simpa using e1) (P₂.val0 H'.inv hv)
          have e0 : Int.negSucc m + (vs.toArray.size : Int) = ((ds.length - (m + 1) : Nat) : Int) := by simp only [List.size_toArray, hl]; omega
          unfold seqIndex?
          simp only [Int.negSucc_lt_zero, if_true, e0]
          rw [if_pos (by simp only [List.size_toArray, hl, Bool.and_eq_true, decide_eq_true_eq]; omega)]
          rfl
        · cases er
    · rename_i j i
      split at er
      · rename_i ds ej
        unfold V at hv hv'
        obtain ⟨a, ea, rfl⟩ := hv
        obtain ⟨u, rfl⟩ := hv'
        obtain ⟨vs, nn, hl0, hr⟩ := H'.inv.ob _ _ _ ej ea
        have hl : s'.heap.IsList a vs.toArray := ⟨_, hl0, rfl, nn, rfl⟩
        have hlen := hr.length
        refine tail_any hl.typeIs slot_list_getitem.lookup ?_ (sub_eq h1 _ _)
        unfold idx at er
        split at er
        · rename_i m
          split at er
          · rename_i hs
            have := small_lt hs
            obtain ⟨v, e1, hv⟩ := hr.nth er
            exact wpAny_getItem_list (x := v) hl (by show 0 ≤ (m : Int); omega) (by show (m : Int) < 2 ^ 63; omega) (by rw [nth_eq] at e1; simpa using e1) (P₂.val0 H'.inv hv)
          · cases er
        · rename_i m
          split at er
          · rename_i hb hs
            have := small_lt hs
            have hb : m < ds.length := Nat.le_of_ble_eq_true hb
            obtain ⟨v, e1, hv⟩ := hr.nth er
            refine wpAny_getItem_list_neg (x := v) hl (by omega) (by simp only [List.size_toArray, hlen]; omega) (by omega) ?_ (P₂.val0 H'.inv hv)
            have : (Int.negSucc m + ↑vs.toArray.size).toNat = ds.length - (m + 1) := by simp only [List.size_toArray, hlen]; omega
            rw [this]
            rw [nth_eq] at e1; simpa using e1
          · cases er
      · cases er
    · rename_i j l
      split at er
      · rename_i es ej
        unfold V at hv hv'
        obtain ⟨a, ea, rfl⟩ := hv
        obtain ⟨u, rfl⟩ := hv'
        obtain ⟨kvs, hd, hk, hm⟩ := H'.inv.ob _ _ _ ej ea
        have g := dget_ks (x := l) hk
        rw [er] at g
        obtain ⟨v, g1, g2⟩ := g
        exact tail_any hd.typeIs slot_dict_getitem.lookup (wpAny_getItem_of (strKind_is c.prog c.w (sOf l) u) hd.mapOf g1 (P₂.val H'.inv g2 _)) (sub_eq h1 _ _)
      · cases er
    · cases er
theorem part_some {x : Ex} {e : Option Expr} (h : chkO c f.sc f.slots (some x) e = true) : ∃ e', e = some e' ∧ chkE c f.sc f.slots x e' = true := by
  cases e with
  | none => unfold chkO at h; cases h
  | some e' => unfold chkO at h; exact ⟨e', rfl, h⟩
theorem part_none {e : Option Expr} (h : chkO c f.sc f.slots none e = true) : e = none := by
  cases e with
  | none => rfl
  | some e' => unfold chkO at h; cases h
/-- what a slice of a text gives -/
theorem slc_end {v : Value} {d r : D} {x y : Option D} {vl vu : Value} (H : Here c A n f ρ σ μ s.heap) (hv : V c.fa μ s.heap d v) (er : slcD d x y = some r)
    (hl : match x with | none => vl = .none | some d => V c.fa μ s.heap d vl) (hu : match y with | none => vu = .none | some d => V c.fa μ s.heap d vu) (P : Post c f.fs N μ s E (kV c Q) (.ok (.v r) σ)) :
    ∃ x t l u, v = .str x t ∧ vl = partValue l ∧ vu = partValue u ∧ (sliceMade x t l u none).post Q { s with heap := s.heap.push { cls := .type "slice", data := .fields #[vl, vu, .none] } } := by
  obtain ⟨l, r', i, j, rfl, rfl, rfl, rfl, hs, es⟩ := slcD_some er
  unfold V at hv
  obtain ⟨t, rfl⟩ := hv
  have hl' : ∃ tl : Option (Int × Tok), vl = partValue tl ∧ tl.map (·.1) = i.map fun n => (n : Int) := by
    cases i with
    | none => exact ⟨none, hl, rfl⟩
    | some i => simp only [Option.map_some] at hl; unfold V at hl; obtain ⟨t, rfl⟩ := hl; exact ⟨some (_, t), rfl, rfl⟩
  have hu' : ∃ tl : Option (Int × Tok), vu = partValue tl ∧ tl.map (·.1) = j.map fun n => (n : Int) := by
    cases j with
    | none => exact ⟨none, hu, rfl⟩
    | some i => simp only [Option.map_some] at hu; unfold V at hu; obtain ⟨t, rfl⟩ := hu; exact ⟨some (_, t), rfl, rfl⟩
  obtain ⟨tl, rfl, el⟩ := hl'
  obtain ⟨tu, rfl, eu⟩ := hu'
  refine ⟨sOf l, t, tl, tu, rfl, rfl, rfl, ?_⟩
  have := small_lt hs
  have hz : (Txt.slice (sOf l) (tl.map (·.1)) (tu.map (·.1))).length ≤ sizeLine := by
    have := Txt.slice_le (sOf l) (tl.map (·.1)) (tu.map (·.1))
    rw [sOf_len] at this
    rw [sizeLine_eq]; omega
  unfold sliceMade
  refine PySem.post_val_or_str ⟨hz, fun t' k => ?_⟩
  have e : (if (((none : Option (Int × Tok)).map (·.1)).getD 1 == 1 && (slicePicked (sOf l) tl tu none).length == (sOf l).length) = true then sOf l else ⟨((slicePicked (sOf l) tl tu none).filterMap ((sOf l).cps[·]?)).toArray⟩) = sOf r' := by
    rw [← es, ← el, ← eu]; rfl
  rw [e]
  exact Post.now P (s' := { s with heap := s.heap.push { cls := .type "slice", data := .fields #[partValue tl, partValue tu, .none] }, toks := k }) (Inv.push H.inv _) (Ext.pushed _ _) ⟨rfl, rfl⟩ _ (by unfold V; exact ⟨_, rfl⟩)
theorem sE_slc {o : Ex} {lo hi : Option Ex} {e : Expr} (S : SoundE c n) (H : Here c A (n + 1) f ρ σ μ s.heap) (h : chkE c f.sc f.slots (.slc o lo hi) e = true) (P : Post c f.fs N μ s E (kV c Q) (stepE c.F c.W c.k0 (c.run n) (.slc o lo hi) ρ σ)) : wpAny c.M A (eval e f.env) Q E s := by
  replace h := inv_slc h
  obtain ⟨_, _, _, _, _, rfl, h⟩ := h
  · rename_i o' lo' hi' p pos
    obtain ⟨h, h4⟩ := Bool.and_eq_true_iff.mp h
    obtain ⟨h, h3⟩ := Bool.and_eq_true_iff.mp h
    obtain ⟨h1, h2⟩ := Bool.and_eq_true_iff.mp h
    have hn : ∀ o r, letTemporaryGo o' o r = pure () := by
      cases o' <;> first | (intro _ _; rfl) | cases h1
    refine wpAny_Subscript_str_slice (S.one H.less h2 P fun d σ₁ μ₁ s₁ v H₁ x₁ q₁ hv P₁ => ?_) hn
    cases lo with
    | none =>
      have := part_none h3; subst this
      refine evalPart_none_step ?_
      cases hi with
      | none => exact P₁.elim
      | some y =>
        obtain ⟨e', rfl, h4⟩ := part_some h4
        refine evalPart_some_step (S.one H₁ h4 P₁ fun d' σ₂ μ₂ s₂ v' H₂ x₂ q₂ hv' P₂ => ?_)
        obtain ⟨r, er, P₂⟩ := vO_some P₂
        exact slc_end H₂ (V.mono x₂.pre x₂.keep.tup _ _ hv) er rfl hv' P₂
    | some x =>
      obtain ⟨e', rfl, h3⟩ := part_some h3
      refine evalPart_some_step (S.one H₁ h3 P₁ fun d' σ₂ μ₂ s₂ v' H₂ x₂ q₂ hv' P₂ => ?_)
      have hv₂ := V.mono x₂.pre x₂.keep.tup _ _ hv
      cases hi with
      | none =>
        have := part_none h4; subst this
        obtain ⟨r, er, P₂⟩ := vO_some P₂
        exact evalPart_none_step (slc_end H₂ hv₂ er hv' rfl P₂)
      | some y =>
        obtain ⟨e', rfl, h4⟩ := part_some h4
        refine evalPart_some_step (S.one H₂ h4 P₂ fun d'' σ₃ μ₃ s₃ v'' H₃ x₃ q₃ hv'' P₃ => ?_)
        obtain ⟨r, er, P₃⟩ := vO_some P₃
        exact slc_end H₃ (V.mono x₃.pre x₃.keep.tup _ _ hv₂) er (V.mono x₃.pre x₃.keep.tup _ _ hv') hv'' P₃

theorem sT_lit {Q : Bool → Shared → Prop} {d : D} {e : Expr} (H : Here c A (n + 1) f ρ σ μ s.heap) (h : chkE c f.sc f.slots (.lit d) e = true) (P : Post c f.fs N μ s E (kB Q) (stepT (c.run n) (.lit d) ρ σ)) : wpAny c.M A (isTrue e f.env (eval e f.env)) Q E s := by
  replace h := vConst_inv h
  obtain ⟨_, _, _, rfl, h⟩ := h
  · cases d with
    | bool a =>
      simp only [chkC] at h
      split at h
      · rw [← bool_and h]
        exact wpAny_isTrue_value (wpAny_Constant_bool (wpAny_truthy_bool (Post.now P H.inv (Ext.refl ..) ⟨rfl, rfl⟩)))
      · cases h
    | _ => exact P.elim
theorem sT_loc {Q : Bool → Shared → Prop} {x : Nat} {e : Expr} (H : Here c A (n + 1) f ρ σ μ s.heap) (h : chkE c f.sc f.slots (.loc x) e = true) (P : Post c f.fs N μ s E (kB Q) (stepT (c.run n) (.loc x) ρ σ)) : wpAny c.M A (isTrue e f.env (eval e f.env)) Q E s := by
  replace h := vName_inv h
  obtain ⟨_, _, rfl, h⟩ := h
  · simp only [stepT] at P
    split at P
    · rename_i d ed
      split at P
      · refine wpAny_isTrue_value (H.readN h ed (by simp) fun v hv => ?_)
        unfold V at hv; subst hv
        exact wpAny_truthy_bool (Post.now P H.inv (Ext.refl ..) ⟨rfl, rfl⟩)
      · exact P.elim
    · exact P.elim

theorem sEs (S : SoundE c n) {Q : List Value → Shared → Prop} {xs : List Ex} {es : List Expr} {pos : Pos} (H : Here c A (n + 1) f ρ σ μ s.heap) (h : chkEs c f.sc f.slots xs es = true)
    (P : Post c f.fs N μ s E (kVs c Q) (c.run (n + 1) (.Es xs ρ) σ)) : wpAny c.M A (spliced (backTo pos (starEach es f.env))) Q E s := by
  cases xs with
  | nil =>
    cases es with
    | nil => exact args_nil (Post.now P (s' := s) H.inv (Ext.refl ..) ⟨rfl, rfl⟩ [] Vs.nil)
    | cons _ _ => unfold chkEs at h; cases h
  | cons x xs =>
    cases es with
    | nil => unfold chkEs at h; cases h
    | cons e es =>
      unfold chkEs at h
      obtain ⟨h1, h2⟩ := Bool.and_eq_true_iff.mp h
      refine args_cons (S.one H.less h1 P fun d σ₁ μ₁ s₁ v H₁ x₁ q₁ hv P₁ => S.args H₁ h2 P₁ fun ds σ₂ μ₂ s₂ vs H₂ x₂ q₂ hvs P₂ => ?_) (star_of_chk h1)
      exact Post.now P₂ (s' := s₂) H₂.inv (Ext.refl ..) ⟨rfl, rfl⟩ (v :: vs) (Vs.cons (V.mono x₂.pre x₂.keep.tup _ _ hv) hvs)
theorem sTs (S : SoundE c n) {Q : Bool → Shared → Prop} {a : Bool} {xs : List Ex} {es : List Expr} (H : Here c A (n + 1) f ρ σ μ s.heap) (h : chkEs c f.sc f.slots xs es = true)
    (P : Post c f.fs N μ s E (kB Q) (c.run (n + 1) (.Ts a xs ρ) σ)) : wpAny c.M A (allTrue (bopOf a) es f.env) Q E s := by
  cases xs with
  | nil =>
    cases es with
    | nil =>
      have q := Post.now P (s' := s) H.inv (Ext.refl ..) ⟨rfl, rfl⟩
      cases a
      · exact wpAny_allTrue_Or_nil q
      · exact wpAny_allTrue_And_nil q
    | cons _ _ => unfold chkEs at h; cases h
  | cons x xs =>
    cases es with
    | nil => unfold chkEs at h; cases h
    | cons e es =>
      unfold chkEs at h
      obtain ⟨h1, h2⟩ := Bool.and_eq_true_iff.mp h
      cases a with
      | true =>
        refine wpAny_allTrue_And_cons (S.test H.less h1 P fun b σ₁ μ₁ s₁ H₁ x₁ q₁ P₁ => ?_)
        cases b with
        | true => exact S.Ts (a := true) H₁ h2 P₁
        | false => exact Post.now P₁ H₁.inv (Ext.refl ..) ⟨rfl, rfl⟩
      | false =>
        refine wpAny_allTrue_Or_cons (S.test H.less h1 P fun b σ₁ μ₁ s₁ H₁ x₁ q₁ P₁ => ?_)
        cases b with
        | true => exact Post.now P₁ H₁.inv (Ext.refl ..) ⟨rfl, rfl⟩
        | false => exact S.Ts (a := false) H₁ h2 P₁
theorem boolOp_cons {M : Model} {pos : Pos} {op : BoolOp} {x y : Sem Value} {rest : List (Sem Value)}
    (h : wpAny M A x (fun v s₁ => wpAny M A (truthy v) (fun t s₂ => if (t = (op == .And)) then wpAny M A (boolOp pos op (y :: rest)) Q E s₂ else Q v s₂) E s₁) E s) : wpAny M A (boolOp pos op (x :: y :: rest)) Q E s := by
  show wpAny M A (do
    let v ← x
    standAt pos
    let t ← holding [v] (truthy v)
    match op, t with
    | .And, false | .Or, true => pure v
    | _, _ => boolOp pos op (y :: rest)) Q E s
  refine wpAny_bind (wpAny_mono h (fun v s₁ h₁ => wpAny_bind (wpAny_standAt (wpAny_bind (wpAny_holding (wpAny_mono h₁ (fun t s₂ h₂ => ?_) fun _ _ x => x))))) fun _ _ x => x)
  cases op <;> cases t <;> first | exact h₂ | exact wpAny_pure h₂
theorem sVs (S : SoundE c n) {a : Bool} {xs : List Ex} {es : List Expr} {pos : Pos} (H : Here c A (n + 1) f ρ σ μ s.heap) (h : chkEs c f.sc f.slots xs es = true)
    (P : Post c f.fs N μ s E (kV c Q) (c.run (n + 1) (.Vs a xs ρ) σ)) : wpAny c.M A (boolOp pos (bopOf a) (evalEach es f.env)) Q E s := by
  cases xs with
  | nil => exact P.elim
  | cons x xs =>
    cases es with
    | nil => unfold chkEs at h; cases h
    | cons e es =>
      unfold chkEs at h
      obtain ⟨h1, h2⟩ := Bool.and_eq_true_iff.mp h
      cases xs with
      | nil =>
        cases es with
        | nil => exact S.E H.less h1 P
        | cons _ _ => unfold chkEs at h2; cases h2
      | cons y ys =>
        cases es with
        | nil => unfold chkEs at h2; cases h2
        | cons e' es' =>
          refine boolOp_cons (S.one H.less h1 P fun d σ₁ μ₁ s₁ v H₁ x₁ q₁ hv P₁ => ?_)
          cases d with
          | bool b =>
            unfold V at hv; subst hv
            refine wpAny_truthy_bool ?_
            cases a <;> cases b
            · exact S.Vs (a := false) H₁ h2 P₁
            · exact P₁.val0 H₁.inv (by unfold V; rfl)
            · exact P₁.val0 H₁.inv (by unfold V; rfl)
            · exact S.Vs (a := true) H₁ h2 P₁
          | _ => exact P₁.elim
end
end Mine
-- E6
open PySem PySem.W PyProof.Rows PySem.Calls
namespace Mine
section
variable {c : Cx} {A : Around} {n : Nat} {f : Fx} {ρ : List D} {σ : Sg} {μ N : List Addr} {s : Shared} {E : Value → Shared → Prop} {k : Ans → Sg → List Addr → Shared → Prop} {Q : Value → Shared → Prop}

theorem base_eq {v : Expr} {nm : Str} {env : Env} (h : notCall v = true) : attributeBase v nm env (eval v env) = eval v env := by
  cases v <;> first | rfl | cases h
theorem line_eq {apos pos : Pos} (h : Nat.beq apos.endLine pos.line = true) : (apos.endLine == pos.line) = true := by
  have := Nat.eq_of_beq_eq_true h
  simp [this]
theorem own_some {σ : Sg} {i : Nat} {ob : Ob} (h : own c.k0 σ i = some ob) : c.k0 ≤ i ∧ nth σ i = some ob := by
  unfold own at h
  split at h
  · rename_i q; exact ⟨Nat.le_of_ble_eq_true q, h⟩
  · cases h
theorem Post.turned {d : D} {i : Nat} {ob ob' : Ob} {a : Addr} {h' : Heap} (P : Post c f.fs N μ s E (kV c Q) (.ok (.v d) (put σ i ob'))) (I : Inv c s.heap σ μ) (e1 : own c.k0 σ i = some ob) (e2 : nth μ i = some a) (hn : ob ≠ .ns)
    (hs : Heap.SameBut a s.heap h') (hx : ∀ σ', (∀ b xs, IsTup s.heap b xs → IsTup h' b xs) → (∀ x, nth σ (i + 1) = some x → nth σ' (i + 1) = some x) → O c σ' μ h' i a ob') {v : Value} (hv : (∀ b xs, IsTup s.heap b xs → IsTup h' b xs) → V c.fa μ h' d v) (t : Nat) :
    Q v { s with heap := h', toks := t } := by
  obtain ⟨q, e1⟩ := own_some e1
  have nt := (I.ob i ob a e1 e2).there.choose_spec.2
  have tk : ∀ b xs, IsTup s.heap b xs → IsTup h' b xs := fun b xs t => by
    by_cases q : b = a
    · subst q; exact absurd t (nt xs)
    · obtain ⟨o, e, r⟩ := t; exact ⟨o, (hs.2 b q).trans e, r⟩
  have k : Keep (N ++ μ) s.heap h' := Keep.sameBut hs (List.mem_append_right _ (nth_mem e2)) nt ⟨_, (hx σ tk fun _ e => e).there.choose_spec.1⟩
  exact Post.now P (s' := { s with heap := h', toks := t }) (I.turn e1 e2 q hs hn fun σ' z => hx σ' k.tup z) ⟨List.prefix_refl _, fun _ m => .inl m, k⟩ ⟨rfl, rfl⟩ v (hv k.tup)
theorem list_here {g : Nat → R} {d : D} {v : Value} (H : Here c A n f ρ σ μ s.heap) (hv : V c.fa μ s.heap d v) (P : Post c f.fs N μ s E k (match isListD σ d with | some i => g i | none => .stuck)) :
    ∃ i a ds, d = .ref i ∧ v = .ref a ∧ nth σ i = some (.list ds) ∧ nth μ i = some a ∧ Post c f.fs N μ s E k (g i) := by
  cases q : isListD σ d with
  | none => rw [q] at P; exact P.elim
  | some i =>
    rw [q] at P
    unfold isListD at q
    split at q
    · rename_i i'
      split at q
      · rename_i ds e
        cases q
        unfold V at hv
        obtain ⟨a, ea, rfl⟩ := hv
        exact ⟨_, a, ds, rfl, rfl, e, ea, P⟩
      · cases q
    · cases q
theorem dict_here {g : Nat → R} {d : D} {v : Value} (H : Here c A n f ρ σ μ s.heap) (hv : V c.fa μ s.heap d v) (P : Post c f.fs N μ s E k (match isDictD σ d with | some i => g i | none => .stuck)) :
    ∃ i a ds, d = .ref i ∧ v = .ref a ∧ nth σ i = some (.dict ds) ∧ nth μ i = some a ∧ Post c f.fs N μ s E k (g i) := by
  cases q : isDictD σ d with
  | none => rw [q] at P; exact P.elim
  | some i =>
    rw [q] at P
    unfold isDictD at q
    split at q
    · rename_i i'
      split at q
      · rename_i ds e
        cases q
        unfold V at hv
        obtain ⟨a, ea, rfl⟩ := hv
        exact ⟨_, a, ds, rfl, rfl, e, ea, P⟩
      · cases q
    · cases q
theorem sE_app {o x : Ex} {e : Expr} (S : SoundE c n) (H : Here c A (n + 1) f ρ σ μ s.heap) (h : chkE c f.sc f.slots (.app o x) e = true) (P : Post c f.fs N μ s E (kV c Q) (stepE c.F c.W c.k0 (c.run n) (.app o x) ρ σ)) : wpAny c.M A (eval e f.env) Q E s := by
  replace h := inv_app h
  obtain ⟨_, _, _, _, _, rfl, h⟩ := h
  · obtain ⟨h, h5⟩ := Bool.and_eq_true_iff.mp h
    obtain ⟨h, h4⟩ := Bool.and_eq_true_iff.mp h
    obtain ⟨h, h3⟩ := Bool.and_eq_true_iff.mp h
    obtain ⟨h1, h2⟩ := Bool.and_eq_true_iff.mp h
    have h1 := of_decide_eq_true h1
    subst h1
    refine wpAny_Call_method1_late (base_eq h2) (line_eq h3) (by rw [star_of_chk h5]; rfl) (S.one H.less h4 P fun d σ₁ μ₁ s₁ v H₁ x₁ q₁ hv P₁ => ?_)
    obtain ⟨i, a, ds, rfl, rfl, e1, e2, P₁⟩ := list_here H₁ hv P₁
    obtain ⟨vs, m, hl, hr⟩ := H₁.inv.ob _ _ _ e1 e2
    refine ⟨"list", _, PySem.F.plainAttrs_list, PySem.F.slot_list_append, PySem.F.type_list_append, ⟨_, hl, rfl⟩, fun b eb => by cases eb; exact ⟨_, hl, rfl⟩, PySem.P.append_list (S.one H₁ h5 P₁ fun d' σ₂ μ₂ s₂ v' H₂ x₂ q₂ hv' P₂ => ?_)⟩
    have e2' := nth_prefix x₂.pre e2
    split at P₂
    · rename_i ds' eo
      split at P₂
      · rename_i hs
        obtain ⟨vs', m', hl', hr'⟩ := H₂.inv.ob _ _ _ (own_some eo).2 e2'
        have := small_lt hs
        refine ⟨vs'.toArray, m', by simp only [List.size_toArray, hr'.length, sizeLine_eq]; omega, hl', ?_⟩
        refine P₂.turned H₂.inv eo e2' (by simp) (Heap.SameBut.update ..) (fun σ' tk _ => ?_) (fun _ => by unfold V; rfl) s₂.toks
        have z := IsL.update hl' (fun xs => xs.push v')
        refine ⟨vs' ++ [v'], _, by simpa using z, Vs.append (Vs.mono (List.prefix_refl _) tk _ _ hr') (Vs.one (V.mono (List.prefix_refl _) tk _ _ hv'))⟩
      · exact P₂.elim
    · exact P₂.elim
theorem sE_pop {o : Ex} {e : Expr} (S : SoundE c n) (H : Here c A (n + 1) f ρ σ μ s.heap) (h : chkE c f.sc f.slots (.pop o) e = true) (P : Post c f.fs N μ s E (kV c Q) (stepE c.F c.W c.k0 (c.run n) (.pop o) ρ σ)) : wpAny c.M A (eval e f.env) Q E s := by
  replace h := inv_pop h
  obtain ⟨_, _, _, _, rfl, h⟩ := h
  · obtain ⟨h, h4⟩ := Bool.and_eq_true_iff.mp h
    obtain ⟨h, h3⟩ := Bool.and_eq_true_iff.mp h
    obtain ⟨h1, h2⟩ := Bool.and_eq_true_iff.mp h
    have h1 := of_decide_eq_true h1
    subst h1
    refine wpAny_Call_method0_late (base_eq h2) (line_eq h3) (S.one H.less h4 P fun d σ₁ μ₁ s₁ v H₁ x₁ q₁ hv P₁ => ?_)
    obtain ⟨i, a, ds, rfl, rfl, e1, e2, P₁⟩ := list_here H₁ hv P₁
    obtain ⟨vs, m, hl, hr⟩ := H₁.inv.ob _ _ _ e1 e2
    refine ⟨"list", _, PySem.F.plainAttrs_list, PySem.F.slot_list_pop, PySem.F.type_list_pop, ⟨_, hl, rfl⟩, fun b eb => by cases eb; exact ⟨_, hl, rfl⟩, ?_⟩
    split at P₁
    · rename_i ds' eo
      split at P₁
      · rename_i p ep hs
        obtain ⟨p1, p2⟩ := p
        have := (own_some eo).2
        rw [e1] at this; cases this
        obtain ⟨us, u, rfl, r1, r2⟩ := Vs.butLast hr ep
        have := small_lt hs
        have hlen := hr.length
        refine PySem.P.pop_list (y := u) hl (by simp) ?_ (by simp only [List.size_toArray, hlen, sizeLine_eq]; omega)
        refine P₁.turned H₁.inv eo e2 (by simp) (Heap.SameBut.update ..) (fun σ' tk _ => ?_) (fun tk => V.mono (List.prefix_refl _) tk _ _ r2) s₁.toks
        have z := IsL.update hl (fun xs => xs.eraseIdxIfInBounds ((us ++ [u]).toArray.size - 1))
        have ee : (us ++ [u]).toArray.eraseIdxIfInBounds ((us ++ [u]).toArray.size - 1) = us.toArray := by
          apply Array.ext'
          rw [Array.eraseIdxIfInBounds]
          simp [List.eraseIdx_append_of_length_le]
        rw [ee] at z
        exact ⟨us, _, z, Vs.mono (List.prefix_refl _) tk _ _ r1⟩
      · exact P₁.elim
    · exact P₁.elim
theorem sE_ext {o x : Ex} {e : Expr} (S : SoundE c n) (H : Here c A (n + 1) f ρ σ μ s.heap) (h : chkE c f.sc f.slots (.ext o x) e = true) (P : Post c f.fs N μ s E (kV c Q) (stepE c.F c.W c.k0 (c.run n) (.ext o x) ρ σ)) : wpAny c.M A (eval e f.env) Q E s := by
  replace h := inv_ext h
  obtain ⟨_, _, _, _, _, rfl, h⟩ := h
  · obtain ⟨h, h5⟩ := Bool.and_eq_true_iff.mp h
    obtain ⟨h, h4⟩ := Bool.and_eq_true_iff.mp h
    obtain ⟨h, h3⟩ := Bool.and_eq_true_iff.mp h
    obtain ⟨h1, h2⟩ := Bool.and_eq_true_iff.mp h
    have h1 := of_decide_eq_true h1
    subst h1
    refine wpAny_Call_method1_late (base_eq h2) (line_eq h3) (by rw [star_of_chk h5]; rfl) (S.one H.less h4 P fun d σ₁ μ₁ s₁ v H₁ x₁ q₁ hv P₁ => ?_)
    obtain ⟨i, a, ds, rfl, rfl, e1, e2, P₁⟩ := list_here H₁ hv P₁
    obtain ⟨vs, m, hl, hr⟩ := H₁.inv.ob _ _ _ e1 e2
    refine ⟨"list", _, PySem.F.plainAttrs_list, PySem.F.slot_list_extend, PySem.F.type_list_extend, ⟨_, hl, rfl⟩, fun b eb => by cases eb; exact ⟨_, hl, rfl⟩, PySem.P.extend_list (S.one H₁ h5 P₁ fun d' σ₂ μ₂ s₂ v' H₂ x₂ q₂ hv' P₂ => ?_)⟩
    have e2' := nth_prefix x₂.pre e2
    obtain ⟨j, b, es, rfl, rfl, f1, f2, P₂⟩ := list_here H₂ hv' P₂
    split at P₂
    · rename_i ds' es' eo eo'
      split at P₂
      · rename_i hij hs
        rw [f1] at eo'; cases eo'
        obtain ⟨vs', m', hl', hr'⟩ := H₂.inv.ob _ _ _ (own_some eo).2 e2'
        obtain ⟨us, m2, hl2, hr2⟩ := H₂.inv.ob _ _ _ f1 f2
        have := small_lt hs
        refine ⟨b, vs'.toArray, us.toArray, m', m2, by simp only [List.size_toArray, hr'.length, sizeLine_eq]; omega, by simp only [List.size_toArray, hr'.length, hr2.length, sizeLine_eq]; omega, ?_, rfl, hl', hl2, ?_⟩
        · simp only [List.size_toArray, hr'.length, hr2.length]
          have : Builtin.List.listTooLong (ds'.length + es.length) = false := by
            unfold Builtin.List.listTooLong
            rw [decide_eq_false_iff_not, sizeLine_eq]; omega
          simp [this]
        · refine P₂.turned H₂.inv eo e2' (by simp) (Heap.SameBut.update ..) (fun σ' tk _ => ?_) (fun _ => by unfold V; rfl) s₂.toks
          have z := IsL.update hl' (fun xs => xs ++ us.toArray)
          exact ⟨vs' ++ us, _, by simpa using z, Vs.append (Vs.mono (List.prefix_refl _) tk _ _ hr') (Vs.mono (List.prefix_refl _) tk _ _ hr2)⟩
      · exact P₂.elim
    · exact P₂.elim
end
end Mine
-- E7
open PySem PySem.W PyProof.Rows PySem.Calls
namespace Mine
section
variable {fa : Nat → Addr} {μ : List Addr} {h : Heap}
theorem Ks.any : ∀ {es : List (Txt × D)} {kvs : List (Str × Value)} {x : Txt}, Ks fa μ h es kvs → (kvs.any fun kv => decide (kv.1 = sOf x)) = dhas es x
  | [], _, x, hk => by unfold Ks at hk; subst hk; rfl
  | p :: es, _, x, hk => by
    unfold Ks at hk
    obtain ⟨v, l', rfl, hv, hr⟩ := hk
    unfold dhas
    have ih := Ks.any (x := x) hr
    have e : decide (sOf p.1 = sOf x) = beqL p.1 x := by
      rw [← beqL_str, Bool.eq_iff_iff]; simp
    simp only [List.any_cons, e, ih]
    cases beqL p.1 x <;> rfl
theorem Ks.mod {x : Txt} {d : D} {v : Value} (hv : V fa μ h d v) : ∀ {es : List (Txt × D)} {kvs : List (Str × Value)}, Ks fa μ h es kvs → Ks fa μ h (dmod es x d) (kvs.map fun kv => if kv.1 = sOf x then (kv.1, v) else kv)
  | [], _, hk => by unfold Ks at hk; subst hk; unfold dmod Ks; rfl
  | p :: es, _, hk => by
    unfold Ks at hk
    obtain ⟨u, l', rfl, hu, hr⟩ := hk
    have ih := Ks.mod (x := x) hv hr
    have e : decide (sOf p.1 = sOf x) = beqL p.1 x := by
      rw [← beqL_str, Bool.eq_iff_iff]; simp
    unfold dmod
    cases q : beqL p.1 x with
    | true =>
      rw [q] at e
      have := of_decide_eq_true e
      simp only [List.map_cons]
      rw [if_pos this]
      unfold Ks
      exact ⟨v, _, rfl, hv, ih⟩
    | false =>
      rw [q] at e
      have := of_decide_eq_false e
      simp only [List.map_cons]
      rw [if_neg this]
      unfold Ks
      exact ⟨u, _, rfl, hu, ih⟩
theorem Ks.snoc {x : Txt} {d : D} {v : Value} (hv : V fa μ h d v) : ∀ {es : List (Txt × D)} {kvs : List (Str × Value)}, Ks fa μ h es kvs → Ks fa μ h (es ++ [(x, d)]) (kvs ++ [(sOf x, v)])
  | [], _, hk => by
    unfold Ks at hk; subst hk
    show Ks fa μ h [(x, d)] [(sOf x, v)]
    unfold Ks
    exact ⟨v, [], rfl, hv, by unfold Ks; rfl⟩
  | p :: es, _, hk => by
    unfold Ks at hk
    obtain ⟨u, l', rfl, hu, hr⟩ := hk
    show Ks fa μ h (p :: (es ++ [(x, d)])) ((sOf p.1, u) :: (l' ++ [(sOf x, v)]))
    unfold Ks
    exact ⟨u, _, rfl, hu, Ks.snoc hv hr⟩
theorem Ks.stored {x : Txt} {d : D} {v : Value} (hv : V fa μ h d v) {es : List (Txt × D)} {kvs : List (Str × Value)} (hk : Ks fa μ h es kvs) : Ks fa μ h (dput es x d) (stored kvs (sOf x) v) := by
  unfold PySem.stored dput
  rw [hk.any]
  cases dhas es x with
  | true => exact hk.mod hv
  | false => exact hk.snoc hv
theorem Ks.merged : ∀ {more : List (Txt × D)} {ms : List (Str × Value)} {es : List (Txt × D)} {kvs : List (Str × Value)}, Ks fa μ h es kvs → Ks fa μ h more ms → Ks fa μ h (dputs es more) (merged kvs ms)
  | [], _, es, kvs, hk, hm => by unfold Ks at hm; subst hm; exact hk
  | p :: more, _, es, kvs, hk, hm => by
    unfold Ks at hm
    obtain ⟨v, l', rfl, hv, hr⟩ := hm
    have z := Ks.stored (x := p.1) hv hk
    show Ks fa μ h (dputs (dput es p.1 p.2) more) (PySem.merged (PySem.stored kvs (sOf p.1) v) l')
    exact Ks.merged z hr
theorem Ks.length : ∀ {es : List (Txt × D)} {kvs : List (Str × Value)}, Ks fa μ h es kvs → kvs.length = es.length
  | [], _, x => by unfold Ks at x; subst x; rfl
  | _ :: _, _, x => by
    unfold Ks at x
    obtain ⟨v, l', rfl, _, r⟩ := x
    simp [Ks.length r]
end
section
variable {c : Cx} {A : Around} {n : Nat} {f : Fx} {ρ : List D} {σ : Sg} {μ N : List Addr} {s : Shared} {E : Value → Shared → Prop} {k : Ans → Sg → List Addr → Shared → Prop} {Q : Value → Shared → Prop}

theorem sE_upd {o x : Ex} {e : Expr} (S : SoundE c n) (H : Here c A (n + 1) f ρ σ μ s.heap) (h : chkE c f.sc f.slots (.upd o x) e = true) (P : Post c f.fs N μ s E (kV c Q) (stepE c.F c.W c.k0 (c.run n) (.upd o x) ρ σ)) : wpAny c.M A (eval e f.env) Q E s := by
  replace h := inv_upd h
  obtain ⟨_, _, _, _, _, rfl, h⟩ := h
  · obtain ⟨h, h5⟩ := Bool.and_eq_true_iff.mp h
    obtain ⟨h, h4⟩ := Bool.and_eq_true_iff.mp h
    obtain ⟨h, h3⟩ := Bool.and_eq_true_iff.mp h
    obtain ⟨h1, h2⟩ := Bool.and_eq_true_iff.mp h
    have h1 := of_decide_eq_true h1
    subst h1
    refine wpAny_Call_method1_late (base_eq h2) (line_eq h3) (by rw [star_of_chk h5]; rfl) (S.one H.less h4 P fun d σ₁ μ₁ s₁ v H₁ x₁ q₁ hv P₁ => ?_)
    obtain ⟨i, a, ds, rfl, rfl, e1, e2, P₁⟩ := dict_here H₁ hv P₁
    obtain ⟨kvs, hd, hk, hm⟩ := H₁.inv.ob _ _ _ e1 e2
    have hd' := hd
    obtain ⟨od, _, _, hod, hex, _⟩ := hd'
    refine ⟨"dict", _, PySem.F.plainAttrs_dict, PySem.F.slot_dict_update, PySem.F.type_dict_update, hd.typeIs, fun b eb => by cases eb; exact ⟨od, hod, hex.2.1⟩,
      method1_meetsIn PySem.F.slot_dict_update PySem.F.entry_dict_update (S.one H₁ h5 P₁ fun d' σ₂ μ₂ s₂ v' H₂ x₂ q₂ hv' P₂ => ?_)⟩
    have e2' := nth_prefix x₂.pre e2
    obtain ⟨j, b, es, rfl, rfl, f1, f2, P₂⟩ := dict_here H₂ hv' P₂
    split at P₂
    · rename_i ds' es' eo eo'
      split at P₂
      · rename_i hij hs
        rw [f1] at eo'; cases eo'
        obtain ⟨kvs', hd', hk', hm'⟩ := H₂.inv.ob _ _ _ (own_some eo).2 e2'
        obtain ⟨ms, hd2, hk2, hm2⟩ := H₂.inv.ob _ _ _ f1 f2
        have := small_lt hs
        have hab : a ≠ b := fun q => by
          subst q
          have := nodup_nth H₂.inv.nodup e2' f2
          exact Nat.ne_of_beq_eq_false hij this
        refine ⟨hd'.typeIs, PySem.F.args_dict_update_2 _ _, _, meets_dict_update (strKind c.prog c.w) a b hab hm2, kvs', ms, hd', hd2, by rw [hk'.length, hk2.length, sizeLine_eq]; omega, fun h' g1 g2 g3 => ?_⟩
        exact P₂.turned H₂.inv eo e2' (by simp) g3 (fun σ' tk _ => ⟨_, g1, (hk'.merged hk2).mono (List.prefix_refl _) tk, hm'⟩) (fun _ => by unfold V; rfl) s₂.toks
      · exact P₂.elim
    · exact P₂.elim

theorem chkD_len : ∀ {ks : List Txt} {fs : List (Txt × Nat)} {ks' : List (Option Expr)} {vs : List Expr}, chkD c f.sc ks fs ks' vs = true → ks'.all (·.isSome) = true ∧ ks'.length = vs.length
  | [], [], [], [], _ => ⟨rfl, rfl⟩
  | k :: ks, g :: fs, k' :: ks', v :: vs, h => by
    unfold chkD at h
    obtain ⟨h, h3⟩ := Bool.and_eq_true_iff.mp h
    obtain ⟨h1, h2⟩ := Bool.and_eq_true_iff.mp h
    obtain ⟨i1, i2⟩ := chkD_len h3
    cases k' with
    | none => cases h1
    | some e => exact ⟨by simpa using i1, by simpa using i2⟩
  | [], [], [], _ :: _, h => by unfold chkD at h; cases h
  | [], [], _ :: _, _, h => by unfold chkD at h; cases h
  | [], _ :: _, _, _, h => by unfold chkD at h; cases h
  | _ :: _, [], _, _, h => by unfold chkD at h; cases h
  | _ :: _, _ :: _, [], _, h => by unfold chkD at h; cases h
  | _ :: _, _ :: _, _ :: _, [], h => by unfold chkD at h; cases h
theorem evalD (O : Ok c) {pos : Pos} : ∀ {ks : List Txt} {fs : List (Txt × Nat)} {ks' : List (Option Expr)} {vs : List Expr} {s : Shared} {Q : List (Value × Value) → Shared → Prop}, chkD c f.sc ks fs ks' vs = true → Here c A n f ρ σ μ s.heap →
    (∀ us kvs t, Carries (strKind c.prog c.w) us kvs → Ks c.fa μ s.heap (zipF ks fs) kvs → Q us { s with toks := t }) → wpAny c.M A (evalPairs (pairTrees ks' vs f.env pos)) Q E s
  | [], [], [], [], s, Q, _, H, hQ => evalPairs_nil (hQ [] [] s.toks trivial (by unfold zipF Ks; rfl))
  | k :: ks, g :: fs, k' :: ks', v :: vs, s, Q, h, H, hQ => by
    unfold chkD at h
    obtain ⟨h, h3⟩ := Bool.and_eq_true_iff.mp h
    obtain ⟨h1, h2⟩ := Bool.and_eq_true_iff.mp h
    split at h1
    · rename_i e
      split at h1
      · rename_i q _ _
        simp only [chkC] at h1
        split at h1
        · rw [seqS_iff.mp h1]
          unfold chkF at h2
          split at h2
          · obtain ⟨h2, h6⟩ := Bool.and_eq_true_iff.mp h2
            obtain ⟨h4, h5⟩ := Bool.and_eq_true_iff.mp h2
            refine evalPairs_cons (wpAny_Constant_str ?_)
            refine wpAny_bind (Here.glb (s := { s with toks := s.toks + 1 }) O H h5 (refIn_eq h6) (wpAny_bind (wpAny_standAt (wpAny_pure ?_))))
            refine evalD O h3 H fun us kvs t hc hk => ?_
            refine hQ _ ((sOf k, .ref (c.fa g.2)) :: kvs) t ⟨strKind_is _ _ _ _, rfl, hc⟩ ?_
            show Ks c.fa μ s.heap ((k, .fn g.2) :: zipF ks fs) _
            unfold Ks
            exact ⟨_, _, rfl, by unfold V; rfl, hk⟩
          · cases h2
        · cases h1
      · cases h1
    · cases h1
  | [], [], [], _ :: _, _, _, h, _, _ => by unfold chkD at h; cases h
  | [], [], _ :: _, _, _, _, h, _, _ => by unfold chkD at h; cases h
  | [], _ :: _, _, _, _, _, h, _, _ => by unfold chkD at h; cases h
  | _ :: _, [], _, _, _, _, h, _, _ => by unfold chkD at h; cases h
  | _ :: _, _ :: _, [], _, _, _, h, _, _ => by unfold chkD at h; cases h
  | _ :: _, _ :: _, _ :: _, [], _, _, h, _, _ => by unfold chkD at h; cases h
theorem Here.push (H : Here c A n f ρ σ μ s.heap) (o : Obj) : Here c A n f ρ σ μ (s.heap.push o) := H.move (Inv.push H.inv o) (Ext.pushed _ o)
theorem sE_dct (O : Ok c) (low : sysModules < c.base.objs.size) {ks : List Txt} {fs : List (Txt × Nat)} {e : Expr} (H : Here c A (n + 1) f ρ σ μ s.heap) (h : chkE c f.sc f.slots (.dct ks fs) e = true) (P : Post c f.fs N μ s E (kV c Q) (stepE c.F c.W c.k0 (c.run n) (.dct ks fs) ρ σ)) : wpAny c.M A (eval e f.env) Q E s := by
  replace h := vDict_inv h
  obtain ⟨_, _, _, rfl, h⟩ := h
  · rename_i ks' vs' pos
    obtain ⟨h, h3⟩ := Bool.and_eq_true_iff.mp h
    obtain ⟨h1, h2⟩ := Bool.and_eq_true_iff.mp h
    have h1 := Nat.le_of_ble_eq_true h1
    have h2 : 0 < ks'.length := Nat.le_of_ble_eq_true h2
    obtain ⟨a1, a2⟩ := chkD_len h3
    have hlen := pairTrees_length ks' vs' f.env pos a1 a2
    refine wpAny_Dict_pairs (knd := strKind c.prog c.w) (zip_pairTrees ks' vs' f.env pos a1 a2) (fun q => by rw [q] at hlen; simp at hlen; omega) (by omega) ?_
    refine evalD (s := { s with heap := s.heap.push { cls := .type "dict", data := .dict #[] } }) O h3 (H.push _) fun us kvs t hc hk => ?_
    have hnew : (s.heap.push { cls := .type "dict", data := .dict #[] }).get? s.heap.objs.size = some { cls := .type "dict", data := .dict #[] } := Heap.get?_push_size _ rfl
    refine ⟨kvs, hc, ⟨_, #[], 0, hnew, ⟨rfl, rfl, rfl⟩, rfl, fun e he => by simp at he, .nil, by simp⟩, fun h' g1 g2 => ?_⟩
    have k1 : Keep [s.heap.objs.size] (s.heap.push { cls := .type "dict", data := .dict #[] }) h' := Keep.sameBut g2 (.head _) (fun xs ⟨o, e1, e2, _⟩ => by rw [hnew] at e1; cases e1; exact absurd e2 (by decide)) ⟨_, g1.choose_spec.choose_spec.choose_spec.1⟩
    have k0 : Keep [] s.heap h' := by
      refine ⟨fun b o e => k1.there b o (Heap.get?_push_of_some _ e), fun b o e _ => ?_, fun b xs t => k1.tup _ _ ((Keep.push [] s.heap _).tup _ _ t)⟩
      · refine k1.old b o (Heap.get?_push_of_some _ e) fun m => ?_
        have := Heap.lt_size e
        rw [List.mem_singleton.mp m] at this; exact Nat.lt_irrefl _ this
    have I' := H.inv.alloc (τ := [.dict (dputs [] (zipF ks fs))]) (ν := [s.heap.objs.size]) k0 rfl (by simp) (fun a m => by rw [List.mem_singleton.mp m]; exact Heap.get?_none_of_le (Nat.le_refl _)) (fun a m => by rw [List.mem_singleton.mp m]; exact H.baseLt) fun i ob a e1 e2 => by
      cases i with
      | zero =>
        cases e1; cases e2
        refine ⟨_, g1, ?_, ?_⟩
        · refine Ks.merged (by unfold Ks; rfl) (hk.mono ⟨_, rfl⟩ k1.tup)
        · have := H.baseLt
          exact beq_eq_false_iff_ne.mpr fun q => by rw [q] at this; exact absurd low (Nat.not_lt.mpr this)
      | succ i => cases e1
    refine Post.now P (s' := { s with heap := h', toks := t + us.length }) I' ⟨⟨_, rfl⟩, fun a m => (List.mem_append.mp m).elim .inl fun m => .inr (by rw [List.mem_singleton.mp m]; exact Heap.get?_none_of_le (Nat.le_refl _)), ⟨k0.there, fun b o e _ => k0.old b o e List.not_mem_nil, k0.tup⟩⟩ ⟨rfl, rfl⟩ _ ?_
    unfold V
    exact ⟨_, by rw [← H.inv.len]; exact nth_len μ [] _, rfl⟩
end
end Mine
-- E8
open PySem PySem.W PyProof.Rows PySem.Calls
namespace Mine
theorem splitL_step {x : Nat} {l here : Txt} (hb : Nat.beq x 32 = false) : splitL (x :: l) here = splitL l (x :: here) := by
  show (match Nat.beq x 32 with | true => here.reverse :: splitL l [] | false => splitL l (x :: here)) = _
  rw [hb]
theorem splitL_free : ∀ (p : Txt) (acc : Txt) (r : Txt), 32 ∉ p → splitL (p ++ 32 :: r) acc = (acc.reverse ++ p) :: splitL r []
  | [], acc, r, _ => by simp [splitL]
  | x :: p, acc, r, h => by
    have hx : x ≠ 32 := fun q => h (q ▸ List.mem_cons_self ..)
    have hp : 32 ∉ p := fun q => h (List.mem_cons_of_mem _ q)
    have hb : Nat.beq x 32 = false := by
      cases q : Nat.beq x 32 with
      | true => exact absurd (Nat.eq_of_beq_eq_true q) hx
      | false => rfl
    show splitL (x :: (p ++ 32 :: r)) acc = _
    rw [splitL_step hb, splitL_free p (x :: acc) r hp]
    simp
theorem splitL_last : ∀ (p : Txt) (acc : Txt), 32 ∉ p → splitL p acc = [acc.reverse ++ p]
  | [], acc, _ => by simp [splitL]
  | x :: p, acc, h => by
    have hx : x ≠ 32 := fun q => h (q ▸ List.mem_cons_self ..)
    have hp : 32 ∉ p := fun q => h (List.mem_cons_of_mem _ q)
    have hb : Nat.beq x 32 = false := by
      cases q : Nat.beq x 32 with
      | true => exact absurd (Nat.eq_of_beq_eq_true q) hx
      | false => rfl
    rw [splitL_step hb, splitL_last p (x :: acc) hp]
    simp
theorem splitL_join : ∀ (ps : List Str), ps ≠ [] → (∀ p ∈ ps, 32 ∉ p.cps.toList) → splitL (Str.join ⟨#[32]⟩ ps).cps.toList [] = ps.map fun p => p.cps.toList
  | [], h, _ => absurd rfl h
  | [p], _, h => by
    show splitL p.cps.toList [] = [p.cps.toList]
    rw [splitL_last _ _ (h p (.head _))]; rfl
  | p :: q :: r, _, h => by
    have e : (Str.join ⟨#[32]⟩ (p :: q :: r)).cps.toList = p.cps.toList ++ 32 :: (Str.join ⟨#[32]⟩ (q :: r)).cps.toList := by
      show (Str.append (Str.append p ⟨#[32]⟩) (Str.join ⟨#[32]⟩ (q :: r))).cps.toList = _
      simp [Str.append]
    rw [e, splitL_free _ _ _ (h p (.head _)), splitL_join (q :: r) (by simp) fun p hp => h p (.tail _ hp)]
    rfl
theorem split_is (l : Txt) : Txt.split (sOf l) (" " : Str) = (splitL l []).map sOf := by
  have e0 : (" " : Str) = ⟨#[32]⟩ := by decide +kernel
  rw [e0]
  have h1 := StrLaws.join_split (sOf l) ⟨#[32]⟩
  have h2 := StrLaws.split_free (sOf l) 32
  have h3 : Txt.split (sOf l) ⟨#[32]⟩ ≠ [] := fun q => by
    have := split_pos (sOf l) ⟨#[32]⟩
    rw [q] at this; exact absurd this (by decide)
  have h4 := splitL_join _ h3 h2
  rw [h1, sOf_toList] at h4
  rw [h4, List.map_map]
  refine Eq.trans (List.map_id _).symm (List.map_congr_left fun p _ => ?_)
  cases p with | mk a => simp [sOf]
section
variable {c : Cx} {A : Around} {n : Nat} {f : Fx} {ρ : List D} {σ : Sg} {μ N : List Addr} {s : Shared} {E : Value → Shared → Prop} {k : Ans → Sg → List Addr → Shared → Prop} {Q : Value → Shared → Prop}

/-- x.split(" ") -/
theorem split_call {x : Str} {t u : Tok} {pos : Pos} {a : Sem Value} (hx : x.length ≤ sizeLine) (hz : (Txt.split x (" " : Str)).length ≤ sizeLine)
    (h : wpAny c.M A a (fun v s₁ => v = .str (" " : Str) u ∧ ∀ vs t', StrsAre vs (Txt.split x (" " : Str)) → Q (.ref s₁.heap.objs.size) { s₁ with heap := s₁.heap.push { cls := .type "list", data := .seq vs.toArray }, toks := t' }) E s) :
    wpAny c.M A (callWith pos (.builtin "str.split") [.str x t] [(false, a)] []) Q E s := by
  refine method1_meets PySem.F.slot_str_split PySem.F.entry_str_split (wpAny_mono h (fun v s₁ h₁ => ?_) fun _ _ e => e)
  obtain ⟨rfl, hq⟩ := h₁
  refine ⟨typeIs_str _ _ _, PySem.F.args_str_split_2 _ _, ?_⟩
  have hy : ((" " : Str).length == 0) = false := by decide +kernel
  have one : Txt.split x (" " : Str) = [x] → StrsAre [.str x t] (Txt.split x (" " : Str)) := fun e => by rw [e]; exact .cons _ _ .nil
  have many : ∀ (tk : Nat) (l : List Str), StrsAre (strsFrom tk l) l := fun tk l => by
    induction l generalizing tk with
    | nil => exact .nil
    | cons y l ih => exact .cons _ _ (ih _)
  cases h1 : (decide (x.length < (" " : Str).length) || decide (Builtin.Str.strKind x < Builtin.Str.strKind (" " : Str)))
  · cases hf : (Builtin.Str.occurrences x (" " : Str) 0 x.length (x.length + 1)).isEmpty
    · have e : Txt.split x (" " : Str) = Builtin.Str.partsBetween x (Builtin.Str.occurrences x (" " : Str) 0 x.length (x.length + 1)) (" " : Str).length := by
        unfold Txt.split
        rw [if_neg (by rw [h1]; decide), if_neg (by rw [hf]; decide)]
      refine ⟨_, meets_str_split_sep x (" " : Str) t u h1 hy hf hx (by rw [← e]; exact hz), ?_⟩
      exact hq _ _ (by rw [e]; exact many _ _)
    · exact ⟨_, meets_str_split_not_found x (" " : Str) t u h1 hy hf, hq _ _ (one (by unfold Txt.split; rw [if_neg (by rw [h1]; decide), if_pos hf]))⟩
  · exact ⟨_, meets_str_split_cannot_occur x (" " : Str) t u h1, hq _ _ (one (by unfold Txt.split; rw [if_pos h1]))⟩
theorem vs_of_strs {fa : Nat → Addr} {μ : List Addr} {h : Heap} : ∀ {ls : List Txt} {vs : List Value}, StrsAre vs (ls.map sOf) → Mine.Vs fa μ h (ls.map .str) vs
  | [], _, x => by cases x; exact Vs.nil
  | l :: ls, _, x => by
    cases x with
    | cons _ t r => exact Vs.cons (by unfold V; exact ⟨t, rfl⟩) (vs_of_strs r)
theorem beqLL_iff : ∀ {a b : List Txt}, beqLL a b = true → a = b
  | [], [], _ => rfl
  | x :: a, y :: b, h => by
    unfold beqLL at h
    split at h
    · rename_i q; rw [beqL_iff.mp q, beqLL_iff h]
    · cases h
  | [], _ :: _, h => by unfold beqLL at h; cases h
  | _ :: _, [], h => by unfold beqLL at h; cases h
theorem sE_spl (O : Ok c) {k : Nat} {e : Expr} (H : Here c A (n + 1) f ρ σ μ s.heap) (h : chkE c f.sc f.slots (.spl k) e = true) {ih : Task → Sg → R} (P : Post c f.fs N μ s E (kV c Q) (stepE c.F c.W c.k0 ih (.spl k) ρ σ)) : wpAny c.M A (eval e f.env) Q E s := by
  replace h := inv_spl h
  obtain ⟨_, _, _, _, _, _, _, _, rfl, h⟩ := h
  · obtain ⟨h, h5⟩ := Bool.and_eq_true_iff.mp h
    obtain ⟨h, h4⟩ := Bool.and_eq_true_iff.mp h
    obtain ⟨h, h3⟩ := Bool.and_eq_true_iff.mp h
    obtain ⟨h1, h2⟩ := Bool.and_eq_true_iff.mp h
    have h1 := of_decide_eq_true h1
    have h2 := of_decide_eq_true h2
    subst h1 h2
    split at h5
    · rename_i v ev
      split at h5
      · rename_i x t
        split at h5
        · rename_i p ep
          obtain ⟨h6, h8⟩ := Bool.and_eq_true_iff.mp h5
          obtain ⟨h6, h7⟩ := Bool.and_eq_true_iff.mp h6
          have hx := seqS_iff.mp h6
          subst hx
          have hsp : Txt.split (sOf p.1) (" " : Str) = p.2.map sOf := by rw [split_is, beqLL_iff h8]
          simp only [stepE] at P
          rw [ep] at P
          have := small_lt h7
          refine wpAny_Call_method1_late (base_eq rfl) (line_eq h4) rfl (H.glb O h3 ev ?_)
          refine ⟨"str", _, PySem.F.plainAttrs_str, PySem.F.slot_str_split, PySem.F.type_str_split, typeIs_str _ _ _, (fun _ e => nomatch e), split_call (by rw [sOf_len, sizeLine_eq]; omega) ?_ (wpAny_Constant_str ⟨rfl, fun vs t' hs => ?_⟩)⟩
          · have := split_le (sOf p.1) (" " : Str)
            rw [sOf_len] at this
            rw [sizeLine_eq]; omega
          · rw [hsp] at hs
            exact Post.list (s := { s with toks := t' }) (P.step (Ext.refl ..) ⟨rfl, rfl⟩) H (vs_of_strs hs)
        · cases h5
      · cases h5
    · cases h5

theorem occ_none_of (x : Str) (ch lo hi : Nat) (h : ∀ i, lo ≤ i → i < hi → i < x.length → x.cps.toList[i]? ≠ some ch) (hh : hi ≤ x.length) : Builtin.Str.occurrences x ⟨#[ch]⟩ lo hi 1 = [] := by
  rw [StrLaws.occ_eq]
  have := (StrLaws.occ_none x ⟨#[ch]⟩ hi (List.range' lo (hi + 1 - lo)) lo (fun i m => by simp [List.mem_range'] at m; omega)).mpr fun i m => by
    rintro ⟨h1, h2⟩
    have hl : i + 1 ≤ hi := h1
    have g := (StrLaws.subAt_one x ch i).mp ⟨by show i + 1 ≤ x.length; omega, h2⟩
    have : lo ≤ i := by simp [List.mem_range'] at m; omega
    exact h i this (by omega) (by omega) g
  rw [this]
theorem sE_find {o x y z : Ex} {e : Expr} (S : SoundE c n) (H : Here c A (n + 1) f ρ σ μ s.heap) (h : chkE c f.sc f.slots (.find o x y z) e = true) (P : Post c f.fs N μ s E (kV c Q) (stepE c.F c.W c.k0 (c.run n) (.find o x y z) ρ σ)) : wpAny c.M A (eval e f.env) Q E s := by
  replace h := inv_find h
  obtain ⟨_, _, _, _, _, _, _, rfl, h⟩ := h
  · rename_i o' nm apos x' y' z' pos
    obtain ⟨h, h7⟩ := Bool.and_eq_true_iff.mp h
    obtain ⟨h, h6⟩ := Bool.and_eq_true_iff.mp h
    obtain ⟨h, h5⟩ := Bool.and_eq_true_iff.mp h
    obtain ⟨h, h4⟩ := Bool.and_eq_true_iff.mp h
    obtain ⟨h, h3⟩ := Bool.and_eq_true_iff.mp h
    obtain ⟨h1, h2⟩ := Bool.and_eq_true_iff.mp h
    have h1 := of_decide_eq_true h1
    subst h1
    have star : starEach [x', y', z'] f.env = [(false, eval x' f.env), (false, eval y' f.env), (false, eval z' f.env)] := by
      rw [star_of_chk h5, star_of_chk h6, star_of_chk h7]; rfl
    refine wpAny_Call_method_late (base_eq h2) (by rw [star]; rfl) (line_eq h3) rfl (S.one H.less h4 P fun d σ₁ μ₁ s₁ v H₁ x₁ q₁ hv P₁ => ?_)
    cases d with
    | str l =>
      have hv' := hv
      unfold V at hv
      obtain ⟨t, rfl⟩ := hv
      refine ⟨"str", _, PySem.F.plainAttrs_str, PySem.F.slot_str_find, PySem.F.type_str_find, typeIs_str _ _ _, (fun _ e => nomatch e), ?_⟩
      refine PyProof.Rows.callWith_method1 (args_cons (S.one H₁ h5 P₁ fun d₂ σ₂ μ₂ s₂ v₂ H₂ x₂ q₂ hv₂ P₂ => args_cons (S.one H₂ h6 P₂ fun d₃ σ₃ μ₃ s₃ v₃ H₃ x₃ q₃ hv₃ P₃ => args_cons (S.one H₃ h7 P₃ fun d₄ σ₄ μ₄ s₄ v₄ H₄ x₄ q₄ hv₄ P₄ => args_nil ?_) (star_of_chk h7)) (star_of_chk h6)) (star_of_chk h5)) (star_of_chk h5) (by rw [star_of_chk h6, star_of_chk h7]; rfl)
      obtain ⟨r, er, P₅⟩ := vO_some P₄
      clear P₄
      unfold findD at er
      split at er
      · rename_i l' ch i j he
        cases he
        split at er
        · rename_i m k hm hk
          split at er
          · cases er
          · rename_i hno
            cases er
            have nat : ∀ {i : Int} {m : Nat}, natOf i = some m → i = .ofNat m := fun {i m} h => by
              cases i with
              | ofNat k =>
                simp only [natOf] at h
                split at h
                · cases h; rfl
                · cases h
              | negSucc k => cases h
            have := nat hm; subst this
            have := nat hk; subst this
            unfold V at hv₂ hv₃ hv₄
            obtain ⟨t2, rfl⟩ := hv₂
            obtain ⟨t3, rfl⟩ := hv₃
            obtain ⟨t4, rfl⟩ := hv₄
            show wpAny c.M A (call (.builtin "str.find") [.str (sOf l) t, .str (sOf [ch]) t2, .int (m : Int) t3, .int (k : Int) t4]) Q E s₄
            refine wpAny_call_entry PySem.F.slot_str_find (typeIs_str _ _ _) PySem.F.entry_str_find ?_ (PySem.F.args_str_find_4 _ _ _ _)
            show wpAny _ _ (match Builtin.Str.occurrences (sOf l) (sOf [ch]) (max 0 (if (m : Int) < 0 then (m : Int) + (sOf l).length else (m : Int))).toNat (min (max 0 (if (k : Int) < 0 then (k : Int) + (sOf l).length else (k : Int))).toNat (sOf l).length) 1 with | i :: _ => retInt i | [] => (do rule "str.find.not-found"; retInt (-1))) _ _ _
            have e1 : (max 0 (if (m : Int) < 0 then (m : Int) + (sOf l).length else (m : Int))).toNat = m := by rw [if_neg (by omega)]; omega
            have e2 : (max 0 (if (k : Int) < 0 then (k : Int) + (sOf l).length else (k : Int))).toNat = k := by rw [if_neg (by omega)]; omega
            rw [e1, e2]
            have e3 : Builtin.Str.occurrences (sOf l) (sOf [ch]) m (min k (sOf l).length) 1 = [] := by
              refine occ_none_of (sOf l) ch m _ (fun i g1 g2 g3 g4 => ?_) (by omega)
              rw [sOf_toList] at g4
              rw [hasN_iff] at hno
              have := of_decide_eq_false hno
              refine this (List.mem_of_getElem? (i := i - m) ?_)
              rw [List.getElem?_drop, List.getElem?_take]
              rw [if_pos (by omega), show m + (i - m) = i by omega]
              exact g4
            rw [e3]
            exact wpAny_bind (wpAny_rule (wpAny_bind (wpAny_mkInt (wpAny_pure ⟨_, rfl, P₅.val H₄.inv (by unfold V; exact ⟨_, rfl⟩) _⟩))))
        · cases er
      · cases er
    | _ => exact P₁.elim
end
end Mine
-- X1
open PySem PySem.W PyProof.Rows PySem.Calls
namespace Mine
section
variable {c : Cx} {A : Around} {M : Model} {s : Shared} {E : Value → Shared → Prop} {Q : Unit → Shared → Prop} {env : Env} {outer : List Env} {L a : Addr} {oe : Obj} {vs : Array Value} {t : Txt}

/-- the entry of this frame is laid at the head of the exception's trace -/
theorem exn_entry {head : Value} {hadNext : Bool} (hfr : A.frames = some (env :: outer)) (hl : s.heap.FunFrames c.base (env :: outer)) (hf : env.frame = some L) (he : s.heap.get? a = some oe)
    (kb : c.base.StaysIn s.heap) (hen : c.base.get? a = none) (hd : oe.data = .fields vs) (hsz : 1 < vs.size)
    (h : ∀ h' T oT ts vs' oe', c.base.StaysIn h' → h'.FunFrames c.base (env :: outer) → h'.get? a = some oe' → oe'.cls = oe.cls → oe'.dict = oe.dict → oe'.data = .fields vs' → vs'[1]? = some (.ref T) → c.base.get? T = none → T ≠ a →
      h'.get? T = some oT → oT.data = .fields ts → ts[3]? = some (rawInt L) → KeepS [] s.heap h' → Q () { s with heap := h' }) :
    wpAny M A (do let a' ← frameOf env; let pl ← entryPlaceOf L hadNext; let b ← EntryCells.newEntry head a' .none (rawInt L) .none pl; setField (.ref a) 1 b) Q E s := by
  have nof : ∀ b o, s.heap.get? b = some o → (∀ vs, o.data ≠ .fields vs) → b ≠ a := fun b o hb hn q => by
    subst q; rw [he] at hb; cases hb; exact hn vs hd
  have out : a ∉ (env :: outer).filterMap (·.frame) := fun hm => by
    obtain ⟨_, o, ho, hn⟩ := hl.mem hm
    exact nof a o ho hn rfl
  refine wpAny_bind (wpAny_frameOf_fun hfr hl hf fun h₁ hs₁ => ?_)
  refine wpAny_bind (wpAny_entryPlaceOf fun pl hpl => ?_)
  unfold EntryCells.newEntry newFields
  refine wpAny_bind (wpAny_newObj_type ?_ (hpl.sizeOk5 _ _ _ _ _))
  generalize hts : ([head, .ref L, .none, rawInt L, .none] ++ (if pl.isEmpty then List.replicate 6 Value.none else pl)).toArray = ts
  have h3 : ts[3]? = some (rawInt L) := by subst hts; simp
  have he₁ : h₁.get? a = some oe := (hs₁.2.1 a out).trans he
  have kb₁ : c.base.StaysIn h₁ := fun b o hb => (hs₁.2.1 b fun hm => by rw [(hl.mem hm).1] at hb; cases hb).trans (kb b o hb)
  have he₂ := Heap.get?_push_of_some (h := h₁) { cls := .type "traceback", dict := none, data := .fields ts } he₁
  refine wpAny_setField he₂ hd hsz ?_
  have hT : h₁.objs.size ≠ a := Nat.ne_of_gt (Heap.lt_size he₁)
  have hd₃ := Obj.data_mapFields hd (·.setIfInBounds 1 (Value.ref h₁.objs.size))
  have he₃ := Heap.get?_update_self (Obj.mapFields (·.setIfInBounds 1 (Value.ref h₁.objs.size))) he₂ (Obj.isFreed_of_fields hd₃)
  have hT₃ := (Heap.get?_update_other (h₁.push { cls := .type "traceback", dict := none, data := .fields ts }) (Obj.mapFields (·.setIfInBounds 1 (Value.ref h₁.objs.size))) (Ne.symm hT)).trans (Heap.get?_push_size h₁ rfl)
  have stay : ∀ b o, b ≠ a → h₁.get? b = some o → ((h₁.push { cls := .type "traceback", dict := none, data := .fields ts }).update a (Obj.mapFields (·.setIfInBounds 1 (Value.ref h₁.objs.size)))).get? b = some o := fun b o hb ho => by
    rw [Heap.get?_update_other _ _ (Ne.symm hb)]; exact Heap.get?_push_of_some _ ho
  have slot : ∀ b o, s.heap.get? b = some o → (∀ vs, o.data ≠ .fields vs) → ∃ sl, ((h₁.push { cls := .type "traceback", dict := none, data := .fields ts }).update a (Obj.mapFields (·.setIfInBounds 1 (Value.ref h₁.objs.size)))).get? b = some { o with slots := sl } := fun b o hb hn => by
    obtain ⟨sl, e⟩ := hs₁.2.2 b o hb
    exact ⟨sl, stay b _ (nof b o hb hn) e⟩
  have cd : ∀ (o : Obj) (g : Array Value → Array Value), (o.mapFields g).cls = o.cls ∧ (o.mapFields g).dict = o.dict := fun o g => by
    obtain ⟨c, d, dt, sl⟩ := o; cases dt <;> exact ⟨rfl, rfl⟩
  refine h _ h₁.objs.size _ ts _ _ (fun b o hb => stay b o (fun q => by rw [q, hen] at hb; cases hb) (kb₁ b o hb)) (hl.of_keeps fun b o hb hn => ?_) he₃ (cd _ _).1 (cd _ _).2 hd₃ (by simp [hsz]) kb₁.fresh hT hT₃ rfl h3 ⟨fun b o hb => ?_, fun b o hb _ hn => slot b o hb hn⟩
  · obtain ⟨sl, e⟩ := slot b o hb hn
    exact ⟨_, e, rfl⟩
  · by_cases q : b = a
    · subst q; exact ⟨_, he₃⟩
    · obtain ⟨sl, e⟩ := hs₁.2.2 b o hb
      exact ⟨_, stay b _ q e⟩

/-- noted in this frame -/
theorem exn_note (hfr : A.frames = some (env :: outer)) (hf : env.frame = some L) {e : Value} (x : Exn c (env :: outer) t e s.heap)
    (h : ∀ h', Exn c (env :: outer) t e h' → (∃ a oe vs T oT ts, e = .ref a ∧ h'.get? a = some oe ∧ oe.data = .fields vs ∧ vs[1]? = some (.ref T) ∧ h'.get? T = some oT ∧ oT.data = .fields ts ∧ ts[3]? = some (rawInt L)) → KeepS [] s.heap h' → Q () { s with heap := h' }) :
    wpAny M A (noteFrame e env) Q E s := by
  obtain ⟨a, oe, vs, da, od, tk, rfl, hen, he, hcl, hd, hda, ⟨hod, hodn, hlook⟩, hsz, hl, kb, hx⟩ := x
  unfold noteFrame
  simp only [hf]
  have nda : da ≠ a := fun q => by
    subst q; rw [he] at hod; cases hod; exact hodn vs hd
  rcases hx with h1 | ⟨T, oT, ts, x, h1, hnT, hTa, hT, hdT, h3, hx⟩
  · refine wpAny_bind (wpAny_field he hd h1 ?_)
    rw [if_neg (by decide)]
    refine exn_entry hfr hl hf he kb hen hd hsz fun h' T oT ts vs' oe' g1 g2 g3 g4 g5 g6 g7 g8 g9 g10 g11 g12 g13 => ?_
    obtain ⟨sl, gda⟩ := g13.old da od hod List.not_mem_nil hodn
    exact h h' ⟨a, oe', vs', da, _, tk, rfl, hen, g3, g4.trans hcl, g6, g5.trans hda, ⟨gda, hodn, hlook⟩, (Array.getElem?_eq_some_iff.mp g7).1, g2, g1, .inr ⟨T, oT, ts, _, g7, g8, g9, g10, g11, g12, .inr ⟨L, env, outer, hf, rfl, rfl⟩⟩⟩ ⟨a, oe', vs', T, oT, ts, rfl, g3, g6, g7, g10, g11, g12⟩ g13
  · refine wpAny_bind (wpAny_field he hd h1 ?_)
    rw [if_pos (show (Value.ref T != Value.none) = true from by simp)]
    refine wpAny_bind (wpAny_field hT hdT h3 ?_)
    rcases hx with rfl | ⟨L', env', r, hf', hfs, rfl⟩
    · rw [if_neg (show ¬ ((Value.none == rawInt L) = true) from by simp [rawInt])]
      refine wpAny_bind (wpAny_setField hT hdT (Array.getElem?_eq_some_iff.mp h3).1 ?_)
      have other : ∀ b, b ≠ T → (s.heap.update T (Obj.mapFields (·.setIfInBounds 3 Value.none))).get? b = s.heap.get? b := fun b hb => Heap.get?_update_other _ _ (Ne.symm hb)
      have nof : ∀ b o, s.heap.get? b = some o → (∀ vs, o.data ≠ .fields vs) → b ≠ T := fun b o hb hn q => by
        subst q; rw [hT] at hb; cases hb; exact hn ts hdT
      refine exn_entry (s := { s with heap := s.heap.update T (Obj.mapFields (·.setIfInBounds 3 Value.none)) }) hfr (hl.of_keeps fun b o hb hn => ⟨o, (other b (nof b o hb hn)).trans hb, rfl⟩) hf ((other a (Ne.symm hTa)).trans he)
        (fun b o hb => (other b fun q => by rw [q, hnT] at hb; cases hb).trans (kb b o hb)) hen hd hsz fun h' T' oT' ts' vs' oe' g1 g2 g3 g4 g5 g6 g7 g8 g9 g10 g11 g12 g13 => ?_
      have k0 : KeepS [] s.heap h' := ⟨fun b o hb => by
        by_cases q : b = T
        · subst q; exact g13.there _ _ (Heap.get?_update_self _ hT (Obj.isFreed_of_fields (Obj.data_mapFields hdT _)))
        · exact g13.there b o ((other b q).trans hb), fun b o hb nb hn => g13.old b o ((other b (nof b o hb hn)).trans hb) nb hn⟩
      obtain ⟨sl, gda⟩ := k0.old da od hod List.not_mem_nil hodn
      exact h h' ⟨a, oe', vs', da, _, tk, rfl, hen, g3, g4.trans hcl, g6, g5.trans hda, ⟨gda, hodn, hlook⟩, (Array.getElem?_eq_some_iff.mp g7).1, g2, g1, .inr ⟨T', oT', ts', _, g7, g8, g9, g10, g11, g12, .inr ⟨L, env, outer, hf, rfl, rfl⟩⟩⟩ ⟨a, oe', vs', T', oT', ts', rfl, g3, g6, g7, g10, g11, g12⟩ k0
    · cases hfs
      rw [hf] at hf'; cases hf'
      rw [if_pos (show (rawInt L == rawInt L) = true from by simp)]
      exact wpAny_pure (h s.heap ⟨a, oe, vs, da, od, tk, rfl, hen, he, hcl, hd, hda, ⟨hod, hodn, hlook⟩, hsz, hl, kb, .inr ⟨T, oT, ts, _, h1, hnT, hTa, hT, hdT, h3, .inr ⟨L, env, outer, hf, rfl, rfl⟩⟩⟩ ⟨a, oe, vs, T, oT, ts, rfl, he, hd, h1, hT, hdT, h3⟩ (KeepS.refl _ _))

/-- the flight's mark is set anew -/
theorem exn_flight {fs fs' : List Env} {e : Value} {fr : Option Addr} (x : Exn c fs t e s.heap) (n : ∃ a oe vs T oT ts, e = .ref a ∧ s.heap.get? a = some oe ∧ oe.data = .fields vs ∧ vs[1]? = some (.ref T) ∧ s.heap.get? T = some oT ∧ oT.data = .fields ts ∧ ts[3]? = some (rawInt L))
    (hff : ∀ h' : Heap, (∀ b o, s.heap.get? b = some o → (∀ vs, o.data ≠ .fields vs) → h'.get? b = some o) → h'.FunFrames c.base fs') (hfr : fr = none ∨ ∃ L env r, fr = some L ∧ env.frame = some L ∧ fs' = env :: r)
    (h : ∀ h', Exn c fs' t e h' → KeepS [] s.heap h' → Q () { s with heap := h' }) : wpAny M A (setFlight e fr) Q E s := by
  obtain ⟨a, oe, vs, da, od, tk, rfl, hen, he, hcl, hd, hda, ⟨hod, hodn, hlook⟩, hsz, hl, kb, hx⟩ := x
  obtain ⟨a', oe', vs', T, oT, ts, q1, q2, q3, h1, hT, hdT, h3⟩ := n
  cases q1
  rw [he] at q2; cases q2
  rw [hd] at q3; cases q3
  have hTn : c.base.get? T = none ∧ T ≠ a := by
    rcases hx with g1 | ⟨T', _, _, _, g1, g2, g3, _⟩
    · rw [h1] at g1; cases g1
    · rw [h1] at g1; cases g1; exact ⟨g2, g3⟩
  have other : ∀ b, b ≠ T → (s.heap.update T (Obj.mapFields (·.setIfInBounds 3 (fr.elim Value.none fun f => rawInt f)))).get? b = s.heap.get? b := fun b hb => Heap.get?_update_other _ _ (Ne.symm hb)
  have nof : ∀ b o, s.heap.get? b = some o → (∀ vs, o.data ≠ .fields vs) → b ≠ T := fun b o hb hn q => by
    subst q; rw [hT] at hb; cases hb; exact hn ts hdT
  unfold setFlight
  refine wpAny_bind (wpAny_field he hd h1 ?_)
  rw [if_pos (show (Value.ref T != Value.none) = true from by simp)]
  have hs3 : 3 < ts.size := (Array.getElem?_eq_some_iff.mp h3).1
  refine wpAny_setField hT hdT hs3 (h _ ?_ ⟨fun b o hb => by
      by_cases q : b = T
      · subst q; exact ⟨_, Heap.get?_update_self _ hT (Obj.isFreed_of_fields (Obj.data_mapFields hdT _))⟩
      · exact ⟨o, (other b q).trans hb⟩, fun b o hb _ hn => ⟨o.slots, (other b (nof b o hb hn)).trans hb⟩⟩)
  refine ⟨a, oe, vs, da, od, tk, rfl, hen, (other a (Ne.symm hTn.2)).trans he, hcl, hd, hda, ⟨(other da (nof da od hod hodn)).trans hod, hodn, hlook⟩, hsz, hff _ fun b o hb hn => (other b (nof b o hb hn)).trans hb,
    fun b o hb => (other b fun q => by rw [q, hTn.1] at hb; cases hb).trans (kb b o hb),
    .inr ⟨T, _, _, fr.elim Value.none fun f => rawInt f, h1, hTn.1, hTn.2, Heap.get?_update_self _ hT (Obj.isFreed_of_fields (Obj.data_mapFields hdT _)), Obj.data_mapFields hdT _, by simp [hs3], ?_⟩⟩
  rcases hfr with rfl | ⟨L', env, r, rfl, g1, g2⟩
  · exact .inl rfl
  · exact .inr ⟨L', env, r, g1, g2, rfl⟩

theorem ff_same {base h h' : Heap} {l : List Env} (x : h.FunFrames base l) (k : ∀ b o, h.get? b = some o → (∀ vs, o.data ≠ .fields vs) → h'.get? b = some o) : h'.FunFrames base l :=
  x.of_keeps fun b o hb hn => ⟨o, k b o hb hn, rfl⟩
theorem Exn.frames {fs : List Env} {e : Value} {h : Heap} (x : Exn c fs t e h) : h.FunFrames c.base fs := by
  obtain ⟨a, oe, vs, da, od, tk, rfl, hen, he, hcl, hd, hda, _, hsz, hl, kb, hx⟩ := x
  exact hl
/-- the exception leaves the frame -/
theorem exn_leaves (hfr : A.frames = some (env :: outer)) (hf : env.frame = some L) {e : Value} (x : Exn c (env :: outer) t e s.heap)
    (h : ∀ h', Exn c outer t e h' → KeepS [] s.heap h' → Q () { s with heap := h' }) : wpAny M A (leaving env e) Q E s := by
  unfold leaving
  refine wpAny_bind (exn_note hfr hf x fun h₁ x₁ n₁ k₁ => ?_)
  exact exn_flight (s := { s with heap := h₁ }) x₁ n₁ (fun h' k => (ff_same x₁.frames k).2.2) (.inl rfl) fun h₂ x₂ k₂ => h h₂ x₂ (k₁.trans k₂)
/-- the exception came back from a loop of the frame's own -/
theorem exn_back (hf : env.frame = some L) {e : Value} {E : Value → Shared → Prop} (x : Exn c (env :: outer) t e s.heap) (n : ∃ a oe vs T oT ts, e = .ref a ∧ s.heap.get? a = some oe ∧ oe.data = .fields vs ∧ vs[1]? = some (.ref T) ∧ s.heap.get? T = some oT ∧ oT.data = .fields ts ∧ ts[3]? = some (rawInt L))
    (h : ∀ h', Exn c (env :: outer) t e h' → KeepS [] s.heap h' → E e { s with heap := h' }) : cameBackBy M A env E e s := by
  unfold cameBackBy
  have n' := n
  obtain ⟨a', oe', vs', T, oT, ts, q1, q2, q3, h1, hT, hdT, h3⟩ := n
  cases q1
  refine wpAny_bind (wpAny_field q2 q3 h1 ?_)
  rw [if_neg (by simp)]
  rw [hf]
  exact exn_flight x n' (fun h' k => ff_same x.frames k) (.inr ⟨L, env, outer, rfl, hf, rfl⟩) h
end
end Mine
-- T1
open PySem PySem.W PyProof.Rows PySem.Calls
namespace Mine
section
variable {c : Cx} {A : Around} {n : Nat} {f : Fx} {ρ : List D} {σ : Sg} {μ N : List Addr} {s : Shared} {E : Value → Shared → Prop} {k : Ans → Sg → List Addr → Shared → Prop}

theorem Here.keepL (H : Here c A n f ρ σ μ s.heap) {h' : Heap} (hs : Heap.SameBut f.L s.heap h') (w : ∃ o, h'.get? f.L = some o) : Keep [f.L] s.heap h' := by
  obtain ⟨m, hm, _⟩ := H.loc
  exact Keep.sameBut hs (.head _) (Ns.noTup hm) w
theorem Keep.weak {M M' : List Addr} {h h' : Heap} (k : Keep M h h') (n : ∀ a ∈ M, a ∈ M') : Keep M' h h' := ⟨k.there, fun b o e nb => k.old b o e fun m => nb (n b m), k.tup⟩
theorem Here.store {Q : Unit → Shared → Prop} (H : Here c A n f ρ σ μ s.heap) {x : Nat} {id : Str} {d : D} {v : Value} (hl : locOk f.slots x id = true) (hv : V c.fa μ s.heap d v)
    (hQ : ∀ h' t, Inv c h' σ μ → Ext [f.L] μ s.heap μ h' → Loc c f (put ρ x d) μ h' → Q () { s with heap := h', toks := t }) {M : Model} {A' : Around} : wpAny M A' (storeName f.env id v) Q E s := by
  obtain ⟨nm, e1, rfl⟩ := locOk_nm hl
  obtain ⟨m, F, hm⟩ := H.fr
  have hloc := (H.locals nm (nth_mem e1)).1
  refine wpAny_storeName_local hloc F.ns (fun h' hn hs => ?_) (by show (f.sc.kind == .class || (f.sc.kind == .module && f.L != mainGlobals)) = false; rw [H.kind]; rfl)
  have k := H.keepL hs (by obtain ⟨o, _, _, e, _⟩ := hn; exact ⟨o, e⟩)
  refine hQ h' _ (H.inv.keep k (fun a m q => by rw [List.mem_singleton.mp q] at m; exact H.offL m) (fun a m => by rw [List.mem_singleton.mp m]; exact H.above)) ⟨List.prefix_refl _, fun _ m => .inl m, k.weak fun a m => List.mem_append_left _ m⟩ ⟨⟨_, hn, fun i d' nm' g1 g2 g3 => ?_⟩, by rw [length_put]; exact H.len⟩
  have hx : x < ρ.length := by rw [H.len]; exact nth_lt e1
  rw [nth_put hx] at g1
  by_cases q : i = x
  · subst q
    rw [if_pos rfl] at g1; cases g1
    rw [e1] at g3; cases g3
    exact ⟨v, if_pos rfl, V.mono (List.prefix_refl _) k.tup _ _ hv⟩
  · rw [if_neg q] at g1
    obtain ⟨v', a, b⟩ := hm i d' nm' g1 g2 g3
    refine ⟨v', ?_, V.mono (List.prefix_refl _) k.tup _ _ b⟩
    rw [if_neg fun z => q (nodup_nth H.nodup (by rw [g3, sOf_inj z]) e1)]; exact a

inductive Tgs (f : Fx) (M : Model) : List Nat → List (Value → Sem Unit) → Prop
  | nil : Tgs f M [] []
  | cons {x : Nat} {id : Str} {t : Value → Sem Unit} {xs : List Nat} {ts : List (Value → Sem Unit)} : locOk f.slots x id = true →
      (∀ (A : Around) (E : Value → Shared → Prop) (Q : Unit → Shared → Prop) (s : Shared) (v : Value), wpAny M A (storeName f.env id v) Q E s → wpAny M A (t v) Q E s) → Tgs f M xs ts → Tgs f M (x :: xs) (t :: ts)
theorem Tgs.snoc {M : Model} {x : Nat} {id : Str} {t : Value → Sem Unit} (h1 : locOk f.slots x id = true)
    (h2 : ∀ (A : Around) (E : Value → Shared → Prop) (Q : Unit → Shared → Prop) (s : Shared) (v : Value), wpAny M A (storeName f.env id v) Q E s → wpAny M A (t v) Q E s) : ∀ {xs : List Nat} {ts : List (Value → Sem Unit)}, Tgs f M xs ts → Tgs f M (xs ++ [x]) (ts ++ [t])
  | _, _, .nil => .cons h1 h2 .nil
  | _, _, .cons a b r => .cons a b (Tgs.snoc h1 h2 r)
theorem Tgs.reverse {M : Model} : ∀ {xs : List Nat} {ts : List (Value → Sem Unit)}, Tgs f M xs ts → Tgs f M xs.reverse ts.reverse
  | _, _, .nil => .nil
  | _, _, .cons a b r => by
    simp only [List.reverse_cons]
    exact Tgs.snoc a b r.reverse
theorem assigns {Q : Unit → Shared → Prop} {M : Model} {A' : Around} : ∀ {xs : List Nat} {ts : List (Value → Sem Unit)} {ds : List D} {vs : List Value} {ρ : List D} {s : Shared}, Tgs f M xs ts → Here c A n f ρ σ μ s.heap → Mine.Vs c.fa μ s.heap ds vs → xs.length = ds.length →
    (∀ h' t, Inv c h' σ μ → Ext [f.L] μ s.heap μ h' → Loc c f (puts ρ xs ds) μ h' → Q () { s with heap := h', toks := t }) → wpAny M A' (assignInOrder ts vs) Q E s
  | [], _, ds, vs, ρ, s, .nil, H, hv, hl, hQ => by
    have : ds = [] := by cases ds with | nil => rfl | cons _ _ => cases hl
    subst this
    unfold Vs at hv; subst hv
    exact wpAny_pure (hQ s.heap s.toks H.inv (Ext.refl ..) H.toLoc)
  | x :: xs, _, ds, vs, ρ, s, .cons (t := t) (ts := ts) h1 h2 r, H, hv, hl, hQ => by
    cases ds with
    | nil => cases hl
    | cons d ds =>
      unfold Vs at hv
      obtain ⟨v, vs, rfl, hv, hvs⟩ := hv
      show wpAny M A' (do holding vs (t v); assignInOrder ts vs) Q E s
      refine wpAny_bind (wpAny_holding (h2 _ _ _ _ _ (H.store h1 hv fun h' tk i e l => ?_)))
      refine assigns (s := { s with heap := h', toks := tk }) r (H.moveL i e l) (Vs.mono (List.prefix_refl _) e.keep.tup _ _ hvs) (by simpa using hl) fun h'' tk' i' e' l' => ?_
      exact hQ h'' tk' i' (e.trans e' fun a m => .inl m) l'

theorem put_comm {α : Type} {x y : Nat} {a b : α} (h : x ≠ y) (l : List α) : put (put l x a) y b = put (put l y b) x a := by
  simp only [put_eq]; exact List.set_comm _ _ h
theorem puts_put {x : Nat} {d : D} : ∀ {xs : List Nat} {ds : List D} {ρ : List D}, x ∉ xs → puts (put ρ x d) xs ds = put (puts ρ xs ds) x d
  | [], _, _, _ => by simp [puts]
  | y :: xs, [], _, _ => by simp [puts]
  | y :: xs, e :: ds, ρ, h => by
    show puts (put (put ρ x d) y e) xs ds = put (puts (put ρ y e) xs ds) x d
    rw [put_comm (fun q => h (by rw [q]; exact List.mem_cons_self ..)), puts_put fun q => h (List.mem_cons_of_mem _ q)]
theorem puts_snoc {x : Nat} {d : D} : ∀ {xs : List Nat} {ds : List D} {ρ : List D}, xs.length = ds.length → puts ρ (xs ++ [x]) (ds ++ [d]) = put (puts ρ xs ds) x d
  | [], [], _, _ => rfl
  | [], _ :: _, _, h => by cases h
  | _ :: _, [], _, h => by cases h
  | y :: xs, e :: ds, ρ, h => by
    show puts (put ρ y e) (xs ++ [x]) (ds ++ [d]) = _
    rw [puts_snoc (by simpa using h)]; rfl
theorem puts_reverse : ∀ {xs : List Nat} {ds : List D} {ρ : List D}, xs.Nodup → xs.length = ds.length → puts ρ xs.reverse ds.reverse = puts ρ xs ds
  | [], [], _, _, _ => rfl
  | [], _ :: _, _, _, h => by cases h
  | _ :: _, [], _, _, h => by cases h
  | x :: xs, d :: ds, ρ, hn, h => by
    have hn' := List.nodup_cons.mp hn
    have hl : xs.length = ds.length := by simpa using h
    simp only [List.reverse_cons]
    rw [puts_snoc (by simpa using hl), puts_reverse hn'.2 hl, ← puts_put hn'.1]
    rfl
theorem nodupN_iff : ∀ {l : List Nat}, nodupN l = true → l.Nodup
  | [], _ => List.nodup_nil
  | x :: l, h => by
    unfold nodupN at h
    split at h
    · cases h
    · rename_i q
      rw [hasN_iff] at q
      exact List.nodup_cons.mpr ⟨of_decide_eq_false q, nodupN_iff h⟩
theorem Vs.reverse {fa : Nat → Addr} {h : Heap} : ∀ {ds : List D} {vs : List Value}, Mine.Vs fa μ h ds vs → Mine.Vs fa μ h ds.reverse vs.reverse
  | [], _, x => by unfold Vs at x; subst x; exact Vs.nil
  | d :: ds, _, x => by
    unfold Vs at x
    obtain ⟨v, vs, rfl, y, z⟩ := x
    simp only [List.reverse_cons]
    exact (Vs.reverse z).append (Vs.one y)
theorem tgs_targets {M : Model} : ∀ {xs : List Nat} {ts : List Expr}, chkT f.slots xs ts = true → Tgs f M xs ((assignEach ts f.env).map (·.2)) ∧ (assignEach ts f.env).length = xs.length ∧ (assignEach ts f.env).findIdx? (·.1) = none
  | [], [], _ => ⟨.nil, rfl, rfl⟩
  | x :: xs, e :: es, h => by
    unfold chkT at h
    obtain ⟨h1, h2⟩ := Bool.and_eq_true_iff.mp h
    obtain ⟨i1, i2, i3⟩ := tgs_targets (M := M) h2
    replace h1 := vName_inv h1
    obtain ⟨id, pos, rfl, h1⟩ := h1
    · have e0 : assignEach (.Name id pos :: es) f.env = (false, assign (.Name id pos) f.env) :: assignEach es f.env := rfl
      rw [e0]
      refine ⟨.cons h1 (fun A E Q s v hw => ?_) i1, by simp [i2], by simp [List.findIdx?_cons, i3]⟩
      show wpAny M A (do standAt pos; bindName f.env id v) Q E s
      exact wpAny_bind (wpAny_standAt (wpAny_bindName hw))
  | [], _ :: _, h => by unfold chkT at h; cases h
  | _ :: _, [], h => by unfold chkT at h; cases h
/-- the names of the targets -/
noncomputable def tnames : List Expr → List Str
  | [] => []
  | .Name id _ :: es => id :: tnames es
  | _ :: es => tnames es
theorem tgs_names {M : Model} : ∀ {xs : List Nat} {ts : List Expr}, chkT f.slots xs ts = true → Tgs f M xs ((tnames ts).map fun n => bindName f.env n) ∧ (tnames ts).length = xs.length
  | [], [], _ => ⟨.nil, rfl⟩
  | x :: xs, e :: es, h => by
    unfold chkT at h
    obtain ⟨h1, h2⟩ := Bool.and_eq_true_iff.mp h
    obtain ⟨i1, i2⟩ := tgs_names (M := M) h2
    replace h1 := vName_inv h1
    obtain ⟨_, _, rfl, h1⟩ := h1
    · exact ⟨.cons h1 (fun A E Q s v hw => wpAny_bindName hw) i1, by simp [tnames, i2]⟩
  | [], _ :: _, h => by unfold chkT at h; cases h
  | _ :: _, [], h => by unfold chkT at h; cases h
theorem swap_off {x : Ex} {e : Expr} {t : Option Expr} {l : Nat} {env : Env} (h : chkE c f.sc f.slots x e = true) : swapsWith e t l env = pure false := by
  cases e with
  | ListComp a b p q => exact absurd rfl (chkE_tag h)
  | SetComp a b p q => exact absurd rfl (chkE_tag h)
  | DictComp a b p q r => exact absurd rfl (chkE_tag h)
  | _ => rfl
theorem filterNames {env : Env} {line : Nat} : ∀ {xs : List Nat} {ts : List Expr} {names : List Str}, chkT f.slots xs ts = true →
    names = (ts.filterMap fun | .Name id pos => if env.kindOf id == some .local && pos.line == line then some id else none | _ => none) → names.length = ts.length → names = tnames ts
  | [], [], _, _, h, _ => h
  | x :: xs, e :: es, names, hc, h, hl => by
    unfold chkT at hc
    obtain ⟨h1, h2⟩ := Bool.and_eq_true_iff.mp hc
    replace h1 := vName_inv h1
    obtain ⟨id, pos, rfl, h1⟩ := h1
    · simp only [List.filterMap_cons] at h
      split at h
      · have : names.length ≤ es.length := by rw [h]; exact List.length_filterMap_le _ _
        rw [hl] at this; simp at this; omega
      · rename_i id' hid
        have : id' = id := by
          split at hid
          · exact (Option.some.inj hid).symm
          · cases hid
        subst this
        subst h
        simp only [List.length_cons, Nat.add_right_cancel_iff] at hl
        rw [filterNames h2 rfl hl]; rfl
  | [], _ :: _, _, h, _, _ => by unfold chkT at h; cases h
  | _ :: _, [], _, h, _, _ => by unfold chkT at h; cases h
theorem swapped {xs : List Nat} {ts : List Expr} {x1 : Nat} {tp : Pos} {value : Expr} (h : chkT f.slots xs ts = true) (hs : swapOk value = true) :
    ∃ o, swappedStores [.Tuple ts x1 tp] value f.env = pure o ∧ (o = none ∨ o = some (tnames ts)) := by
  cases value with
  | Tuple vs v1 vp =>
    unfold swappedStores
    simp only [pure_bind]
    split
    · exact ⟨none, rfl, .inl rfl⟩
    · split
      · exact ⟨none, rfl, .inl rfl⟩
      · split
        · exact ⟨none, rfl, .inl rfl⟩
        · rename_i hn
          split
          · exact ⟨none, rfl, .inl rfl⟩
          · rename_i hf
            split
            · rename_i hc
              have hs' : (!(vs.all (constantsAlone 8)) || vs.all (foldedForSure 8)) = true := hs
              rw [hc] at hs'
              simp only [Bool.not_true, Bool.false_or] at hs'
              exact absurd hs' hf
            · refine ⟨_, rfl, .inr ?_⟩
              congr 1
              refine filterNames h rfl ?_
              simp only [Bool.or_eq_true, bne_iff_ne, ne_eq, not_or, Decidable.not_not] at hn
              exact hn.1
  | _ => exact ⟨none, rfl, .inl rfl⟩
end
end Mine
-- T2
open PySem PySem.W PyProof.Rows PySem.Calls
namespace Mine
structure Sound (c : Cx) (n : Nat) : Prop extends SoundE c n where
  S : ∀ {A : Around} {f : Fx} {ρ : List D} {σ : Sg} {μ : List Addr} {s : Shared} {E : Value → Shared → Prop} {Q : Flow → Shared → Prop} {x : St} {st : Stmt}, Here c A n f ρ σ μ s.heap → chkS c f.sc f.slots x st = true →
      Post c f.fs [f.L] μ s E (kF c f Q) (c.run n (.S x ρ) σ) → wpAny c.M A (exec st f.env) Q E s
  Ss : ∀ {A : Around} {f : Fx} {ρ : List D} {σ : Sg} {μ : List Addr} {s : Shared} {E : Value → Shared → Prop} {Q : Flow → Shared → Prop} {xs : List St} {ss : List Stmt}, Here c A n f ρ σ μ s.heap → chkSs c f.sc f.slots xs ss = true →
      Post c f.fs [f.L] μ s E (kF c f Q) (c.run n (.Ss xs ρ) σ) → wpAny c.M A (execs ss f.env) Q E s
  W : ∀ {A : Around} {f : Fx} {ρ : List D} {σ : Sg} {μ : List Addr} {s : Shared} {E : Value → Shared → Prop} {Q : Flow → Shared → Prop} {t : Ex} {b : List St} {te : Expr} {bs : List Stmt}, Here c A n f ρ σ μ s.heap → chkE c f.sc f.slots t te = true → chkSs c f.sc f.slots b bs = true →
      Post c f.fs [f.L] μ s E (kF c f Q) (c.run n (.S (.whl t b) ρ) σ) → codeAny c.M A (.whileLoop te bs [] f.env) (fun r s' => match r with | .ok fl => Q fl s' | .error e => cameBackBy c.M A f.env E e s') s

section
variable {c : Cx} {A : Around} {n : Nat} {f : Fx} {ρ : List D} {σ : Sg} {μ N : List Addr} {s : Shared} {E E₂ : Value → Shared → Prop} {k : Ans → Sg → List Addr → Shared → Prop} {Q : Flow → Shared → Prop} {r : R}

/-- a word on what a frame's handler E₂ must do, that E be met at last -/
noncomputable def Fits (c : Cx) (fs : List Env) (E E₂ : Value → Shared → Prop) : Prop :=
  ∀ t e s', Exn c fs t e s'.heap → (∀ s'', Exn c fs t e s''.heap → KeepS [] s'.heap s''.heap → Rest s' s'' → E e s'') → E₂ e s'
theorem Fits.refl {fs : List Env} : Fits c fs E E := fun t e s' x h => h s' x (KeepS.refl _ _) (Rest.refl _)
theorem Post.mapE {fs : List Env} (h : Post c fs N μ s E k r) (m : Fits c fs E E₂) : Post c fs N μ s E₂ k r := by
  cases r with
  | stuck => exact h
  | exc t σ => exact fun s' e x ks q => m t e s' x fun s'' x' k' q' => h s'' e x' (ks.trans (k'.weak fun _ z => absurd z List.not_mem_nil)) (q.trans q')
  | ok a σ => exact h
theorem SoundE.testE (S : SoundE c n) (H : Here c A n f ρ σ μ s.heap) (F : Fits c f.fs E E₂) {x : Ex} {e : Expr} (h1 : chkE c f.sc f.slots x e = true) {g : Bool → Sg → R} {Q' : Bool → Shared → Prop}
    (P : Post c f.fs N μ s E k (bindB (c.run n (.T x ρ) σ) g))
    (K : ∀ (b : Bool) (σ' : Sg) (μ' : List Addr) (s' : Shared), Here c A n f ρ σ' μ' s'.heap → Ext [] μ s.heap μ' s'.heap → Rest s s' → Post c f.fs N μ' s' E k (g b σ') → Q' b s') :
    wpAny c.M A (isTrue e f.env (eval e f.env)) Q' E₂ s :=
  S.T (N := []) H h1 (Post.mapE (Post.mono (Post.bindB P) fun a σ' μ' s' i x q hk => by
    cases a with
    | b d => exact K d σ' μ' s' (H.move i x) x q hk
    | _ => exact hk.elim) F)
theorem Sound.block (S : Sound c n) (H : Here c A n f ρ σ μ s.heap) (F : Fits c f.fs E E₂) {xs : List St} {ss : List Stmt} (h1 : chkSs c f.sc f.slots xs ss = true) {g : List D → Sg → R} {g' : D → List D → Sg → R} {Q' : Flow → Shared → Prop}
    (P : Post c f.fs [f.L] μ s E k (bindF (c.run n (.Ss xs ρ) σ) g g'))
    (K1 : ∀ (ρ' : List D) (σ' : Sg) (μ' : List Addr) (s' : Shared), Here c A n f ρ' σ' μ' s'.heap → Ext [f.L] μ s.heap μ' s'.heap → Rest s s' → Post c f.fs [f.L] μ' s' E k (g ρ' σ') → Q' .next s')
    (K2 : ∀ (d : D) (ρ' : List D) (σ' : Sg) (μ' : List Addr) (s' : Shared) (v : Value), Here c A n f ρ' σ' μ' s'.heap → Ext [f.L] μ s.heap μ' s'.heap → Rest s s' → V c.fa μ' s'.heap d v → Post c f.fs [f.L] μ' s' E k (g' d ρ' σ') → Q' (.ret v) s') :
    wpAny c.M A (execs ss f.env) Q' E₂ s := by
  refine S.Ss H h1 (Post.mapE (Post.mono (Post.bindF P) fun a σ' μ' s' i x q hk => ?_) F)
  cases a with
  | f fl ρ' =>
    intro l
    have H' := H.moveL i x l
    cases fl with
    | next => exact K1 ρ' σ' μ' s' H' x q hk
    | ret d => exact fun v hv => K2 d ρ' σ' μ' s' v H' x q hv hk
  | _ => exact hk.elim
theorem Sound.stmt (S : Sound c n) (H : Here c A n f ρ σ μ s.heap) {x : St} {st : Stmt} (h1 : chkS c f.sc f.slots x st = true) {g : List D → Sg → R} {g' : D → List D → Sg → R} {Q' : Flow → Shared → Prop}
    (P : Post c f.fs [f.L] μ s E k (bindF (c.run n (.S x ρ) σ) g g'))
    (K1 : ∀ (ρ' : List D) (σ' : Sg) (μ' : List Addr) (s' : Shared), Here c A n f ρ' σ' μ' s'.heap → Ext [f.L] μ s.heap μ' s'.heap → Rest s s' → Post c f.fs [f.L] μ' s' E k (g ρ' σ') → Q' .next s')
    (K2 : ∀ (d : D) (ρ' : List D) (σ' : Sg) (μ' : List Addr) (s' : Shared) (v : Value), Here c A n f ρ' σ' μ' s'.heap → Ext [f.L] μ s.heap μ' s'.heap → Rest s s' → V c.fa μ' s'.heap d v → Post c f.fs [f.L] μ' s' E k (g' d ρ' σ') → Q' (.ret v) s') :
    wpAny c.M A (exec st f.env) Q' E s := by
  refine S.S H h1 (Post.mono (Post.bindF P) fun a σ' μ' s' i x q hk => ?_)
  cases a with
  | f fl ρ' =>
    intro l
    have H' := H.moveL i x l
    cases fl with
    | next => exact K1 ρ' σ' μ' s' H' x q hk
    | ret d => exact fun v hv => K2 d ρ' σ' μ' s' v H' x q hv hk
  | _ => exact hk.elim
/-- a statement's end, nothing changed since -/
theorem Post.next (P : Post c f.fs N μ s E (kF c f Q) (.ok (.f .next ρ) σ)) (H : Here c A n f ρ σ μ s.heap) : Q .next s := Post.now P (s' := s) H.inv (Ext.refl ..) ⟨rfl, rfl⟩ H.toLoc
theorem Post.retv {d : D} {v : Value} (P : Post c f.fs N μ s E (kF c f Q) (.ok (.f (.ret d) ρ) σ)) (H : Here c A n f ρ σ μ s.heap) (hv : V c.fa μ s.heap d v) : Q (.ret v) s := Post.now P (s' := s) H.inv (Ext.refl ..) ⟨rfl, rfl⟩ H.toLoc v hv

theorem sSs (S : Sound c n) {xs : List St} {ss : List Stmt} (H : Here c A (n + 1) f ρ σ μ s.heap) (h : chkSs c f.sc f.slots xs ss = true) (P : Post c f.fs [f.L] μ s E (kF c f Q) (c.run (n + 1) (.Ss xs ρ) σ)) : wpAny c.M A (execs ss f.env) Q E s := by
  cases xs with
  | nil =>
    cases ss with
    | nil => exact wpAny_execs_nil (Post.next P H)
    | cons _ _ => unfold chkSs at h; cases h
  | cons x xs =>
    cases ss with
    | nil => unfold chkSs at h; cases h
    | cons st ss =>
      unfold chkSs at h
      obtain ⟨h1, h2⟩ := Bool.and_eq_true_iff.mp h
      refine wpAny_execs_cons (S.stmt H.less h1 P (fun ρ' σ' μ' s' H' x q P' => S.Ss H' h2 P') fun d ρ' σ' μ' s' v H' x q hv P' => Post.retv P' H' hv)
theorem sS_asg (S : Sound c n) {x : Nat} {e : Ex} {st : Stmt} (H : Here c A (n + 1) f ρ σ μ s.heap) (h : chkS c f.sc f.slots (.asg x e) st = true) (P : Post c f.fs [f.L] μ s E (kF c f Q) (stepS (c.run n) (.asg x e) ρ σ)) : wpAny c.M A (exec st f.env) Q E s := by
  replace h := inv_asg h
  obtain ⟨_, _, _, _, rfl, h⟩ := h
  · obtain ⟨h1, h2⟩ := Bool.and_eq_true_iff.mp h
    refine wpAny_Assign_Name (S.one H.less h2 P fun d σ₁ μ₁ s₁ v H₁ x₁ q₁ hv P₁ => H₁.store h1 hv fun h' t i e l => ?_) (swap_off h2)
    exact Post.now P₁ (s' := { s₁ with heap := h', toks := t }) i e ⟨rfl, rfl⟩ l
theorem sS_asgT (S : Sound c n) {xs : List Nat} {e : Ex} {st : Stmt} (H : Here c A (n + 1) f ρ σ μ s.heap) (h : chkS c f.sc f.slots (.asgT xs e) st = true) (P : Post c f.fs [f.L] μ s E (kF c f Q) (stepS (c.run n) (.asgT xs e) ρ σ)) : wpAny c.M A (exec st f.env) Q E s := by
  replace h := inv_asgT h
  obtain ⟨_, _, _, _, _, rfl, h⟩ := h
  · rename_i ts x1 tp e' pos
    obtain ⟨h, h3⟩ := Bool.and_eq_true_iff.mp h
    obtain ⟨h1, h2⟩ := Bool.and_eq_true_iff.mp h
    obtain ⟨g1, g2, g3⟩ := tgs_targets (M := c.M) h2
    obtain ⟨k1, k2⟩ := tgs_names (M := c.M) h2
    have new : ∀ (h h' : Heap), Heap.ExtBut h.objs.size h h' → Keep [] h h' := fun h h' x => Keep.of_keeps [] fun b o e => x b o (Nat.ne_of_lt (Heap.lt_size e)) e
    obtain ⟨o, ho, hoo⟩ := swapped (f := f) (x1 := x1) (tp := tp) h2 h1
    have body : ∀ (d : D) (σ₁ : Sg) (μ₁ : List Addr) (s₁ : Shared) (v : Value), Here c A n f ρ σ₁ μ₁ s₁.heap → V c.fa μ₁ s₁.heap d v →
        Post c f.fs [f.L] μ₁ s₁ E (kF c f Q) (match d with | .tup ds => (match Nat.beq ds.length xs.length, nodupN xs with | true, true => .ok (.f .next (puts ρ xs ds)) σ₁ | _, _ => .stuck) | _ => .stuck) →
        ∃ (a : Addr) (vs : List Value) (ds : List D), v = .ref a ∧ s₁.heap.IsTuple a vs.toArray ∧ vs.length = xs.length ∧ ∀ h', Heap.ExtBut s₁.heap.objs.size s₁.heap h' → ∀ (ts : List (Value → Sem Unit)), Tgs f c.M xs ts →
          wpAny c.M A (assignInOrder ts vs) (fun _ => Q .next) E { s₁ with heap := h' } ∧ wpAny c.M A (assignInOrder ts.reverse vs.reverse) (fun _ => Q .next) E { s₁ with heap := h' } := by
      intro d σ₁ μ₁ s₁ v H₁ hv P₁
      cases d with
      | tup ds =>
        dsimp only at P₁
        split at P₁
        · rename_i hb hn
          unfold V at hv
          obtain ⟨a, vs, rfl, ht, hr⟩ := hv
          have hl : ds.length = xs.length := Nat.eq_of_beq_eq_true hb
          refine ⟨a, vs, ds, rfl, ht, by rw [hr.length, hl], fun h' hx ts tg => ?_⟩
          have kk := new _ _ hx
          have I' := H₁.inv.keep kk (fun _ _ => List.not_mem_nil) (fun _ m => absurd m List.not_mem_nil)
          have X' : Ext [] μ₁ s₁.heap μ₁ h' := ⟨List.prefix_refl _, fun _ m => .inl m, kk.weak fun _ m => absurd m List.not_mem_nil⟩
          have H' : Here c A n f ρ σ₁ μ₁ h' := H₁.move I' X'
          have hr' := Vs.mono (List.prefix_refl _) kk.tup _ _ hr
          have fin : ∀ h'' t, Inv c h'' σ₁ μ₁ → Ext [f.L] μ₁ h' μ₁ h'' → Loc c f (puts ρ xs ds) μ₁ h'' → Q .next { s₁ with heap := h'', toks := t } := fun h'' t i e l =>
            Post.now P₁ (s' := { s₁ with heap := h'', toks := t }) i ((X'.weak (N' := [f.L]) fun _ m => absurd m List.not_mem_nil).trans e fun a m => .inl m) ⟨rfl, rfl⟩ l
          refine ⟨assigns (s := { s₁ with heap := h' }) tg H' hr' hl.symm fin, assigns (s := { s₁ with heap := h' }) tg.reverse H' hr'.reverse (by simp [hl]) fun h'' t i e l => fin h'' t i e ?_⟩
          rw [puts_reverse (nodupN_iff hn) hl.symm] at l
          exact l
        · exact P₁.elim
      | _ => exact P₁.elim
    rcases hoo with rfl | rfl
    · refine Assign_Tuple (S.one H.less h3 P fun d σ₁ μ₁ s₁ v H₁ x₁ q₁ hv P₁ => ?_) (show swapsWith e' (some (.Tuple ts x1 tp)) pos.line f.env = pure false from swap_off h3) ho
      obtain ⟨a, vs, ds, rfl, ht, hl, hb⟩ := body d σ₁ μ₁ s₁ v H₁ hv P₁
      exact wpAny_assign_Tuple H₁.handled ht (by rw [g2, List.size_toArray, hl]) g3 fun h' hx => (hb h' hx _ g1).1
    · refine Assign_Tuple_swapped (names := tnames ts) (S.one H.less h3 P fun d σ₁ μ₁ s₁ v H₁ x₁ q₁ hv P₁ => ?_) (show swapsWith e' (some (.Tuple ts x1 tp)) pos.line f.env = pure false from swap_off h3) ho
      obtain ⟨a, vs, ds, rfl, ht, hl, hb⟩ := body d σ₁ μ₁ s₁ v H₁ hv P₁
      have e : (tnames ts).length = vs.toArray.size := by rw [k2, List.size_toArray, hl]
      rw [e]
      refine wpAny_unpackItems_tuple H₁.handled ht fun h' hx => ?_
      have := (hb h' hx _ k1).2
      rw [← List.map_reverse] at this
      exact this
theorem sS_aug (S : Sound c n) {x : Nat} {e : Ex} {st : Stmt} (H : Here c A (n + 1) f ρ σ μ s.heap) (h : chkS c f.sc f.slots (.aug x e) st = true) (P : Post c f.fs [f.L] μ s E (kF c f Q) (stepS (c.run n) (.aug x e) ρ σ)) : wpAny c.M A (exec st f.env) Q E s := by
  replace h := inv_aug h
  obtain ⟨_, _, _, _, rfl, h⟩ := h
  · obtain ⟨h1, h2⟩ := Bool.and_eq_true_iff.mp h
    simp only [stepS] at P
    split at P
    · rename_i a ea
      refine wpAny_AugAssign_Name (H.less.read h1 ea (by simp) fun u hu => S.one H.less h2 P fun d σ₁ μ₁ s₁ v H₁ x₁ q₁ hv P₁ => ?_)
      split at P₁
      · rename_i b
        unfold V at hv hu
        obtain ⟨t, rfl⟩ := hu
        obtain ⟨t', rfl⟩ := hv
        refine PyProof.Rows.iadd_int (Here.store (s := { s₁ with toks := s₁.toks + 1 }) (d := .int (a + b)) H₁ h1 (by unfold V; exact ⟨_, rfl⟩) fun h' t i e l => ?_)
        exact Post.now P₁ (s' := { s₁ with heap := h', toks := t }) i e ⟨rfl, rfl⟩ l
      · exact P₁.elim
    · exact P.elim
theorem sS_ex (S : Sound c n) {e : Ex} {st : Stmt} (H : Here c A (n + 1) f ρ σ μ s.heap) (h : chkS c f.sc f.slots (.ex e) st = true) (P : Post c f.fs [f.L] μ s E (kF c f Q) (stepS (c.run n) (.ex e) ρ σ)) : wpAny c.M A (exec st f.env) Q E s := by
  unfold chkS at h
  replace h := wExpr_inv h
  obtain ⟨_, _, rfl, h⟩ := h
  · exact wpAny_Expr_any (S.one H.less h P fun d σ₁ μ₁ s₁ v H₁ x₁ q₁ hv P₁ => Post.next P₁ H₁) (by unfold interactive; show (f.sc.kind == .module && _) = false; rw [H.kind]; rfl) (swap_off h)
theorem sS_ret (S : Sound c n) {e : Ex} {st : Stmt} (H : Here c A (n + 1) f ρ σ μ s.heap) (h : chkS c f.sc f.slots (.ret e) st = true) (P : Post c f.fs [f.L] μ s E (kF c f Q) (stepS (c.run n) (.ret e) ρ σ)) : wpAny c.M A (exec st f.env) Q E s := by
  replace h := inv_ret h
  obtain ⟨_, _, rfl, h⟩ := h
  · exact wpAny_Return_some (S.one H.less h P fun d σ₁ μ₁ s₁ v H₁ x₁ q₁ hv P₁ => Post.retv P₁ H₁ hv)
theorem sS_ifs (S : Sound c n) {t : Ex} {a b : List St} {st : Stmt} (H : Here c A (n + 1) f ρ σ μ s.heap) (h : chkS c f.sc f.slots (.ifs t a b) st = true) (P : Post c f.fs [f.L] μ s E (kF c f Q) (stepS (c.run n) (.ifs t a b) ρ σ)) : wpAny c.M A (exec st f.env) Q E s := by
  unfold chkS at h
  replace h := wIf_inv h
  obtain ⟨_, _, _, _, rfl, h⟩ := h
  · obtain ⟨h, h3⟩ := Bool.and_eq_true_iff.mp h
    obtain ⟨h1, h2⟩ := Bool.and_eq_true_iff.mp h
    refine wpAny_If (S.test H.less h1 P fun b σ₁ μ₁ s₁ H₁ x₁ q₁ P₁ => ?_)
    cases b with
    | true => exact S.Ss H₁ h2 P₁
    | false => exact S.Ss H₁ h3 P₁
theorem fits_loop (hfr : A.frames = some f.fs) : Fits c f.fs E (notedBy c.M A f.env fun e s' => cameBackBy c.M A f.env E e s') := fun t e s' x hh =>
  exn_note hfr rfl x fun h' x' n' k' => exn_back (s := { s' with heap := h' }) rfl x' n' fun h'' x'' k'' => hh { s' with heap := h'' } x'' (k'.trans k'') ⟨rfl, rfl⟩
theorem sW (S : Sound c n) {t : Ex} {b : List St} {te : Expr} {bs : List Stmt} (H : Here c A (n + 1) f ρ σ μ s.heap) (h1 : chkE c f.sc f.slots t te = true) (h2 : chkSs c f.sc f.slots b bs = true)
    (P : Post c f.fs [f.L] μ s E (kF c f Q) (c.run (n + 1) (.S (.whl t b) ρ) σ)) : codeAny c.M A (.whileLoop te bs [] f.env) (fun r s' => match r with | .ok fl => Q fl s' | .error e => cameBackBy c.M A f.env E e s') s := by
  refine codeAny_of_tree ?_
  rw [Around.under_of_weight rfl]
  show wpAny _ A ((whileTurn te bs [] f.env).onRaise (fun x => do noteFrame x f.env; theTreesLotGoes x)) _ _ s
  refine wpAny_noted ?_
  have F := fits_loop (c := c) (E := E) H.frames
  simp only [whileTurn]
  refine wpAny_bind (S.testE H.less F h1 P fun b' σ₁ μ₁ s₁ H₁ x₁ q₁ P₁ => ?_)
  cases b' with
  | true =>
    simp only [if_true]
    refine wpAny_bind (S.block H₁ F h2 P₁ (fun ρ' σ' μ' s' H' x q P' => ?_) fun d ρ' σ' μ' s' v H' x q hv P' => ?_)
    · exact wpAny_pure (And.intro rfl (S.W H' h1 h2 P'))
    · exact wpAny_pure (Post.retv P' H' hv)
  | false =>
    simp only [Bool.false_eq_true, if_false]
    exact wpAny_bind (wpAny_execs_nil (wpAny_pure (Post.next P₁ H₁)))
theorem sS_whl {t : Ex} {b : List St} {st : Stmt} (W : ∀ {te : Expr} {bs : List Stmt}, chkE c f.sc f.slots t te = true → chkSs c f.sc f.slots b bs = true → codeAny c.M A (.whileLoop te bs [] f.env) (fun r s' => match r with | .ok fl => Q fl s' | .error e => cameBackBy c.M A f.env E e s') s)
    (h : chkS c f.sc f.slots (.whl t b) st = true) : wpAny c.M A (exec st f.env) Q E s := by
  replace h := inv_whl h
  obtain ⟨_, _, _, rfl, h⟩ := h
  obtain ⟨h1, h2⟩ := Bool.and_eq_true_iff.mp h
  exact wpAny_While (W h1 h2)
end
end Mine
-- T3
open PySem PySem.W PyProof.Rows PySem.Calls
namespace Mine

theorem fm_congr {α β : Type} {f g : α → Option β} : ∀ {l : List α}, (∀ x ∈ l, f x = g x) → l.filterMap f = l.filterMap g
  | [], _ => rfl
  | x :: l, h => by rw [List.filterMap_cons, List.filterMap_cons, h x (.head _), fm_congr fun y m => h y (.tail _ m)]
theorem zip_filterMap {α : Type} : ∀ {names : List Str} {vs : List α}, names.Nodup → names.length = vs.length → names.filterMap (fun n => ((names.zip vs).lookup n).map (n, ·)) = names.zip vs
  | [], vs, _, _ => by cases vs <;> rfl
  | x :: l, [], _, e => nomatch e
  | x :: l, v :: vs, nd, e => by
    obtain ⟨nx, nl⟩ := List.nodup_cons.mp nd
    have e : l.length = vs.length := by simpa using e
    rw [List.zip_cons_cons, List.filterMap_cons]
    have h0 : (((x, v) :: l.zip vs).lookup x).map (x, ·) = some (x, v) := by simp [List.lookup]
    rw [h0]
    show (x, v) :: _ = _
    congr 1
    refine Eq.trans ?_ (zip_filterMap nl e)
    refine fm_congr fun n hn => ?_
    have : (n == x) = false := by
      cases q : n == x with
      | false => rfl
      | true => rw [eq_of_beq q] at hn; exact absurd hn nx
    rw [List.lookup_cons, this]
theorem zip_some {α : Type} : ∀ {names : List Str} {vs : List α}, names.length = vs.length → ∀ n ∈ names, ((names.zip vs).lookup n).isNone = false
  | [], _, _, _, h => nomatch h
  | x :: l, [], e, _, _ => nomatch e
  | x :: l, v :: vs, e, n, h => by
    rw [List.zip_cons_cons, List.lookup_cons]
    cases q : n == x with
    | true => rfl
    | false =>
      cases h with
      | head => simp at q
      | tail _ h => exact zip_some (by simpa using e) n h

theorem binds_plain {fd : FuncData} {vs : List Value} {names : List Str} (h1 : fd.params.posonlyargs = []) (h2 : fd.params.args.map (·.arg) = names) (h3 : fd.params.kwonlyargs = []) (h4 : fd.params.vararg = none) (h5 : fd.params.kwarg = none) (h6 : fd.defaults = .none)
    (nd : names.Nodup) (e : names.length = vs.length) : bindArgs fd ⟨vs, []⟩ = pure (names.zip vs) := by
  obtain ⟨n, q, ps, b, sc, g, cl, df, kd, doc, pm, an, code, ct, bi⟩ := fd
  obtain ⟨po, ar, va, ko, kds, kw, ds⟩ := ps
  cases h1; cases h3; cases h4; cases h5; cases h6; cases h2
  have c1 : ¬ ((decide (vs.length > (List.map (fun x : Arg => x.arg) [] ++ List.map (fun x : Arg => x.arg) ar).length) && Option.isNone (none : Option Arg)) = true) := by
    simp only [List.map_nil, List.nil_append, e, gt_iff_lt, Nat.lt_irrefl, decide_false, Bool.false_and, Bool.false_eq_true, not_false_eq_true]
  refine (if_neg c1).trans ?_
  generalize hk : (List.map (fun x : Arg => x.arg) ar).length - (List.drop (([] : List Value).length - (List.map (fun x : Arg => x.arg) ar).length) ([] : List Value)).length = k
  have hk' : k = (List.map (fun x : Arg => x.arg) ar).length := by rw [← hk, List.drop_nil]; rfl
  have c2 : ¬ ((!(((List.map (fun x : Arg => x.arg) ar).take k).filter fun n => (((List.map (fun x : Arg => x.arg) ar).zip vs).lookup n).isNone).isEmpty) = true) := by
    rw [hk', List.take_length, List.filter_eq_nil_iff.mpr fun n hn => by simp [zip_some e n hn]]
    decide
  subst hk
  refine (if_neg c2).trans ?_
  have z : List.zip (List.drop ((List.map (fun x : Arg => x.arg) ar).length - (List.drop (([] : List Value).length - (List.map (fun x : Arg => x.arg) ar).length) ([] : List Value)).length) (List.map (fun x : Arg => x.arg) ar)) (List.drop (([] : List Value).length - (List.map (fun x : Arg => x.arg) ar).length) ([] : List Value)) = [] := by
    rw [List.drop_nil, List.zip_nil_right]
  have last : List.filterMap (fun n => (((List.map (fun x : Arg => x.arg) ar).zip vs).lookup n).map (n, ·)) (List.map (fun x : Arg => x.arg) ar ++ []) = (List.map (fun x : Arg => x.arg) ar).zip vs := by
    rw [List.append_nil]; exact zip_filterMap nd e
  refine Eq.trans ?_ (congrArg pure last)
  refine (congrArg (fun l => Bind.bind (forIn l _ _) _) z).trans ?_
  rfl

noncomputable def chkP : List Txt → List Arg → Bool
  | [], [] => true
  | x :: xs, a :: as => seqS a.arg x && chkP xs as
  | _, _ => false
noncomputable def nodupT : List Txt → Bool
  | [] => true
  | x :: l => !(hasL l x) && nodupT l
noncomputable def slotOk (sc : Scope) : List Txt → Bool
  | [] => true
  | x :: l => decide (sc.names.lookup (sOf x) = some .local) && !(sOf x == ("__debug__" : Str)) && slotOk sc l
noncomputable def noCell : List (Str × NameKind) → Bool
  | [] => true
  | x :: l => (match x.2 with | .cell => false | _ => true) && noCell l
/-- a plain function of the text: its head -/
noncomputable def chkHead (c : Cx) (fd : FuncData) (n : Nat) (sl : List Txt) : Bool :=
  Nat.beq fd.globals mainGlobals && fd.closure.isEmpty && Nat.beq fd.builtins builtinsNs && codeIn c.K fd.code fd.qualname && fd.params.posonlyargs.isEmpty && fd.params.kwonlyargs.isEmpty && fd.params.vararg.isNone && fd.params.kwarg.isNone &&
  (match fd.defaults with | .none => true | _ => false) && chkP (sl.take n) fd.params.args && Nat.ble n sl.length && nodupT sl && slotOk fd.scope sl && noCell fd.scope.names &&
  (match fd.scope.kind with | .function => true | _ => false) && !fd.scope.isCoroutine && !fd.scope.isGenerator
structure Head (c : Cx) (fd : FuncData) (n : Nat) (sl : List Txt) : Prop where
  glob : fd.globals = mainGlobals
  clo : fd.closure = []
  built : fd.builtins = builtinsNs
  code : codeIn c.K fd.code fd.qualname = true
  pos : fd.params.posonlyargs = []
  kwo : fd.params.kwonlyargs = []
  var : fd.params.vararg = none
  kwa : fd.params.kwarg = none
  dfl : fd.defaults = .none
  args : fd.params.args.map (·.arg) = (sl.take n).map sOf
  le : n ≤ sl.length
  nodup : sl.Nodup
  loc : ∀ x ∈ sl, fd.scope.names.lookup (sOf x) = some .local ∧ (sOf x == ("__debug__" : Str)) = false
  cell : ∀ x ∈ fd.scope.names, x.2 ≠ .cell
  kind : fd.scope.kind = .function
  co : fd.scope.isCoroutine = false
  gen : fd.scope.isGenerator = false
theorem hasL_iff : ∀ {l : List Txt} {x : Txt}, hasL l x = true ↔ x ∈ l
  | [], x => by simp [hasL]
  | y :: l, x => by
    unfold hasL
    cases q : beqL y x with
    | true => simp [beqL_iff.mp q]
    | false =>
      have : ¬ y = x := fun e => by rw [beqL_iff.mpr e] at q; cases q
      have : ¬ x = y := fun e => this e.symm
      simp [hasL_iff, this]
theorem chkP_iff : ∀ {l : List Txt} {as : List Arg}, chkP l as = true → as.map (·.arg) = l.map sOf
  | [], [], _ => rfl
  | x :: xs, a :: as, h => by
    unfold chkP at h
    obtain ⟨h1, h2⟩ := Bool.and_eq_true_iff.mp h
    rw [List.map_cons, List.map_cons, seqS_iff.mp h1, chkP_iff h2]
  | [], _ :: _, h => nomatch h
  | _ :: _, [], h => nomatch h
theorem nodupT_iff : ∀ {l : List Txt}, nodupT l = true → l.Nodup
  | [], _ => List.nodup_nil
  | x :: l, h => by
    unfold nodupT at h
    obtain ⟨h1, h2⟩ := Bool.and_eq_true_iff.mp h
    refine List.nodup_cons.mpr ⟨fun m => ?_, nodupT_iff h2⟩
    rw [hasL_iff.mpr m] at h1; cases h1
theorem slotOk_iff {sc : Scope} : ∀ {l : List Txt}, slotOk sc l = true → ∀ x ∈ l, sc.names.lookup (sOf x) = some .local ∧ (sOf x == ("__debug__" : Str)) = false
  | [], _, _, m => nomatch m
  | y :: l, h, x, m => by
    unfold slotOk at h
    obtain ⟨h, h3⟩ := Bool.and_eq_true_iff.mp h
    obtain ⟨h1, h2⟩ := Bool.and_eq_true_iff.mp h
    cases m with
    | head => exact ⟨of_decide_eq_true h1, by simpa using h2⟩
    | tail _ m => exact slotOk_iff h3 x m
theorem noCell_iff : ∀ {l : List (Str × NameKind)}, noCell l = true → ∀ x ∈ l, x.2 ≠ .cell
  | [], _, _, m => nomatch m
  | y :: l, h, x, m => by
    unfold noCell at h
    obtain ⟨h1, h2⟩ := Bool.and_eq_true_iff.mp h
    cases m with
    | head => intro q; rw [q] at h1; cases h1
    | tail _ m => exact noCell_iff h2 x m
theorem chkHead_iff {c : Cx} {fd : FuncData} {n : Nat} {sl : List Txt} (h : chkHead c fd n sl = true) : Head c fd n sl := by
  unfold chkHead at h
  simp only [Bool.and_eq_true] at h
  obtain ⟨⟨⟨⟨⟨⟨⟨⟨⟨⟨⟨⟨⟨⟨⟨⟨h1, h2⟩, h3⟩, h4⟩, h5⟩, h6⟩, h7⟩, h8⟩, h9⟩, h10⟩, h11⟩, h12⟩, h13⟩, h14⟩, h15⟩, h16⟩, h17⟩ := h
  refine ⟨Nat.eq_of_beq_eq_true h1, List.isEmpty_iff.mp h2, Nat.eq_of_beq_eq_true h3, h4, List.isEmpty_iff.mp h5, List.isEmpty_iff.mp h6, Option.isNone_iff_eq_none.mp h7, Option.isNone_iff_eq_none.mp h8, ?_, chkP_iff h10, Nat.le_of_ble_eq_true h11, nodupT_iff h12, slotOk_iff h13, noCell_iff h14, ?_, by simpa using h16, by simpa using h17⟩
  · split at h9
    · assumption
    · cases h9
  · split at h15
    · assumption
    · cases h15

theorem sOf_nodup : ∀ {l : List Txt}, l.Nodup → (l.map sOf).Nodup
  | [], _ => List.nodup_nil
  | x :: l, h => by
    obtain ⟨h1, h2⟩ := List.nodup_cons.mp h
    rw [List.map_cons]
    refine List.nodup_cons.mpr ⟨fun m => ?_, sOf_nodup h2⟩
    obtain ⟨y, hy, e⟩ := List.mem_map.mp m
    rw [sOf_inj e] at hy; exact h1 hy
theorem lookup_rev {α : Type} : ∀ {l : List (Str × α)} {k : Str} {v : α}, (l.map (·.1)).Nodup → (k, v) ∈ l → l.lookup k = some v
  | (k', v') :: l, k, v, nd, m => by
    obtain ⟨h1, h2⟩ := List.nodup_cons.mp nd
    rw [List.lookup_cons]
    cases m with
    | head => simp
    | tail _ m =>
      have : (k == k') = false := by
        cases q : k == k' with
        | false => rfl
        | true => rw [eq_of_beq q] at m; exact absurd (List.mem_map_of_mem m) h1
      rw [this]
      exact lookup_rev h2 m
theorem nth_zip {α β : Type} : ∀ {l : List α} {m : List β} {i : Nat} {x : α} {y : β}, nth l i = some x → nth m i = some y → (x, y) ∈ l.zip m
  | _ :: _, _ :: _, 0, _, _, e1, e2 => by cases e1; cases e2; exact .head _
  | _ :: l, _ :: m, i + 1, _, _, e1, e2 => .tail _ (nth_zip (i := i) e1 e2)
theorem nth_take {α : Type} {l : List α} {n i : Nat} {x : α} (h : nth l i = some x) (q : i < n) : nth (l.take n) i = some x := by
  rw [nth_eq] at h ⊢
  rw [List.getElem?_take, if_pos q]; exact h
theorem nth_map {α β : Type} {f : α → β} {l : List α} {i : Nat} {x : α} (h : nth l i = some x) : nth (l.map f) i = some (f x) := by
  rw [nth_eq] at h ⊢
  rw [List.getElem?_map, h]; rfl
theorem blanks_nth : ∀ {n i : Nat} {d : D}, nth (blanks n) i = some d → d = .unb
  | 0, _, _, e => nomatch e
  | n + 1, 0, _, e => by cases e; rfl
  | n + 1, i + 1, _, e => blanks_nth (n := n) (i := i) e
theorem blanks_len : ∀ n, (blanks n).length = n
  | 0 => rfl
  | n + 1 => by simp [blanks, blanks_len n]

structure Ok2 (c : Cx) : Prop extends Ok c where
  lim : c.base.NoLimit

/-- where a call may begin -/
structure Call0 (c : Cx) (A : Around) (n : Nat) (fs : List Env) (σ : Sg) (μ : List Addr) (h : Heap) : Prop where
  inv : Inv c h σ μ
  frames : A.frames = some fs
  ff : h.FunFrames c.base fs
  off : ∀ e ∈ fs, ∀ b, e.frame = some b → b ∉ μ
  handled : A.handled = none
  depth : A.depth + n < recursionLimit
  units : A.units + 100 + 4 * n < cLine
  baseLt : c.base.objs.size ≤ h.objs.size
theorem Here.call0 {c : Cx} {A : Around} {n : Nat} {f : Fx} {ρ : List D} {σ : Sg} {μ : List Addr} {h : Heap} (H : Here c A n f ρ σ μ h) : Call0 c A n f.fs σ μ h := ⟨H.inv, H.frames, H.ff, H.off, H.handled, H.depth, H.units, H.baseLt⟩
section
variable {c : Cx} {A : Around} {n : Nat} {fs : List Env} {ρ : List D} {σ : Sg} {μ N : List Addr} {s : Shared} {E : Value → Shared → Prop} {k : Ans → Sg → List Addr → Shared → Prop} {Q : Value → Shared → Prop}

/-- a function of the text is entered -/
theorem enters (O : Ok2 c) (H : Call0 c A (n + 1) fs σ μ s.heap) {a : Addr} {o : Obj} {fd : FuncData} {body : List Stmt} {sl : List Txt} {ds : List D} {vs : List Value} (ho : c.K.lookup a = some o) (hd : o.data = .func fd) (hb : fd.body = .stmts body)
    (hh : Head c fd ds.length sl) (hv : Vs c.fa μ s.heap ds vs) {R : Result → Shared → Prop}
    (h : ∀ (f' : Fx) (h₀ : Heap) (t : Nat), f'.sc = fd.scope → f'.slots = sl → f'.outer = fs → Here c (A.deeper f'.env) n f' (ds ++ blanks (sl.length - ds.length)) σ μ h₀ → (∀ b o, s.heap.get? b = some o → h₀.get? b = some o) → s.heap.get? f'.L = none → h₀.Ns f'.L (fun x => (((sl.take ds.length).map sOf).zip vs).reverse.lookup x) →
      wpAny c.M (A.deeper f'.env) (execs body f'.env) (fun fl s' => R (.ok (.ret (match fl with | .ret v => v | _ => .none))) s')
        (fun e s' => wpAny c.M (A.deeper f'.env) (leaving f'.env e) (fun _ s'' => R (.error e) s'') (fun e' s'' => R (.error e') s'') s') { s with heap := h₀, toks := t }) :
    codeAny c.M A (.call (.ref a) ⟨vs, []⟩) R s := by
  have X : c.K.In s.heap := O.X.keeps H.inv.stays
  have nd := sOf_nodup (hh.nodup.sublist (List.take_sublist ds.length sl))
  have hlen : ((sl.take ds.length).map sOf).length = vs.length := by rw [List.length_map, List.length_take, hv.length]; exact Nat.min_eq_left hh.le
  have henv : ∀ L, callEnv fd L a = (Fx.mk fd.qualname fd.scope L a fd.code sl fs).env := fun L => by
    show Env.mk .. = Env.mk ..
    rw [hh.glob, hh.clo, hh.built]
  have hnone : s.heap.get? s.heap.objs.size = none := by
    cases q : s.heap.get? s.heap.objs.size with
    | none => rfl
    | some o => exact absurd (Heap.lt_size q) (Nat.lt_irrefl _)
  refine codeAny_call_def (fd := fd) (body := body) (binds := ((sl.take ds.length).map sOf).zip vs) (by have := H.depth; omega) (X _ _ ho) hd (O.lim.keeps H.inv.stays) (codeRec_of X hh.code) hb
    (BindsTo.of_eq (binds_plain hh.pos hh.args hh.kwo hh.var hh.kwa hh.dfl nd hlen)) hh.cell (fun x m => ?_) (fun h₀ hns hk => ?_) hh.co hh.gen hh.kind
  · obtain ⟨y, hy, e⟩ := List.mem_map.mp (List.of_mem_zip (a := x.1) (b := x.2) m).1
    rw [← e]; exact (hh.loc y (List.take_subset _ _ hy)).1
  · rw [henv]
    have K0 : Keep [] s.heap h₀ := Keep.of_keeps [] hk
    refine h ⟨fd.qualname, fd.scope, s.heap.objs.size, a, fd.code, sl, fs⟩ h₀ _ rfl rfl rfl ⟨⟨⟨_, hns, fun i d nm e1 e2 e3 => ?_⟩, ?_⟩, ?_, Around.frames_deeper H.frames, ?_, fun e he b hb m => ?_, H.handled, ?_, ?_, H.baseLt, hh.kind, hh.loc, hh.nodup⟩ hk hnone hns
    · have li : i < ds.length := by
        refine Nat.lt_of_not_le fun le => e2 ?_
        have : i = ds.length + (i - ds.length) := by omega
        rw [this, nth_append_len] at e1
        exact blanks_nth e1
      obtain ⟨x, ex⟩ := nth_some_of_lt li
      have := nth_append (m := blanks (sl.length - ds.length)) ex
      rw [e1] at this; cases this
      obtain ⟨v, ev, hv'⟩ := hv.nth ex
      refine ⟨v, ?_, V.mono (List.prefix_refl _) K0.tup _ _ hv'⟩
      refine lookup_rev ?_ (List.mem_reverse.mpr (nth_zip (nth_map (nth_take e3 li)) ev))
      rw [List.map_reverse, List.map_fst_zip (by omega)]
      exact List.pairwise_reverse.mpr (List.Pairwise.imp (fun h => Ne.symm h) nd)
    · rw [List.length_append, blanks_len]
      have := hh.le
      show _ = sl.length
      omega
    · exact H.inv.keep K0 (fun _ _ => List.not_mem_nil) (fun _ m => absurd m List.not_mem_nil)
    · exact Heap.FunFrames.cons (m := _) (by show fd.scope.kind ≠ .module; rw [hh.kind]; decide) rfl hns H.inv.stays.fresh (H.ff.of_keeps fun b o e _ => ⟨o, hk b o e, rfl⟩)
    · cases he with
      | head =>
        cases hb
        exact Nat.lt_irrefl _ (H.inv.lt m)
      | tail _ he => exact H.off e he b hb m
    · show A.depth + 1 + n < recursionLimit
      have := H.depth; omega
    · show A.units + 3 + 100 + 4 * n < cLine
      have := H.units; omega
end
end Mine
-- T4
open PySem PySem.W PyProof.Rows PySem.Calls
namespace Mine

noncomputable def chkFn (c : Cx) (k : Nat) (fn : Fn) : Bool := match fn.bd with
  | .body ss => (match c.K.lookup (c.fa k) with
    | some o => (match o.data with
      | .func fd => (match fd.body with
        | .stmts body => chkHead c fd fn.arity fn.slots && chkSs c fd.scope fn.slots ss body
        | _ => false)
      | _ => false)
    | none => false)
  | _ => true
theorem chkFn_body {c : Cx} {k : Nat} {fn : Fn} {ss : List St} (h : chkFn c k fn = true) (e : fn.bd = .body ss) : ∃ o fd body, c.K.lookup (c.fa k) = some o ∧ o.data = .func fd ∧ fd.body = .stmts body ∧ Head c fd fn.arity fn.slots ∧ chkSs c fd.scope fn.slots ss body = true := by
  unfold chkFn at h
  rw [e] at h
  dsimp only at h
  split at h
  · rename_i o ho
    split at h
    · rename_i fd hd
      split at h
      · rename_i body hb
        obtain ⟨h1, h2⟩ := Bool.and_eq_true_iff.mp h
        exact ⟨o, fd, body, ho, hd, hb, chkHead_iff h1, h2⟩
      · cases h
    · cases h
  · cases h

structure Ok3 (c : Cx) : Prop extends Ok2 c where
  fns : ∀ k fn, nth c.F k = some fn → chkFn c k fn = true
  hand : ∀ {A : Around} {n : Nat} {f : Fx} {ρ : List D} {σ : Sg} {μ N : List Addr} {s : Shared} {E : Value → Shared → Prop} {Q : Value → Shared → Prop} {k : Nat} {fn : Fn} {l : Txt} {v : Value}, nth c.F k = some fn → fn.bd = .hand → Here c A (n + 1) f ρ σ μ s.heap →
    small l.length = true → V c.fa μ s.heap (.str l) v → Post c f.fs N μ s E (kV c Q) (.ok (.v (.str (cap l))) σ) → wpAny c.M A (call (.ref (c.fa k)) [v]) Q E s

theorem KeepS.into {N μ : List Addr} {L : Addr} {h h₀ h' : Heap} (hk : ∀ b o, h.get? b = some o → h₀.get? b = some o) (e : h.get? L = none) (k : KeepS ([L] ++ μ) h₀ h') : KeepS (N ++ μ) h h' :=
  ((Keep.of_keeps ([L] ++ μ) hk).s.trans k).weak fun a m => by
    rcases List.mem_append.mp m with q | q
    · rw [List.mem_singleton.mp q]; exact .inr e
    · exact .inl (List.mem_append_right _ q)
theorem Ext.into {N μ μ' : List Addr} {L : Addr} {h h₀ h' : Heap} (hk : ∀ b o, h.get? b = some o → h₀.get? b = some o) (e : h.get? L = none) (x : Ext [L] μ h₀ μ' h') : Ext N μ h μ' h' :=
  Ext.trans (h' := h₀) (N' := [L]) ⟨List.prefix_refl _, fun _ m => .inl m, Keep.of_keeps _ hk⟩ x fun a m => by rw [List.mem_singleton.mp m]; exact .inr e
section
variable {c : Cx} {A : Around} {n : Nat} {f : Fx} {ρ : List D} {σ : Sg} {μ N : List Addr} {s : Shared} {E : Value → Shared → Prop} {k : Ans → Sg → List Addr → Shared → Prop} {Q : Value → Shared → Prop}
theorem sC (O : Ok3 c) (S : Sound c n) (H : Here c A (n + 1) f ρ σ μ s.heap) {k : Nat} {ds : List D} {vs : List Value} (hv : Vs c.fa μ s.heap ds vs) (P : Post c f.fs N μ s E (kV c Q) (c.run (n + 1) (.C k ds) σ)) : wpAny c.M A (call (.ref (c.fa k)) vs) Q E s := by
  have P : Post c f.fs N μ s E (kV c Q) (step c.F c.W c.k0 (c.run n) (.C k ds) σ) := P
  unfold step at P
  dsimp only at P
  split at P
  · rename_i fn hfn
    split at P
    · rename_i ha
      have ha : ds.length = fn.arity := Nat.eq_of_beq_eq_true ha
      split at P
      · rename_i ss hss
        obtain ⟨o, fd, body, ho, hd, hb, hh, hc⟩ := chkFn_body (O.fns k fn hfn) hss
        rw [← ha] at hh P
        refine wpAny_call (enters O.toOk2 H.call0 ho hd hb hh hv fun f' h₀ t e1 e2 e3 H' hk hn _ => ?_)
        refine S.Ss (Q := fun fl s' => Q (match fl with | .ret v => v | _ => .none) s') H' (by rw [e1, e2]; exact hc) ?_
        generalize c.run n (.Ss ss (ds ++ blanks (fn.slots.length - ds.length))) σ = r at P
        cases r with
        | stuck => exact P.elim
        | exc t σ' =>
          intro s' e x ks q
          rw [show f'.fs = f'.env :: f'.outer from rfl, e3] at x
          exact exn_leaves (Around.frames_deeper H.frames) rfl x fun h' x' k' => P { s' with heap := h' } e x' (KeepS.into hk hn (ks.trans (k'.weak fun _ z => absurd z List.not_mem_nil))) ⟨q.gens, q.os⟩
        | ok a σ' =>
          cases a with
          | f fl ρ' =>
            intro μ' s' i x q l
            have x' : Ext N μ s.heap μ' s'.heap := Ext.into hk hn x
            cases fl with
            | next => exact P μ' s' i x' ⟨q.gens, q.os⟩ .none (by unfold V; rfl)
            | ret d => exact fun v hv => P μ' s' i x' ⟨q.gens, q.os⟩ v hv
          | _ => exact P.elim
      · rename_i hss
        split at P
        · rename_i l
          unfold Vs at hv
          obtain ⟨v, vs', rfl, h1, h2⟩ := hv
          unfold Vs at h2
          subst h2
          split at P
          · rename_i hs
            exact O.hand hfn hss H hs h1 P
          · exact P.elim
        · exact P.elim
      · exact P.elim
    · exact P.elim
  · exact P.elim
end
end Mine
-- T5
open PySem PySem.W PyProof.Rows PySem.Calls
namespace Mine
section
variable {prog : Program} {w : World} {A : Around} {E : Value → Shared → Prop} {s : Shared}
noncomputable def IterTy (ty : String) : Prop := ty = "str_ascii_iterator" ∨ ty = "str_iterator"
theorem iter_str {x : Str} {t : Tok} {Q : Value → Shared → Prop} (h : ∀ ty, IterTy ty → Q (.ref s.heap.objs.size) { s with heap := s.heap.push { cls := .type ty, data := .fields #[.str x t, .int 0 0] } }) :
    wpAny (model prog w) A (pyIter (.str x t)) Q E s := by
  cases ha : x.cps.all (· < 128) with
  | true => exact wpAny_pyIter_ascii ha (h _ (.inl rfl))
  | false => exact wpAny_pyIter_wide ha (h _ (.inr rfl))
theorem next_item {ty : String} (q : IterTy ty) {it : Addr} {x : Str} {t : Tok} {i c : Nat} {Q : Option Value → Shared → Prop} (hit : s.heap.IsStrIter it ty x t i) (hx : x.cps[i]? = some c)
    (hQ : ∀ h', h'.IsStrIter it ty x t (i + 1) → Heap.SameBut it s.heap h' → Q (some (.str ⟨#[c]⟩ s.toks)) { s with heap := h', toks := s.toks + 1 }) :
    wpAny (model prog w) A (pyNext (.ref it)) Q E s := by
  rcases q with rfl | rfl
  · exact wpAny_pyNext_ascii_item hit hx hQ
  · exact wpAny_pyNext_wide_item hit hx hQ
theorem next_end {ty : String} (q : IterTy ty) {it : Addr} {x : Str} {t : Tok} {i : Nat} {Q : Option Value → Shared → Prop} (hh : A.handled = none)
    (hit : s.heap.IsStrIter it ty x t i) (hx : x.cps[i]? = none)
    (hQ : ∀ h', Heap.ExtBut it s.heap h' → Q none { s with heap := h' }) : wpAny (model prog w) A (pyNext (.ref it)) Q E s := by
  rcases q with rfl | rfl
  · exact wpAny_pyNext_ascii_end hh hit hx hQ
  · exact wpAny_pyNext_wide_end hh hit hx hQ
end

theorem Ext.poke {N μ μ' : List Addr} {h₁ h h' : Heap} {I : Addr} (x : Ext N μ h₁ μ' h) (e : h₁.get? I = none) (k : ∀ b o, b ≠ I → h.get? b = some o → h'.get? b = some o) : Ext N μ h₁ μ' h' := by
  have ne : ∀ b o, h₁.get? b = some o → b ≠ I := fun b o q z => by rw [z, e] at q; cases q
  refine ⟨x.pre, x.new, fun b o q => ?_, fun b o q nb => k b o (ne b o q) (x.keep.old b o q nb), fun b xs t => ?_⟩
  · obtain ⟨o', q'⟩ := x.keep.there b o q
    exact ⟨o', k b o' (ne b o q) q'⟩
  · obtain ⟨o, q, _⟩ := id t
    have nb := ne b o q
    obtain ⟨o', q', r⟩ := x.keep.tup b xs t
    exact ⟨o', k b o' nb q', r⟩
section
variable {c : Cx} {A : Around} {n : Nat} {f : Fx} {ρ : List D} {σ : Sg} {μ N : List Addr} {s : Shared} {E : Value → Shared → Prop} {k : Ans → Sg → List Addr → Shared → Prop} {Q : Flow → Shared → Prop}

theorem Here.poke {h h' : Heap} {I : Addr} (H : Here c A n f ρ σ μ h) (k : ∀ b o, b ≠ I → h.get? b = some o → h'.get? b = some o) (t : ∀ xs, ¬ IsTup h I xs) (nμ : I ∉ μ) (nf : ∀ e ∈ f.fs, e.frame ≠ some I) (nb : c.base.objs.size ≤ I) : Here c A n f ρ σ μ h' := by
  obtain ⟨m, hm, hl⟩ := H.loc
  have kt : ∀ b xs, IsTup h b xs → IsTup h' b xs := fun b xs ht => by
    obtain ⟨o, q, r⟩ := id ht
    exact ⟨o, k b o (fun z => t xs (z ▸ ht)) q, r⟩
  have nL : f.L ≠ I := fun z => nf f.env (.head _) (by rw [← z]; rfl)
  refine ⟨⟨⟨m, Heap.Ns.keep1 hm fun o e => k _ o nL e, fun i d nm e1 e2 e3 => ?_⟩, H.len⟩, H.inv.keep0 (N := [I]) (fun b o e m => k b o (fun z => m (by rw [z]; exact .head _)) e) kt (fun a m q => nμ (by rw [← List.mem_singleton.mp q]; exact m)) (fun a m => by rw [List.mem_singleton.mp m]; exact nb),
    H.frames, ff_mono H.ff fun e he b hb o ho hd => ⟨o, k b o (fun z => nf e he (z ▸ hb)) ho, hd⟩, H.off, H.handled, H.depth, H.units, H.above, H.kind, H.locals, H.nodup⟩
  obtain ⟨v, a, b⟩ := hl i d nm e1 e2 e3
  exact ⟨v, a, V.mono (List.prefix_refl _) kt _ _ b⟩
theorem noTup_fields {h : Heap} {I : Addr} {ty : String} {x : Str} {t : Tok} {i : Nat} (q : h.IsStrIter I ty x t i) (xs : Array Value) : ¬ IsTup h I xs := by
  obtain ⟨o, e, _, d⟩ := q
  rintro ⟨o', e', _, m, d'⟩
  rw [e] at e'; cases e'; rw [d] at d'; cases d'

theorem sS_fors (S : Sound c n) {x : Nat} {e : Ex} {b : List St} {st : Stmt} (H : Here c A (n + 1) f ρ σ μ s.heap) (h : chkS c f.sc f.slots (.fors x e b) st = true) (P : Post c f.fs [f.L] μ s E (kF c f Q) (stepS (c.run n) (.fors x e b) ρ σ)) : wpAny c.M A (exec st f.env) Q E s := by
  replace h := inv_fors h
  obtain ⟨_, _, _, _, _, rfl, h⟩ := h
  · rename_i id p1 e' b' pos
    obtain ⟨h, h3⟩ := Bool.and_eq_true_iff.mp h
    obtain ⟨h1, h2⟩ := Bool.and_eq_true_iff.mp h
    refine wpAny_For (S.one H.less h2 P fun d σ₁ μ₁ s₁ v H₁ x₁ q₁ hv P₁ => ?_) (by
      intro z
      cases e' with
      | Set a b p => exact absurd rfl (chkE_tag h2)
      | _ => rfl)
    cases d with
    | str l =>
      unfold V at hv
      obtain ⟨t, rfl⟩ := hv
      refine iter_str fun ty hty => ?_
      generalize hI : s₁.heap.objs.size = I
      have eI : s₁.heap.get? I = none := by
        cases q : s₁.heap.get? I with
        | none => rfl
        | some o => exact absurd (Heap.lt_size q) (hI ▸ Nat.lt_irrefl _)
      have nI : ∀ e ∈ f.fs, e.frame ≠ some I := fun e he q => absurd (H₁.lt e he I q) (hI ▸ Nat.lt_irrefl _)
      have bI : c.base.objs.size ≤ I := hI ▸ H₁.baseLt
      refine codeAny_forLoop (fun m s' => ∃ ρ' σ' μ' i, Here c A n f ρ' σ' μ' s'.heap ∧ s'.heap.IsStrIter I ty (sOf l) t i ∧ I ∉ μ' ∧ Ext [f.L] μ₁ s₁.heap μ' s'.heap ∧ Rest s₁ s' ∧ i ≤ l.length ∧ m = l.length - i ∧
        Post c f.fs [f.L] μ₁ s₁ E (kF c f Q) (forsR (fun ρ σ => c.run n (.Ss b ρ) σ) x (l.drop i) ρ' σ')) ?_ l.length ?_
      · rintro m s' ⟨ρ', σ', μ', i, H', hit, nμ, x', q', hi, rfl, P'⟩
        have L1 : (sOf l).cps[i]? = l[i]? := by show l.toArray[i]? = _; simp
        cases hc : l[i]? with
        | none =>
          have he : l.drop i = [] := List.drop_eq_nil_of_le (by simpa using hc)
          rw [he] at P'
          refine next_end hty H'.handled hit (by rw [L1, hc]) fun h' hx => wpAny_execs_nil ?_
          have H'' := H'.poke (fun b o nb eb => hx b o nb eb) (noTup_fields hit) nμ nI bI
          exact P' μ' { s' with heap := h' } H''.inv (x'.poke eI fun b o nb eb => hx b o nb eb) ⟨q'.gens, q'.os⟩ H''.toLoc
        | some ch =>
          have li : i < l.length := (List.getElem?_eq_some_iff.mp hc).1
          have hd : l.drop i = ch :: l.drop (i + 1) := by
            rw [List.drop_eq_getElem_cons li]
            congr 1
            exact (List.getElem?_eq_some_iff.mp hc).2
          rw [hd] at P'
          unfold forsR at P'
          refine next_item hty hit (by rw [L1, hc]) fun h₁ hit₁ hx => ?_
          have kx : ∀ b o, b ≠ I → s'.heap.get? b = some o → h₁.get? b = some o := fun b o nb eb => (hx.2 b nb).trans eb
          have H'' := H'.poke kx (noTup_fields hit) nμ nI bI
          refine wpAny_assign_Name (Here.store (s := { s' with heap := h₁, toks := s'.toks + 1 }) (d := .str [ch]) H'' h1 (by unfold V; exact ⟨_, rfl⟩) fun h₂ tk i₂ e₂ l₂ => ?_)
          have H₂ := H''.moveL i₂ e₂ l₂
          have x₂ : Ext [f.L] μ₁ s₁.heap μ' h₂ := (x'.poke eI kx).trans e₂ fun a m => .inl m
          refine S.Ss (s := { s' with heap := h₂, toks := tk }) H₂ h3 ?_
          generalize c.run n (.Ss b (put ρ' x (.str [ch]))) σ' = r at P'
          cases r with
          | stuck => exact P'.elim
          | exc t σ => exact P'.elim
          | ok a σ₃ =>
            cases a with
            | f fl ρ₃ =>
              intro μ₃ s₃ i₃ x₃ q₃ l₃
              have H₃ := H₂.moveL i₃ x₃ l₃
              have x₄ : Ext [f.L] μ₁ s₁.heap μ₃ s₃.heap := x₂.trans x₃ fun a m => .inl m
              have q₄ : Rest s₁ s₃ := q'.trans ⟨q₃.gens, q₃.os⟩
              cases fl with
              | next =>
                have nL : I ≠ f.L := fun z => nI f.env (.head _) (by rw [z]; rfl)
                obtain ⟨o, ho, r⟩ := hit₁
                have ho₂ : h₂.get? I = some o := e₂.keep.old I o ho fun m => by
                  rcases List.mem_append.mp m with m | m
                  · exact nL (List.mem_singleton.mp m)
                  · exact nμ m
                have nμ₃ : I ∉ μ₃ := fun m => by
                  rcases x₃.new I m with z | z
                  · exact nμ z
                  · rw [show h₂.get? I = none from z] at ho₂; cases ho₂
                refine ⟨l.length - (i + 1), by omega, ρ₃, σ₃, μ₃, i + 1, H₃, ⟨o, x₃.keep.old I o ho₂ fun m => ?_, r⟩, nμ₃, x₄, q₄, li, rfl, P'⟩
                rcases List.mem_append.mp m with m | m
                · exact nL (List.mem_singleton.mp m)
                · exact nμ m
              | ret d => exact fun v hv => P' μ₃ s₃ i₃ x₄ q₄ l₃ v hv
            | _ => exact P'.elim
      · have kp : ∀ b o, s₁.heap.get? b = some o → (s₁.heap.push { cls := .type ty, data := .fields #[.str (sOf l) t, .int 0 0] }).get? b = some o := fun b o e => Heap.get?_push_of_some _ e
        have X₁ : Ext [] μ₁ s₁.heap μ₁ (s₁.heap.push { cls := .type ty, data := .fields #[.str (sOf l) t, .int 0 0] }) := ⟨List.prefix_refl _, fun _ m => .inl m, Keep.of_keeps _ kp⟩
        refine ⟨ρ, σ₁, μ₁, 0, H₁.move (H₁.inv.keep (N := []) (Keep.of_keeps _ kp) (fun _ _ => List.not_mem_nil) fun _ m => absurd m List.not_mem_nil) X₁, ⟨_, hI ▸ Heap.get?_push_size _ rfl, rfl, rfl⟩, fun m => ?_, X₁.weak (fun _ m => absurd m List.not_mem_nil), ⟨rfl, rfl⟩, Nat.zero_le _, rfl, P₁⟩
        exact absurd (H₁.inv.lt m) (hI ▸ Nat.lt_irrefl _)
    | _ => exact P₁.elim
end
end Mine
-- X2
open PySem PySem.W PyProof.Rows PySem.Calls
namespace Mine
theorem slot_wd_get : Slot "wrapper_descriptor" "__get__" "wrapper_descriptor.__get__" := .of (owner := "wrapper_descriptor") (n := "__get__") (by rw [typeLookup_type, builtinLookup_eq_fast]; kernel_rfl) (by decide +kernel) (by decide +kernel) (by decide +kernel)
  (by first | exact .inl (by decide +kernel) | exact .inr (by decide +kernel)) (by rw [isSubtype_type]; kernel_rfl)
theorem entry_wd_get : entryFor table "wrapper_descriptor.__get__" = some Builtin.«wrapper_descriptor.__get__» := entryFor_of_tree (by kernel_rfl)
theorem args_wd (a b c : Value) : argsOk "wrapper_descriptor.__get__" ⟨[a, b, c], []⟩ := by unfold argsOk; kernel_rfl
theorem type_init : typeOf (.builtin "Exception.__init__") = pure (.type "wrapper_descriptor") := by show builtinType _ = _; rw [builtinType_eq_fast]; kernel_rfl
theorem own_init : classOwn (.type "Exception") "__init__" = pure (some (.builtin "Exception.__init__")) := by first | kernel_rfl | (show pure (builtinLookup _ _) = _; rw [builtinLookup_eq_fast]; kernel_rfl)
section
variable {prog : Program} {w : World} {M : Model} {A : Around} {E : Value → Shared → Prop} {h : Heap} {g : Array GenState} {d : Drawn} {t : Nat} {os : OsState}
theorem wd_get {x C : Addr} {o : Obj} {Q : Fin → Shared → Prop} (hx : h.get? x = some o) (hi : Looks (model prog w) h (isInstance (.ref x) (.type "Exception")) true)
    (hq : Q (.done (.ret (.ref h.objs.size))) ⟨h.push { cls := .type "method-wrapper", data := .fields #[.builtin "Exception.__init__", .ref x] }, g, d, t, os⟩) :
    wpAny (model prog w) A (Builtin.«wrapper_descriptor.__get__» ⟨[.builtin "Exception.__init__", .ref x, .ref C], []⟩) Q E ⟨h, g, d, t, os⟩ := by
  have e : Builtin.«wrapper_descriptor.__get__» ⟨[.builtin "Exception.__init__", .ref x, .ref C], []⟩ = ((do
    if !(← isInstance (.ref x) (.type "Exception")) then
      rule "descr.get.wrong-instance"
      raiseError "TypeError" s!"descriptor '{("__init__" : Str).toString}' for '{← typeName (.type "Exception")}' objects doesn't apply to a '{← typeNameOf (.ref x)}' object") : Sem Unit) >>= fun _ => (do ret (← newFields "method-wrapper" [.builtin "Exception.__init__", .ref x])) := by kernel_rfl
  rw [e]
  refine wpAny_bind (wpAny_bind (Looks.at hi ?_))
  simp only [Bool.not_true, Bool.false_eq_true, if_false]
  refine wpAny_pure ?_
  unfold newFields
  refine wpAny_bind (wpAny_newObj_type (wpAny_pure ?_) (by size_fits))
  exact hq

variable {nm q : Str} {C N x so : Addr} {bs : List Value} {hdct : Bool} {sn : List Str} {sub : List Value} {ab : Bool} {col : Option Bool} {dd : Option Addr} {k0 k1 k2 k3 k5 : Option Value} {newId : String}
noncomputable abbrev bmE : List Value := [.type "Exception", .type "BaseException", .type "object"]

theorem super_ga {o : Obj} {tk : Tok} {Q : Fin → Shared → Prop}
    (hC : h.get? C = some (excClassObj nm q C N bs bmE hdct sn sub ab col dd k0 k1 k2 k3 k5 newId)) (hx : h.get? x = some o) (hxc : o.cls = .ref C) (hxC : x ≠ C)
    (hso : h.get? so = some { cls := .type "super", dict := none, data := .fields #[.ref C, .ref x, .ref C], slots := #[] }) (hno : Looks (model prog w) h (opaqueClassAbove (.ref C)) none)
    (hq : Q (.done (.ret (.ref h.objs.size))) ⟨h.push { cls := .type "method-wrapper", data := .fields #[.builtin "Exception.__init__", .ref x] }, g, d, t, os⟩) :
    wpAny (model prog w) A (Builtin.«super.__getattribute__» ⟨[.ref so, .str "__init__" tk], []⟩) Q E ⟨h, g, d, t, os⟩ := by
  have hlk := slot_wd_get.lookup
  have hne : (Value.ref x == Value.ref C) = false := by simp [hxC]
  have hTf : (⟨h, g, d, t, os⟩ : Shared).TypeIs (.builtin "Exception.__init__") "wrapper_descriptor" := type_init
  have hdt : ({ cls := .type "super", dict := none, data := .fields #[.ref C, .ref x, .ref C], slots := #[] } : Obj).data = .fields #[.ref C, .ref x, .ref C] := rfl
  have f0 : (#[.ref C, .ref x, .ref C] : Array Value)[0]? = some (.ref C) := rfl
  have f1 : (#[.ref C, .ref x, .ref C] : Array Value)[1]? = some (.ref x) := rfl
  have f2 : (#[.ref C, .ref x, .ref C] : Array Value)[2]? = some (.ref C) := rfl
  have hl : ((Value.ref C :: bmE).dropWhile (· != .ref C)).drop 1 = bmE := by simp
  have hn : (("__init__" : Str) == ("__class__" : Str)) = false := by decide +kernel
  have hi : Looks (model prog w) h (isInstance (.ref x) (.type "Exception")) true := by
    intro A Q E s k hq
    obtain ⟨h', g', d', t', os'⟩ := s
    unfold isInstance
    refine wpAny_bind (wpAny_typeOf_ref (k _ _ hx) ?_)
    rw [hxc]
    refine wpAny_isSubtype_exc (k _ _ hC) ?_
    exact hq
  unfold Builtin.«super.__getattribute__»
  repeat (first
    | (with_reducible refine wpAny_field hso hdt f0 ?_) | (with_reducible refine wpAny_field hso hdt f1 ?_) | (with_reducible refine wpAny_field hso hdt f2 ?_)
    | (with_reducible refine ks_wpAny_notOpaque hno ?_)
    | (with_reducible refine wpAny_mroOf_exc hC ?_; rw [hl, List.forIn_cons])
    | (with_reducible refine wpAny_of_eq own_init ?_)
    | (with_reducible refine wpAny_typeOf hTf ?_)
    | (with_reducible refine wpAny_call_entry slot_wd_get hTf entry_wd_get ?_ (args_wd _ _ _))
    | (with_reducible refine wd_get hx hi ?_)
    | (with_reducible refine ⟨_, rfl, ?_⟩)
    | (simp only [hn, hne, Bool.or_false, Bool.false_eq_true, if_false])
    | wp_step
    | dsimp only)
  all_goals exact hq

theorem super_method {o : Obj} {pl : Sem Bool} {Q : Value × List Value → Shared → Prop}
    (hC : h.get? C = some (excClassObj nm q C N bs bmE hdct sn sub ab col dd k0 k1 k2 k3 k5 newId)) (hx : h.get? x = some o) (hxc : o.cls = .ref C) (hxC : x ≠ C)
    (hso : h.get? so = some { cls := .type "super", dict := none, data := .fields #[.ref C, .ref x, .ref C], slots := #[] }) (hno : Looks (model prog w) h (opaqueClassAbove (.ref C)) none)
    (hq : Q (.ref h.objs.size, []) ⟨h.push { cls := .type "method-wrapper", data := .fields #[.builtin "Exception.__init__", .ref x] }, g, d, t + 1, os⟩) :
    wpAny (model prog w) A (getMethod (.ref so) "__init__" pl) Q E ⟨h, g, d, t, os⟩ := by
  have hlk := F.ks_slot_super_ga.lookup
  have hcan := F.ks_canon_super_ga
  have hT : ∀ t', (⟨h, g, d, t', os⟩ : Shared).TypeIs (.ref so) "super" := fun _ => ⟨_, hso, rfl⟩
  unfold getMethod
  refine wpAny_bind (wpAny_specialOf (hT _) hlk ?_)
  show wpAny _ _ (if (Manifest.canonical "super.__getattribute__" != "object.__getattribute__") = true then _ else _) _ _ _
  rw [if_pos hcan]
  unfold getAttr getAttrBy
  refine wpAny_bind (wpAny_bind (wpAny_mkText (wpAny_holding (wpAny_bind (wpAny_typeOf (hT _) (wpAny_bind (wpAny_of_eq hlk ?_)))))))
  show wpAny _ _ (getAttrByItsOwn (.ref so) (.str "__init__" t) (.type "super") (.builtin "super.__getattribute__") true false) _ _ _
  unfold getAttrByItsOwn hookBefore callGetattribute boundAndCalled
  refine wpAny_bind (wpAny_of_eq (show (if onTheHeap (.type "super") then typeLookup (.type "super") "__getattr__" else pure none) = pure none from rfl) ?_)
  refine wpAny_bind (wpAny_attempt (wpAny_holding ?_))
  show wpAny _ _ (bindSpecial (.builtin "super.__getattribute__") (.ref so) >>= _) _ _ _
  refine wpAny_bind (wpAny_of_eq (F.ks_slot_super_ga.bind _) ?_)
  refine wpAny_mono (Q := fun v s' => v = .ref h.objs.size ∧ s' = ⟨h.push { cls := .type "method-wrapper", data := .fields #[.builtin "Exception.__init__", .ref x] }, g, d, t + 1, os⟩) (E := fun _ _ => False)
    (wpAny_call_entry F.ks_slot_super_ga (hT _) F.ks_entry_super_ga (super_ga hC hx hxc hxC hso hno ⟨_, rfl, rfl, rfl⟩) (F.ks_gaArgs_super _ _)) (fun v s' hv => ?_) fun _ _ z => z.elim
  obtain ⟨rfl, rfl⟩ := hv
  exact wpAny_pure (wpAny_pure hq)

theorem check_mw {v : Value} {o : Obj} {Q : Unit → Shared → Prop} (hC : h.get? C = some (excClassObj nm q C N bs bmE hdct sn sub ab col dd k0 k1 k2 k3 k5 newId)) (hx : h.get? x = some o) (hxc : o.cls = .ref C) (hq : Q () ⟨h, g, d, t, os⟩) : wpAny M A (checkBoundCall "Exception.__init__" ⟨[.ref x, v], []⟩) Q E ⟨h, g, d, t, os⟩ := by
  have Fx := F.excBase_Exception
  simp only [checkBoundCall, Fx.initKind, Fx.initRow]
  rw [if_pos (by decide)]
  repeat (first | (with_reducible refine wpAny_loadPart_at hx ?_; rw [hxc]) | with_reducible refine wpAny_loadPart_at hC ?_ | wp_step)
  exact hq
theorem call_mw {b : Addr} {o : Obj} {vs : Array Value} {v : Value} {Q : Value → Shared → Prop} (hC : h.get? C = some (excClassObj nm q C N bs bmE hdct sn sub ab col dd k0 k1 k2 k3 k5 newId)) (hxc : o.cls = .ref C) (hb : h.get? b = some { cls := .type "method-wrapper", data := .fields #[.builtin "Exception.__init__", .ref x] })
    (hx : h.get? x = some o) (hd : o.data = .fields vs) (hn : 0 < vs.size)
    (hq : ∀ h', h'.get? x = some { o with data := .fields (vs.setIfInBounds 0 (.ref h.objs.size)) } → (∀ b o, b ≠ x → h.get? b = some o → h'.get? b = some o) → Q .none ⟨h', g, d, t, os⟩) :
    wpAny (model prog w) A (call (.ref b) [v]) Q E ⟨h, g, d, t, os⟩ := by
  refine wpAny_call (codeAny_of_tree ?_)
  show wpAny _ A.in1 (callAny (.ref b) _) _ _ _
  unfold callAny
  refine wpAny_bind (wpAny_load hb ?_)
  show wpAny _ _ (checkBoundCall "Exception.__init__" ⟨[.ref x, v], []⟩ >>= _) _ _ _
  refine wpAny_bind (check_mw hC hx hxc ?_)
  refine wpAny_pure ⟨Code.quiet_builtin _ (by decide +kernel), codeAny_builtin F.excBase_Exception.initEntry ?_⟩
  unfold Builtin.«BaseException.__init__»
  have hx₁ : (h.push { cls := .type "tuple", data := .seq #[v] }).get? x = some o := Heap.get?_push_of_some _ hx
  have hu := Obj.data_mapFields hd (·.setIfInBounds 0 (Value.ref h.objs.size))
  show wpAny _ _ (newTuple [v] >>= _) _ _ _
  refine wpAny_bind (wpAny_newTuple ?_)
  unfold Builtin.BaseException.bexcPut
  obtain ⟨y, hy⟩ : ∃ y, vs[0]? = some y := ⟨vs[0], Array.getElem?_eq_getElem hn⟩
  have fin : ∀ A', wpAny (model prog w) A' (setField (.ref x) 0 (.ref h.objs.size)) (fun _ s' => ∃ h', s' = ⟨h', g, d, t, os⟩ ∧ Q .none ⟨h', g, d, t, os⟩) E ⟨h.push { cls := .type "tuple", data := .seq #[v] }, g, d, t, os⟩ := fun A' => by
    refine wpAny_setField hx₁ hd hn ⟨_, rfl, hq _ ?_ fun b o hb e => ?_⟩
    · rw [Heap.get?_update_self _ hx₁ (Obj.isFreed_of_fields hu)]
      obtain ⟨oc, od, odt, osl⟩ := o
      cases hd; rfl
    · exact (Heap.get?_update_other _ _ (Ne.symm hb)).trans (Heap.get?_push_of_some _ e)
  refine wpAny_bind (wpAny_bind (wpAny_field hx₁ hd hy (wpAny_bind (wpAny_mono (fin _) (fun _ s' z => ?_) fun _ _ e => e))))
  obtain ⟨h', rfl, z⟩ := z
  cases y <;> first | exact wpAny_pure (wpAny_pure z) | exact wpAny_letGo (wpAny_pure z)
end
end Mine
-- X3
open PySem PySem.W PyProof.Rows PySem.Calls
namespace Mine
open Builtin Builtin.ObjectAttr
section
variable {prog : Program} {w : World} {M : Model} {A : Around} {E : Value → Shared → Prop} {h : Heap} {g : Array GenState} {d : Drawn} {t : Nat} {os : OsState}
variable {nm q : Str} {C N x : Addr} {bs : List Value} {sn : List Str} {sub : List Value} {ab : Bool} {col : Option Bool} {dd : Option Addr} {k0 k1 k2 k3 k5 : Option Value} {newId : String} {mN : Str → Option Value} {name : Str} {v : Value} {bm : List Value} {B sa owner : String}
/-- the first field of an exception of an own class: its dict is made -/
theorem first_store {o : Obj} {vs : Array Value} {Q : Unit → Shared → Prop} (SF : StoreFacts B bm sa owner)
    (hC : h.get? C = some (excClassObj nm q C N bs bm true sn sub ab col dd k0 k1 k2 k3 k5 newId)) (hn : h.Ns N mN) (hns : mN "__setattr__" = none) (hna : mN name = none) (hB : typeLookup (.type B) name = pure none)
    (hx : h.get? x = some o) (hc : o.cls = .ref C) (hd : o.data = .fields vs) (hdn : o.dict = none)
    (hq : ∀ h' tk', h'.get? x = some { o with dict := some h.objs.size } → h'.Ns1 h.objs.size (fun y => if y = name then some v else none) → (∀ b ob, b ≠ x → h.get? b = some ob → h'.get? b = some ob) → Q () ⟨h', g, d, tk', os⟩) :
    wpAny (model prog w) A (setAttr (.ref x) name v) Q E ⟨h, g, d, t, os⟩ := by
  have f3 := SF.slot.bind (.ref x)
  have hpass := SF.passes (.ref x)
  unfold setAttr callSpecial? specialOf
  repeat (any_goals (first | assumption | (with_reducible refine wpAny_loadPart_at hx ?_; rw [hc]) | (with_reducible refine wpAny_typeLookup_exc hC hn SF.mro SF.slot.lookup ?_; rw [hns]) | wp_step))
  refine codeAny_call_builtin SF.slot.plain SF.entry (wpAny_check_sa SF hC hx hc ?_)
  unfold Builtin.«object.__setattr__»
  repeat (first | rw [refuse_eq] | (rw [refuseLoop_ref, hpass]) | (with_reducible refine wpAny_loadPart_at hx ?_; rw [hc]) | with_reducible refine wpAny_mroOf_exc hC ?_ | (with_reducible refine wpAny_typeLookup_exc hC hn SF.mro hB ?_; rw [hna]) | wp_step)
  rw [hdn, if_neg (by simp [typeHasDict])]
  split
  · rename_i z; cases z
  split
  · rename_i z; rw [hd] at z; cases z
  · have hx₁ : (h.push emptyDict).get? x = some o := Heap.get?_push_of_some _ hx
    have hxs : x ≠ h.objs.size := Nat.ne_of_lt (Heap.lt_size hx)
    refine wpAny_bind (wpAny_alloc' ?_)
    refine wpAny_bind (wpAny_update' hx₁ ?_)
    refine wpAny_pure ?_
    have hgd : ((h.push emptyDict).update x fun o => { cls := o.cls, dict := some h.objs.size, data := o.data, slots := o.slots }).get? h.objs.size = some emptyDict :=
      (Heap.get?_update_ne _ _ _ _ hxs.symm).trans (Heap.get?_push_at rfl rfl)
    have hnd : ((h.push emptyDict).update x fun o => { cls := o.cls, dict := some h.objs.size, data := o.data, slots := o.slots }).Ns h.objs.size (fun _ => none) := ⟨_, #[], _, hgd, rfl, fun e he => absurd he (by simp), fun _ => rfl⟩
    show wpAny _ _ (storeInDict h.objs.size (.str name _) name v) _ _ _
    unfold storeInDict newKeyGuard
    refine wpAny_bind (wpAny_pure (wpAny_bind (wpAny_nsSet1 (Heap.Ns1.of_empty hnd) fun h' hn' hs => ?_)))
    obtain ⟨oD, esD, epD, hoD, hdD, hcD⟩ := hn'.count (Within.cons name v Within.nil)
    refine wpAny_bind (wpAny_lookBehind hoD (by rw [hdD]; exact pastItsLine_dict (Nat.le_trans hcD (by rw [List.length_cons, List.length_nil, sizeLine_eq]; omega))) ?_)
    have hx' : h'.get? x = some { cls := o.cls, dict := some h.objs.size, data := o.data, slots := o.slots } := by
      refine (hs.2 x hxs).trans (Heap.get?_update_self _ hx₁ ?_)
      have hfr := (Heap.get?_some_iff.mp hx).2
      obtain ⟨oc, od, odt, osl⟩ := o
      cases odt <;> first | rfl | exact hfr
    wp_walk
    exact hq h' _ hx' hn' fun b ob hbx hb => (hs.2 b (Nat.ne_of_lt (Heap.lt_size hb))).trans ((Heap.get?_update_ne _ _ _ _ hbx).trans (Heap.get?_push_of_some _ hb))
end

/-- a new exception of the text's class, with its field `code` -/
noncomputable def Made (c : Cx) (t : Txt) (a : Addr) (h : Heap) : Prop :=
  ∃ oe vs da od tk, h.get? a = some oe ∧ oe.cls = .ref c.cB ∧ oe.data = .fields vs ∧ oe.dict = some da ∧ (h.get? da = some od ∧ (∀ vs, od.data ≠ .fields vs) ∧ lookIn (sOf codeName) od = some (some (.str (sOf t) tk))) ∧ 1 < vs.size ∧ vs[1]? = some .none
theorem lookIn_of {h : Heap} {a : Addr} {m : Str → Option Value} {k : Str} {v : Value} (x : h.Ns1 a m) (e : m k = some v) : ∃ od, h.get? a = some od ∧ (∀ vs, od.data ≠ .fields vs) ∧ lookIn k od = some (some v) := by
  obtain ⟨o, es, ep, ho, hd, _, _, hf⟩ := x
  refine ⟨o, ho, fun vs q => (by rw [hd] at q; cases q), ?_⟩
  have := hf k
  rw [e] at this
  unfold nsFind findBy at this
  unfold lookIn
  rw [hd]
  dsimp only
  rw [← Array.find?_toList] at this
  cases q : es.toList.find? (fun e => e.key.isStr k) with
  | none => rw [q] at this; cases this
  | some e' => rw [q] at this; cases this; rfl

noncomputable def bind3 (a b v : Value) : List (Str × Value) := [(("self" : Str), a), (("code" : Str), b), (("told" : Str), v)]
theorem bind3_1 (a b v : Value) : (bind3 a b v).reverse.lookup ("self" : Str) = some a := rfl
theorem bind3_2 (a b v : Value) : (bind3 a b v).reverse.lookup ("code" : Str) = some b := rfl
theorem bind3_3 (a b v : Value) : (bind3 a b v).reverse.lookup ("told" : Str) = some v := rfl
section
variable {c : Cx} {A : Around} {n : Nat} {f : Fx} {ρ : List D} {σ : Sg} {μ : List Addr} {s : Shared} {E : Value → Shared → Prop} {Q : Value → Shared → Prop}
variable {nm q : Str} {C N fI cc cda : Addr} {bs : List Value} {sn : List Str} {sub : List Value} {ab : Bool} {col : Option Bool} {dd : Option Addr} {k0 k1 k2 k3 k5 : Option Value} {oI oc occ : Obj} {fd : FuncData} {vs : Array Value} {file : Str} {tf : Tok} {ar : Arg} {cv1 : Value}
variable {q0 q1 q2 q3 r0 r1 r2 r3 : Pos}
theorem exc_call (O : Ok2 c) (H : Here c A n f ρ σ μ s.heap) (hd1 : A.depth + 1 < recursionLimit)
    (hC : c.K.lookup c.cB = some (excClassObj nm q c.cB N bs bmE true sn sub ab col dd k0 k1 k2 k3 k5 "Exception.__new__")) (hN : nsOkIn c.K N = true) (hi : nsIn c.K N "__init__" = some (some (.ref fI)))
    (hsa : nsIn c.K N "__setattr__" = some none) (hco : nsIn c.K N "code" = some none) (hto : nsIn c.K N "told" = some none)
    (hf : c.K.lookup fI = some oI) (hfc : oI.cls = .type "function") (hfd : oI.data = .func fd)
    (hclo : fd.closure = [(("__class__" : Str), cc)]) (hglo : fd.globals = mainGlobals) (hbui : fd.builtins = builtinsNs) (hcd : fd.code = .ref cda) (hcr : codeIn c.K fd.code fd.qualname = true)
    (hbody : fd.body = .stmts [.Expr (.Call (.Attribute (.Call (.Name "super" ⟨6, 8, 6, 13⟩) [] [] ⟨6, 8, 6, 15⟩) "__init__" ⟨6, 8, 6, 24⟩) [.Name "code" ⟨6, 25, 6, 29⟩] [] ⟨6, 8, 6, 30⟩) ⟨6, 8, 6, 30⟩, .Assign [.Attribute (.Name "self" q0) "code" q1] (.Name "code" q2) q3, .Assign [.Attribute (.Name "self" r0) "told" r1] (.Name "told" r2) r3])
    (hpar : (fd.params.posonlyargs ++ fd.params.args).head? = some ar) (harn : ar.arg = "self") (hk : fd.scope.kind = .function) (hcor : fd.scope.isCoroutine = false) (hgen : fd.scope.isGenerator = false) (hcell : ∀ x ∈ fd.scope.names, x.2 ≠ .cell)
    (l1 : fd.scope.names.lookup ("self" : Str) = some .local) (l2 : fd.scope.names.lookup ("code" : Str) = some .local) (l3 : fd.scope.names.lookup ("told" : Str) = some .local) (l4 : fd.scope.names.lookup ("super" : Str) = some .globalImplicit) (l5 : fd.scope.names.lookup ("__class__" : Str) = some .free)
    (hbind : ∀ (a b v : Value) (S : Setting), peek c.K S (bindArgs fd ⟨[a, b, v], []⟩) = some (bind3 a b v))
    (hcc : c.K.lookup cc = some occ) (hccd : occ.data = .cell (some (.ref c.cB))) (hcda : c.K.lookup cda = some oc) (hoc : oc.data = .fields vs) (hvs : vs[2]? = some (.str file tf)) (hfile : ((c.prog.main.file : Str) == file) = true)
    (htop : (c.prog.main.scope.names.lookup ("super" : Str)).isSome = false) (hsup : nsIn c.K mainGlobals "super" = some none) (hop : nsIn c.K cStatics "thirdparty.any" = some none)
    {code : Txt} {tk : Tok} {v2 : Value} (hq : ∀ h' t a, (∀ b o, s.heap.get? b = some o → h'.get? b = some o) → s.heap.get? a = none → Made c code a h' → Q (.ref a) { s with heap := h', toks := t }) :
    wpAny c.M A (call (.ref c.cB) [.str (sOf code) tk, v2]) Q E s := by
  obtain ⟨h0, g, d, tt, os⟩ := s
  have X := H.K O.toOk
  have st := H.inv.stays
  have Nn : h0.Ns N (h0.nsMap N) := .of_isNs (isNs_of_in X hN)
  have some_of : ∀ {k : Str} {v : Value}, nsIn c.K N k = some (some v) → h0.nsMap N k = some v := by
    intro k v e
    obtain ⟨o, es, ep, ho, hd, _, hf⟩ := Nn
    unfold nsIn at e
    split at e
    · rename_i c' d' es' n' sl q
      have := X _ _ q
      rw [ho] at this
      cases this
      cases hd
      split at e
      · rename_i e' he
        cases e
        rw [← hf]
        unfold nsFind findBy
        rw [← Array.find?_toList, he]
        rfl
      · rename_i he
        split at e <;> cases e
    · cases e
  refine wpAny_call_exc_init F.excBase_Exception (X _ _ hC) Nn (some_of hi) (X _ _ hf) hfc (fun h1 e hm => ?_) (by show 2 ≤ sizeLine; rw [sizeLine_eq]; omega)
  obtain ⟨tt1, he1, htn, htt⟩ := hm.there
  have k1 := hm.keeps
  have X1 : c.K.In h1 := X.keeps k1
  generalize hA1 : A.under (.builtin "type.__call__" ⟨[.ref c.cB, .str (sOf code) tk, v2], []⟩) = A1
  have hA1d : A1.depth = A.depth + 1 := by rw [← hA1]; rfl
  refine wpAny_call (ks_codeAny_call_defAt (fd := fd) (by rw [hA1d]; omega) (X1 _ _ hf) hfd (O.lim.keeps fun b o eb => k1 b o (st b o eb)) (codeRec_of X1 hcr) hbody
    (kp_binds (s := ⟨h1, g, d, tt, os⟩) X1 (hbind _ _ _)) hcell (fun y hy => ?_) (fun h2 hns k2 => ?_) hcor hgen hk)
  · rcases List.mem_cons.mp hy with rfl | hy
    · exact l1
    rcases List.mem_cons.mp hy with rfl | hy
    · exact l2
    rcases List.mem_cons.mp hy with rfl | hy
    · exact l3
    · cases hy
  generalize hL : h1.objs.size = L at hns
  have henv : callEnv fd L fI = { scope := fd.scope, locals := L, globals := mainGlobals, cells := [(("__class__" : Str), cc)], qual := fd.qualname ++ ".<locals>.", func := some fI, code := .ref cda, frame := some L, builtins := builtinsNs } := by
    show Env.mk .. = Env.mk ..
    rw [hclo, hglo, hbui, hcd]
  rw [henv]
  generalize hE : ({ scope := fd.scope, locals := L, globals := mainGlobals, cells := [(("__class__" : Str), cc)], qual := fd.qualname ++ ".<locals>.", func := some fI, code := .ref cda, frame := some L, builtins := builtinsNs } : Env) = env
  have ek : env.scope = fd.scope := by rw [← hE]
  have eL : env.locals = L := by rw [← hE]
  have eK : ∀ x, env.kindOf x = fd.scope.names.lookup x := fun x => by rw [← hE]; rfl
  have k12 : ∀ b o, h0.get? b = some o → h2.get? b = some o := fun b o eb => k2 b o (k1 b o eb)
  have X2 : c.K.In h2 := X.keeps k12
  have hC2 := X2 _ _ hC
  have mro1 : (Value.ref c.cB :: bmE).contains (.ref c.cB) = true := by simp
  have he2 : h2.get? e = _ := k2 _ _ he1
  have new1 : ∀ b o, h0.get? b = some o → b ≠ e := fun b o eb q => by rw [q, hm.new] at eb; cases eb
  have neC : e ≠ c.cB := fun q => by have := X _ _ hC; rw [← q, hm.new] at this; cases this
  have hno : ∀ {h' : Heap}, (∀ b o, h0.get? b = some o → h'.get? b = some o) → Looks (model c.prog c.w) h' (opaqueClassAbove (.ref c.cB)) none := fun k => looks_opaque (X.keeps k) hop
  have rd : ∀ {A' : Around} {E' : Value → Shared → Prop} {Q' : Value → Shared → Prop} {s' : Shared} {x : Str} {p : Pos} {v : Value}, s'.heap.Ns L (fun y => (bind3 (.ref e) (.str (sOf code) tk) v2).reverse.lookup y) → fd.scope.names.lookup x = some .local → (x == ("__debug__" : Str)) = false →
      (bind3 (.ref e) (.str (sOf code) tk) v2).reverse.lookup x = some v → Q' v s' → wpAny (model c.prog c.w) A' (eval (.Name x p) env) Q' E' s' := by
    intro A' E' Q' s' x p v hn hl hd hv hQ
    exact wpAny_Name (wpAny_loadName_local (by rw [ek]; exact hk) ((eK x).trans hl) (by rw [eL]; exact hn) hv hQ) hd
  have b1 := bind3_1 (.ref e) (.str (sOf code) tk) v2
  have b2 := bind3_2 (.ref e) (.str (sOf code) tk) v2
  have b3 := bind3_3 (.ref e) (.str (sOf code) tk) v2
  refine ks_wpAt_execs_cons (ks_wpAt_Expr_any (ks_wpAt_MethodCall ?_) (by unfold interactive; rw [ek, hk]; rfl))
  refine ks_wpAt_super_base ((eK _).trans l4) ((eK _).trans l5) (by decide +kernel) (by rw [← hE]) (X2 _ _ hf) hfd hpar (by rw [← hE]) (X2 _ _ hcda) hoc hvs hfile htop ?_
  rw [harn]
  refine ks_loadName_global (by rw [ek]; exact hk) ((eK _).trans l4) (loadGlobal_builtin (by rw [← hE]; exact O.T.g.keeps fun b o eb => k12 b o (st b o eb)) (mg_none_of O.X O.T.g hsup) (by rw [← hE]; exact O.T.b.keeps fun b o eb => k12 b o (st b o eb)) ((O.T.builtins _ (by decide +kernel)).trans (by decide +kernel)) ⟨rfl, ?_⟩)
  refine wpAny_loadName_free (by rw [ek]; exact hk) ((eK _).trans l5) (by rw [← hE]; rfl) ⟨_, X2 _ _ hcc, hccd⟩ ?_
  refine wpAny_loadName_local (by rw [ek]; exact hk) ((eK _).trans l1) (by rw [eL]; exact hns) b1 ?_
  refine ks_wpAny_isType_cls hC2 rfl ⟨rfl, ?_⟩
  refine ks_wpAny_call_super hC2 rfl he2 rfl (fun _ z => by cases z) (fun A Q E s k hq => ?_) (fun h3 hso k3 => ?_)
  · obtain ⟨h', g', d', t', os'⟩ := s
    refine wpAny_isSubtype_exc (k _ _ hC2) ?_
    rw [mro1]; exact hq
  have k13 : ∀ b o, h0.get? b = some o → h3.get? b = some o := fun b o eb => k3 b o (k12 b o eb)
  have he3 := k3 _ _ he2
  refine super_method (X.keeps k13 _ _ hC) he3 rfl neC hso (hno k13) ?_
  have hb4 := Heap.get?_push_size h3 (o := { cls := .type "method-wrapper", data := .fields #[.builtin "Exception.__init__", .ref e] }) rfl
  have k4 : ∀ b o, h3.get? b = some o → (h3.push { cls := .type "method-wrapper", data := .fields #[.builtin "Exception.__init__", .ref e] }).get? b = some o := fun b o eb => Heap.get?_push_of_some _ eb
  have hC4 := k4 _ _ (X.keeps k13 _ _ hC)
  generalize h3.push { cls := .type "method-wrapper", data := .fields #[.builtin "Exception.__init__", .ref e] } = h4 at hb4 k4 hC4 ⊢
  have hns4 : h4.Ns L (fun y => (bind3 (.ref e) (.str (sOf code) tk) v2).reverse.lookup y) := Heap.Ns.keep1 hns fun o eo => k4 _ _ (k3 _ _ eo)
  have ev : ∀ {A' : Around} {E' : Value → Shared → Prop} {t' : Nat}, wpAny (model c.prog c.w) A' (evalArgs (.ref h3.objs.size) true [(false, PySem.eval (.Name "code" ⟨6, 25, 6, 29⟩) env)] []) (fun a s₁ => a = ⟨[.str (sOf code) tk], []⟩ ∧ s₁ = ⟨h4, g, d, t', os⟩) E' ⟨h4, g, d, t', os⟩ :=
    evalArgs_plain (spliced_cons (rd hns4 l2 (by decide +kernel) b2 (spliced_nil ⟨rfl, rfl⟩)))
  show wpAny _ _ (callWith ⟨6, 8, 6, 30⟩ (.ref h3.objs.size) [] [(false, PySem.eval (.Name "code" ⟨6, 25, 6, 29⟩) env)] []) _ _ _
  unfold callWith
  refine wpAny_bind (wpAny_holding (wpAny_mono ev (fun a s₁ z => wpAny_bind (wpAny_standAt ?_)) fun _ _ z => z))
  obtain ⟨rfl, rfl⟩ := z
  refine wpAny_bind (m := keeperOf _) ?_
  unfold keeperOf
  refine wpAny_bind (wpAny_load hb4 ?_)
  refine wpAny_of_eq (a := Keeper.machine) (by kernel_rfl) ?_
  refine wpAny_bind (call_mw hC4 rfl hb4 (k4 _ _ he3) rfl (by simp) fun h5 he5 k5' => wpAny_bind (wpAny_holding (wpAny_point (wpAny_pure ?_))))
  show _root_.PySem.wpAt _ _ _ (execs _ env) _ _ _
  have k05 : ∀ b o, h0.get? b = some o → h5.get? b = some o := fun b o eb => k5' b o (new1 b o eb) (k4 _ _ (k13 _ _ eb))
  have neL : L ≠ e := fun z => by
    have := Heap.lt_size he1
    rw [hL, z] at this; exact Nat.lt_irrefl _ this
  have hns5 : h5.Ns L (fun y => (bind3 (.ref e) (.str (sOf code) tk) v2).reverse.lookup y) := Heap.Ns.keep1 hns4 fun o eo => k5' _ _ neL eo
  refine ks_wpAt_execs_cons (ks_wpAt_Assign_Attr (wpAt_of_wpAny (rd hns5 l2 (by decide +kernel) b2 (rd hns5 l1 (by decide +kernel) b1 ?_))))
  refine first_store F.store_Exception (X.keeps k05 _ _ hC) (Heap.Ns.keep1 Nn (fun o eo => k05 _ _ eo)) (ns_none_of X Nn hsa) (ns_none_of X Nn hco) (by rw [typeLookup_type, builtinLookup_eq_fast]; kernel_rfl) he5 rfl rfl rfl fun h6 tk6 he6 hn6 k6 => ?_
  have k06 : ∀ b o, h0.get? b = some o → h6.get? b = some o := fun b o eb => k6 b o (new1 b o eb) (k05 _ _ eb)
  have hns6 : h6.Ns L (fun y => (bind3 (.ref e) (.str (sOf code) tk) v2).reverse.lookup y) := Heap.Ns.keep1 hns5 fun o eo => k6 _ _ neL eo
  show _root_.PySem.wpAt _ _ _ (execs _ env) _ _ _
  refine ks_wpAt_execs_cons (ks_wpAt_Assign_Attr (wpAt_of_wpAny (rd hns6 l3 (by decide +kernel) b3 (rd hns6 l1 (by decide +kernel) b1 ?_))))
  have ne5 : h5.objs.size ≠ e := fun z => Nat.lt_irrefl _ (z ▸ Heap.lt_size he5)
  have I6 : h6.Inst e c.cB (fun y => if y = ("code" : Str) then some (.str (sOf code) tk) else none) := ⟨_, he6, rfl, (fun _ z => by cases z), .inr ⟨_, rfl, ne5, hn6⟩⟩
  refine store_attr F.store_Exception (X.keeps k06 _ _ hC) (Heap.Ns.keep1 Nn (fun o eo => k06 _ _ eo)) (ns_none_of X Nn hsa) (ns_none_of X Nn hto) (by rw [typeLookup_type, builtinLookup_eq_fast]; kernel_rfl) neC I6 (fun h7 tk7 I7 k7 same => ?_) (Within.cons ("code" : Str) (.str (sOf code) tk) Within.nil)
  show _root_.PySem.wpAt _ _ _ (execs [] env) _ _ _
  refine wpAt_of_wpAny (wpAny_execs_nil ⟨rfl, ?_⟩)
  have k07 : ∀ b o, h0.get? b = some o → h7.get? b = some o := fun b o eb => k7 b o (new1 b o eb) (fun o₀ dx h₀ hdx => by
    rw [he6] at h₀
    cases h₀
    cases hdx
    exact Nat.ne_of_lt (Heap.lt_size (k05 b o eb))) (k06 _ _ eb)
  obtain ⟨o1, z1, z2, z3, z4, z5⟩ := same _ he6
  obtain ⟨o7, y1, y2, y3, y4⟩ := I7
  rw [z1] at y1
  cases y1
  have z6 := z5 _ rfl
  rcases y4 with ⟨y4, _⟩ | ⟨dx, y4, y5, y6⟩
  · rw [z6] at y4; cases y4
  · rw [z6] at y4
    cases y4
    obtain ⟨od, w1, w2, w3⟩ := lookIn_of (k := ("code" : Str)) (v := .str (sOf code) tk) y6 (by show (if ("code" : Str) = "told" then some v2 else if ("code" : Str) = "code" then some (.str (sOf code) tk) else none) = _; rw [if_neg (by decide +kernel), if_pos rfl])
    exact hq h7 _ e k07 hm.new ⟨o1, _, _, od, tk, z1, z2, z3, z6, ⟨w1, w2, w3⟩, by simp, by simp⟩
end
end Mine
-- T6
open PySem PySem.W PyProof.Rows PySem.Calls
namespace Mine
section
variable {prog : Program} {w : World} {M : Model} {A : Around} {E : Value → Shared → Prop} {env : Env}
variable {nm q : Str} {C N : Addr} {bs bm : List Value} {hdct : Bool} {sn : List Str} {sub : List Value} {ab : Bool} {col : Option Bool} {dd : Option Addr} {k0 k1 k2 k3 k5 : Option Value} {newId : String}
theorem raise_made {s : Shared} {x : Sem Value} {Q : Flow → Shared → Prop} (hbase : bm.contains (.type "BaseException") = true) (hh : A.handled = none)
    (h : wpAny M A x (fun v s₁ => ∃ e oe vs, v = .ref e ∧ s₁.heap.get? C = some (excClassObj nm q C N bs bm hdct sn sub ab col dd k0 k1 k2 k3 k5 newId) ∧
      s₁.heap.get? e = some oe ∧ oe.cls = .ref C ∧ oe.data = .fields vs ∧ vs[1]? = some .none ∧ E (.ref e) s₁) E s) :
    wpAny M A (raiseStmt env (some x) none) Q E s := by
  have hcB : (Value.ref C :: bm).contains (.type "BaseException") = true := by rw [List.contains_cons, hbase, Bool.or_true]
  unfold raiseStmt
  refine wpAny_bind (wpAny_mono h (fun v s₁ h₁ => ?_) fun _ _ x => x)
  obtain ⟨e, oe, vs, rfl, hC, he, hcl, hd, hv, hE⟩ := h₁
  obtain ⟨hp, g, d, tk, os⟩ := s₁
  have nc : ∀ c, oe.data ≠ .cls c := fun c z => by rw [hd] at z; cases z
  repeat (first | with_reducible refine ks_wpAny_isType_inst he nc ?_ | (with_reducible refine wpAny_loadPart_at he ?_; rw [hcl]) | with_reducible refine wpAny_loadPart_at hC ?_ | (with_reducible refine wpAny_isSubtype_exc hC ?_; rw [hcB]) | (with_reducible refine wpAny_field he hd hv ?_) | wp_step)
  exact wpAny_raiseNew_none hh hE
end

structure Ok4 (c : Cx) : Prop extends Ok3 c where
  keepB : keepIn c.K (.ref c.cB) = true
  clsB : ∃ nm q N bs bm hdct sn sub ab col dd k0 k1 k2 k3 k5 newId, c.K.lookup c.cB = some (excClassObj nm q c.cB N bs bm hdct sn sub ab col dd k0 k1 k2 k3 k5 newId) ∧ bm.contains (.type "BaseException") = true
  exc : ∀ {A : Around} {n : Nat} {f : Fx} {ρ : List D} {σ : Sg} {μ : List Addr} {s : Shared} {E : Value → Shared → Prop} {Q : Value → Shared → Prop} {code : Txt} {tk : Tok} {v2 : Value}, Here c A n f ρ σ μ s.heap → A.depth + 1 < recursionLimit →
    (∀ h' t a, (∀ b o, s.heap.get? b = some o → h'.get? b = some o) → s.heap.get? a = none → Made c code a h' → Q (.ref a) { s with heap := h', toks := t }) → wpAny c.M A (call (.ref c.cB) [.str (sOf code) tk, v2]) Q E s
section
variable {c : Cx} {A : Around} {n : Nat} {f : Fx} {ρ : List D} {σ : Sg} {μ N : List Addr} {s : Shared} {E : Value → Shared → Prop} {k : Ans → Sg → List Addr → Shared → Prop}
theorem two_args (O : Ok c) (S : SoundE c n) (H : Here c A n f ρ σ μ s.heap) {C : Addr} (hk : keepIn c.K (.ref C) = true) {pos : Pos} {x y : Ex} {e e' : Expr} {Q : Value → Shared → Prop} (h1 : chkE c f.sc f.slots x e = true) (h2 : chkE c f.sc f.slots y e' = true) {g : D → D → Sg → R}
    (P : Post c f.fs N μ s E k (bindV (c.run n (.E x ρ) σ) fun a σ => bindV (c.run n (.E y ρ) σ) fun b σ => g a b σ))
    (K : ∀ (d d' : D) (σ' : Sg) (μ' : List Addr) (s' : Shared) (v v' : Value), Here c A n f ρ σ' μ' s'.heap → V c.fa μ' s'.heap d v → V c.fa μ' s'.heap d' v' → Post c f.fs N μ' s' E k (g d d' σ') → wpAny c.M A (call (.ref C) [v, v']) Q E s') :
    wpAny c.M A (callWith pos (.ref C) [] (backTo pos (starEach [e, e'] f.env)) []) Q E s := by
  refine callWith_K O.X hk (args_cons (S.one H h1 P fun d σ₁ μ₁ s₁ v H₁ x₁ q₁ hv P₁ => args_cons (S.one H₁ h2 P₁ fun d' σ₂ μ₂ s₂ v' H₂ x₂ q₂ hv' P₂ => args_nil ⟨H₂.K O, ?_⟩) (star_of_chk h2)) (star_of_chk h1)) (star_of_chk h1) ?_
  · exact K d d' σ₂ μ₂ s₂ v v' H₂ (V.mono x₂.pre x₂.keep.tup _ _ hv) hv' P₂
  · rw [star_of_chk h2]; rfl
theorem sS_rai (O : Ok4 c) (S : Sound c n) {Q : Flow → Shared → Prop} {a b : Ex} {st : Stmt} (H : Here c A (n + 1) f ρ σ μ s.heap) (h : chkS c f.sc f.slots (.rai a b) st = true) (P : Post c f.fs [f.L] μ s E (kF c f Q) (stepS (c.run n) (.rai a b) ρ σ)) : wpAny c.M A (exec st f.env) Q E s := by
  replace h := inv_rai h
  obtain ⟨_, _, _, _, _, _, rfl, h⟩ := h
  · rename_i id np a' b' cpos pos
    obtain ⟨h, h4⟩ := Bool.and_eq_true_iff.mp h
    obtain ⟨h, h3⟩ := Bool.and_eq_true_iff.mp h
    obtain ⟨h1, h2⟩ := Bool.and_eq_true_iff.mp h
    obtain ⟨nm, q, NN, bs, bm, hdct, sn, sub, ab, col, dd, k0, k1, k2, k3, k5, newId, hC, hb⟩ := O.clsB
    cases n with
    | zero => exact P.elim
    | succ n =>
      have hdep : A.depth + 1 < recursionLimit := by have := H.depth; omega
      rw [arm_exec_Raise]
      show wpAny _ _ (standAt pos >>= fun _ => raiseStmt f.env (some (PySem.eval (.Call (.Name id np) [a', b'] [] cpos) f.env >>= fun v => standAt pos >>= fun _ => pure v)) none) _ _ _
      refine wpAny_bind (wpAny_standAt (raise_made (C := c.cB) (nm := nm) (q := q) (N := NN) (bs := bs) (bm := bm) (hdct := hdct) (sn := sn) (sub := sub) (ab := ab) (col := col) (dd := dd) (k0 := k0) (k1 := k1) (k2 := k2) (k3 := k3) (k5 := k5) (newId := newId) hb H.handled
        (wpAny_bind (Call_ (H.less.glb O.toOk h1 (refIn_eq h2) (two_args O.toOk S.toSoundE H.less O.keepB h3 h4 P fun d d' σ' μ' s' v v' H' hv hv' P' => ?_)) callName_eq))))
      cases d with
      | str t =>
        unfold V at hv
        obtain ⟨tk, rfl⟩ := hv
        refine O.exc H' hdep fun h' t' x kk hn hm => wpAny_bind (wpAny_standAt (wpAny_pure ?_))
        obtain ⟨oe, vs, da, od, tk', he, hcl, hd, hda, hod, hsz, hv1⟩ := hm
        have st : c.base.StaysIn h' := fun b o e => kk b o (H'.inv.stays b o e)
        refine ⟨x, oe, vs, rfl, O.X.keeps st _ _ hC, he, hcl, hd, hv1, ?_⟩
        refine P' { s' with heap := h', toks := t' } (.ref x) ⟨x, oe, vs, da, od, tk', rfl, ?_, he, hcl, hd, hda, hod, hsz, H'.ff.of_keeps fun b o e _ => ⟨o, kk b o e, rfl⟩, st, .inl hv1⟩ (Keep.of_keeps _ kk).s ⟨rfl, rfl⟩
        cases q : c.base.get? x with
        | none => rfl
        | some o => have := H'.inv.stays x o q; rw [hn] at this; cases this
      | _ => exact P'.elim
end
end Mine
-- T7
open PySem PySem.W PyProof.Rows PySem.Calls
namespace Mine
section
variable {M : Model} {A : Around} {E : Value → Shared → Prop} {s : Shared} {env : Env}
theorem assign_attr {o : Expr} {attr : Str} {pos' pos : Pos} {value : Expr} {Q : Flow → Shared → Prop}
    (h : wpAny M A (eval value env) (fun v s₁ => wpAny M A (eval o env) (fun ov s₂ => wpAny M A (setAttr ov attr v) (fun _ => Q .next) E s₂) E s₁) E s)
    (hs : swapsWith value (some (.Attribute o attr pos')) pos.line env = pure false := by rfl) : wpAny M A (exec (.Assign [.Attribute o attr pos'] value pos) env) Q E s := fun Γ p hΓ => by
  simp only [plainObj_exec_Assign_Attribute o attr pos' value pos hs, assign_Attribute, Sem.wp_bind', Sem.wp_holding, Sem.wp_cmd_standAt, Sem.wp_release, Sem.wp_pure']
  exact Sem.wp_mono M Γ _ (fun v p₁ s₁ h₁ => Sem.wp_mono M Γ _ (fun ov _ s₂ h₂ => h₂ Γ _ hΓ) (fun _ _ _ h' => h') _ _ (h₁ Γ p₁ hΓ)) (fun _ _ _ h' => h') _ _ (h Γ _ hΓ)
end

noncomputable def bindK (a b v : Value) : List (Str × Value) := [(("self" : Str), a), (("kind" : Str), b), (("word" : Str), v)]
theorem bindK_1 (a b v : Value) : (bindK a b v).reverse.lookup ("self" : Str) = some a := rfl
theorem bindK_2 (a b v : Value) : (bindK a b v).reverse.lookup ("kind" : Str) = some b := rfl
theorem bindK_3 (a b v : Value) : (bindK a b v).reverse.lookup ("word" : Str) = some v := rfl
noncomputable abbrev listObj : Obj := { cls := .type "list", data := .seq #[] }

section
variable {c : Cx} {A : Around} {n : Nat} {f : Fx} {ρ : List D} {σ : Sg} {μ : List Addr} {s : Shared} {E : Value → Shared → Prop} {Q : Value → Shared → Prop}
variable {fI cda : Addr} {oI : Obj} {fd : FuncData} {a0 a1 a2 a3 b0 b1 b2 b3 d0 d1 d2 d3 e0 e1 e2 e3 f0 f1 f2 f3 : Pos}
theorem lev_call (O : Ok2 c) (H : Here c A n f ρ σ μ s.heap) (hd1 : A.depth + 1 < recursionLimit)
    (hmk : makesIn c.K c.cL = true) (hi : findIn c.K (.ref c.cL) "__init__" = some (some (.ref fI))) (hft : typeIn c.K (.ref fI) = some (.type "function")) (hf : c.K.lookup fI = some oI) (hfd : oI.data = .func fd)
    (hglo : fd.globals = mainGlobals) (hclo : fd.closure = []) (hbui : fd.builtins = builtinsNs) (hcr : codeIn c.K fd.code fd.qualname = true)
    (hbody : fd.body = .stmts [.Assign [.Attribute (.Name "self" a0) "kind" a1] (.Name "kind" a2) a3, .Assign [.Attribute (.Name "self" b0) "word" b1] (.Name "word" b2) b3,
      .Assign [.Attribute (.Name "self" d0) "args" d1] (.List [] d2) d3, .Assign [.Attribute (.Name "self" e0) "operands" e1] (.List [] e2) e3, .Assign [.Attribute (.Name "self" f0) "operators" f1] (.List [] f2) f3])
    (hk : fd.scope.kind = .function) (hcor : fd.scope.isCoroutine = false) (hgen : fd.scope.isGenerator = false) (hcell : ∀ x ∈ fd.scope.names, x.2 ≠ .cell)
    (l1 : fd.scope.names.lookup ("self" : Str) = some .local) (l2 : fd.scope.names.lookup ("kind" : Str) = some .local) (l3 : fd.scope.names.lookup ("word" : Str) = some .local)
    (hbind : ∀ (a b v : Value) (S : Setting), peek c.K S (bindArgs fd ⟨[a, b, v], []⟩) = some (bindK a b v))
    (hsa : findIn c.K (.ref c.cL) "__setattr__" = some (some (.builtin "object.__setattr__"))) (hpl : plainOver c.K c.cL = true) (hhd : hasDictIn c.K c.cL = true)
    (t1 : takerIn c.K c.cL "kind" = some none) (t2 : takerIn c.K c.cL "word" = some none) (t3 : takerIn c.K c.cL "args" = some none) (t4 : takerIn c.K c.cL "operands" = some none) (t5 : takerIn c.K c.cL "operators" = some none)
    {v1 v2 : Value} (hq : ∀ h' t a da x1 x2 x3 es m, (∀ b o, s.heap.get? b = some o → h'.get? b = some o) → (∀ b ∈ [x1, x2, x3, a, da], s.heap.objs.size ≤ b) → [x1, x2, x3, a, da].Nodup → h'.get? a = some (instObj c.cL da) → h'.get? da = some (dictOf es m) → h'.get? x1 = some listObj → h'.get? x2 = some listObj → h'.get? x3 = some listObj →
      getL "kind" es = some (some v1) → getL "word" es = some (some v2) → getL "args" es = some (some (.ref x1)) → getL "operands" es = some (some (.ref x2)) → getL "operators" es = some (some (.ref x3)) → Q (.ref a) { s with heap := h', toks := t }) :
    wpAny c.M A (call (.ref c.cL) [v1, v2]) Q E s := by
  obtain ⟨h0, g, d, tt, os⟩ := s
  have X := H.K O.toOk
  have st := H.inv.stays
  refine wpAny_call (make_core (makes_of X hmk) (looks_findIn X hi) (fun self => bind_fn X self hft) (.inl rfl) ?_)
  generalize hA1 : A.under (.builtin "type.__call__" ⟨[.ref c.cL, v1, v2], []⟩) = A1
  have hA1d : A1.depth = A.depth + 1 := by rw [← hA1]; rfl
  have k1 : ∀ b o, h0.get? b = some o → ((h0.push emptyDict).push (instObj c.cL h0.objs.size)).get? b = some o := fun b o e => Heap.get?_push_of_some _ (Heap.get?_push_of_some _ e)
  have hx1 : ((h0.push emptyDict).push (instObj c.cL h0.objs.size)).get? (h0.objs.size + 1) = some (instObj c.cL h0.objs.size) := by heap_get
  have hdx1 : ((h0.push emptyDict).push (instObj c.cL h0.objs.size)).get? h0.objs.size = some emptyDict := by heap_get
  have hs1 : ((h0.push emptyDict).push (instObj c.cL h0.objs.size)).objs.size = h0.objs.size + 2 := by simp [Heap.size_push]
  generalize (h0.push emptyDict).push (instObj c.cL h0.objs.size) = h1 at k1 hx1 hdx1 hs1 ⊢
  have X1 : c.K.In h1 := X.keeps k1
  refine codeAny_call_def (fd := fd) (by rw [hA1d]; omega) (X1 _ _ hf) hfd (O.lim.keeps fun b o eb => k1 b o (st b o eb)) (codeRec_of X1 hcr) hbody
    (kp_binds (s := ⟨h1, g, d, tt, os⟩) X1 (hbind _ _ _)) hcell (fun y hy => ?_) (fun h2 hns k2 => ?_) hcor hgen hk
  · rcases List.mem_cons.mp hy with rfl | hy
    · exact l1
    rcases List.mem_cons.mp hy with rfl | hy
    · exact l2
    rcases List.mem_cons.mp hy with rfl | hy
    · exact l3
    · cases hy
  have henv : callEnv fd h1.objs.size fI = envOf fd.qualname fd.scope h1.objs.size fI fd.code := by
    show Env.mk .. = Env.mk ..
    rw [hclo, hglo, hbui]
  rw [henv]
  have gone : ∀ {b : Nat}, h0.objs.size ≤ b → h0.get? b = none := fun {b} le => by
    cases q : h0.get? b with
    | none => rfl
    | some o => exact absurd (Heap.lt_size q) (Nat.not_lt.mpr le)
  have F2 : Fr h0 h1.objs.size h2 (fun y => (bindK (.ref (h0.objs.size + 1)) v1 v2).reverse.lookup y) := ⟨hns, fun b o e => k2 b o (k1 b o e), by rw [hs1]; omega⟩
  have N2 : News h0 h1.objs.size h2 [(h0.objs.size + 1, instObj c.cL h0.objs.size), (h0.objs.size, dictOf [] 0)] := fun p hp => by
    rcases List.mem_cons.mp hp with rfl | hp
    · exact ⟨k2 _ _ hx1, by show h0.objs.size + 1 ≠ h1.objs.size; rw [hs1]; omega, gone (Nat.le_succ _)⟩
    rcases List.mem_cons.mp hp with rfl | hp
    · exact ⟨k2 _ _ hdx1, by show h0.objs.size ≠ h1.objs.size; rw [hs1]; omega, gone (Nat.le_refl _)⟩
    · cases hp
  have hL2 : h1.objs.size < h2.objs.size := Ns.there hns
  generalize h1.objs.size = L at hns F2 N2 hL2 hs1 ⊢
  generalize hB : (bindK (.ref (h0.objs.size + 1)) v1 v2).reverse = B at hns F2 ⊢
  have b1 : B.lookup ("self" : Str) = some (.ref (h0.objs.size + 1)) := hB ▸ rfl
  have b2 : B.lookup ("kind" : Str) = some v1 := hB ▸ rfl
  have b3 : B.lookup ("word" : Str) = some v2 := hB ▸ rfl
  have rd : ∀ {A' : Around} {E' : Value → Shared → Prop} {Q' : Value → Shared → Prop} {s' : Shared} {x : Str} {p : Pos} {v : Value}, Fr h0 L s'.heap (fun y => B.lookup y) → fd.scope.names.lookup x = some .local → (x == ("__debug__" : Str)) = false →
      B.lookup x = some v → Q' v s' → wpAny (model c.prog c.w) A' (eval (.Name x p) (envOf fd.qualname fd.scope L fI fd.code)) Q' E' s' := by
    intro A' E' Q' s' x p v hn hl hd hv hQ
    exact wpAny_Name (wpAny_loadName_local hk hl hn.ns hv hQ) hd
  have hxd : h0.objs.size + 1 ≠ h0.objs.size := by omega
  refine wpAny_execs_cons (assign_attr (rd F2 l2 (by decide +kernel) b2 (rd F2 l1 (by decide +kernel) b1 ?_)))
  refine set_dict F2 X N2 (InstAt.of_news N2 (.head _) (.tail _ (.head _))) rfl hsa hpl t1 hhd rfl rfl (.tail hxd (.head (fun p hp => nomatch hp))) (by show 1 ≤ 1000; omega) fun h3 F3 N3 => ?_
  dsimp only
  refine wpAny_execs_cons (assign_attr (rd F3 l3 (by decide +kernel) b3 (rd F3 l1 (by decide +kernel) b1 ?_)))
  refine set_dict F3 X N3 (InstAt.of_news N3 (.head _) (.tail _ (.head _))) rfl hsa hpl t2 hhd rfl rfl (.tail hxd (.head (fun p hp => nomatch hp))) (by show 2 ≤ 1000; omega) fun h4 F4 N4 => ?_
  dsimp only
  have nx4 : h0.objs.size + 1 < h4.objs.size := Heap.lt_size (N4 _ (.head _)).1
  refine wpAny_execs_cons (assign_attr (wpAny_List (spliced_nil ⟨Nat.zero_le _, ?_⟩)))
  generalize hl1 : h4.objs.size = x1 at nx4 ⊢
  have F5 := F4.push listObj
  have N5 := N4.push F4 listObj
  rw [hl1] at N5
  refine rd F5 l1 (by decide +kernel) b1 ?_
  have n1d : x1 ≠ h0.objs.size := by omega
  refine set_dict (s := ⟨h4.push listObj, _, _, _, _⟩) F5 X N5 (InstAt.of_news N5 (.tail _ (.head _)) (.tail _ (.tail _ (.head _)))) rfl hsa hpl t3 hhd rfl rfl (.tail n1d (.tail hxd (.head (fun p hp => nomatch hp)))) (by show 3 ≤ 1000; omega) fun h6 F6 N6 => ?_
  dsimp only
  have nx6 : x1 < h6.objs.size := Heap.lt_size (N6 _ (.head _)).1
  refine wpAny_execs_cons (assign_attr (wpAny_List (spliced_nil ⟨Nat.zero_le _, ?_⟩)))
  generalize hl2 : h6.objs.size = x2 at nx6 ⊢
  have F7 := F6.push listObj
  have N7 := N6.push F6 listObj
  rw [hl2] at N7
  refine rd F7 l1 (by decide +kernel) b1 ?_
  have n2d : x2 ≠ h0.objs.size := by omega
  refine set_dict (s := ⟨h6.push listObj, _, _, _, _⟩) F7 X N7 (InstAt.of_news N7 (.tail _ (.tail _ (.head _))) (.tail _ (.tail _ (.tail _ (.head _))))) rfl hsa hpl t4 hhd rfl rfl (.tail n2d (.tail n1d (.tail hxd (.head (fun p hp => nomatch hp))))) (by show 4 ≤ 1000; omega) fun h8 F8 N8 => ?_
  dsimp only
  have nx8 : x2 < h8.objs.size := Heap.lt_size (N8 _ (.head _)).1
  refine wpAny_execs_cons (assign_attr (wpAny_List (spliced_nil ⟨Nat.zero_le _, ?_⟩)))
  generalize hl3 : h8.objs.size = x3 at nx8 ⊢
  have F9 := F8.push listObj
  have N9 := N8.push F8 listObj
  rw [hl3] at N9
  refine rd F9 l1 (by decide +kernel) b1 ?_
  have n3d : x3 ≠ h0.objs.size := by omega
  refine set_dict (s := ⟨h8.push listObj, _, _, _, _⟩) F9 X N9 (InstAt.of_news N9 (.tail _ (.tail _ (.tail _ (.head _)))) (.tail _ (.tail _ (.tail _ (.tail _ (.head _)))))) rfl hsa hpl t5 hhd rfl rfl (.tail n3d (.tail n2d (.tail n1d (.tail hxd (.head (fun p hp => nomatch hp)))))) (by show 5 ≤ 1000; omega) fun hh FF NN => ?_
  refine wpAny_execs_nil ⟨rfl, ?_⟩
  refine hq hh _ (h0.objs.size + 1) h0.objs.size x1 x2 x3 _ _ FF.keep (fun b hb => ?_) ?_ (NN _ (.tail _ (.tail _ (.tail _ (.head _))))).1 (NN _ (.tail _ (.tail _ (.tail _ (.tail _ (.head _)))))).1 (NN _ (.tail _ (.tail _ (.head _)))).1 (NN _ (.tail _ (.head _))).1 (NN _ (.head _)).1 rfl rfl rfl rfl rfl
  · show h0.objs.size ≤ b
    simp only [List.mem_cons, List.not_mem_nil, or_false] at hb
    rcases hb with rfl | rfl | rfl | rfl | rfl
    all_goals omega
  · simp only [List.nodup_cons, List.mem_cons, List.not_mem_nil, or_false, not_or, not_false_eq_true, List.nodup_nil, and_true]
    refine ⟨⟨?_, ?_, ?_, ?_⟩, ⟨?_, ?_, ?_⟩, ⟨?_, ?_⟩, ?_⟩ <;> first | exact Nat.ne_of_lt (by omega) | exact Nat.ne_of_gt (by omega)
end
end Mine
-- T8
open PySem PySem.W PyProof.Rows PySem.Calls
namespace Mine
structure Ok5 (c : Cx) : Prop extends Ok4 c where
  lev : ∀ {A : Around} {n : Nat} {f : Fx} {ρ : List D} {σ : Sg} {μ : List Addr} {s : Shared} {E : Value → Shared → Prop} {Q : Value → Shared → Prop} {v1 v2 : Value}, Here c A n f ρ σ μ s.heap → A.depth + 1 < recursionLimit →
    (∀ h' t a da x1 x2 x3 es m, (∀ b o, s.heap.get? b = some o → h'.get? b = some o) → (∀ b ∈ [x1, x2, x3, a, da], s.heap.objs.size ≤ b) → [x1, x2, x3, a, da].Nodup → h'.get? a = some (instObj c.cL da) → h'.get? da = some (dictOf es m) → h'.get? x1 = some listObj → h'.get? x2 = some listObj → h'.get? x3 = some listObj →
      getL "kind" es = some (some v1) → getL "word" es = some (some v2) → getL "args" es = some (some (.ref x1)) → getL "operands" es = some (some (.ref x2)) → getL "operators" es = some (some (.ref x3)) → Q (.ref a) { s with heap := h', toks := t }) →
    wpAny c.M A (call (.ref c.cL) [v1, v2]) Q E s
section
variable {c : Cx} {A : Around} {n : Nat} {f : Fx} {ρ : List D} {σ : Sg} {μ N : List Addr} {s : Shared} {E : Value → Shared → Prop} {Q : Value → Shared → Prop}
theorem sE_lev (OK : Ok5 c) (S : SoundE c n) {a b : Ex} {e : Expr} (H : Here c A (n + 1) f ρ σ μ s.heap) (h : chkE c f.sc f.slots (.lev a b) e = true) (P : Post c f.fs N μ s E (kV c Q) (stepE c.F c.W c.k0 (c.run n) (.lev a b) ρ σ)) : wpAny c.M A (eval e f.env) Q E s := by
  replace h := inv_lev h
  obtain ⟨_, _, _, _, _, rfl, h⟩ := h
  · obtain ⟨h, h5⟩ := Bool.and_eq_true_iff.mp h
    obtain ⟨h, h4⟩ := Bool.and_eq_true_iff.mp h
    obtain ⟨h, h3⟩ := Bool.and_eq_true_iff.mp h
    obtain ⟨h1, h2⟩ := Bool.and_eq_true_iff.mp h
    cases n with
    | zero => exact P.elim
    | succ n =>
      have hdep : A.depth + 1 < recursionLimit := by have := H.depth; omega
      refine Call_ (H.less.glb OK.toOk h1 (refIn_eq h2) (two_args OK.toOk S H.less h3 h4 h5 P fun d d' σ' μ' s' v v' H' hv hv' P' => ?_)) callName_eq
      refine OK.lev H' hdep fun h' t a da x1 x2 x3 es m kk gone' nd ha hda hx1 hx2 hx3 g1 g2 g3 g4 g5 => ?_
      have gone : ∀ b ∈ [x1, x2, x3, a, da], s'.heap.get? b = none := fun b m => by
        cases q : s'.heap.get? b with
        | none => rfl
        | some o => exact absurd (Heap.lt_size q) (Nat.not_lt.mpr (gone' b m))
      have kp : Keep [] s'.heap h' := Keep.of_keeps [] kk
      have len := H'.inv.len
      have at' : ∀ i x, nth [x1, x2, x3, a, da] i = some x → nth (μ' ++ [x1, x2, x3, a, da]) (σ'.length + i) = some x := fun i x e => by rw [← len, nth_append_len]; exact e
      have up : ∀ d v, V c.fa μ' s'.heap d v → V c.fa (μ' ++ [x1, x2, x3, a, da]) h' d v := fun d v x => V.mono ⟨_, rfl⟩ kp.tup _ _ x
      have I' : Inv c h' (σ' ++ [.list [], .list [], .list [], .lev [d, d', .ref σ'.length, .ref (σ'.length + 1), .ref (σ'.length + 2)], .ns]) (μ' ++ [x1, x2, x3, a, da]) := by
        refine H'.inv.alloc kp rfl nd gone (fun b m => ?_) fun i ob x e1 e2 => ?_
        · exact Nat.le_trans H'.baseLt (gone' b m)
        · have lst : ∀ l, h'.get? l = some listObj → O c (σ' ++ [.list [], .list [], .list [], .lev [d, d', .ref σ'.length, .ref (σ'.length + 1), .ref (σ'.length + 2)], .ns]) (μ' ++ [x1, x2, x3, a, da]) h' (σ'.length + i) l (.list []) := fun l e => ⟨[], 0, e, Vs.nil⟩
          match i, e1, e2 with
          | 0, e1, e2 => cases e1; cases e2; exact lst _ hx1
          | 1, e1, e2 => cases e1; cases e2; exact lst _ hx2
          | 2, e1, e2 => cases e1; cases e2; exact lst _ hx3
          | 3, e1, e2 =>
            cases e1; cases e2
            refine ⟨da, es, m, ?_, at' 4 da rfl, ha, hda, fun j nm dd f1 f2 => ?_⟩
            · rw [show σ'.length + 3 + 1 = σ'.length + 4 from rfl, nth_append_len]; rfl
            · match j, f1, f2 with
              | 0, f1, f2 => cases f1; cases f2; exact ⟨v, g1, up _ _ hv⟩
              | 1, f1, f2 => cases f1; cases f2; exact ⟨v', g2, up _ _ hv'⟩
              | 2, f1, f2 => cases f1; cases f2; exact ⟨_, g3, by unfold V; exact ⟨x1, at' 0 x1 rfl, rfl⟩⟩
              | 3, f1, f2 => cases f1; cases f2; exact ⟨_, g4, by unfold V; exact ⟨x2, at' 1 x2 rfl, rfl⟩⟩
              | 4, f1, f2 => cases f1; cases f2; exact ⟨_, g5, by unfold V; exact ⟨x3, at' 2 x3 rfl, rfl⟩⟩
              | j + 5, f1, f2 => exact nomatch f1
          | 4, e1, e2 => cases e1; cases e2; exact ⟨es, m, hda⟩
          | i + 5, e1, e2 => exact nomatch e1
      have E' : Ext N μ' s'.heap (μ' ++ [x1, x2, x3, a, da]) h' := ⟨⟨_, rfl⟩, fun b m => (List.mem_append.mp m).imp id (gone b), Keep.of_keeps _ kk⟩
      exact Post.now P' (s' := { s' with heap := h', toks := t }) I' E' ⟨rfl, rfl⟩ _ (by unfold V; exact ⟨a, at' 3 a rfl, rfl⟩)
end
end Mine
-- T9
open PySem PySem.W PyProof.Rows PySem.Calls
namespace Mine
theorem les_str {prog : Program} {w : World} {A : Around} {E : Value → Shared → Prop} {s : Shared} {Q : Value → Shared → Prop} {x y : Txt} {t u : Tok} (hQ : Q (.bool (leL x y)) s) : wpAny (model prog w) A (compareOp .LtE (.str (sOf x) t) (.str (sOf y) u)) Q E s := by
  refine PySem.P.le_str ?_
  have e1 : (sOf x).cps.toList = x := by simp [sOf]
  have e2 : (sOf y).cps.toList = y := by simp [sOf]
  rw [e1, e2, le_leL]
  exact hQ
theorem leL_one (a b : Nat) : leL [a] [b] = decide (a ≤ b) := by
  unfold leL
  cases q : Nat.blt a b with
  | true => have : a < b := Nat.le_of_ble_eq_true q; simp; omega
  | false =>
    have hn : ¬ a < b := fun z => by have := Nat.ble_eq_true_of_le (show a + 1 ≤ b from z); rw [show Nat.blt a b = Nat.ble (a+1) b from rfl] at q; rw [q] at this; cases this
    cases q' : Nat.beq a b with
    | true => have e : a = b := Nat.eq_of_beq_eq_true q'; subst e; simp [leL]
    | false => have ne : a ≠ b := Nat.ne_of_beq_eq_false q'; simp; omega
section
variable {prog : Program} {w : World} {A : Around} {E : Value → Shared → Prop} {s : Shared} {env : Env} {a1 a2 a3 a4 b1 b2 b3 b4 b5 b6 b7 c1 c2 : Pos} {ch : Nat} {u : Tok} {m mg mb : Str → Option Value}
noncomputable abbrev capElt (a1 a2 a3 a4 b1 b2 b3 b4 b5 b6 b7 c1 c2 : Pos) : Expr := .IfExp (.Compare (.Constant (.str "a") 0 a1) [.LtE, .LtE] [.Name "sign" a2, .Constant (.str "z") 0 a3] a4)
  (.Call (.Name "chr" b1) [.BinOp (.Call (.Name "ord" b2) [.Name "sign" b3] [] b4) .Sub (.Constant (.int 32) 0 b5) b6] [] b7) (.Name "sign" c1) c2
theorem cap_elt (hk : env.scope.kind = .function) (h1 : env.kindOf "sign" = some .local) (h2 : env.kindOf "chr" = some .globalImplicit) (h3 : env.kindOf "ord" = some .globalImplicit)
    (hn : s.heap.Ns env.locals m) (hm : m "sign" = some (.str (sOf [ch]) u)) (hg : s.heap.Ns env.globals mg) (hb : s.heap.Ns env.builtins mb)
    (g1 : mg "chr" = none) (g2 : mg "ord" = none) (e1 : mb "chr" = some (.builtin "chr")) (e2 : mb "ord" = some (.builtin "ord")) :
    wpAny (model prog w) A (eval (capElt a1 a2 a3 a4 b1 b2 b3 b4 b5 b6 b7 c1 c2) env) (fun r s' => (∃ t, r = .str (sOf [capN ch]) t) ∧ Keeps s s') E s := by
  have rd : ∀ {A' : Around} {E' : Value → Shared → Prop} {Q' : Value → Shared → Prop} {p : Pos} {k : Nat}, Q' (.str (sOf [ch]) u) { s with toks := k } → wpAny (model prog w) A' (eval (.Name "sign" p) env) Q' E' { s with toks := k } := by
    intro A' E' Q' p k hQ
    exact wpAny_Name (wpAny_loadName_local (s := { s with toks := k }) hk h1 hn hm hQ) (by decide +kernel)
  have bl : ∀ {A' : Around} {E' : Value → Shared → Prop} {Q' : Value → Shared → Prop} {p : Pos} {k : Nat} {x : Str} {v : Value}, env.kindOf x = some .globalImplicit → (x == ("__debug__" : Str)) = false → mg x = none → mb x = some v → Q' v { s with toks := k } → wpAny (model prog w) A' (eval (.Name x p) env) Q' E' { s with toks := k } := by
    intro A' E' Q' p k x v h hd hg' hb' hQ
    exact wpAny_Name (ks_loadName_global (s := { s with toks := k }) hk h (loadGlobal_builtin hg hg' hb hb' hQ)) hd
  have one : ∀ {A' : Around} {E' : Value → Shared → Prop} {Q' : Value → Shared → Prop} {k : Nat} {pos : Pos} {id : String} {e : Expr}, starEach [e] env = [(false, PySem.eval e env)] → wpAny (model prog w) A' (PySem.eval e env) (fun v s₁ => wpAny (model prog w) A' (call (.builtin id) [v]) Q' E' s₁) E' { s with toks := k } →
      wpAny (model prog w) A' (callWith pos (.builtin id) [] (backTo pos (starEach [e] env)) []) Q' E' { s with toks := k } := by
    intro A' E' Q' k pos id e he h
    rw [he]
    exact Calls.callWith_builtin rfl (Calls.evalArgs_plain (Calls.spliced_cons (wpAny_mono h (fun _ _ h₁ => Calls.spliced_nil h₁) fun _ _ e => e)))
  have kp : ∀ k, Keeps s { s with toks := k } := fun k => ⟨s.heap, k, rfl, fun _ _ e => e⟩
  have last : ∀ k, capN ch = ch → wpAny (model prog w) A (eval (.Name "sign" c1) env) (fun r s' => (∃ t, r = .str (sOf [capN ch]) t) ∧ Keeps s s') E { s with toks := k } := fun k e => rd ⟨⟨u, by rw [e]⟩, kp k⟩
  refine wpAny_IfExp (isTrue_chain (Constant_str (test_link (rd (les_str (x := [97]) (y := [ch]) (wpAny_truthy_bool ?_))))) (by with_unfolding_all rfl))
  rw [leL_one]
  by_cases q1 : 97 ≤ ch
  · rw [decide_eq_true q1]
    simp only [if_true]
    refine test_last (Constant_str (les_str (x := [ch]) (y := [122]) (wpAny_truthy_bool ?_)))
    rw [leL_one]
    by_cases q2 : ch ≤ 122
    · rw [decide_eq_true q2]
      simp only [if_true]
      have ec : capN ch = ch - 32 := by
        unfold capN
        rw [Nat.ble_eq_true_of_le q1]
        dsimp only
        rw [Nat.ble_eq_true_of_le q2]
      refine Call_ (bl h2 (by decide +kernel) g1 e1 (one rfl (wpAny_BinOp (Call_ (bl h3 (by decide +kernel) g2 e2 (one rfl (rd (ord_of_one (by rw [sOf_len]; rfl) ?_)))) callName_eq)))) callName_eq
      refine wpAny_Constant_int (PyProof.Rows.sub_int ?_)
      have ez : (((sOf [ch]).cps.getD 0 0 : Nat) : Int) - 32 = ((ch - 32 : Nat) : Int) := by
        show ((ch : Nat) : Int) - 32 = _
        omega
      rw [ez]
      refine chr_of_range (by omega) (by omega) ?_
      rw [ec]
      exact ⟨⟨_, rfl⟩, kp _⟩
    · rw [decide_eq_false q2]
      simp only [Bool.false_eq_true, if_false]
      refine last _ ?_
      unfold capN
      rw [Nat.ble_eq_true_of_le q1]
      dsimp only
      rw [show Nat.ble ch 122 = false from by cases z : Nat.ble ch 122 with | false => rfl | true => exact absurd (Nat.le_of_ble_eq_true z) q2]
  · rw [decide_eq_false q1]
    simp only [Bool.false_eq_true, if_false]
    refine last _ ?_
    unfold capN
    rw [show Nat.ble 97 ch = false from by cases z : Nat.ble 97 ch with | false => rfl | true => exact absurd (Nat.le_of_ble_eq_true z) q1]
end
end Mine
-- T10
open PySem PySem.W PyProof.Rows PySem.Calls
namespace Mine
noncomputable def CapF (v r : Value) : Prop := ∃ c u t, v = .str (sOf [c]) u ∧ r = .str (sOf [capN c]) t
theorem cap_pairs : ∀ (l : Txt) (vs ys : List Value), vs.length = l.length → (∀ (j : Nat) (v : Value), vs[j]? = some v → SignAt (sOf l) j v) → Paired CapF vs ys → ∃ lt : List (Str × Tok), strValues lt = ys ∧ lt.map (·.1) = l.map fun c => sOf [capN c]
  | [], vs, ys, hl, _, hp => by
    cases hp with
    | nil => exact ⟨[], rfl, rfl⟩
    | cons _ _ => cases hl
  | c :: l, vs, ys, hl, hs, hp => by
    cases hp with
    | nil => cases hl
    | cons h t =>
      rename_i v r vs ys
      obtain ⟨c', u', e1, e2⟩ := hs 0 v rfl
      obtain ⟨c'', u, tk, e3, e4⟩ := h
      have e1 : (c :: l).toArray[0]? = some c' := e1
      simp at e1
      subst e1
      rw [e2] at e3
      have e5 : (⟨#[c]⟩ : Str) = sOf [c''] := by injection e3
      have e6 : c = c'' := by have := sOf_inj (a := [c]) (b := [c'']) e5; simpa using this
      subst e6
      obtain ⟨lt, g1, g2⟩ := cap_pairs l vs ys (by simpa using hl) (fun j v e => by
        obtain ⟨c, u, f1, f2⟩ := hs (j + 1) v (by simpa using e)
        refine ⟨c, u, ?_, f2⟩
        show l.toArray[j]? = _
        have f1 : (_ :: l).toArray[j + 1]? = some c := f1
        simpa using f1) t
      exact ⟨(sOf [capN c], tk) :: lt, by rw [e4, ← g1]; rfl, by rw [List.map_cons, g2]; rfl⟩
theorem fold_cap : ∀ (l : Txt) (acc : Array Nat), (l.map fun c => sOf [capN c]).foldl (fun acc p => acc ++ ("" : Str).cps ++ p.cps) acc = acc ++ (l.map capN).toArray
  | [], acc => by simp
  | c :: l, acc => by
    rw [List.map_cons, List.foldl_cons, fold_cap l, List.map_cons]
    have : (("" : Str).cps) = #[] := rfl
    rw [this]
    show acc ++ #[] ++ [capN c].toArray ++ _ = _
    simp
theorem join_cap (l : Txt) : PySem.Txt.join "" (l.map fun c => sOf [capN c]) = sOf (cap l) := by
  cases l with
  | nil => rfl
  | cons c l =>
    show Str.mk ((l.map fun c => sOf [capN c]).foldl (fun acc p => acc ++ ("" : Str).cps ++ p.cps) (sOf [capN c]).cps) = _
    rw [fold_cap]
    show Str.mk ([capN c].toArray ++ _) = Str.mk (capN c :: l.map capN).toArray
    simp
theorem sum_cap : ∀ (l : Txt) (k : Nat), (l.map fun c => sOf [capN c]).foldl (fun a (p : Str) => a + p.length + ("" : Str).length) k = k + l.length
  | [], k => rfl
  | c :: l, k => by
    rw [List.map_cons, List.foldl_cons, sum_cap l]
    show k + 1 + 0 + l.length = k + (l.length + 1)
    omega
theorem joinOk_cap (l : Txt) (h : small l.length = true) : JoinOk "" (l.map fun c => sOf [capN c]) = true := by
  unfold JoinOk
  rw [List.foldl_toArray', sum_cap] <;> try rfl
  have := small_lt h
  unfold Builtin.Str.tooLong
  rw [decide_eq_false (by rw [sizeLine_eq]; omega)]
  rfl
section
variable {c : Cx} {A : Around} {n : Nat} {f : Fx} {ρ : List D} {σ : Sg} {μ N : List Addr} {s : Shared} {E : Value → Shared → Prop} {Q : Value → Shared → Prop}
variable {a1 a2 a3 a4 b1 b2 b3 b4 b5 b6 b7 c1 c2 p0 p1 px py pc : Pos} {a : Addr} {o : Obj} {fd : FuncData} {scope : Scope}
theorem cap_call (O : Ok2 c) (H : Here c A (n + 1) f ρ σ μ s.heap) (hf : c.K.lookup a = some o) (hd : o.data = .func fd) (hh : Head c fd 1 [[116, 101, 120, 116]])
    (hb : fd.body = .stmts [.Return (some (.Call (.Attribute (.Constant (.str "") 0 p1) "join" ⟨33, 11, 33, 18⟩) [.ListComp (capElt a1 a2 a3 a4 b1 b2 b3 b4 b5 b6 b7 c1 c2) [⟨.Name "sign" px, .Name "text" py, [], 0⟩] scope pc] [] ⟨33, 11, 33, 90⟩)) p0])
    (hfree : ∀ y ∈ scope.names, y.2 ≠ .free) (hcell : ∀ y ∈ scope.names, y.2 ≠ .cell) (hkind : scope.kind = .function) (hnames : ∀ y ∈ scope.names, y.2 = .local → scope.names.lookup y.1 = some .local) (hx : scope.names.lookup ("sign" : Str) = some .local)
    (h2 : scope.names.lookup ("chr" : Str) = some .globalImplicit) (h3 : scope.names.lookup ("ord" : Str) = some .globalImplicit) (g1 : nsIn c.K mainGlobals "chr" = some none) (g2 : nsIn c.K mainGlobals "ord" = some none)
    {l : Txt} {v : Value} (hs : small l.length = true) (hv : V c.fa μ s.heap (.str l) v) (P : Post c f.fs N μ s E (kV c Q) (.ok (.v (.str (cap l))) σ)) : wpAny c.M A (call (.ref a) [v]) Q E s := by
  have hl := small_lt hs
  refine wpAny_call (enters O H.call0 hf hd hb (ds := [.str l]) hh (Vs.one hv) fun f' h₀ t e1 e2 e3 H' hk hn _ => ?_)
  refine wpAny_execs_cons (wpAny_Return_some (Call_method1 rfl rfl (by decide) (Constant_str (SB.join ?_))))
  have loc : locOk f'.slots 0 ("text" : Str) = true := by rw [e2]; decide +kernel
  refine wpAny_ListComp_walk (fun _ => true) CapF hfree hcell hkind hnames hx (H'.readN (s := { s with heap := h₀, toks := t + 1 }) loc (d := .str l) rfl (by simp) fun v' hv' => ?_)
  unfold V at hv'
  obtain ⟨tk, rfl⟩ := hv'
  refine wpAny_pyIter_str fun oi St W hst => ?_
  have up : ∀ (h' : Heap), (∀ b o', b ∉ [h₀.objs.size] → (h₀.push oi).get? b = some o' → h'.get? b = some o') → ∀ b o', h₀.get? b = some o' → h'.get? b = some o' :=
    fun h' hk b o' e => hk b o' (old_not_new e) (Heap.get?_push_of_some _ e)
  have st : ∀ b o, c.base.get? b = some o → h₀.get? b = some o := H'.inv.stays
  refine ⟨h₀.objs.size, [h₀.objs.size], [h₀.objs.size], (sOf l).cps.size, SignAt (sOf l), St, rfl, W _ H'.handled, ?_, hst, ?_, ⟨?_, ?_⟩, ?_⟩
  · show l.toArray.size ≤ sizeLine
    rw [List.size_toArray, sizeLine_eq]; omega
  · intro b hb
    show b < (h₀.push oi).objs.size
    rw [Heap.size_push, List.mem_singleton.mp hb]
    exact Nat.lt_succ_self _
  · intro C i v s₃ m₃ E' hP hn hm _ _
    exact wpAny_pure ⟨rfl, s₃.heap, s₃.toks, rfl, fun _ _ e => e⟩
  · intro C i v s₃ m₃ E' hP _ hn hm hk3 _
    obtain ⟨ch, u, _, rfl⟩ := hP
    have old : ∀ b o, c.base.get? b = some o → s₃.heap.get? b = some o := fun b o e => up s₃.heap hk3 b o (st b o e)
    refine wpAny_mono (cap_elt (ch := ch) (u := u) hkind hx h2 h3 hn hm (O.T.g.keeps old) (O.T.b.keeps old) (mg_none_of O.X O.T.g g1) (mg_none_of O.X O.T.g g2) ((O.T.builtins _ (by decide +kernel)).trans (by decide +kernel)) ((O.T.builtins _ (by decide +kernel)).trans (by decide +kernel))) (fun r s₄ h₄ => ?_) fun _ _ e => e
    obtain ⟨⟨t', rfl⟩, h₄⟩ := h₄
    exact ⟨⟨ch, u, t', rfl, rfl⟩, h₄⟩
  · intro D h' tk' ys vs hnew hlD hplD hlen hP hF hkk
    have hsz : vs.length = l.length := by rw [hlen]; show l.toArray.size = _; simp
    have hfl : vs.filter (fun _ => true) = vs := List.filter_eq_self.mpr fun _ _ => rfl
    rw [hfl] at hF
    obtain ⟨lt, q1, q2⟩ := cap_pairs l vs ys.toList hsz hP hF
    refine ⟨D, lt, rfl, by rw [q1]; simpa using hlD, _, q2, joinOk_cap l hs, fun t' k => ?_⟩
    rw [join_cap]
    have kk : ∀ b o, s.heap.get? b = some o → h'.get? b = some o := fun b o e => up h' hkk b o (hk b o e)
    refine Post.now P (s' := { s with heap := h', toks := k }) (H.inv.keep (Keep.of_keeps [] kk) (fun _ _ => List.not_mem_nil) fun _ m => absurd m List.not_mem_nil) ⟨List.prefix_refl _, fun _ m => .inl m, Keep.of_keeps _ kk⟩ ⟨rfl, rfl⟩ _ ?_
    unfold V
    exact ⟨t', rfl⟩
end
end Mine
-- T11
open PySem PySem.W PyProof.Rows PySem.Calls
namespace Mine
theorem sound (c : Cx) (O : Ok5 c) (low : sysModules < c.base.objs.size) : ∀ n, Sound c n
  | 0 => { E := fun _ _ P => P.elim, T := fun _ _ P => P.elim, Es := fun _ _ P => P.elim, Ts := fun _ _ P => P.elim, Vs := fun _ _ P => P.elim, C := fun _ _ P => P.elim, S := fun _ _ P => P.elim, Ss := fun _ _ P => P.elim, W := fun _ _ _ P => P.elim }
  | n + 1 => by
    have S := sound c O low n
    have SE := S.toSoundE
    refine { E := ?_, T := ?_, Es := ?_, Ts := ?_, Vs := ?_, C := ?_, S := ?_, Ss := ?_, W := ?_ }
    · intro A f ρ σ μ N s E Q x e H h P
      cases x with
      | lit d => exact sE_lit H h P
      | loc x => exact sE_loc H h (ih := c.run n) P
      | glb nm d => exact sE_glb O.toOk H h P
      | cmp op l r => exact sE_cmp SE H h P
      | btw l m r => exact sE_btw SE H h P
      | nt e => exact sE_nt SE H h P
      | neg k => exact sE_neg H h P
      | bop a es => exact sE_bop SE H h P
      | ife t a b => exact sE_ife SE H h P
      | add l r => exact sE_add SE H h P
      | mns l r => exact sE_mns SE H h P
      | mul l r => exact sE_mul SE H h P
      | call f es => exact sE_call O.toOk SE H h P
      | callv x es => exact sE_callv O.toOk SE H h P
      | len e => exact sE_len O.toOk SE H h P
      | ord e => exact sE_ord O.toOk SE H h P
      | lev a b => exact sE_lev O SE H h P
      | app o e => exact sE_app SE H h P
      | ext o e => exact sE_ext SE H h P
      | upd o e => exact sE_upd SE H h P
      | pop o => exact sE_pop SE H h P
      | find o a b c => exact sE_find SE H h P
      | spl k => exact sE_spl O.toOk H h (ih := c.run n) P
      | attr o j => exact sE_attr O.toOk SE H h P
      | sub o i => exact sE_sub SE H h P
      | slc o lo hi => exact sE_slc SE H h P
      | tup es => exact sE_tup SE H h P
      | lst es => exact sE_lst SE H h P
      | dct ks fs => exact sE_dct O.toOk low H h P
    · intro A f ρ σ μ N s E Q x e H h P
      cases x with
      | lit d => exact sT_lit H h P
      | loc x => exact sT_loc H h P
      | cmp op l r => exact sT_cmp SE H h P
      | btw l m r => exact sT_btw SE H h P
      | nt e => exact sT_nt SE H h P
      | bop a es => exact sT_bop SE H h P
      | ife t a b => exact sT_ife SE H h P
      | call f es => exact sT_call O.toOk SE H h P
      | _ => exact P.elim
    · intro A f ρ σ μ N s E Q x e pos H h P
      exact sEs SE H h P
    · intro A f ρ σ μ N s E Q a x e H h P
      exact sTs SE H h P
    · intro A f ρ σ μ N s E Q a x e pos H h P
      exact sVs SE H h P
    · intro A f ρ σ μ N s E Q k ds vs H h P
      exact sC O.toOk3 S H h P
    · intro A f ρ σ μ s E Q x st H h P
      cases x with
      | asg x e => exact sS_asg S H h P
      | asgT xs e => exact sS_asgT S H h P
      | aug x e => exact sS_aug S H h P
      | ex e => exact sS_ex S H h P
      | ret e => exact sS_ret S H h P
      | ifs t a b => exact sS_ifs S H h P
      | whl t b => exact sS_whl (fun h1 h2 => sW S H h1 h2 P) h
      | rai a b => exact sS_rai O.toOk4 S H h P
      | fors x e b => exact sS_fors S H h P
      | dead => exact P.elim
    · intro A f ρ σ μ s E Q xs ss H h P
      exact sSs S H h P
    · intro A f ρ σ μ s E Q t b te bs H h1 h2 P
      exact sW S H h1 h2 P
end Mine
-- T12
open PySem PySem.W PyProof.Rows PySem.Calls
namespace Mine
/-- the deep data of an answer -/
noncomputable def dats (f : D → Option PyData) : List D → Option (List PyData)
  | [] => some []
  | d :: ds => match f d with
    | some p => match dats f ds with
      | some r => some (p :: r)
      | none => none
    | none => none
noncomputable def dat (σ : Sg) (n : Nat) : D → Option PyData := Nat.rec (fun _ => none) (fun _ ih d => match d with
  | .none => some .none
  | .bool b => some (.bool b)
  | .int i => some (.int i)
  | .str l => some (.str (sOf l))
  | .tup ds => match dats ih ds with
    | some r => some (.tuple r)
    | none => none
  | .ref i => match nth σ i with
    | some (.list ds) => match dats ih ds with
      | some r => some (.list r)
      | none => none
    | _ => none
  | _ => none) n
theorem dat_succ (σ : Sg) (n : Nat) (d : D) : dat σ (n + 1) d = (match d with
  | .none => some .none
  | .bool b => some (.bool b)
  | .int i => some (.int i)
  | .str l => some (.str (sOf l))
  | .tup ds => match dats (dat σ n) ds with
    | some r => some (.tuple r)
    | none => none
  | .ref i => match nth σ i with
    | some (.list ds) => match dats (dat σ n) ds with
      | some r => some (.list r)
      | none => none
    | _ => none
  | _ => none) := rfl
section
variable {fa : Nat → Addr} {μ : List Addr} {h g : Heap} {σ : Sg}
theorem dats_reads {f : D → Option PyData} (hf : ∀ d p v, f d = some p → V fa μ h d v → ∃ as, Reads g v p as) : ∀ (ds : List D) (ps : List PyData) (vs : List Value), dats f ds = some ps → Vs fa μ h ds vs → ∃ as, ReadsAll g vs ps as
  | [], ps, vs, e, x => by
    cases e
    unfold Vs at x; subst x
    exact ⟨[], .nil⟩
  | d :: ds, ps, vs, e, x => by
    unfold Vs at x
    obtain ⟨v, vs', rfl, x1, x2⟩ := x
    unfold dats at e
    split at e
    · rename_i p hp
      split at e
      · rename_i r hr
        cases e
        obtain ⟨as, ra⟩ := hf d p v hp x1
        obtain ⟨bs, rb⟩ := dats_reads hf ds r vs' hr x2
        exact ⟨_, .cons ra rb⟩
      · cases e
    · cases e
theorem dat_reads (tup : ∀ b xs, IsTup h b xs → IsTup g b xs) (ob : ∀ i ds a, nth σ i = some (.list ds) → nth μ i = some a → ∃ vs m, IsL g a vs.toArray m ∧ Vs fa μ h ds vs) (len : μ.length = σ.length) :
    ∀ (n : Nat) (d : D) (p : PyData) (v : Value), dat σ n d = some p → V fa μ h d v → ∃ as, Reads g v p as
  | 0, _, _, _, e, _ => nomatch e
  | n + 1, d, p, v, e, x => by
    rw [dat_succ] at e
    have ih := dats_reads (fa := fa) (μ := μ) (h := h) (g := g) (dat_reads tup ob len n)
    cases d with
    | none => cases e; unfold V at x; subst x; exact ⟨_, .none⟩
    | bool b => cases e; unfold V at x; subst x; exact ⟨_, .bool b⟩
    | int i => cases e; unfold V at x; obtain ⟨t, rfl⟩ := x; exact ⟨_, .int i t⟩
    | str l => cases e; unfold V at x; obtain ⟨t, rfl⟩ := x; exact ⟨_, .str _ t⟩
    | tup ds =>
      dsimp only at e
      split at e
      · rename_i r hr
        cases e
        unfold V at x
        obtain ⟨a, vs, rfl, ht, hv⟩ := x
        obtain ⟨as, ra⟩ := ih ds r vs hr hv
        obtain ⟨o, e1, e2, m, e3⟩ := tup _ _ ht
        exact ⟨as, .tuple e1 e2 e3 (by rw [List.toList_toArray]; exact ra)⟩
      · cases e
    | ref i =>
      dsimp only at e
      split at e
      · rename_i ds hi
        split at e
        · rename_i r hr
          cases e
          unfold V at x
          obtain ⟨a, ha, rfl⟩ := x
          obtain ⟨vs, m, hl, hv⟩ := ob i ds a hi ha
          obtain ⟨as, ra⟩ := ih ds r vs hr hv
          exact ⟨a :: as, .list hl rfl rfl (by rw [List.toList_toArray]; exact ra)⟩
        · cases e
      · cases e
    | _ => cases e
end
end Mine
-- T13
open PySem PySem.W PyProof.Rows PySem.Calls
namespace Mine
section
variable {c : Cx} {A : Around} {n : Nat} {fs : List Env} {σ : Sg} {μ N : List Addr} {s : Shared} {E : Value → Shared → Prop} {Q : Value → Shared → Prop}
/-- a function of the text is called, from anywhere -/
theorem callTop (O : Ok3 c) (S : Sound c n) (H : Call0 c A (n + 1) fs σ μ s.heap) {k : Nat} {fn : Fn} {ss : List St} (hfn : nth c.F k = some fn) (hss : fn.bd = .body ss) {ds : List D} {vs : List Value} (hv : Vs c.fa μ s.heap ds vs) (P : Post c fs N μ s E (kV c Q) (c.run (n + 1) (.C k ds) σ)) : wpAny c.M A (call (.ref (c.fa k)) vs) Q E s := by
  have P : Post c fs N μ s E (kV c Q) (step c.F c.W c.k0 (c.run n) (.C k ds) σ) := P
  unfold step at P
  dsimp only at P
  rw [hfn] at P
  dsimp only at P
  rw [hss] at P
  dsimp only at P
  split at P
  · rename_i ha
    have ha : ds.length = fn.arity := Nat.eq_of_beq_eq_true ha
    obtain ⟨o, fd, body, ho, hd, hb, hh, hc⟩ := chkFn_body (O.fns k fn hfn) hss
    rw [← ha] at hh P
    refine wpAny_call (enters O.toOk2 H ho hd hb hh hv fun f' h₀ t e1 e2 e3 H' hk hn _ => ?_)
    refine S.Ss (Q := fun fl s' => Q (match fl with | .ret v => v | _ => .none) s') H' (by rw [e1, e2]; exact hc) ?_
    generalize c.run n (.Ss ss (ds ++ blanks (fn.slots.length - ds.length))) σ = r at P
    cases r with
    | stuck => exact P.elim
    | exc t σ' =>
      intro s' e x ks q
      rw [show f'.fs = f'.env :: f'.outer from rfl, e3] at x
      exact exn_leaves (Around.frames_deeper H.frames) rfl x fun h' x' k' => P { s' with heap := h' } e x' (KeepS.into hk hn (ks.trans (k'.weak fun _ z => absurd z List.not_mem_nil))) ⟨q.gens, q.os⟩
    | ok a σ' =>
      cases a with
      | f fl ρ' =>
        intro μ' s' i x q l
        have x' : Ext N μ s.heap μ' s'.heap := Ext.into hk hn x
        cases fl with
        | next => exact P μ' s' i x' ⟨q.gens, q.os⟩ .none (by unfold V; rfl)
        | ret d => exact fun v hv => P μ' s' i x' ⟨q.gens, q.os⟩ v hv
      | _ => exact P.elim
  · exact P.elim
end

noncomputable abbrev Cx.re (c : Cx) (b : Heap) : Cx := { c with base := b }
/-- the module, as the law's call finds it -/
structure Ground (c : Cx) (σ0 : Sg) : Prop where
  ok : ∀ b, c.base.StaysIn b → Ok5 (c.re b)
  low : sysModules < c.base.objs.size
  len : c.μ0.length = σ0.length
  k0 : c.μ0.length ≤ c.k0
  nodup : c.μ0.Nodup
  ob : ∀ i o a, nth σ0 i = some o → nth c.μ0 i = some a → O c σ0 c.μ0 c.base i a o
noncomputable abbrev hide1 (h : Heap) (L : Addr) : Heap := h.hide L
theorem Ground.inv {c : Cx} {σ0 : Sg} (G : Ground c σ0) : Inv c c.base σ0 c.μ0 :=
  ⟨fun _ _ e => e, List.prefix_refl _, G.len, G.nodup, fun i a e q => absurd (nth_lt e) (Nat.not_lt.mpr (Nat.le_trans G.k0 q)), G.ob⟩
theorem O.re {c : Cx} {b : Heap} {σ : Sg} {μ : List Addr} {h : Heap} {i : Nat} {a : Addr} {ob : Ob} (x : O c σ μ h i a ob) : O (c.re b) σ μ h i a ob := by
  cases ob <;> exact x
theorem O.unre {c : Cx} {b : Heap} {σ : Sg} {μ : List Addr} {h : Heap} {i : Nat} {a : Addr} {ob : Ob} (x : O (c.re b) σ μ h i a ob) : O c σ μ h i a ob := by
  cases ob <;> exact x

/-- where the law stands: its frame, and the ground beneath -/
structure AtLaw (c : Cx) (A : Around) (env : Env) (L : Addr) (m : Str → Option Value) (h : Heap) : Prop where
  frames : A.frames = some [env]
  frame : env.frame = some L
  kind : env.scope.kind ≠ .module
  handled : A.handled = none
  depth : A.depth + 450 < recursionLimit
  units : A.units + 3000 < cLine
  stays : c.base.StaysIn h
  above : c.base.objs.size ≤ L
  ns : h.Ns L m
theorem AtLaw.call0 {c : Cx} {σ0 : Sg} (G : Ground c σ0) {A : Around} {env : Env} {L : Addr} {m : Str → Option Value} {h : Heap} (H : AtLaw c A env L m h) {n : Nat} (hn : n ≤ 440) : Call0 (c.re (h.hide L)) A n [env] σ0 c.μ0 h := by
  have lt : ∀ a ∈ c.μ0, a < c.base.objs.size := fun a m => G.inv.lt m
  have kp : ∀ b o, c.base.get? b = some o → h.get? b = some o := H.stays
  refine ⟨⟨fun b o e => Heap.of_hide e, List.prefix_refl _, G.len, G.nodup, fun i a e q => absurd (nth_lt e) (Nat.not_lt.mpr (Nat.le_trans G.k0 q)), fun i ob a e1 e2 => ?_⟩, H.frames, ?_, fun e he b hb m => ?_, H.handled, ?_, ?_, ?_⟩
  · exact (O.mono (List.prefix_refl _) (fun x q _ => q) (fun b xs ⟨o, e, r⟩ => ⟨o, kp _ _ e, r⟩) (fun o e => kp _ _ e) (fun b _ _ o e => kp _ _ e) (G.ob i ob a e1 e2)).re
  · obtain ⟨o, es, ep, ho, hd, _⟩ := H.ns
    exact ⟨H.kind, ⟨L, o, H.frame, Heap.hide_self h L, ho, fun vs q => by rw [hd] at q; cases q⟩, trivial⟩
  · rw [List.mem_singleton.mp he, H.frame] at hb
    cases hb
    exact absurd (lt _ m) (Nat.not_lt.mpr H.above)
  · have := H.depth; omega
  · have := H.units; omega
  · show (h.hide L).objs.size ≤ h.objs.size
    rw [Heap.hide_size]; exact Nat.le_refl _
theorem AtLaw.stays1 {c : Cx} {A : Around} {env : Env} {L : Addr} {m : Str → Option Value} {h : Heap} (H : AtLaw c A env L m h) : c.base.StaysIn (h.hide L) := fun b o e => (Heap.hide_ne h fun (q : b = L) => absurd (Heap.lt_size e) (Nat.not_lt.mpr (q ▸ H.above))).trans (H.stays b o e)

/-- all stands but what lies at W or L -/
noncomputable def But (W L : Addr) (h g : Heap) : Prop := ∀ b o, h.get? b = some o → b ≠ W → b ≠ L → g.get? b = some o
section
variable {c : Cx} {σ0 : Sg} {A : Around} {env : Env} {L W : Addr} {m : Str → Option Value} {s : Shared} {E : Value → Shared → Prop} {Q : Value → Shared → Prop}
theorem reads_after (G : Ground c σ0) (H : AtLaw c A env L m s.heap) {xs : Array Value} (hW : s.heap.IsList W xs) (hWb : c.base.objs.size ≤ W) {σ' : Sg} {μ' : List Addr} {h' g : Heap} (I : Inv (c.re (s.heap.hide L)) h' σ' μ') (X : Ext [] c.μ0 s.heap μ' h') (kk : ∀ b o, s.heap.get? b = some o → h'.get? b = some o)
    (hg : But W L h' g) {n : Nat} {d : D} {p : PyData} {v : Value} (e : dat σ' n d = some p) (hv : V c.fa μ' h' d v) : ∃ as, Reads g v p as := by
  have off : ∀ a ∈ μ', a ≠ W ∧ a ≠ L := fun a m => by
    rcases X.new a m with q | q
    · have := G.inv.lt q
      exact ⟨Nat.ne_of_lt (Nat.lt_of_lt_of_le this hWb), Nat.ne_of_lt (Nat.lt_of_lt_of_le this H.above)⟩
    · obtain ⟨o, eo, _⟩ := hW
      obtain ⟨o', es, ep, eo', _⟩ := H.ns
      exact ⟨fun z => (by rw [z, eo] at q; cases q), fun z => (by rw [z, eo'] at q; cases q)⟩
  have nt : ∀ b ys, IsTup h' b ys → b ≠ W ∧ b ≠ L := fun b ys ⟨o, e1, e2, n', e3⟩ => by
    refine ⟨fun z => ?_, fun z => ?_⟩
    · obtain ⟨o', f1, f2, _⟩ := hW
      rw [z, kk _ _ f1] at e1; cases e1
      rw [f2] at e2; exact absurd e2 (by decide)
    · obtain ⟨o', es, ep, f1, f2, _⟩ := H.ns
      rw [z, kk _ _ f1] at e1; cases e1
      rw [f2] at e3; cases e3
  refine dat_reads (fa := c.fa) (μ := μ') (h := h') (σ := σ') (fun b ys t => ?_) (fun i ds a e1 e2 => ?_) I.len n d p v e hv
  · obtain ⟨q1, q2⟩ := nt b ys t
    obtain ⟨o, e1, r⟩ := t
    exact ⟨o, hg b o e1 q1 q2, r⟩
  · obtain ⟨vs, k, l, r⟩ := I.ob i _ a e1 e2
    obtain ⟨q1, q2⟩ := off a (nth_mem e2)
    exact ⟨vs, k, hg a _ l q1 q2, r⟩
noncomputable def tabR (F : List Fn) (Wt : List (Txt × List Txt)) (k0 : Nat) (σ0 : Sg) (k : Nat) (ds : List D) : Option PyData := match Mine.run F Wt k0 400 (.C k ds) σ0 with
  | .ok a σ => match a with
    | .v d => dat σ 30 d
    | _ => none
  | _ => none
/-- a table of the law's is made -/
theorem tab_call (G : Ground c σ0) (H : AtLaw c A env L m s.heap) {xs : Array Value} (hW : s.heap.IsList W xs) (hWb : c.base.objs.size ≤ W) {k : Nat} {fn : Fn} {ss : List St} (hfn : nth c.F k = some fn) (hss : fn.bd = .body ss) {ds : List D} {vs : List Value} (hv : Vs c.fa c.μ0 s.heap ds vs) {p : PyData} (e : tabR c.F c.W c.k0 σ0 k ds = some p)
    (hQ : ∀ s' v, (∀ b o, s.heap.get? b = some o → s'.heap.get? b = some o) → Rest s s' → (∀ g, But W L s'.heap g → ∃ as, Reads g v p as) → Q v s') : wpAny (model c.prog c.w) A (call (.ref (c.fa k)) vs) Q E s := by
  have OK := G.ok _ H.stays1
  refine callTop (c := c.re (s.heap.hide L)) (N := []) OK.toOk3 (sound _ OK (by show sysModules < (s.heap.hide L).objs.size; rw [Heap.hide_size]; exact Nat.lt_of_lt_of_le G.low (Nat.le_trans H.above (Nat.le_of_lt (Ns.there H.ns)))) 399) (H.call0 G (by omega)) hfn hss hv ?_
  show Post _ _ _ _ _ _ _ (Mine.run c.F c.W c.k0 400 (.C k ds) σ0)
  unfold tabR at e
  generalize Mine.run c.F c.W c.k0 400 (.C k ds) σ0 = r at e
  cases r with
  | stuck => cases e
  | exc _ _ => cases e
  | ok a σ' =>
    cases a with
    | v d =>
      intro μ' s' I X q v hv'
      have kk : ∀ b o, s.heap.get? b = some o → s'.heap.get? b = some o := fun b o eb => by
        by_cases z : b = L
        · refine X.keep.old b o eb fun mm => ?_
          exact absurd (G.inv.lt mm) (Nat.not_lt.mpr (z ▸ H.above))
        · exact I.stays b o ((Heap.hide_ne _ z).trans eb)
      exact hQ s' v kk q fun g hg => reads_after G H hW hWb I X kk hg e hv'
    | _ => cases e
end
end Mine
-- X4
open PySem PySem.W PyProof.Rows PySem.Calls
namespace Mine
open Builtin Builtin.ObjectAttr
section
variable {prog : Program} {w : World} {M : Model} {A : Around} {E : Value → Shared → Prop} {h : Heap} {g : Array GenState} {d : Drawn} {t : Nat} {os : OsState}
variable {nm q : Str} {C N x da : Addr} {bs bmB : List Value} {sn : List Str} {sub : List Value} {ab : Bool} {col : Option Bool} {dd : Option Addr} {k0 k1 k2 k3 k5 : Option Value} {newId B : String} {mN : Str → Option Value} {name : Str} {v : Value} {o od : Obj} {vs : Array Value}
theorem exc_entry {tk : Tok} {Q : Fin → Shared → Prop} (FB : ExcAttrBase B bmB)
    (hC : h.get? C = some (excClassObj nm q C N bs bmB true sn sub ab col dd k0 k1 k2 k3 k5 newId)) (hN : h.Ns N mN) (hna : mN name = none) (hB : typeLookup (.type B) name = pure none)
    (hx : h.get? x = some o) (hc : o.cls = .ref C) (hd : o.data = .fields vs) (hda : o.dict = some da) (hod : h.get? da = some od) (hl : lookIn name od = some (some v)) (hh : handedOut v = pure v) (hq : Q (.done (.ret v)) ⟨h, g, d, t, os⟩) :
    wpAny (model prog w) A (Builtin.«object.__getattribute__» ⟨[.ref x, .str name tk], []⟩) Q E ⟨h, g, d, t, os⟩ := by
  unfold Builtin.«object.__getattribute__»
  repeat (first | (with_reducible refine wpAny_loadPart_at hx ?_; rw [hc]) | (with_reducible refine wpAny_typeLookup_exc hC hN FB.mro hB ?_; rw [hna]) | wp_step)
  split
  · rename_i c hcd
    rw [hd] at hcd; cases hcd
  unfold instanceDict
  repeat (first | (with_reducible refine wpAny_loadPart_at hx ?_; rw [hc]) | with_reducible refine wpAny_loadPart_at hC ?_ | wp_step)
  rw [hda]
  refine wpAny_pure ?_
  have hnl := nsLook_of hl
  have hns : ∀ {A' : Around} {E' : Value → Shared → Prop} {Q' : Option Value → Shared → Prop}, Q' (some v) ⟨h, g, d, t, os⟩ → wpAny (model prog w) A' (nsGet da name) Q' E' ⟨h, g, d, t, os⟩ := fun hQ => by
    unfold nsGet
    refine wpAny_bind (wpAny_loadPart_at hod ?_)
    rw [hnl]
    exact wpAny_pure hQ
  repeat (first | (with_reducible refine hns ?_) | wp_step)
  exact hq
theorem check_ga {nameV : Value} {Q : Unit → Shared → Prop} (FB : ExcAttrBase B bmB) (hC : h.get? C = some (excClassObj nm q C N bs bmB true sn sub ab col dd k0 k1 k2 k3 k5 newId)) 
    (hx : h.get? x = some o) (hc : o.cls = .ref C) (hq : Q () ⟨h, g, d, t, os⟩) : wpAny M A (checkBuiltinCall "BaseException.__getattribute__" ⟨[.ref x, nameV], []⟩) Q E ⟨h, g, d, t, os⟩ :=
  wpAny_check_ga_own FB hC .base hx hc hq
theorem exc_attr {expr : Bool} {Q : Value → Shared → Prop} (FB : ExcAttrBase B bmB)
    (hC : h.get? C = some (excClassObj nm q C N bs bmB true sn sub ab col dd k0 k1 k2 k3 k5 newId)) (hN : h.Ns N mN) (hng : mN "__getattribute__" = none) (hnh : mN "__getattr__" = none) (hna : mN name = none) (hB : typeLookup (.type B) name = pure none)
    (hx : h.get? x = some o) (hc : o.cls = .ref C) (hd : o.data = .fields vs) (hda : o.dict = some da) (hod : h.get? da = some od) (hl : lookIn name od = some (some v)) (hh : handedOut v = pure v) (hq : Q v ⟨h, g, d, t + 1, os⟩) :
    wpAny (model prog w) A (getAttr (.ref x) name expr) Q E ⟨h, g, d, t, os⟩ := by
  have f3 := FB.ga.bind (.ref x)
  have hx0 : (expr && onTheHeap (Value.builtin "BaseException.__getattribute__")) = false := by cases expr <;> rfl
  have hx2 : (Value.builtin "BaseException.__getattribute__" == Value.builtin "object.__getattribute__") = false := by decide +kernel
  have hx1 : (onTheHeap (Value.ref C) && Value.builtin "BaseException.__getattribute__" == Value.builtin "object.__getattribute__") = false := by rw [hx2]; rfl
  unfold getAttr
  refine wpAny_bind (wpAny_mkText (wpAny_holding ?_))
  repeat (any_goals (first | assumption | (with_reducible refine wpAny_loadPart_at hx ?_; rw [hc]) | (with_reducible refine wpAny_typeLookup_exc hC hN FB.mro FB.ga.lookup ?_; rw [hng]) | (with_reducible refine wpAny_typeLookup_exc hC hN FB.mro FB.noGetattr ?_; rw [hnh]) | wp_step))
  refine codeAny_call_builtin FB.ga.plain F.entry_bexc_ga (check_ga FB hC hx hc (exc_entry FB hC hN hna hB hx hc hd hda hod hl hh ?_))
  repeat (any_goals (first | assumption | wp_step))
end
end Mine
-- X5
open PySem PySem.W PyProof.Rows PySem.Calls
namespace Mine
theorem Ns.keepS {M : List Addr} {h h' : Heap} {a : Addr} {m : Str → Option Value} (x : h.Ns a m) (k : KeepS M h h') (n : a ∉ M) : h'.Ns a m := by
  obtain ⟨o, es, ep, e, d, r⟩ := x
  obtain ⟨sl, e'⟩ := k.old a o e n fun vs q => by rw [d] at q; cases q
  exact ⟨_, es, ep, e', d, r⟩
section
variable {c : Cx} {A : Around} {M : Model} {s : Shared} {E : Value → Shared → Prop} {Q : Unit → Shared → Prop} {t : Txt} {fs : List Env}
theorem exn_calm {e : Value} (x : Exn c fs t e s.heap) (h : ∀ h', Exn c fs t e h' → KeepS [] s.heap h' → Q () { s with heap := h' }) : wpAny M A (setFlight e none) Q E s := by
  have x' := x
  obtain ⟨a, oe, vs, da, od, tk, rfl, hen, he, hcl, hd, hda, ⟨hod, hodn, hlook⟩, hsz, hl, kb, hx⟩ := x
  rcases hx with h1 | ⟨T, oT, ts, y, h1, hnT, hTa, hT, hdT, h3, hy⟩
  · unfold setFlight
    refine wpAny_bind (wpAny_field he hd h1 ?_)
    rw [if_neg (by decide)]
    exact wpAny_pure (h s.heap x' (KeepS.refl _ _))
  · have hs3 : 3 < ts.size := (Array.getElem?_eq_some_iff.mp h3).1
    have other : ∀ b, b ≠ T → (s.heap.update T (Obj.mapFields (·.setIfInBounds 3 .none))).get? b = s.heap.get? b := fun b hb => Heap.get?_update_other _ _ (Ne.symm hb)
    have nof : ∀ b o, s.heap.get? b = some o → (∀ vs, o.data ≠ .fields vs) → b ≠ T := fun b o hb hn q => by
      subst q; rw [hT] at hb; cases hb; exact hn ts hdT
    refine wpAny_setFlight_none he hd h1 hT hdT hs3 (h _ ?_ ⟨fun b o hb => by
        by_cases q : b = T
        · subst q; exact ⟨_, Heap.get?_update_self _ hT (Obj.isFreed_of_fields (Obj.data_mapFields hdT _))⟩
        · exact ⟨o, (other b q).trans hb⟩, fun b o hb _ hn => ⟨o.slots, (other b (nof b o hb hn)).trans hb⟩⟩)
    exact ⟨a, oe, vs, da, od, tk, rfl, hen, (other a (Ne.symm hTa)).trans he, hcl, hd, hda, ⟨(other da (nof da od hod hodn)).trans hod, hodn, hlook⟩, hsz, ff_same hl fun b o hb hn => (other b (nof b o hb hn)).trans hb,
      fun b o hb => (other b fun q => by rw [q, hnT] at hb; cases hb).trans (kb b o hb),
      .inr ⟨T, _, _, .none, h1, hnT, hTa, Heap.get?_update_self _ hT (Obj.isFreed_of_fields (Obj.data_mapFields hdT _)), Obj.data_mapFields hdT _, by simp [hs3], .inl rfl⟩⟩
end
theorem run_call1 (F : List Fn) (Wt : List (Txt × List Txt)) (k0 n k : Nat) (l : Txt) (ρ : List D) (σ : Sg) : Mine.run F Wt k0 (n + 4) (.E (.call k [.loc 0]) (.str l :: ρ)) σ = Mine.run F Wt k0 (n + 3) (.C k [.str l]) σ := rfl
noncomputable def heardR (F : List Fn) (Wt : List (Txt × List Txt)) (k0 : Nat) (σ0 : Sg) (row : Txt) : Option PyData := match Mine.run F Wt k0 400 (.C 66 [.str row]) σ0 with
  | .ok a σ => match a with
    | .v d => dat σ 30 d
    | _ => none
  | .exc t _ => some (.str (sOf t))
  | .stuck => none
theorem lk_none (v : Value) : ([(sOf [114, 111, 119], v)] : List (Str × Value)).reverse.lookup (sOf codeName) = none := by
  have h : (sOf codeName == sOf [114, 111, 119]) = false := by decide +kernel
  show ([(sOf [114, 111, 119], v)] : List (Str × Value)).lookup (sOf codeName) = none
  rw [List.lookup_cons, h]; rfl
noncomputable def rowName : Txt := [114, 111, 119]
noncomputable def refName : Txt := [114, 101, 102, 117, 115, 97, 108]
section
variable {c : Cx} {σ0 : Sg} {A : Around} {env : Env} {L W : Addr} {m : Str → Option Value} {s : Shared} {E : Value → Shared → Prop} {Q : Value → Shared → Prop}
variable {nm q : Str} {N fH : Addr} {bs : List Value} {sn : List Str} {sub : List Value} {ab : Bool} {col : Option Bool} {dd : Option Addr} {k0 k1 k2 k3 k5 : Option Value} {newId : String} {oH : Obj} {fd : FuncData}
variable {p0 p1 p2 p3 p4 p5 p6 p7 p8 : Pos} {e0 : Expr}
theorem heard_call (G : Ground c σ0) (H : AtLaw c A env L m s.heap) {xs : Array Value} (hW : s.heap.IsList W xs) (hWb : c.base.objs.size ≤ W)
    (hC : c.K.lookup c.cB = some (excClassObj nm q c.cB N bs bmE true sn sub ab col dd k0 k1 k2 k3 k5 newId)) (hN : nsOkIn c.K N = true) (n1 : nsIn c.K N "__getattribute__" = some none) (n2 : nsIn c.K N "__getattr__" = some none) (n3 : nsIn c.K N "code" = some none)
    (ho : c.K.lookup fH = some oH) (hd : oH.data = .func fd) (hh : ∀ b, Head (c.re b) fd 1 [rowName, refName])
    (hb : fd.body = .stmts [.Try [.Return (some e0) p0] [.ExceptHandler (some (.Name "BasicError" p1)) (some "refusal") [.Return (some (.Attribute (.Name "refusal" p2) "code" p3)) p4] p5] [] [] p6])
    (hchk : ∀ b, chkE (c.re b) fd.scope [rowName, refName] (.call 66 [.loc 0]) e0 = true)
    (hg : nsIn c.K mainGlobals "BasicError" = some (some (.ref c.cB))) (hgs : fd.scope.names.lookup ("BasicError" : Str) = some .globalImplicit)
    {row : Txt} {tk : Tok} {p : PyData} (e : heardR c.F c.W c.k0 σ0 row = some p)
    (hQ : ∀ s' v, (∀ b o, b ≠ L → s.heap.get? b = some o → s'.heap.get? b = some o) → s'.heap.Ns L m → Rest s s' → (∀ g, But W L s'.heap g → ∃ as, Reads g v p as) → Q v s') :
    wpAny (model c.prog c.w) A (call (.ref fH) [.str (sOf row) tk]) Q E s := by
  have OK := G.ok _ H.stays1
  have hv0 : Vs c.fa c.μ0 s.heap [.str row] [.str (sOf row) tk] := Vs.one (by unfold V; exact ⟨tk, rfl⟩)
  refine wpAny_call (enters (c := c.re (s.heap.hide L)) OK.toOk2 (H.call0 G (n := 402) (by omega)) ho hd hb (ds := [.str row]) (hh _) hv0 fun f' h₀ t e1 e2 e3 H' hk hn hns => ?_)
  have lowb : sysModules < (s.heap.hide L).objs.size := by rw [Heap.hide_size]; exact Nat.lt_of_lt_of_le G.low (Nat.le_trans H.above (Nat.le_of_lt (Ns.there H.ns)))
  have S := sound (c.re (s.heap.hide L)) OK lowb 401
  have Lμ : L ∉ c.μ0 := fun m => absurd (G.inv.lt m) (Nat.not_lt.mpr H.above)
  have L'μ : f'.L ∉ c.μ0 := H'.offL
  refine wpAny_execs_cons (wpAny_Try_except (wpAny_execs_cons (wpAny_Return_some (S.E (N := []) (x := .call 66 [.loc 0]) H' (by rw [e1, e2]; exact hchk _) ?_))))
  have er : (c.re (s.heap.hide L)).run 401 (.E (.call 66 [.loc 0]) ([.str row] ++ blanks ([rowName, refName].length - [D.str row].length))) σ0 = Mine.run c.F c.W c.k0 400 (.C 66 [.str row]) σ0 := run_call1 c.F c.W c.k0 397 66 row _ σ0
  rw [er]
  unfold heardR at e
  generalize Mine.run c.F c.W c.k0 400 (.C 66 [.str row]) σ0 = r at e
  have kb : ∀ b o, b ≠ L → s.heap.get? b = some o → (s.heap.hide L).get? b = some o := fun b o nb eb => (Heap.hide_ne _ nb).trans eb
  cases r with
  | stuck => cases e
  | ok a σ' =>
    cases a with
    | v d =>
      intro μ' s' I X q v hv'
      have X' : Ext [] c.μ0 s.heap μ' s'.heap := Ext.into hk hn (X.weak fun _ m => absurd m List.not_mem_nil)
      have kk : ∀ b o, s.heap.get? b = some o → s'.heap.get? b = some o := fun b o eb => by
        by_cases z : b = L
        · exact X'.keep.old b o eb fun mm => Lμ (z ▸ mm)
        · exact I.stays b o (kb b o z eb)
      exact hQ s' v (fun b o _ => kk b o) (Heap.Ns.keep1 H.ns fun o eo => kk _ _ eo) ⟨q.gens, q.os⟩ fun g hg => reads_after G H hW hWb I X' kk hg e hv'
    | _ => cases e
  | exc te σ' =>
    cases e
    intro s1 ex x1 ks1 q1
    have hfr : (A.deeper f'.env).frames = some (f'.env :: f'.outer) := by rw [e3]; exact Around.frames_deeper H.frames
    refine exn_note hfr rfl x1 fun h2 x2 n2' ks2 => exn_calm (s := { s1 with heap := h2 }) x2 fun h3 x3 ks3 => ?_
    have a1 := x3
    obtain ⟨a, oe, vs, da, od, tk', rfl, hen, he, hcl, hdt, hda, ⟨hod, hodn, hlook⟩, hsz, hff, kbase, hxx⟩ := a1
    have ns3 : h3.Ns f'.L _ := Ns.keepS (Ns.keepS (Ns.keepS hns ks1 L'μ) ks2 List.not_mem_nil) ks3 List.not_mem_nil
    have nL3 : h3.Ns L m := Ns.keepS (Ns.keepS (Ns.keepS (Heap.Ns.keep1 H.ns fun o eo => hk _ _ eo) ks1 Lμ) ks2 List.not_mem_nil) ks3 List.not_mem_nil
    have K3 : c.K.In h3 := OK.X.keeps kbase
    have F3 : Fr (s.heap.hide L) f'.L h3 _ := ⟨ns3, kbase, H'.above⟩
    refine wpAny_handleBy_cons (codeAny_handlers_test ?_) (by intro z; cases z)
    refine name_K F3 OK.X OK.T hg ?_ H'.kind (by rw [e1]; exact hgs) (by decide +kernel)
    refine wpAny_excMatches_sub_self (K3 _ _ hC) he hcl (by decide) ?_
    refine codeAny_handlers_suite_as (exn_calm (s := { s1 with heap := h3 }) x3 fun h4 x4 ks4 => ?_)
    have ns4 := Ns.keepS ns3 ks4 List.not_mem_nil
    have nL4 := Ns.keepS nL3 ks4 List.not_mem_nil
    obtain ⟨a', oe, vs, da, od, tk', q1', hen, he, hcl, hdt, hda, ⟨hod, hodn, hlook⟩, hsz, hff, kbase, hxx⟩ := x4
    cases q1'
    have LL : L ≠ f'.L := fun z => by
      have := Ns.there H.ns
      obtain ⟨o, _, _, eo, _⟩ := H.ns
      rw [z, hn] at eo; cases eo
    have loc : f'.sc.names.lookup ("refusal" : Str) = some .local := by rw [e1]; exact ((hh s.heap).loc refName (.tail _ (.head _))).1
    have hp : (f'.env.scope.kind == .class || (f'.env.scope.kind == .module && f'.env.locals != f'.env.globals)) = false := by
      show (f'.sc.kind == .class || (f'.sc.kind == .module && _)) = false
      rw [H'.kind]; rfl
    refine wpAny_storeName_local (s := { s1 with heap := h4 }) loc ns4 (fun h5 hn5 hs5 => ?_) hp
    have naL : a ≠ f'.L := fun z => by
      obtain ⟨o, _, _, eo, ed, _⟩ := ns4
      rw [← z, he] at eo; cases eo; rw [hdt] at ed; cases ed
    have ndL : da ≠ f'.L := fun z => by
      obtain ⟨o, es, ep, eo, ed, _, em⟩ := ns4
      rw [← z, hod] at eo; cases eo
      unfold lookIn at hlook
      rw [ed] at hlook
      have em := em (sOf codeName)
      unfold nsFind findBy at em
      rw [← Array.find?_toList] at em
      dsimp only at hlook
      cases qf : es.toList.find? (fun e => e.key.isStr (sOf codeName)) with
      | none =>
        rw [qf] at hlook
        dsimp only at hlook
        split at hlook <;> cases hlook
      | some en =>
        rw [qf] at em
        have := em.trans (lk_none (.str (sOf row) tk))
        cases this
    have kb5 : ∀ b o, (s.heap.hide L).get? b = some o → h5.get? b = some o := fun b o eb => (hs5.2 b fun z => by rw [z] at eb; exact absurd ((Heap.of_hide eb : s.heap.get? f'.L = some o).symm.trans hn) (by simp)).trans (kbase b o eb)
    have K5 : c.K.In h5 := OK.X.keeps kb5
    have N5 : h5.Ns N (h5.nsMap N) := .of_isNs (isNs_of_in K5 hN)
    refine wpAny_execs_cons (wpAny_Return_some (Attribute_any_ (wpAny_Name (wpAny_loadName_local H'.kind loc hn5 (if_pos rfl) ?_) (by decide +kernel)) (attr_eq rfl)))
    refine exc_attr (name := "code") F.attrBase_Exception (K5 _ _ hC) N5 (ns_none_of K5 N5 n1) (ns_none_of K5 N5 n2) (ns_none_of K5 N5 n3) (by rw [typeLookup_type, builtinLookup_eq_fast]; kernel_rfl) ((hs5.2 a naL).trans he) hcl hdt hda ((hs5.2 da ndL).trans hod) hlook rfl ?_
    refine wpAny_nameGoes loc hn5 hp fun h6 m6 hn6 hs6 => ?_
    refine hQ _ _ (fun b o nb eb => ?_) ?_ ⟨q1.gens, q1.os⟩ fun g hg => ⟨[], .str _ _⟩
    · exact (hs6.2 b fun z => by rw [z] at eb; exact absurd ((show s.heap.get? f'.L = some o from eb).symm.trans hn) (by simp)).trans (kb5 b o (kb b o nb eb))
    · exact Heap.Ns.keep1 nL4 fun o eo => (hs6.2 L LL).trans ((hs5.2 L LL).trans eo)
end
end Mine
-- D1
open PySem PySem.W PyProof.Rows PySem.Calls
namespace Mine
section
variable {prog : Program} {w : World} {A : Around} {E : Value → Shared → Prop} {s : Shared}
theorem draw_list {it t : Addr} {items : Array Value} (hne : t ≠ it) : ∀ (n i : Nat) (s : Shared) (Q : List Value → Shared → Prop), s.heap.IsListIter it t i → s.heap.IsList t items → i + n ≤ items.size →
    (∀ h', h'.IsListIter it t (i + n) → Heap.SameBut it s.heap h' → Q ((items.toList.drop i).take n) { s with heap := h' }) → wpAny (model prog w) A (draw (.ref it) n) Q E s
  | 0, i, s, Q, hit, _, _, hQ => by
    show wpAny _ _ (pure []) Q E s
    exact wpAny_pure (by simpa using hQ s.heap hit (Heap.SameBut.refl ..))
  | n + 1, i, s, Q, hit, ht, hle, hQ => by
    have hlt : i < items.size := by omega
    show wpAny _ _ (pyNext (.ref it) >>= _) Q E s
    refine wpAny_bind (wpAny_pyNext_list_item hit ht (x := items[i]) (by simp [hlt]) fun h₁ hit₁ hs₁ => ?_)
    refine wpAny_bind (wpAny_holding (draw_list hne n (i + 1) _ _ hit₁ (ht.extBut hs₁.extBut hne) (by omega) fun h₂ hit₂ hs₂ => wpAny_pure ?_))
    have hd : items.toList.drop i = items[i] :: items.toList.drop (i + 1) := by simp [List.drop_eq_getElem_cons, hlt]
    have := hQ h₂ (by rw [show i + (n + 1) = i + 1 + n by omega]; exact hit₂) (hs₁.trans hs₂)
    rw [hd, List.take_succ_cons] at this
    exact this
theorem list_push {h : Heap} {t : Addr} {items : Array Value} (x : h.IsList t items) (o : Obj) : (h.push o).IsList t items := let ⟨o', e, r⟩ := x; ⟨o', Heap.get?_push_of_some _ e, r⟩
theorem unpack_list {t : Addr} {items : Array Value} {Q : List Value → Shared → Prop} (hh : A.handled = none) (ht : s.heap.IsList t items)
    (hQ : ∀ h', Heap.ExtBut s.heap.objs.size s.heap h' → Q items.toList { s with heap := h' }) : wpAny (model prog w) A (unpackItems (.ref t) items.size none) Q E s := by
  have hlt : t ≠ s.heap.objs.size := by obtain ⟨o, ho, _⟩ := ht; exact Nat.ne_of_lt (Heap.lt_size ho)
  unfold unpackItems
  refine wpAny_bind ?_
  · unfold notIterableAtAll
    refine wpAny_bind (wpAny_specialOf ht.typeIs slot_list_iter.lookup ?_)
    refine wpAny_pure ?_
    simp only [Bool.false_eq_true, if_false]
    refine wpAny_bind (wpAny_holding (wpAny_pyIter_list ht ?_))
    refine wpAny_bind (wpAny_holding (draw_list hlt items.size 0 _ _ ⟨_, Heap.get?_push_size _ rfl, rfl, rfl⟩ (list_push ht _) (by omega) fun h₁ hit₁ hs₁ => ?_))
    have hall : List.take items.size (List.drop 0 items.toList) = items.toList := by
      rw [List.drop_zero]; exact List.take_of_length_le (by simp)
    rw [hall]
    rw [if_neg (by simp)]
    have ht₁ : h₁.IsList t items := (list_push ht _).extBut hs₁.extBut hlt
    refine wpAny_bind (wpAny_holding (wpAny_pyNext_list_end hh hit₁ ht₁ (by simp) fun h₂ he₂ => ?_))
    simp only [Option.isSome_none, Bool.false_eq_true, if_false]
    refine wpAny_pure (hQ h₂ fun b o hb e => he₂ b o hb (hs₁.extBut b o hb (Heap.get?_push_of_some _ e)))
theorem assign_Tuple_list {env : Env} {elts : List Expr} {x1} {pos : Pos} {t : Addr} {items : Array Value} {Q : Unit → Shared → Prop} (hh : A.handled = none) (ht : s.heap.IsList t items)
    (hn : (assignEach elts env).length = items.size) (hstar : (assignEach elts env).findIdx? (·.1) = none)
    (h : ∀ h', Heap.ExtBut s.heap.objs.size s.heap h' → wpAny (model prog w) A (assignInOrder ((assignEach elts env).map (·.2)) items.toList) Q E { s with heap := h' }) :
    wpAny (model prog w) A (assign (.Tuple elts x1 pos) env (.ref t)) Q E s := by
  rw [arm_assign_Tuple]
  refine wpAny_bind (wpAny_standAt ?_)
  unfold unpack
  rw [hn, hstar]
  exact wpAny_bind (wpAny_holding (unpack_list hh ht h))
end
end Mine
-- D2
open PySem PySem.W PyProof.Rows PySem.Calls
namespace Mine
noncomputable def bind2 (a b : Value) : List (Str × Value) := [(("well" : Str), a), (("many" : Str), b)]
theorem bind2_1 (a b : Value) : (bind2 a b).reverse.lookup ("well" : Str) = some a := rfl
theorem bind2_2 (a b : Value) : (bind2 a b).reverse.lookup ("many" : Str) = some b := rfl
/-- the draw that stands at turn k -/
noncomputable def drawn (cells : List Int) (k many : Nat) : Int := match cells[k]? with
  | some z => z.fmod many
  | none => ((5 * k + k / 4 + 3 : Nat) : Int).fmod many
theorem drawn_lt {cells : List Int} {k many : Nat} (h : 0 < many) : 0 ≤ drawn cells k many ∧ drawn cells k many < many := by
  unfold drawn
  split
  · exact ⟨Int.fmod_nonneg_of_pos _ (by omega), Int.fmod_lt_of_pos _ (by omega)⟩
  · exact ⟨Int.fmod_nonneg_of_pos _ (by omega), Int.fmod_lt_of_pos _ (by omega)⟩
theorem ints_at : ∀ {vals : List Value} {cells : List Int} {k : Nat} {z : Int}, IntsAre vals cells → cells[k]? = some z → ∃ t, vals[k]? = some (.int z t)
  | _, _, 0, _, .cons _ t _, e => by cases e; exact ⟨t, rfl⟩
  | _, _, k + 1, _, .cons _ _ r, e => ints_at (k := k) r e
section
variable {c : Cx} {A : Around} {s : Shared} {E : Value → Shared → Prop} {Q : Value → Shared → Prop} {fD cda W Cs : Addr} {oD : Obj} {fd : FuncData} {k many : Nat} {tk tm : Tok} {vals : List Value} {cells : List Int}
variable {r0 r1 r2 r3 : Pos}
theorem dip_call (O : Ok c) (lim : c.base.NoLimit) (hdep : A.depth + 1 < recursionLimit) (hh : A.handled = none) (st : c.base.StaysIn s.heap)
    (hf : c.K.lookup fD = some oD) (hfd : oD.data = .func fd) (hglo : fd.globals = mainGlobals) (hclo : fd.closure = []) (hbui : fd.builtins = builtinsNs) (hcr : codeIn c.K fd.code fd.qualname = true)
    (hk : fd.scope.kind = .function) (hcor : fd.scope.isCoroutine = false) (hgen : fd.scope.isGenerator = false) (hcell : ∀ x ∈ fd.scope.names, x.2 ≠ .cell)
    (l1 : fd.scope.names.lookup ("well" : Str) = some .local) (l2 : fd.scope.names.lookup ("many" : Str) = some .local) (l3 : fd.scope.names.lookup ("cells" : Str) = some .local) (l4 : fd.scope.names.lookup ("turn" : Str) = some .local) (l5 : fd.scope.names.lookup ("len" : Str) = some .globalImplicit)
    (hlen : nsIn c.K mainGlobals "len" = some none)
    (hbind : ∀ (a b : Value) (S : Setting), peek c.K S (bindArgs fd ⟨[a, b], []⟩) = some (bind2 a b))
    (hbody : fd.body = .stmts [
      .Assign [.Tuple [.Name "cells" ⟨724, 4, 724, 9⟩, .Name "turn" ⟨724, 11, 724, 15⟩] 0 ⟨724, 4, 724, 15⟩] (.Name "well" ⟨724, 18, 724, 22⟩) ⟨724, 4, 724, 22⟩,
      .Assign [.Subscript (.Name "well" ⟨725, 4, 725, 8⟩) (.Constant (.int 1) 0 ⟨725, 9, 725, 10⟩) ⟨725, 4, 725, 11⟩] (.BinOp (.Name "turn" ⟨725, 14, 725, 18⟩) .Add (.Constant (.int 1) 0 ⟨725, 21, 725, 22⟩) ⟨725, 14, 725, 22⟩) ⟨725, 4, 725, 22⟩,
      .Return (some (.IfExp (.Compare (.Name "turn" ⟨726, 33, 726, 37⟩) [.Lt] [.Call (.Name "len" ⟨726, 40, 726, 43⟩) [.Name "cells" ⟨726, 44, 726, 49⟩] [] ⟨726, 40, 726, 50⟩] ⟨726, 33, 726, 50⟩)
        (.BinOp (.Subscript (.Name "cells" ⟨726, 11, 726, 16⟩) (.Name "turn" ⟨726, 17, 726, 21⟩) ⟨726, 11, 726, 22⟩) .Mod (.Name "many" ⟨726, 25, 726, 29⟩) ⟨726, 11, 726, 29⟩)
        (.BinOp (.BinOp (.BinOp (.BinOp (.Constant (.int 5) 0 ⟨726, 57, 726, 58⟩) .Mult (.Name "turn" ⟨726, 61, 726, 65⟩) ⟨726, 57, 726, 65⟩) .Add (.BinOp (.Name "turn" ⟨726, 68, 726, 72⟩) .FloorDiv (.Constant (.int 4) 0 ⟨726, 76, 726, 77⟩) ⟨726, 68, 726, 77⟩) ⟨726, 57, 726, 77⟩) .Add (.Constant (.int 3) 0 ⟨726, 80, 726, 81⟩) ⟨726, 57, 726, 81⟩) .Mod (.Name "many" ⟨726, 85, 726, 89⟩) ⟨726, 56, 726, 89⟩) ⟨726, 11, 726, 89⟩)) ⟨726, 4, 726, 89⟩])
    (hW : s.heap.IsList W #[.ref Cs, .int k tk]) (hCs : s.heap.IsList Cs vals.toArray) (hI : IntsAre vals cells) (hne : Cs ≠ W) (hWb : c.base.objs.size ≤ W) (hk1 : k ≤ 1000) (hc1 : vals.length ≤ 1000) (hm : 0 < many)
    (hQ : ∀ h' t tr tw, (∀ b o, b ≠ W → s.heap.get? b = some o → h'.get? b = some o) → h'.IsList W #[.ref Cs, .int ((k + 1 : Nat) : Int) tw] → Q (.int (drawn cells k many) tr) { s with heap := h', toks := t }) :
    wpAny (model c.prog c.w) A (call (.ref fD) [.ref W, .int many tm]) Q E s := by
  obtain ⟨h0, g, d, tt, os⟩ := s
  have X : c.K.In h0 := O.X.keeps st
  refine wpAny_call (codeAny_call_def (fd := fd) (by omega) (X _ _ hf) hfd (lim.keeps st) (codeRec_of X hcr) hbody (kp_binds (s := ⟨h0, g, d, tt, os⟩) X (hbind _ _)) hcell (fun y hy => ?_) (fun h1 hns k1 => ?_) hcor hgen hk)
  · rcases List.mem_cons.mp hy with rfl | hy
    · exact l1
    rcases List.mem_cons.mp hy with rfl | hy
    · exact l2
    · cases hy
  have henv : callEnv fd h0.objs.size fD = envOf fd.qualname fd.scope h0.objs.size fD fd.code := by
    show Env.mk .. = Env.mk ..
    rw [hclo, hglo, hbui]
  show wpAny _ (A.deeper (callEnv fd h0.objs.size fD)) _ _ _ _
  rw [henv]
  have gone : h0.get? h0.objs.size = none := by
    cases q : h0.get? h0.objs.size with
    | none => rfl
    | some o => exact absurd (Heap.lt_size q) (Nat.lt_irrefl _)
  have above : c.base.objs.size ≤ h0.objs.size := by
    obtain ⟨o, e, _⟩ := hW
    exact Nat.le_trans hWb (Nat.le_of_lt (Heap.lt_size e))
  generalize h0.objs.size = L at hns gone above ⊢
  generalize hB : (fun x => (bind2 (.ref W) (.int many tm)).reverse.lookup x) = m at hns
  have b1 : m "well" = some (.ref W) := hB ▸ rfl
  have b2 : m "many" = some (.int many tm) := hB ▸ rfl
  have rd : ∀ {A' : Around} {E' : Value → Shared → Prop} {Q' : Value → Shared → Prop} {s' : Shared} {mm : Str → Option Value} {x : Str} {p : Pos} {v : Value}, s'.heap.Ns L mm → fd.scope.names.lookup x = some .local → (x == ("__debug__" : Str)) = false →
      mm x = some v → Q' v s' → wpAny (model c.prog c.w) A' (eval (.Name x p) (envOf fd.qualname fd.scope L fD fd.code)) Q' E' s' := by
    intro A' E' Q' s' mm x p v hn hl hd hv hQ
    exact wpAny_Name (wpAny_loadName_local hk hl hn hv hQ) hd
  have hp : ((envOf fd.qualname fd.scope L fD fd.code).scope.kind == .class || ((envOf fd.qualname fd.scope L fD fd.code).scope.kind == .module && (envOf fd.qualname fd.scope L fD fd.code).locals != (envOf fd.qualname fd.scope L fD fd.code).globals)) = false := by
    show (fd.scope.kind == .class || (fd.scope.kind == .module && _)) = false
    rw [hk]; rfl
  have WL : W ≠ L := fun z => by obtain ⟨o, e, _⟩ := hW; rw [z] at e; rw [show h0.get? L = some o from e] at gone; cases gone
  have CL : Cs ≠ L := fun z => by obtain ⟨o, e, _⟩ := hCs; rw [z] at e; rw [show h0.get? L = some o from e] at gone; cases gone
  have nL : ∀ b o, h0.get? b = some o → b ≠ L := fun b o e z => by rw [z, gone] at e; cases e
  have hW1 : h1.IsList W #[.ref Cs, .int k tk] := let ⟨o, e, r⟩ := hW; ⟨o, k1 _ _ e, r⟩
  have hC1 : h1.IsList Cs vals.toArray := let ⟨o, e, r⟩ := hCs; ⟨o, k1 _ _ e, r⟩
  refine wpAny_execs_cons (Assign_Tuple (rd hns l1 (by decide +kernel) b1 (assign_Tuple_list (items := #[.ref Cs, .int k tk]) hh hW1 rfl rfl fun h2 x2 => ?_)) rfl rfl)
  have k2 : ∀ b o, h0.get? b = some o → h2.get? b = some o := fun b o e => x2 b o (Nat.ne_of_lt (Heap.lt_size (k1 b o e))) (k1 b o e)
  have hns2 : h2.Ns L m := hns.extBut x2 (Nat.ne_of_lt (Ns.there hns))
  refine wpAny_assignInOrder_more (wpAny_assign_Name (wpAny_storeName_local (s := ⟨h2, g, d, _, os⟩) l3 hns2 (fun h3 hn3 hs3 => ?_) hp))
  refine wpAny_assignInOrder_more (wpAny_assign_Name (wpAny_storeName_local (s := ⟨h3, g, d, _, os⟩) l4 hn3 (fun h4 hn4 hs4 => ?_) hp))
  refine wpAny_assignInOrder_none ?_
  have k4 : ∀ b o, h0.get? b = some o → h4.get? b = some o := fun b o e => (hs4.2 b (nL b o e)).trans ((hs3.2 b (nL b o e)).trans (k2 b o e))
  generalize hm4 : (fun x => if x = ("turn" : Str) then some (Value.int k tk) else if x = ("cells" : Str) then some (Value.ref Cs) else m x) = m4 at hn4
  have d1 : m4 "well" = some (.ref W) := by rw [← hm4]; show (if ("well" : Str) = "turn" then _ else if ("well" : Str) = "cells" then _ else m "well") = _; rw [if_neg (by decide +kernel), if_neg (by decide +kernel), b1]
  have d2 : m4 "many" = some (.int many tm) := by rw [← hm4]; show (if ("many" : Str) = "turn" then _ else if ("many" : Str) = "cells" then _ else m "many") = _; rw [if_neg (by decide +kernel), if_neg (by decide +kernel), b2]
  have d3 : m4 "cells" = some (.ref Cs) := by rw [← hm4]; show (if ("cells" : Str) = "turn" then _ else if ("cells" : Str) = "cells" then _ else m "cells") = _; rw [if_neg (by decide +kernel), if_pos rfl]
  have d4 : m4 "turn" = some (.int k tk) := by rw [← hm4]; exact if_pos rfl
  have hW4 : h4.IsList W #[.ref Cs, .int k tk] := let ⟨o, e, r⟩ := hW; ⟨o, k4 _ _ e, r⟩
  refine wpAny_execs_cons (wpAny_Assign_Subscript (wpAny_BinOp (rd hn4 l4 (by decide +kernel) d4 (wpAny_Constant_int (PyProof.Rows.add_int ?_)))))
  refine rd hn4 l1 (by decide +kernel) d1 (wpAny_Constant_int ?_)
  refine wpAny_setItem_list (s := ⟨h4, g, d, _, os⟩) hW4 (by decide) (by decide) (by show (1 : Int) < 2; decide) fun h5 hW5 hs5 => ?_
  have k5 : ∀ b o, b ≠ W → h0.get? b = some o → h5.get? b = some o := fun b o nb e => (hs5.2 b nb).trans (k4 b o e)
  have hn5 : h5.Ns L m4 := Heap.Ns.keep1 hn4 fun o e => (hs5.2 L (Ne.symm WL)).trans e
  have hC5 : h5.IsList Cs vals.toArray := let ⟨o, e, r⟩ := hCs; ⟨o, k5 _ _ hne e, r⟩
  have hW6 : ∃ tw, h5.IsList W #[.ref Cs, .int ((k + 1 : Nat) : Int) tw] := ⟨_, hW5⟩
  obtain ⟨tw, hW6⟩ := hW6
  have hX5 : ∀ b o, c.base.get? b = some o → h5.get? b = some o := by
    intro b o e
    exact k5 b o (Nat.ne_of_lt (Nat.lt_of_lt_of_le (Heap.lt_size e) hWb)) (st b o e)
  have hsz : (vals.toArray.size : Int) < 2 ^ 63 := by simp only [List.size_toArray]; omega
  have hil := hI.length
  have fin : ∀ (tr t : Nat), Q (.int (drawn cells k many) tr) ⟨h5, g, d, t, os⟩ := fun tr t => hQ h5 t tr tw k5 hW6
  refine wpAny_execs_cons (wpAny_Return_some (wpAny_IfExp (wpAny_isTrue_Compare1 (rd hn5 l4 (by decide +kernel) d4 ?_))))
  have fin' : ∀ z : Int, z = drawn cells k many → ∀ (tr t : Nat), Q (.int z tr) ⟨h5, g, d, t, os⟩ := fun z ez tr t => ez ▸ fin tr t
  have Fb : Fr c.base L h5 m4 := ⟨hn5, hX5, above⟩
  refine Call_ (name_B (s := ⟨h5, g, d, _, os⟩) Fb O.X O.T hlen Boot.«len» (by decide +kernel) (PyProof.Rows.callWith_builtin1 (args_cons (rd hn5 l3 (by decide +kernel) d3 (args_nil (call_len_list hC5 hsz (PyProof.Rows.lt_int (wpAny_truthy_bool ?_))))) rfl) rfl rfl) hk l5 (by decide +kernel)) callName_eq
  by_cases q : k < cells.length
  · rw [decide_eq_true (show (k : Int) < ((vals.toArray.size : Nat) : Int) by simp only [List.size_toArray]; omega)]
    simp only [if_true]
    obtain ⟨z, hz⟩ : ∃ z, cells[k]? = some z := ⟨_, List.getElem?_eq_getElem q⟩
    obtain ⟨tz, hv⟩ := ints_at hI hz
    refine wpAny_BinOp (Subscript_ (rd hn5 l3 (by decide +kernel) d3 (rd hn5 l4 (by decide +kernel) d4 (subscriptTail_builtin (T := "list") hC5.typeIs slot_list_getitem.lookup (wpAny_getItem_list hC5 (by omega) (by omega) (x := .int z tz) (by simpa using hv) ?_)))))
    refine rd hn5 l2 (by decide +kernel) d2 (PyProof.Rows.mod_int (by omega) ?_)
    have e : z.fmod many = drawn cells k many := by unfold drawn; rw [hz]
    exact fin' _ e _ _
  · rw [decide_eq_false (show ¬ (k : Int) < ((vals.toArray.size : Nat) : Int) by simp only [List.size_toArray]; omega)]
    simp only [Bool.false_eq_true, if_false]
    have hz : cells[k]? = none := List.getElem?_eq_none (by omega)
    have mok : IntMulOk (5 : Int) (k : Int) := IntMulOk.of_right (intBits_le_64 (by show -(2 ^ 64) < (k : Int); omega) (by show (k : Int) < 2 ^ 64; omega))
    refine wpAny_BinOp (wpAny_BinOp (wpAny_BinOp (wpAny_BinOp (wpAny_Constant_int (rd hn5 l4 (by decide +kernel) d4 (PyProof.Rows.mul_int ?_ mok))))))
    refine wpAny_BinOp (rd hn5 l4 (by decide +kernel) d4 (wpAny_Constant_int (PyProof.Rows.floordiv_int (by decide) (PyProof.Rows.add_int (wpAny_Constant_int (PyProof.Rows.add_int ?_))))))
    refine rd hn5 l2 (by decide +kernel) d2 (PyProof.Rows.mod_int (by omega) ?_)
    have e : ((5 : Int) * k + (k : Int).fdiv 4 + 3).fmod many = drawn cells k many := by
      unfold drawn
      rw [hz]
      show _ = Int.fmod (((5 * k + k / 4 + 3 : Nat)) : Int) many
      have e1 : (k : Int).fdiv 4 = (k : Int) / 4 := Int.fdiv_eq_ediv_of_nonneg (k : Int) (show (0 : Int) ≤ 4 by omega)
      have e2 : (5 : Int) * k + (k : Int).fdiv 4 + 3 = ((5 * k + k / 4 + 3 : Nat) : Int) := by rw [e1]; omega
      exact congrArg (fun z : Int => z.fmod many) e2
    exact fin' _ e _ _
end
end Mine
-- Inst
open PySem PySem.W PyProof.Rows PySem.Calls
namespace Mine
noncomputable def cx (w : World) (base : Heap) (mg mb : Str → Option Value) : Cx := { prog := PySem.Challenge.rw_pf0024_01.row.prog, w, base, K := heapK w.params, p := viewK, loose := looseW viewK namesL, mg, mb, fa := faOf, F := fns, W := wtab, k0 := 5, μ0 := mu0, cL := 232, cB := 34 }
section
variable (w : World) (base : Heap) (mg mb : Str → Option Value)
theorem ck0 : chkFn (cx w base mg mb) 0 f0 = true := by kernel_rfl
theorem ck1 : chkFn (cx w base mg mb) 1 f1 = true := by kernel_rfl
theorem ck2 : chkFn (cx w base mg mb) 2 f2 = true := by kernel_rfl
theorem ck3 : chkFn (cx w base mg mb) 3 f3 = true := by kernel_rfl
theorem ck4 : chkFn (cx w base mg mb) 4 f4 = true := by kernel_rfl
theorem ck5 : chkFn (cx w base mg mb) 5 f5 = true := by kernel_rfl
theorem ck6 : chkFn (cx w base mg mb) 6 f6 = true := by kernel_rfl
theorem ck7 : chkFn (cx w base mg mb) 7 f7 = true := by kernel_rfl
theorem ck8 : chkFn (cx w base mg mb) 8 f8 = true := by kernel_rfl
theorem ck9 : chkFn (cx w base mg mb) 9 f9 = true := by kernel_rfl
theorem ck10 : chkFn (cx w base mg mb) 10 f10 = true := by kernel_rfl
theorem ck11 : chkFn (cx w base mg mb) 11 f11 = true := by kernel_rfl
theorem ck12 : chkFn (cx w base mg mb) 12 f12 = true := by kernel_rfl
theorem ck13 : chkFn (cx w base mg mb) 13 f13 = true := by kernel_rfl
theorem ck14 : chkFn (cx w base mg mb) 14 f14 = true := by kernel_rfl
theorem ck15 : chkFn (cx w base mg mb) 15 f15 = true := by kernel_rfl
theorem ck16 : chkFn (cx w base mg mb) 16 f16 = true := by kernel_rfl
theorem ck17 : chkFn (cx w base mg mb) 17 f17 = true := by kernel_rfl
theorem ck18 : chkFn (cx w base mg mb) 18 f18 = true := by kernel_rfl
theorem ck19 : chkFn (cx w base mg mb) 19 f19 = true := by kernel_rfl
theorem ck20 : chkFn (cx w base mg mb) 20 f20 = true := by kernel_rfl
theorem ck21 : chkFn (cx w base mg mb) 21 f21 = true := by kernel_rfl
theorem ck22 : chkFn (cx w base mg mb) 22 f22 = true := by kernel_rfl
theorem ck23 : chkFn (cx w base mg mb) 23 f23 = true := by kernel_rfl
theorem ck24 : chkFn (cx w base mg mb) 24 f24 = true := by kernel_rfl
theorem ck25 : chkFn (cx w base mg mb) 25 f25 = true := by kernel_rfl
theorem ck26 : chkFn (cx w base mg mb) 26 f26 = true := by kernel_rfl
theorem ck27 : chkFn (cx w base mg mb) 27 f27 = true := by kernel_rfl
theorem ck28 : chkFn (cx w base mg mb) 28 f28 = true := by kernel_rfl
theorem ck29 : chkFn (cx w base mg mb) 29 f29 = true := by kernel_rfl
theorem ck30 : chkFn (cx w base mg mb) 30 f30 = true := by kernel_rfl
theorem ck31 : chkFn (cx w base mg mb) 31 f31 = true := by kernel_rfl
theorem ck32 : chkFn (cx w base mg mb) 32 f32 = true := by kernel_rfl
theorem ck33 : chkFn (cx w base mg mb) 33 f33 = true := by kernel_rfl
theorem ck34 : chkFn (cx w base mg mb) 34 f34 = true := by kernel_rfl
theorem ck35 : chkFn (cx w base mg mb) 35 f35 = true := by kernel_rfl
theorem ck36 : chkFn (cx w base mg mb) 36 f36 = true := by kernel_rfl
theorem ck37 : chkFn (cx w base mg mb) 37 f37 = true := by kernel_rfl
theorem ck38 : chkFn (cx w base mg mb) 38 f38 = true := by kernel_rfl
theorem ck39 : chkFn (cx w base mg mb) 39 f39 = true := by kernel_rfl
theorem ck40 : chkFn (cx w base mg mb) 40 f40 = true := by kernel_rfl
theorem ck41 : chkFn (cx w base mg mb) 41 f41 = true := by kernel_rfl
theorem ck42 : chkFn (cx w base mg mb) 42 f42 = true := by kernel_rfl
theorem ck43 : chkFn (cx w base mg mb) 43 f43 = true := by kernel_rfl
theorem ck44 : chkFn (cx w base mg mb) 44 f44 = true := by kernel_rfl
theorem ck45 : chkFn (cx w base mg mb) 45 f45 = true := by kernel_rfl
theorem ck46 : chkFn (cx w base mg mb) 46 f46 = true := by kernel_rfl
theorem ck47 : chkFn (cx w base mg mb) 47 f47 = true := by kernel_rfl
theorem ck48 : chkFn (cx w base mg mb) 48 f48 = true := by kernel_rfl
theorem ck49 : chkFn (cx w base mg mb) 49 f49 = true := by kernel_rfl
theorem ck50 : chkFn (cx w base mg mb) 50 f50 = true := by kernel_rfl
theorem ck51 : chkFn (cx w base mg mb) 51 f51 = true := by kernel_rfl
theorem ck52 : chkFn (cx w base mg mb) 52 f52 = true := by kernel_rfl
theorem ck53 : chkFn (cx w base mg mb) 53 f53 = true := by kernel_rfl
theorem ck54 : chkFn (cx w base mg mb) 54 f54 = true := by kernel_rfl
theorem ck55 : chkFn (cx w base mg mb) 55 f55 = true := by kernel_rfl
theorem ck56 : chkFn (cx w base mg mb) 56 f56 = true := by kernel_rfl
theorem ck57 : chkFn (cx w base mg mb) 57 f57 = true := by kernel_rfl
theorem ck58 : chkFn (cx w base mg mb) 58 f58 = true := by kernel_rfl
theorem ck59 : chkFn (cx w base mg mb) 59 f59 = true := by kernel_rfl
theorem ck60 : chkFn (cx w base mg mb) 60 f60 = true := by kernel_rfl
theorem ck61 : chkFn (cx w base mg mb) 61 f61 = true := by kernel_rfl
theorem ck62 : chkFn (cx w base mg mb) 62 f62 = true := by kernel_rfl
theorem ck63 : chkFn (cx w base mg mb) 63 f63 = true := by kernel_rfl
theorem ck64 : chkFn (cx w base mg mb) 64 f64 = true := by kernel_rfl
theorem ck65 : chkFn (cx w base mg mb) 65 f65 = true := by kernel_rfl
theorem ck66 : chkFn (cx w base mg mb) 66 f66 = true := by kernel_rfl
theorem ck67 : chkFn (cx w base mg mb) 67 f67 = true := by kernel_rfl
theorem ck68 : chkFn (cx w base mg mb) 68 f68 = true := by kernel_rfl
theorem ck69 : chkFn (cx w base mg mb) 69 f69 = true := by kernel_rfl
theorem ck70 : chkFn (cx w base mg mb) 70 f70 = true := by kernel_rfl
theorem ck71 : chkFn (cx w base mg mb) 71 f71 = true := by kernel_rfl
theorem ck72 : chkFn (cx w base mg mb) 72 f72 = true := by kernel_rfl
theorem ck73 : chkFn (cx w base mg mb) 73 f73 = true := by kernel_rfl
theorem ck74 : chkFn (cx w base mg mb) 74 f74 = true := by kernel_rfl
theorem ck75 : chkFn (cx w base mg mb) 75 f75 = true := by kernel_rfl
theorem ck76 : chkFn (cx w base mg mb) 76 f76 = true := by kernel_rfl
theorem ck77 : chkFn (cx w base mg mb) 77 f77 = true := by kernel_rfl
theorem ck78 : chkFn (cx w base mg mb) 78 f78 = true := by kernel_rfl
theorem ck79 : chkFn (cx w base mg mb) 79 f79 = true := by kernel_rfl
theorem ck80 : chkFn (cx w base mg mb) 80 f80 = true := by kernel_rfl
theorem ck81 : chkFn (cx w base mg mb) 81 f81 = true := by kernel_rfl
theorem ck82 : chkFn (cx w base mg mb) 82 f82 = true := by kernel_rfl
theorem ck83 : chkFn (cx w base mg mb) 83 f83 = true := by kernel_rfl
theorem ck84 : chkFn (cx w base mg mb) 84 f84 = true := by kernel_rfl
theorem ck85 : chkFn (cx w base mg mb) 85 f85 = true := by kernel_rfl
theorem ck86 : chkFn (cx w base mg mb) 86 f86 = true := by kernel_rfl
theorem ck87 : chkFn (cx w base mg mb) 87 f87 = true := by kernel_rfl
theorem ck88 : chkFn (cx w base mg mb) 88 f88 = true := by kernel_rfl
end
end Mine
-- Inst2
open PySem PySem.W PyProof.Rows PySem.Calls
namespace Mine
noncomputable def objOf (K : Frag) (a : Addr) : Obj := match K.lookup a with | some o => o | none => { cls := .none, data := .plain }
noncomputable def fdOf (o : Obj) : FuncData := match o.data with | .func fd => fd | _ => default
noncomputable def fieldsOf (o : Obj) : Array Value := match o.data with | .fields vs => vs | _ => #[]
theorem all_of {α : Type} {l : List α} {p : α → Prop} [DecidablePred p] (h : (l.all fun x => decide (p x)) = true) : ∀ x ∈ l, p x := fun x m => of_decide_eq_true (List.all_eq_true.mp h x m)
noncomputable def AllFrom {α : Type} (p : Nat → α → Prop) : Nat → List α → Prop
  | _, [] => True
  | i, a :: r => p i a ∧ AllFrom p (i + 1) r
noncomputable def allFrom {α : Type} (p : Nat → α → Bool) : Nat → List α → Bool
  | _, [] => true
  | i, a :: r => p i a && allFrom p (i + 1) r
theorem AllFrom.at {α : Type} {p : Nat → α → Prop} : ∀ {xs : List α} {i : Nat}, AllFrom p i xs → ∀ (k : Nat) (a : α), nth xs k = some a → p (i + k) a
  | [], _, _, _, _, e => nomatch e
  | x :: xs, i, h, 0, a, e => by cases e; exact h.1
  | x :: xs, i, h, k + 1, a, e => by
    have := AllFrom.at h.2 k a e
    rwa [Nat.add_right_comm] at this
theorem allFrom_at {α : Type} {p : Nat → α → Bool} : ∀ {xs : List α} {i : Nat}, allFrom p i xs = true → ∀ (k : Nat) (a : α), nth xs k = some a → p (i + k) a = true
  | [], _, _, _, _, e => nomatch e
  | x :: xs, i, h, 0, a, e => by cases e; exact (Bool.and_eq_true_iff.mp h).1
  | x :: xs, i, h, k + 1, a, e => by
    have := allFrom_at (Bool.and_eq_true_iff.mp h).2 k a e
    rwa [Nat.add_right_comm] at this
section
variable (w : World) (base : Heap) (mg mb : Str → Option Value)
theorem fnsAll : AllFrom (fun k fn => chkFn (cx w base mg mb) k fn = true) 0 fns :=
  ⟨ck0 w base mg mb, ck1 w base mg mb, ck2 w base mg mb, ck3 w base mg mb, ck4 w base mg mb, ck5 w base mg mb, ck6 w base mg mb, ck7 w base mg mb, ck8 w base mg mb, ck9 w base mg mb, ck10 w base mg mb, ck11 w base mg mb, ck12 w base mg mb, ck13 w base mg mb, ck14 w base mg mb, ck15 w base mg mb, ck16 w base mg mb, ck17 w base mg mb, ck18 w base mg mb, ck19 w base mg mb, ck20 w base mg mb, ck21 w base mg mb, ck22 w base mg mb, ck23 w base mg mb, ck24 w base mg mb, ck25 w base mg mb, ck26 w base mg mb, ck27 w base mg mb, ck28 w base mg mb, ck29 w base mg mb, ck30 w base mg mb, ck31 w base mg mb, ck32 w base mg mb, ck33 w base mg mb, ck34 w base mg mb, ck35 w base mg mb, ck36 w base mg mb, ck37 w base mg mb, ck38 w base mg mb, ck39 w base mg mb, ck40 w base mg mb, ck41 w base mg mb, ck42 w base mg mb, ck43 w base mg mb, ck44 w base mg mb, ck45 w base mg mb, ck46 w base mg mb, ck47 w base mg mb, ck48 w base mg mb, ck49 w base mg mb, ck50 w base mg mb, ck51 w base mg mb, ck52 w base mg mb, ck53 w base mg mb, ck54 w base mg mb, ck55 w base mg mb, ck56 w base mg mb, ck57 w base mg mb, ck58 w base mg mb, ck59 w base mg mb, ck60 w base mg mb, ck61 w base mg mb, ck62 w base mg mb, ck63 w base mg mb, ck64 w base mg mb, ck65 w base mg mb, ck66 w base mg mb, ck67 w base mg mb, ck68 w base mg mb, ck69 w base mg mb, ck70 w base mg mb, ck71 w base mg mb, ck72 w base mg mb, ck73 w base mg mb, ck74 w base mg mb, ck75 w base mg mb, ck76 w base mg mb, ck77 w base mg mb, ck78 w base mg mb, ck79 w base mg mb, ck80 w base mg mb, ck81 w base mg mb, ck82 w base mg mb, ck83 w base mg mb, ck84 w base mg mb, ck85 w base mg mb, ck86 w base mg mb, ck87 w base mg mb, ck88 w base mg mb, trivial⟩
theorem fnsOk (k : Nat) (fn : Fn) (e : nth fns k = some fn) : chkFn (cx w base mg mb) k fn = true := by
  have := AllFrom.at (fnsAll w base mg mb) k fn e
  rwa [Nat.zero_add] at this
theorem keepAll : allFrom (fun k (_ : Fn) => keepIn (heapK w.params) (.ref (faOf k))) 0 fns = true := by kernel_rfl
theorem keepOk (k : Nat) (fn : Fn) (e : nth fns k = some fn) : keepIn (heapK w.params) (.ref (faOf k)) = true := by
  have := allFrom_at (keepAll w) k fn e
  rwa [Nat.zero_add] at this
noncomputable def handB (k : Nat) (fn : Fn) : Bool := match fn.bd with | .hand => Nat.beq k 4 | _ => true
theorem handAll : allFrom handB 0 fns = true := by kernel_rfl
theorem handOnly (k : Nat) (fn : Fn) (e : nth fns k = some fn) (h : fn.bd = .hand) : k = 4 := by
  have := allFrom_at handAll k fn e
  rw [Nat.zero_add] at this
  unfold handB at this
  rw [h] at this
  exact Nat.eq_of_beq_eq_true this
noncomputable def levB (K : Frag) (nm : Txt) : Bool := plainGet K 232 (sOf nm) && hasDictIn K 232 && (match findIn K (.ref 232) (sOf nm) with | some none => true | _ => false)
theorem levB_iff {K : Frag} {nm : Txt} (h : levB K nm = true) : plainGet K 232 (sOf nm) = true ∧ hasDictIn K 232 = true ∧ findIn K (.ref 232) (sOf nm) = some none := by
  unfold levB at h
  obtain ⟨h, h3⟩ := Bool.and_eq_true_iff.mp h
  obtain ⟨h1, h2⟩ := Bool.and_eq_true_iff.mp h
  refine ⟨h1, h2, ?_⟩
  split at h3
  · assumption
  · cases h3
theorem levAll : (levNames.all (levB (heapK w.params))) = true := by kernel_rfl
theorem levsOk : ∀ nm ∈ levNames, plainGet (heapK w.params) 232 (sOf nm) = true ∧ hasDictIn (heapK w.params) 232 = true ∧ findIn (heapK w.params) (.ref 232) (sOf nm) = some none :=
  fun nm m => levB_iff (List.all_eq_true.mp (levAll w) nm m)
variable {w base mg mb}
theorem ok1 (hK : (heapK w.params).In base) (T : TopRead viewK (looseW viewK namesL) mg mb base) : Ok (cx w base mg mb) := ⟨hK, T, keepOk w, levsOk w⟩
theorem ok2 (hK : (heapK w.params).In base) (T : TopRead viewK (looseW viewK namesL) mg mb base) : Ok2 (cx w base mg mb) := ⟨ok1 hK T, T.nolimit⟩
noncomputable def capScope : Scope := { kind := .function, names := [(".0", .local), ("sign", .local), ("chr", .globalImplicit), ("ord", .globalImplicit)], isGenerator := false, isCoroutine := false }
theorem ok3 (hK : (heapK w.params).In base) (T : TopRead viewK (looseW viewK namesL) mg mb base) : Ok3 (cx w base mg mb) :=
  ⟨ok2 hK T, fnsOk w base mg mb, fun {A n f ρ σ μ N s E Q k fn l v} hfn hh H hs hv P => by
    have hk := handOnly k fn hfn hh
    subst hk
    refine cap_call (c := cx w base mg mb) (a := faOf 4) (o := objOf (heapK w.params) 78) (fd := fdOf (objOf (heapK w.params) 78)) (scope := capScope) (p0 := ⟨33, 4, 33, 90⟩) (p1 := ⟨33, 11, 33, 13⟩) (px := ⟨33, 76, 33, 80⟩) (py := ⟨33, 84, 33, 88⟩) (pc := ⟨33, 19, 33, 89⟩)
      (a1 := ⟨33, 43, 33, 46⟩) (a2 := ⟨33, 50, 33, 54⟩) (a3 := ⟨33, 58, 33, 61⟩) (a4 := ⟨33, 43, 33, 61⟩) (b1 := ⟨33, 20, 33, 23⟩) (b2 := ⟨33, 24, 33, 27⟩) (b3 := ⟨33, 28, 33, 32⟩) (b4 := ⟨33, 24, 33, 33⟩) (b5 := ⟨33, 36, 33, 38⟩) (b6 := ⟨33, 24, 33, 38⟩) (b7 := ⟨33, 20, 33, 39⟩) (c1 := ⟨33, 67, 33, 71⟩) (c2 := ⟨33, 20, 33, 71⟩)
      (ok2 hK T) H ?_ ?_ (chkHead_iff ?_) ?_ (all_of ?_) (all_of ?_) rfl ?_ rfl rfl rfl ?_ ?_ hs hv P
    · kernel_rfl
    · kernel_rfl
    · kernel_rfl
    · kernel_rfl
    · kernel_rfl
    · kernel_rfl
    · intro y hy hl
      have := all_of (l := capScope.names) (p := fun y => y.2 = .local → capScope.names.lookup y.1 = some .local) (by kernel_rfl) y hy
      exact this hl
    · kernel_rfl
    · kernel_rfl⟩
end
end Mine
-- Inst3
open PySem PySem.W PyProof.Rows PySem.Calls
namespace Mine
section
variable {w : World} {base : Heap} {mg mb : Str → Option Value}
theorem clsB (w : World) : (heapK w.params).lookup 34 = some (excClassObj "BasicError" "BasicError" 34 33 [.type "Exception"] bmE true [] [] false none none (some (.ref 15)) none (some (.str "BasicError" 191)) (some (.str "BasicError" 199)) (some (.bool true)) "Exception.__new__") := by kernel_rfl
theorem ok4 (hK : (heapK w.params).In base) (T : TopRead viewK (looseW viewK namesL) mg mb base) : Ok4 (cx w base mg mb) :=
  ⟨ok3 hK T, by kernel_rfl, ⟨_, _, _, _, _, _, _, _, _, _, _, _, _, _, _, _, _, clsB w, by decide⟩, fun {A n f ρ σ μ s E Q code tk v2} H hd1 hq => by
    refine exc_call (c := cx w base mg mb) (N := 33) (fI := 31) (cc := 18) (cda := 30) (oI := objOf (heapK w.params) 31) (oc := objOf (heapK w.params) 30) (occ := objOf (heapK w.params) 18) (fd := fdOf (objOf (heapK w.params) 31)) (vs := fieldsOf (objOf (heapK w.params) 30)) (file := "/claim/cut.py") (tf := 206) (ar := ⟨"self", none, ⟨5, 17, 5, 21⟩⟩)
      (q0 := ⟨7, 8, 7, 12⟩) (q1 := ⟨7, 8, 7, 17⟩) (q2 := ⟨7, 20, 7, 24⟩) (q3 := ⟨7, 8, 7, 24⟩) (r0 := ⟨8, 8, 8, 12⟩) (r1 := ⟨8, 8, 8, 17⟩) (r2 := ⟨8, 20, 8, 24⟩) (r3 := ⟨8, 8, 8, 24⟩)
      (ok2 hK T) H hd1 (clsB w) ?_ ?_ ?_ ?_ ?_ ?_ ?_ ?_ ?_ ?_ ?_ ?_ ?_ ?_ ?_ ?_ ?_ ?_ ?_ (noCell_iff ?_) ?_ ?_ ?_ ?_ ?_ (fun _ _ _ _ => ?_) ?_ ?_ ?_ ?_ ?_ ?_ ?_ ?_ ?_ hq
    all_goals kernel_rfl⟩
theorem ok5 (hK : (heapK w.params).In base) (T : TopRead viewK (looseW viewK namesL) mg mb base) : Ok5 (cx w base mg mb) :=
  ⟨ok4 hK T, fun {A n f ρ σ μ s E Q v1 v2} H hd1 hq => by
    refine lev_call (c := cx w base mg mb) (fI := 229) (oI := objOf (heapK w.params) 229) (fd := fdOf (objOf (heapK w.params) 229))
      (a0 := ⟨178, 8, 178, 12⟩) (a1 := ⟨178, 8, 178, 17⟩) (a2 := ⟨178, 20, 178, 24⟩) (a3 := ⟨178, 8, 178, 24⟩) (b0 := ⟨179, 8, 179, 12⟩) (b1 := ⟨179, 8, 179, 17⟩) (b2 := ⟨179, 20, 179, 24⟩) (b3 := ⟨179, 8, 179, 24⟩)
      (d0 := ⟨180, 8, 180, 12⟩) (d1 := ⟨180, 8, 180, 17⟩) (d2 := ⟨180, 20, 180, 22⟩) (d3 := ⟨180, 8, 180, 22⟩) (e0 := ⟨181, 8, 181, 12⟩) (e1 := ⟨181, 8, 181, 21⟩) (e2 := ⟨181, 24, 181, 26⟩) (e3 := ⟨181, 8, 181, 26⟩)
      (f0 := ⟨182, 8, 182, 12⟩) (f1 := ⟨182, 8, 182, 22⟩) (f2 := ⟨182, 25, 182, 27⟩) (f3 := ⟨182, 8, 182, 27⟩)
      (ok2 hK T) H hd1 ?_ ?_ ?_ ?_ ?_ ?_ ?_ ?_ ?_ ?_ ?_ ?_ ?_ (noCell_iff ?_) ?_ ?_ ?_ (fun _ _ _ _ => ?_) ?_ ?_ ?_ ?_ ?_ ?_ ?_ ?_ hq
    all_goals kernel_rfl⟩
end
end Mine
-- Inst4
open PySem PySem.W PyProof.Rows PySem.Calls
namespace Mine
noncomputable def chkEnt (c : Cx) : List DictEntry → List (Txt × D) → Bool
  | [], [] => true
  | e :: r, p :: q => (match e.key with | .str s _ => seqS s p.1 | _ => false) && chkV c p.2 e.val && chkEnt c r q
  | _, _ => false
theorem ents {c : Cx} {h : Heap} {μ : List Addr} (X : c.K.In h) (p : c.μ0 <+: μ) : ∀ {es : List DictEntry} {l : List (Txt × D)}, chkEnt c es l = true → ∃ kvs, Pairs (strKind c.prog c.w) es kvs ∧ Ks c.fa μ h l kvs ∧ kvs.map (·.1) = l.map fun p => sOf p.1
  | [], [], _ => ⟨[], .nil, rfl, rfl⟩
  | e :: r, q :: l, hc => by
    unfold chkEnt at hc
    obtain ⟨hc, h3⟩ := Bool.and_eq_true_iff.mp hc
    obtain ⟨h1, h2⟩ := Bool.and_eq_true_iff.mp hc
    obtain ⟨kvs, a, b, d⟩ := ents X p h3
    split at h1
    · rename_i s t hk
      have hs := seqS_iff.mp h1
      refine ⟨(sOf q.1, e.val) :: kvs, .cons (by rw [hk, hs]; exact strKind_is _ _ _ _) rfl a, ⟨_, _, rfl, chkV_sound X p _ _ h2, b⟩, by rw [List.map_cons, List.map_cons, d]⟩
    · cases h1
  | [], _ :: _, hc => by unfold chkEnt at hc; cases hc
  | _ :: _, [], hc => by unfold chkEnt at hc; cases hc
theorem dict_ob {c : Cx} {σ : Sg} {μ : List Addr} {h : Heap} {i : Nat} {a : Addr} {l : List (Txt × D)} {es : Array DictEntry} {n : Nat} (X : c.K.In h) (p : c.μ0 <+: μ) (hl : c.K.lookup a = some ⟨.type "dict", none, .dict es n, #[]⟩) (hk : KeysLit c.w.params es.toList)
    (hc : chkEnt c es.toList l = true) (hn : nodupT (l.map (·.1)) = true) (hs : (a == sysModules) = false) : O c σ μ h i a (.dict l) := by
  obtain ⟨kvs, a1, a2, a3⟩ := ents X p hc
  refine ⟨kvs, ⟨_, es, n, X _ _ hl, ⟨rfl, rfl, rfl⟩, rfl, fun e he => ?_, a1, ?_⟩, a2, hs⟩
  · obtain ⟨x, t, e1, e2⟩ := hk.all e (Array.mem_toList_iff.mpr he)
    exact ⟨x, by rw [e1]; exact strKind_is _ _ x t, e2⟩
  · rw [a3]
    have := sOf_nodup (nodupT_iff hn)
    rwa [List.map_map] at this
noncomputable def entsOf (o : Obj) : Array DictEntry := match o.data with | .dict es _ => es | _ => #[]
section
variable {w : World} {base : Heap} {mg mb : Str → Option Value}
noncomputable def chkLit (P : Params) : List DictEntry → Prop := KeysLit P
theorem lit0 (w : World) : KeysLit w.params (entsOf (objOf (heapK w.params) 45)).toList := by
  show KeysLit w.params [_, _, _, _, _, _]
  repeat (first | exact trivial | refine ⟨⟨_, _, rfl, rfl⟩, ?_⟩)
end
end Mine
-- Inst5
open PySem PySem.W PyProof.Rows PySem.Calls
namespace Mine
theorem lit1 (w : World) : KeysLit w.params (entsOf (objOf (heapK w.params) 163)).toList := by
  show KeysLit w.params [_, _, _, _, _, _, _, _, _, _, _, _, _, _, _, _, _, _]
  repeat (first | exact trivial | refine ⟨⟨_, _, rfl, rfl⟩, ?_⟩)
theorem lit2 (w : World) : KeysLit w.params (entsOf (objOf (heapK w.params) 452)).toList := by
  show KeysLit w.params [_, _, _, _]
  repeat (first | exact trivial | refine ⟨⟨_, _, rfl, rfl⟩, ?_⟩)
theorem lit3 (w : World) : KeysLit w.params (entsOf (objOf (heapK w.params) 595)).toList := by
  show KeysLit w.params [_, _, _, _, _, _]
  repeat (first | exact trivial | refine ⟨⟨_, _, rfl, rfl⟩, ?_⟩)
theorem lit4 (w : World) : KeysLit w.params (entsOf (objOf (heapK w.params) 596)).toList := by
  show KeysLit w.params [_, _, _]
  repeat (first | exact trivial | refine ⟨⟨_, _, rfl, rfl⟩, ?_⟩)
section
variable {w : World} {base : Heap} {mg mb : Str → Option Value}
theorem dob (hK : (heapK w.params).In base) : ∀ i o a, nth sg0 i = some o → nth mu0 i = some a → O (cx w base mg mb) sg0 mu0 base i a o
  | 0, _, _, e1, e2 => by
    cases e1; cases e2
    exact dict_ob (c := cx w base mg mb) (es := entsOf (objOf (heapK w.params) 45)) (n := 6) hK (List.prefix_refl _) (by kernel_rfl) (lit0 w) (by kernel_rfl) (by kernel_rfl) (by decide)
  | 1, _, _, e1, e2 => by
    cases e1; cases e2
    exact dict_ob (c := cx w base mg mb) (es := entsOf (objOf (heapK w.params) 163)) (n := 18) hK (List.prefix_refl _) (by kernel_rfl) (lit1 w) (by kernel_rfl) (by kernel_rfl) (by decide)
  | 2, _, _, e1, e2 => by
    cases e1; cases e2
    exact dict_ob (c := cx w base mg mb) (es := entsOf (objOf (heapK w.params) 452)) (n := 4) hK (List.prefix_refl _) (by kernel_rfl) (lit2 w) (by kernel_rfl) (by kernel_rfl) (by decide)
  | 3, _, _, e1, e2 => by
    cases e1; cases e2
    exact dict_ob (c := cx w base mg mb) (es := entsOf (objOf (heapK w.params) 595)) (n := 6) hK (List.prefix_refl _) (by kernel_rfl) (lit3 w) (by kernel_rfl) (by kernel_rfl) (by decide)
  | 4, _, _, e1, e2 => by
    cases e1; cases e2
    exact dict_ob (c := cx w base mg mb) (es := entsOf (objOf (heapK w.params) 596)) (n := 3) hK (List.prefix_refl _) (by kernel_rfl) (lit4 w) (by kernel_rfl) (by kernel_rfl) (by decide)
  | k + 5, _, _, e1, _ => nomatch e1
theorem ground (hK : (heapK w.params).In base) (T : TopRead viewK (looseW viewK namesL) mg mb base) : Ground (cx w base mg mb) sg0 :=
  ⟨fun b kb => ok5 (hK.keeps kb) (T.keeps kb), Nat.lt_trans (show sysModules < 811 by decide) (Heap.lt_size (hK 811 _ (show (heapK w.params).lookup 811 = some (objOf (heapK w.params) 811) by kernel_rfl))), (show mu0.length = sg0.length from rfl), (show mu0.length ≤ 5 from Nat.le_refl 5), (show mu0.Nodup by decide), dob hK⟩
variable {A : Around} {env : Env} {L W Cs : Addr} {m : Str → Option Value} {s : Shared} {E : Value → Shared → Prop} {Q : Value → Shared → Prop}
theorem heard' (hK : (heapK w.params).In base) (T : TopRead viewK (looseW viewK namesL) mg mb base) (H : AtLaw (cx w base mg mb) A env L m s.heap) {xs : Array Value} (hW : s.heap.IsList W xs) (hWb : base.objs.size ≤ W)
    {row : Txt} {tk : Tok} {p : PyData} (e : heardR fns wtab 5 sg0 row = some p)
    (hQ : ∀ s' v, (∀ b o, b ≠ L → s.heap.get? b = some o → s'.heap.get? b = some o) → s'.heap.Ns L m → Rest s s' → (∀ g, But W L s'.heap g → ∃ as, Reads g v p as) → Q v s') :
    wpAny (model PySem.Challenge.rw_pf0024_01.row.prog w) A (call (.ref 792) [.str (sOf row) tk]) Q E s := by
  refine heard_call (c := cx w base mg mb) (N := 33) (oH := objOf (heapK w.params) 792) (fd := fdOf (objOf (heapK w.params) 792)) (p0 := ⟨729, 8, 729, 28⟩) (p1 := ⟨730, 11, 730, 21⟩) (p2 := ⟨731, 15, 731, 22⟩) (p3 := ⟨731, 15, 731, 27⟩) (p4 := ⟨731, 8, 731, 27⟩) (p5 := ⟨730, 4, 731, 27⟩) (p6 := ⟨728, 4, 731, 27⟩)
    (e0 := .Call (.Name "read_row" ⟨729, 15, 729, 23⟩) [.Name "row" ⟨729, 24, 729, 27⟩] [] ⟨729, 15, 729, 28⟩) (ground hK T) H hW hWb (clsB w) ?_ ?_ ?_ ?_ ?_ ?_ (fun b => chkHead_iff ?_) ?_ (fun b => ?_) ?_ ?_ e hQ
  all_goals kernel_rfl
theorem dip' (hK : (heapK w.params).In base) (T : TopRead viewK (looseW viewK namesL) mg mb base) (hdep : A.depth + 1 < recursionLimit) (hh : A.handled = none) (st : base.StaysIn s.heap) {k many : Nat} {tk tm : Tok} {vals : List Value} {cells : List Int}
    (hW : s.heap.IsList W #[.ref Cs, .int k tk]) (hCs : s.heap.IsList Cs vals.toArray) (hI : IntsAre vals cells) (hne : Cs ≠ W) (hWb : base.objs.size ≤ W) (hk1 : k ≤ 1000) (hc1 : vals.length ≤ 1000) (hm : 0 < many)
    (hQ : ∀ h' t tr tw, (∀ b o, b ≠ W → s.heap.get? b = some o → h'.get? b = some o) → h'.IsList W #[.ref Cs, .int ((k + 1 : Nat) : Int) tw] → Q (.int (drawn cells k many) tr) { s with heap := h', toks := t }) :
    wpAny (model PySem.Challenge.rw_pf0024_01.row.prog w) A (call (.ref 785) [.ref W, .int many tm]) Q E s := by
  refine dip_call (c := cx w base mg mb) (oD := objOf (heapK w.params) 785) (fd := fdOf (objOf (heapK w.params) 785)) (ok1 hK T) T.nolimit hdep hh st ?_ ?_ ?_ ?_ ?_ ?_ ?_ ?_ ?_ (noCell_iff ?_) ?_ ?_ ?_ ?_ ?_ ?_ (fun _ _ _ => ?_) ?_ hW hCs hI hne hWb hk1 hc1 hm hQ
  all_goals kernel_rfl
end
end Mine
-- Y1
open PySem PySem.W PyProof.Rows PySem.Calls
namespace Mine
noncomputable def yvs (f : Expr → Option PyData) : List Expr → Option (List PyData)
  | [] => some []
  | e :: es => match f e with
    | some p => match yvs f es with
      | some r => some (p :: r)
      | none => none
    | none => none
noncomputable def y1 {α β : Type} (l : List α) (g : α → Option β) : Option β := match l with
  | x :: r => match r with
    | [] => g x
    | _ :: _ => none
  | [] => none
theorem y1_inv {α β : Type} {l : List α} {g : α → Option β} {b : β} (h : y1 l g = some b) : ∃ x, l = [x] ∧ g x = some b := match l, h with
  | [x], h => ⟨x, rfl, h⟩
  | _ :: _ :: _, h => nomatch h
  | [], h => nomatch h
noncomputable def y2 {α β : Type} (l : List α) (g : α → α → Option β) : Option β := match l with
  | x :: r => y1 r (g x)
  | [] => none
theorem y2_inv {α β : Type} {l : List α} {g : α → α → Option β} {b : β} (h : y2 l g = some b) : ∃ x y, l = [x, y] ∧ g x y = some b := match l, h with
  | x :: r, h => by
    obtain ⟨y, rfl, h⟩ := y1_inv (show y1 r (g x) = some b from h)
    exact ⟨x, y, rfl, h⟩
  | [], h => nomatch h
noncomputable def yIf {β : Type} (c : Bool) (o : Option β) : Option β := match c with
  | true => o
  | false => none
theorem yIf_inv {β : Type} {c : Bool} {o : Option β} {b : β} (h : yIf c o = some b) : c = true ∧ o = some b := by
  cases c with
  | true => exact ⟨rfl, h⟩
  | false => cases h
noncomputable def yNm {β : Type} (e : Expr) (g : Str → Option β) : Option β := yIf (Nat.beq (parts e).tag 2) (g (parts e).s)
theorem yNm_inv {β : Type} {e : Expr} {g : Str → Option β} {b : β} (h : yNm e g = some b) : ∃ id p, e = .Name id p ∧ g id = some b :=
  have h := yIf_inv h
  ⟨_, _, tagged h.1, h.2⟩
noncomputable def yAnd (t : Expr → Option Bool) (a b : Expr) : Option Bool := match t a with
  | some true => t b
  | some false => some false
  | none => none
noncomputable def yGt (f : Expr → Option PyData) (l r : Expr) : Option Bool := if behindInMarks .Gt r = true then none else match f l, f r with
  | some (.int a), some (.int b) => some (decide (b < a))
  | _, _ => none
noncomputable def yAdd (f : Expr → Option PyData) (l r : Expr) : Option PyData := match f l, f r with
  | some (.str x), some (.str y) => if x.length + y.length ≤ 1000 then some (.str (x ++ y)) else none
  | _, _ => none
noncomputable def yLen (f : Expr → Option PyData) (id : Str) (x : Expr) : Option PyData := if id = ("len" : Str) then (match f x with | some (.str s) => if s.length ≤ 1000 then some (.int s.length) else none | _ => none) else none
noncomputable def yt (f : Expr → Option PyData) (t : Expr → Option Bool) (e : Expr) : Option Bool := match e with
  | .Name _ _ => match f e with
    | some (.bool b) => some b
    | _ => none
  | .BoolOp op es _ => yIf (decide (op = .And)) (y2 es (yAnd t))
  | .Compare l ops rs _ => y1 ops fun o => yIf (decide (o = .Gt)) (y1 rs (yGt f l))
  | _ => none
noncomputable def yv (f : Expr → Option PyData) (t : Expr → Option Bool) (en : List (Str × PyData)) (e : Expr) : Option PyData := match e with
  | .Constant k _ _ => match k with
    | .str s => some (.str s)
    | .int i => some (.int i)
    | .none => some .none
    | _ => none
  | .Name id _ => en.lookup id
  | .Tuple es _ _ => if es.length ≤ 100 then (match yvs f es with | some r => some (.tuple r) | none => none) else none
  | .List es _ => if es.length ≤ 100 then (match yvs f es with | some r => some (.list r) | none => none) else none
  | .BinOp l o r _ => yIf (decide (o = .Add)) (yAdd f l r)
  | .IfExp c a b _ => match t c with
    | some true => f a
    | some false => f b
    | none => none
  | .Call g es kws _ => yIf kws.isEmpty (yNm g fun id => y1 es (yLen f id))
  | _ => none
noncomputable def ye (en : List (Str × PyData)) (n : Nat) : (Expr → Option PyData) × (Expr → Option Bool) := Nat.rec (fun _ => none, fun _ => none) (fun _ ih => (yv ih.1 ih.2 en, yt ih.1 ih.2)) n
theorem ye_succ (en : List (Str × PyData)) (n : Nat) : ye en (n + 1) = (yv (ye en n).1 (ye en n).2 en, yt (ye en n).1 (ye en n).2) := rfl
/-- what is known of the frame's names -/
noncomputable def Kn (sc : Scope) (m : Str → Option Value) (h : Heap) (en : List (Str × PyData)) : Prop :=
  ∀ id d, en.lookup id = some d → sc.names.lookup id = some .local ∧ (id == ("__debug__" : Str)) = false ∧ ∃ v as, m id = some v ∧ Reads h v d as
theorem Kn.keeps {sc : Scope} {m : Str → Option Value} {h h' : Heap} {en : List (Str × PyData)} (K : Kn sc m h en) (k : ∀ b o, h.get? b = some o → h'.get? b = some o) : Kn sc m h' en := fun id d e => by
  obtain ⟨a, b, v, as, r1, r2⟩ := K id d e
  exact ⟨a, b, v, as, r1, Reads.keeps k r2⟩
theorem kRefl (s : Shared) (t : Nat) : Keeps s { s with toks := t } := ⟨s.heap, t, rfl, fun _ _ e => e⟩
theorem kTr {s s' s'' : Shared} (x : Keeps s s') (y : Keeps s' s'') : Keeps s s'' := by
  obtain ⟨h, t, rfl, k⟩ := x
  obtain ⟨h', t', rfl, k'⟩ := y
  exact ⟨h', t', rfl, fun b o e => k' b o (k b o e)⟩
theorem kHeap {s s' : Shared} (x : Keeps s s') : ∀ b o, s.heap.get? b = some o → s'.heap.get? b = some o := by
  obtain ⟨h, t, rfl, k⟩ := x
  exact k
structure Ysound (prog : Program) (w : World) (q : Str) (sc : Scope) (L a : Addr) (cd : Value) (m : Str → Option Value) (en : List (Str × PyData)) (base : Heap) (F : (Expr → Option PyData) × (Expr → Option Bool)) : Prop where
  v : ∀ {A : Around} {s : Shared} {E : Value → Shared → Prop} {e : Expr} {d : PyData}, F.1 e = some d → s.heap.Ns L m → Kn sc m s.heap en → base.StaysIn s.heap → wpAny (model prog w) A (eval e (envOf q sc L a cd)) (fun v s' => Keeps s s' ∧ ∃ as, Reads s'.heap v d as) E s
  t : ∀ {A : Around} {s : Shared} {E : Value → Shared → Prop} {e : Expr} {b : Bool}, F.2 e = some b → s.heap.Ns L m → Kn sc m s.heap en → base.StaysIn s.heap → wpAny (model prog w) A (isTrue e (envOf q sc L a cd) (eval e (envOf q sc L a cd))) (fun r s' => r = b ∧ Keeps s s') E s
theorem ystar {en : List (Str × PyData)} {n : Nat} {e : Expr} {es : List Expr} {env : Env} {d : PyData} (h : (ye en n).1 e = some d) : starEach (e :: es) env = (false, PySem.eval e env) :: starEach es env := by
  cases n with
  | zero => cases h
  | succ n =>
    rw [ye_succ] at h
    cases e with
    | Starred v p => cases h
    | _ => rfl
section
variable {prog : Program} {w : World} {q : Str} {sc : Scope} {L a : Addr} {cd : Value} {m : Str → Option Value} {en : List (Str × PyData)} {base : Heap}
theorem ylist {n : Nat} (S : Ysound prog w q sc L a cd m en base (ye en n)) {A : Around} {E : Value → Shared → Prop} {pos : Pos} : ∀ {es : List Expr} {ds : List PyData} {s : Shared}, yvs (ye en n).1 es = some ds → s.heap.Ns L m → Kn sc m s.heap en → base.StaysIn s.heap →
    wpAny (model prog w) A (spliced (backTo pos (starEach es (envOf q sc L a cd)))) (fun vs s' => vs.length = es.length ∧ Keeps s s' ∧ ∃ as, ReadsAll s'.heap vs ds as) E s
  | [], ds, s, e, hn, K, st => by
    cases e
    exact args_nil ⟨rfl, kRefl s s.toks, [], .nil⟩
  | x :: es, ds, s, e, hn, K, st => by
    unfold yvs at e
    split at e
    · rename_i p hp
      split at e
      · rename_i r hr
        cases e
        refine args_cons (wpAny_mono (S.v hp hn K st) (fun v s1 h1 => ?_) fun _ _ z => z) (ystar hp)
        obtain ⟨k1, as, r1⟩ := h1
        refine wpAny_mono (ylist S hr (Heap.Ns.keep1 hn fun o eo => kHeap k1 _ _ eo) (K.keeps (kHeap k1)) (fun b o eb => kHeap k1 b o (st b o eb))) (fun vs s2 h2 => ?_) fun _ _ z => z
        obtain ⟨l, k2, bs, r2⟩ := h2
        exact ⟨by simp [l], kTr k1 k2, _, .cons (Reads.keeps (kHeap k2) r1) r2⟩
      · cases e
    · cases e

theorem ysound {p : Program} {loose : List Str} {mg mb : Str → Option Value} {K : Frag} (hk : sc.kind = .function) (X : K.In base) (T : TopRead p loose mg mb base) (above : base.objs.size ≤ L) (hlen : sc.names.lookup ("len" : Str) = some .globalImplicit) (hln : nsIn K mainGlobals "len" = some none) :
    ∀ n, Ysound prog w q sc L a cd m en base (ye en n)
  | 0 => ⟨fun e => (nomatch e), fun e => (nomatch e)⟩
  | n + 1 => by
    have S := ysound hk X T above hlen hln n
    rw [ye_succ]
    refine ⟨fun {A s E e d} h hn Kk st => ?_, fun {A s E e b} h hn Kk st => ?_⟩
    · unfold yv at h
      dsimp only at h
      split at h
      · split at h
        · cases h; exact Constant_str ⟨kRefl s _, [], .str _ _⟩
        · cases h; exact wpAny_Constant_int ⟨kRefl s _, [], .int _ _⟩
        · cases h; exact wpAny_Constant_none ⟨kRefl s s.toks, [], .none⟩
        · cases h
      · obtain ⟨a1, a2, v, as, a3, a4⟩ := Kk _ _ h
        exact wpAny_Name (wpAny_loadName_local hk a1 hn a3 ⟨kRefl s s.toks, as, a4⟩) a2
      · split at h
        · rename_i hz
          split at h
          · rename_i r hr
            cases h
            refine wpAny_Tuple (wpAny_mono (ylist S hr hn Kk st) (fun vs s1 h1 => ?_) fun _ _ z => z)
            obtain ⟨l, k1, as, r1⟩ := h1
            refine ⟨by rw [l, sizeLine_eq]; omega, kTr k1 ⟨_, s1.toks, rfl, fun b o eb => Heap.get?_push_of_some _ eb⟩, as, ?_⟩
            exact .tuple (Heap.get?_push_size _ rfl) rfl rfl (by rw [List.toList_toArray]; exact ReadsAll.keeps (fun b o eb => Heap.get?_push_of_some _ eb) r1)
          · cases h
        · cases h
      · split at h
        · rename_i hz
          split at h
          · rename_i r hr
            cases h
            refine wpAny_List (wpAny_mono (ylist S hr hn Kk st) (fun vs s1 h1 => ?_) fun _ _ z => z)
            obtain ⟨l, k1, as, r1⟩ := h1
            refine ⟨by rw [l, sizeLine_eq]; omega, kTr k1 ⟨_, s1.toks, rfl, fun b o eb => Heap.get?_push_of_some _ eb⟩, s1.heap.objs.size :: as, ?_⟩
            exact .list (Heap.get?_push_size _ rfl) rfl rfl (by rw [List.toList_toArray]; exact ReadsAll.keeps (fun b o eb => Heap.get?_push_of_some _ eb) r1)
          · cases h
        · cases h
      · replace h := yIf_inv h
        obtain ⟨ho, h⟩ := h
        cases of_decide_eq_true ho
        unfold yAdd at h
        split at h
        · rename_i x y hx hy
          split at h
          · rename_i hz
            cases h
            refine wpAny_BinOp (wpAny_mono (S.v hx hn Kk st) (fun v1 s1 h1 => wpAny_mono (S.v hy (Heap.Ns.keep1 hn fun o eo => kHeap h1.1 _ _ eo) (Kk.keeps (kHeap h1.1)) fun b o eb => kHeap h1.1 b o (st b o eb)) (fun v2 s2 h2 => ?_) fun _ _ z => z) fun _ _ z => z)
            obtain ⟨k1, _, r1⟩ := h1
            obtain ⟨k2, _, r2⟩ := h2
            cases r1
            cases r2
            exact add_str (fun t' tk => ⟨kTr (kTr k1 k2) (kRefl s2 tk), [], .str _ _⟩) (by rw [sizeLine_eq]; omega)
          · cases h
        · cases h
      · split at h
        · rename_i hc
          exact wpAny_IfExp (wpAny_mono (S.t hc hn Kk st) (fun b s1 h1 => by
            obtain ⟨rfl, k1⟩ := h1
            exact wpAny_mono (S.v h (Heap.Ns.keep1 hn fun o eo => kHeap k1 _ _ eo) (Kk.keeps (kHeap k1)) fun b o eb => kHeap k1 b o (st b o eb)) (fun v s2 h2 => ⟨kTr k1 h2.1, h2.2⟩) fun _ _ z => z) fun _ _ z => z)
        · rename_i hc
          exact wpAny_IfExp (wpAny_mono (S.t hc hn Kk st) (fun b s1 h1 => by
            obtain ⟨rfl, k1⟩ := h1
            exact wpAny_mono (S.v h (Heap.Ns.keep1 hn fun o eo => kHeap k1 _ _ eo) (Kk.keeps (kHeap k1)) fun b o eb => kHeap k1 b o (st b o eb)) (fun v s2 h2 => ⟨kTr k1 h2.1, h2.2⟩) fun _ _ z => z) fun _ _ z => z)
        · cases h
      · replace h := yIf_inv h
        obtain ⟨ho, h⟩ := h
        cases List.isEmpty_iff.mp ho
        replace h := yNm_inv h
        obtain ⟨id, ip, rfl, h⟩ := h
        replace h := y1_inv h
        obtain ⟨x0, rfl, h⟩ := h
        unfold yLen at h
        split at h
        · rename_i hid
          subst hid
          split at h
          · rename_i str hx
            split at h
            · rename_i hz
              cases h
              refine Call_ (name_B (L := L) (h₀ := base) ⟨hn, st, above⟩ X T hln Boot.«len» (by decide +kernel) (PyProof.Rows.callWith_builtin1 (args_cons (wpAny_mono (S.v hx hn Kk st) (fun v s1 h1 => args_nil ?_) fun _ _ z => z) (ystar hx)) (ystar hx) rfl) hk hlen (by decide +kernel)) callName_eq
              obtain ⟨k1, _, r1⟩ := h1
              cases r1
              exact len_str (by omega) ⟨kTr k1 (kRefl s1 _), [], .int _ _⟩
            · cases h
          · cases h
        · cases h
      · cases h
    · unfold yt at h
      dsimp only at h
      split at h
      · split at h
        · rename_i b' hb
          cases h
          refine wpAny_isTrue_value (wpAny_mono (S.v hb hn Kk st) (fun v s1 h1 => ?_) fun _ _ z => z)
          obtain ⟨k1, _, r1⟩ := h1
          cases r1
          exact wpAny_truthy_bool ⟨rfl, k1⟩
        · cases h
      · replace h := yIf_inv h
        obtain ⟨ho, h⟩ := h
        cases of_decide_eq_true ho
        replace h := y2_inv h
        obtain ⟨x0, x1, rfl, h⟩ := h
        unfold yAnd at h
        refine wpAny_isTrue_BoolOp ?_
        split at h
        · rename_i ha
          refine wpAny_allTrue_And_cons (wpAny_mono (S.t ha hn Kk st) (fun b1 s1 h1 => ?_) fun _ _ z => z)
          obtain ⟨rfl, k1⟩ := h1
          simp only [if_true]
          refine wpAny_allTrue_And_cons (wpAny_mono (S.t h (Heap.Ns.keep1 hn fun o eo => kHeap k1 _ _ eo) (Kk.keeps (kHeap k1)) fun b o eb => kHeap k1 b o (st b o eb)) (fun b2 s2 h2 => ?_) fun _ _ z => z)
          obtain ⟨rfl, k2⟩ := h2
          split
          · rename_i hb2
            subst hb2
            exact wpAny_allTrue_And_nil ⟨rfl, kTr k1 k2⟩
          · rename_i hb2
            exact ⟨by simpa using hb2, kTr k1 k2⟩
        · rename_i ha
          cases h
          refine wpAny_allTrue_And_cons (wpAny_mono (S.t ha hn Kk st) (fun b1 s1 h1 => ?_) fun _ _ z => z)
          obtain ⟨rfl, k1⟩ := h1
          simp only [Bool.false_eq_true, if_false]
          exact ⟨trivial, k1⟩
        · cases h
      · replace h := y1_inv h
        obtain ⟨o0, rfl, h⟩ := h
        replace h := yIf_inv h
        obtain ⟨ho, h⟩ := h
        cases of_decide_eq_true ho
        replace h := y1_inv h
        obtain ⟨x0, rfl, h⟩ := h
        unfold yGt at h
        split at h
        · cases h
        · rename_i hm
          split at h
          · rename_i x y hx hy
            cases h
            refine wpAny_isTrue_Compare1 (wpAny_mono (S.v hx hn Kk st) (fun v1 s1 h1 => wpAny_mono (S.v hy (Heap.Ns.keep1 hn fun o eo => kHeap h1.1 _ _ eo) (Kk.keeps (kHeap h1.1)) fun b o eb => kHeap h1.1 b o (st b o eb)) (fun v2 s2 h2 => ?_) fun _ _ z => z) fun _ _ z => z) (by simpa using hm)
            obtain ⟨k1, _, r1⟩ := h1
            obtain ⟨k2, _, r2⟩ := h2
            cases r1
            cases r2
            exact PyProof.Rows.gt_int (wpAny_truthy_bool ⟨rfl, kTr k1 k2⟩)
          · cases h
      · cases h
end
end Mine
-- L1
open PySem PySem.W PyProof.Rows PySem.Calls
namespace Mine
noncomputable abbrev hide2 (h : Heap) (W L : Addr) : Heap := (h.hide W).hide L
theorem but_hide2 (h : Heap) (W L : Addr) : But W L h (hide2 h W L) := fun b o e n1 n2 => (Heap.hide_ne _ n2).trans ((Heap.hide_ne _ n1).trans e)
theorem of_hide2 {h : Heap} {W L b : Addr} {o : Obj} (e : (hide2 h W L).get? b = some o) : h.get? b = some o ∧ b ≠ W ∧ b ≠ L := by
  have e1 := Heap.of_hide e
  refine ⟨Heap.of_hide e1, fun z => ?_, fun z => ?_⟩
  · rw [z, Heap.hide_self] at e1; cases e1
  · rw [z, Heap.hide_self] at e; cases e
theorem But.hide {h h' : Heap} {W L : Addr} (x : But W L h h') : ∀ b o, (hide2 h W L).get? b = some o → (hide2 h' W L).get? b = some o := fun b o e => by
  obtain ⟨e1, n1, n2⟩ := of_hide2 e
  exact but_hide2 h' W L b o (x b o e1 n1 n2) n1 n2
theorem But.trans {h h' h'' : Heap} {W L : Addr} (x : But W L h h') (y : But W L h' h'') : But W L h h'' := fun b o e n1 n2 => y b o (x b o e n1 n2) n1 n2
theorem But.of {h h' : Heap} {W L : Addr} (k : ∀ b o, h.get? b = some o → h'.get? b = some o) : But W L h h' := fun b o e _ _ => k b o e
/-- what stands throughout the law's call -/
structure LC (w : World) (base : Heap) (mg mb : Str → Option Value) (A : Around) (q : Str) (sc : Scope) (L a : Addr) (cd : Value) (W Cs : Addr) (vals : List Value) (cells : List Int) (s0 : Shared) : Prop where
  hK : (heapK w.params).In base
  T : TopRead viewK (looseW viewK namesL) mg mb base
  frames : A.frames = some [envOf q sc L a cd]
  handled : A.handled = none
  depth : A.depth + 450 < recursionLimit
  units : A.units + 3000 < cLine
  kind : sc.kind = .function
  st0 : base.StaysIn s0.heap
  hCs : s0.heap.IsList Cs vals.toArray
  CW : Cs ≠ W
  CL : Cs ≠ L
  WL : W ≠ L
  bW : base.objs.size ≤ W
  bL : base.objs.size ≤ L
  len : vals.length ≤ 1000
  isI : IntsAre vals cells
  locW : sc.names.lookup ("well" : Str) = some .local
  gdip : sc.names.lookup ("_law_dip" : Str) = some .globalImplicit
structure LS (sc : Scope) (L W Cs : Addr) (s0 : Shared) (k : Nat) (en : List (Str × PyData)) (s : Shared) : Prop where
  ns : ∃ m, s.heap.Ns L m ∧ m "well" = some (.ref W) ∧ Kn sc m (hide2 s.heap W L) en
  but : But W L s0.heap s.heap
  hW : ∃ tk, s.heap.IsList W #[.ref Cs, .int k tk]
  rest : Rest s0 s
section
variable {w : World} {base : Heap} {mg mb : Str → Option Value} {A : Around} {q : Str} {sc : Scope} {L a : Addr} {cd : Value} {W Cs : Addr} {vals : List Value} {cells : List Int} {s0 s : Shared} {k : Nat} {en : List (Str × PyData)} {E : Value → Shared → Prop}
theorem LS.stays (C : LC w base mg mb A q sc L a cd W Cs vals cells s0) (H : LS sc L W Cs s0 k en s) : base.StaysIn s.heap := fun b o e => H.but b o (C.st0 b o e) (Nat.ne_of_lt (Nat.lt_of_lt_of_le (Heap.lt_size e) C.bW)) (Nat.ne_of_lt (Nat.lt_of_lt_of_le (Heap.lt_size e) C.bL))
theorem LS.cs (C : LC w base mg mb A q sc L a cd W Cs vals cells s0) (H : LS sc L W Cs s0 k en s) : s.heap.IsList Cs vals.toArray := let ⟨o, e, r⟩ := C.hCs; ⟨o, H.but _ _ e C.CW C.CL, r⟩
/-- a step that leaves the names and the well alone -/
theorem LS.step (H : LS sc L W Cs s0 k en s) {s' : Shared} (kk : ∀ b o, b ≠ L → s.heap.get? b = some o → s'.heap.get? b = some o) (kl : ∀ m, s.heap.Ns L m → s'.heap.Ns L m) (WL : W ≠ L) (r : Rest s s') : LS sc L W Cs s0 k en s' := by
  obtain ⟨m, hn, hw, K⟩ := H.ns
  obtain ⟨tk, o, e, rr⟩ := H.hW
  have b : But W L s.heap s'.heap := fun b o e _ n2 => kk b o n2 e
  exact ⟨⟨m, kl m hn, hw, K.keeps b.hide⟩, H.but.trans b, ⟨tk, o, kk _ _ WL e, rr⟩, H.rest.trans r⟩
theorem LS.keeps (H : LS sc L W Cs s0 k en s) {s' : Shared} (k' : Keeps s s') (WL : W ≠ L) : LS sc L W Cs s0 k en s' := by
  obtain ⟨h, t, rfl, kk⟩ := k'
  exact H.step (fun b o _ e => kk b o e) (fun m hn => Heap.Ns.keep1 hn fun o e => kk _ _ e) WL ⟨rfl, rfl⟩
theorem LS.atLaw (C : LC w base mg mb A q sc L a cd W Cs vals cells s0) (H : LS sc L W Cs s0 k en s) {m : Str → Option Value} (hn : s.heap.Ns L m) : AtLaw (cx w base mg mb) A (envOf q sc L a cd) L m s.heap :=
  ⟨C.frames, rfl, by show sc.kind ≠ .module; rw [C.kind]; decide, C.handled, C.depth, C.units, H.stays C, C.bL, hn⟩
theorem LS.glb (C : LC w base mg mb A q sc L a cd W Cs vals cells s0) (H : LS sc L W Cs s0 k en s) {A' : Around} {Q : Value → Shared → Prop} {id : Str} {p : Pos} {v : Value} (e : nsIn (heapK w.params) mainGlobals id = some (some v)) (hl : sc.names.lookup id = some .globalImplicit) (hd' : (id == ("__debug__" : Str)) = false)
    (hQ : Q v s) : wpAny (model PySem.Challenge.rw_pf0024_01.row.prog w) A' (eval (.Name id p) (envOf q sc L a cd)) Q E s := by
  obtain ⟨m, hn, _, _⟩ := H.ns
  exact name_K (L := L) (h₀ := base) ⟨hn, H.stays C, C.bL⟩ C.hK C.T e hQ C.kind hl hd'
theorem dip_eval (C : LC w base mg mb A q sc L a cd W Cs vals cells s0) (H : LS sc L W Cs s0 k en s) {many : Nat} (hm : 0 < many) (hk1 : k ≤ 1000) {p1 p2 p3 p4 : Pos} :
    wpAny (model PySem.Challenge.rw_pf0024_01.row.prog w) A (eval (.Call (.Name "_law_dip" p1) [.Name "well" p2, .Constant (.int many) 0 p3] [] p4) (envOf q sc L a cd))
      (fun v s' => ∃ tr, v = .int (drawn cells k many) tr ∧ LS sc L W Cs s0 (k + 1) en s' ∧ ∀ b o, b ≠ W → s.heap.get? b = some o → s'.heap.get? b = some o) E s := by
  obtain ⟨m, hn, hw, K⟩ := H.ns
  obtain ⟨tk, hW⟩ := H.hW
  have st := H.stays C
  have cs := H.cs C
  refine Call_ (H.glb C (v := .ref 785) (by kernel_rfl) C.gdip (by decide +kernel) ?_) callName_eq
  refine callWith_K (h₀ := base) C.hK (show keepIn (heapK w.params) (.ref 785) = true by kernel_rfl) (args_cons (wpAny_Name (wpAny_loadName_local C.kind C.locW hn hw (args_cons (wpAny_Constant_int (args_nil ⟨C.hK.keeps st, ?_⟩)) rfl)) (by decide +kernel)) rfl) rfl rfl
  refine dip' (s := { s with toks := s.toks + 1 }) C.hK C.T (by have := C.depth; omega) C.handled st hW cs C.isI C.CW C.bW hk1 C.len hm fun h' t tr tw kk hW' => ?_
  refine ⟨tr, rfl, ⟨⟨m, Heap.Ns.keep1 hn fun o e => kk _ _ (Ne.symm C.WL) e, hw, K.keeps (But.hide fun b o e n1 n2 => kk b o n1 e)⟩, H.but.trans fun b o e n1 _ => kk b o n1 e, ⟨tw, hW'⟩, H.rest.trans ⟨rfl, rfl⟩⟩, kk⟩
/-- a name is bound -/
theorem LS.store (C : LC w base mg mb A q sc L a cd W Cs vals cells s0) (H : LS sc L W Cs s0 k en s) {A' : Around} {Q : Unit → Shared → Prop} {x : Str} {v : Value} {d : PyData} (hl : sc.names.lookup x = some .local) (hd1 : (x == ("__debug__" : Str)) = false) (hx : (x == ("well" : Str)) = false) (hr : ∃ as, Reads (hide2 s.heap W L) v d as)
    (hQ : ∀ s', LS sc L W Cs s0 k ((x, d) :: en) s' → (∀ b o, b ≠ L → s.heap.get? b = some o → s'.heap.get? b = some o) → Q () s') :
    wpAny (model PySem.Challenge.rw_pf0024_01.row.prog w) A' (storeName (envOf q sc L a cd) x v) Q E s := by
  obtain ⟨m, hn, hw, K⟩ := H.ns
  obtain ⟨tk, o, e, rr⟩ := H.hW
  refine wpAny_storeName_local hl hn (fun h' hn' hs' => ?_) (by show (sc.kind == .class || (sc.kind == .module && _)) = false; rw [C.kind]; rfl)
  have kk : ∀ b o, b ≠ L → s.heap.get? b = some o → h'.get? b = some o := fun b o nb eb => (hs'.2 b nb).trans eb
  have bt : But W L s.heap h' := fun b o eb _ n2 => kk b o n2 eb
  refine hQ _ ⟨⟨_, hn', ?_, fun id d' el => ?_⟩, H.but.trans bt, ⟨tk, o, kk _ _ C.WL e, rr⟩, H.rest.trans ⟨rfl, rfl⟩⟩ kk
  · show (if ("well" : Str) = x then some v else m "well") = _
    rw [if_neg fun z => by rw [← z] at hx; simp at hx, hw]
  · rw [List.lookup_cons] at el
    cases q : id == x with
    | true =>
      rw [q] at el
      cases el
      have := eq_of_beq q
      subst this
      obtain ⟨as, r⟩ := hr
      exact ⟨hl, hd1, v, as, if_pos rfl, Reads.keeps bt.hide r⟩
    | false =>
      rw [q] at el
      obtain ⟨a1, a2, v', as, a3, a4⟩ := K id d' el
      exact ⟨a1, a2, v', as, (if_neg fun z => by rw [z] at q; simp at q).trans a3, Reads.keeps bt.hide a4⟩
end
end Mine
-- L2
open PySem PySem.W PyProof.Rows PySem.Calls PySem.SeqAt
namespace Mine
theorem str_eta (x : Str) : sOf x.cps.toList = x := by cases x; simp [sOf]
theorem reads_at {g : Heap} : ∀ {vs : List Value} {ds : List PyData} {as : List Addr} {i : Nat} {d : PyData}, ReadsAll g vs ds as → ds[i]? = some d → ∃ v bs, vs[i]? = some v ∧ Reads g v d bs
  | _, _, _, 0, _, .cons r _, e => by cases e; exact ⟨_, _, rfl, r⟩
  | _, _, _, i + 1, _, .cons _ r, e => reads_at (i := i) r e
theorem reads_len {g : Heap} : ∀ {vs : List Value} {ds : List PyData} {as : List Addr}, ReadsAll g vs ds as → vs.length = ds.length
  | _, _, _, .nil => rfl
  | _, _, _, .cons _ r => by simp [reads_len r]
section
variable {w : World} {base : Heap} {mg mb : Str → Option Value} {A : Around} {q : Str} {sc : Scope} {L a : Addr} {cd : Value} {W Cs : Addr} {vals : List Value} {cells : List Int} {s0 s : Shared} {k : Nat} {en : List (Str × PyData)} {E : Value → Shared → Prop}
theorem LS.kn (H : LS sc L W Cs s0 k en s) : ∃ m, s.heap.Ns L m ∧ Kn sc m s.heap en := by
  obtain ⟨m, hn, hw, K⟩ := H.ns
  exact ⟨m, hn, K.keeps fun b o e => (of_hide2 e).1⟩
theorem LS.y (C : LC w base mg mb A q sc L a cd W Cs vals cells s0) (H : LS sc L W Cs s0 k en s) (hlen : sc.names.lookup ("len" : Str) = some .globalImplicit) {A' : Around} {n : Nat} {e : Expr} {d : PyData} (h : (ye en n).1 e = some d) :
    wpAny (model PySem.Challenge.rw_pf0024_01.row.prog w) A' (eval e (envOf q sc L a cd)) (fun v s' => Keeps s s' ∧ ∃ as, Reads s'.heap v d as) E s := by
  obtain ⟨m, hn, K⟩ := H.kn
  exact (ysound (prog := PySem.Challenge.rw_pf0024_01.row.prog) (w := w) (q := q) (a := a) (cd := cd) C.kind C.hK C.T C.bL hlen (by kernel_rfl) n).v h hn K (H.stays C)
theorem check {Q : Flow → Shared → Prop} (C : LC w base mg mb A q sc L a cd W Cs vals cells s0) (H : LS sc L W Cs s0 k en s) (hg : sc.names.lookup ("_law_heard" : Str) = some .globalImplicit) (hlen : sc.names.lookup ("len" : Str) = some .globalImplicit) {X Y : Expr} {p1 p2 p3 p4 p5 p6 : Pos} {rest : List Stmt} {n : Nat} {row : Str} {e e' : PyData}
    (hX : (ye en n).1 X = some (.str row)) (hrow : heardR fns wtab 5 sg0 row.cps.toList = some e) (hY : (ye en n).1 Y = some e') (heq : PyData.eqv e e' = true) (sh1 : shaped e = true) (sh2 : shaped e' = true) (hb : behindInMarks .NotEq Y = false)
    (hQ : ∀ s', LS sc L W Cs s0 k en s' → (∀ b o, b ≠ L → s.heap.get? b = some o → s'.heap.get? b = some o) → wpAny (model PySem.Challenge.rw_pf0024_01.row.prog w) A (execs rest (envOf q sc L a cd)) Q E s') :
    wpAny (model PySem.Challenge.rw_pf0024_01.row.prog w) A (execs (.If (.Compare (.Call (.Name "_law_heard" p1) [X] [] p2) [.NotEq] [Y] p3) [.Return (some (.Constant (.bool false) 0 p4)) p5] [] p6 :: rest) (envOf q sc L a cd)) Q E s := by
  refine wpAny_execs_cons (wpAny_If (wpAny_isTrue_Compare1 ?_ hb))
  refine Call_ (H.glb C (v := .ref 792) (by kernel_rfl) hg (by decide +kernel) ?_) callName_eq
  refine callWith_K (h₀ := base) C.hK (show keepIn (heapK w.params) (.ref 792) = true by kernel_rfl) (args_cons (wpAny_mono (H.y C hlen hX) (fun v s1 h1 => args_nil ?_) fun _ _ z => z) (ystar hX)) (ystar hX) rfl
  obtain ⟨k1, _, r1⟩ := h1
  cases r1
  rename_i t1
  have H1 := H.keeps k1 C.WL
  refine ⟨C.hK.keeps (H1.stays C), ?_⟩
  obtain ⟨m1, hn1, _, _⟩ := H1.ns
  obtain ⟨tk1, hW1⟩ := H1.hW
  show wpAny _ _ (call (.ref 792) [.str row t1]) _ _ _
  rw [← str_eta row]
  refine heard' C.hK C.T (H1.atLaw C hn1) hW1 C.bW hrow fun s2 v2 kk2 hn2 q2 rd2 => ?_
  have H2 : LS sc L W Cs s0 k en s2 := by
    obtain ⟨m, hn, hw, K⟩ := H1.ns
    obtain ⟨tk, o, eo, rr⟩ := H1.hW
    have hmm : s2.heap.Ns L m := by
      obtain ⟨o1, es1, ep1, f1, f2, f3, f4⟩ := hn1
      obtain ⟨o2, es2, ep2, g1, g2, g3, g4⟩ := hn
      rw [f1] at g1; cases g1
      rw [f2] at g2; cases g2
      obtain ⟨o3, es3, ep3, i1, i2, i3, i4⟩ := hn2
      exact ⟨o3, es3, ep3, i1, i2, i3, fun z => (i4 z).trans ((f4 z).symm.trans (g4 z))⟩
    have b2 : But W L s1.heap s2.heap := fun b o e _ n2 => kk2 b o n2 e
    exact ⟨⟨m, hmm, hw, K.keeps b2.hide⟩, H1.but.trans b2, ⟨tk, o, kk2 _ _ C.WL eo, rr⟩, H1.rest.trans q2⟩
  refine wpAny_mono (H2.y C hlen hY) (fun y s3 h3 => ?_) fun _ _ z => z
  obtain ⟨k3, bs, r3⟩ := h3
  obtain ⟨as, r2⟩ := rd2 s2.heap fun b o e _ _ => e
  refine ne_dataH (Reads.keeps (kHeap k3) r2) r3 sh1 sh2 (by have := C.units; omega) (wpAny_truthy_bool ?_)
  rw [heq]
  exact wpAny_execs_nil (hQ s3 (H2.keeps k3 C.WL) fun b o nb eb => kHeap k3 b o (kk2 b o nb (kHeap k1 b o eb)))
end
end Mine
-- L3
open PySem PySem.W PyProof.Rows PySem.Calls PySem.SeqAt
namespace Mine
section
variable {w : World} {base : Heap} {mg mb : Str → Option Value} {A : Around} {q : Str} {sc : Scope} {L a : Addr} {cd : Value} {W Cs : Addr} {vals : List Value} {cells : List Int} {s0 s : Shared} {k : Nat} {en : List (Str × PyData)} {E : Value → Shared → Prop}
/-- the table at hand, a place in it is drawn -/
theorem pick_tail (C : LC w base mg mb A q sc L a cd W Cs vals cells s0) (H : LS sc L W Cs s0 k en s) {v1 : Value} {ps : List PyData} {value : Expr} {p1 p2 p3 p4 : Pos} {Q : Value → Shared → Prop} (hr : ∃ as, Reads (hide2 s.heap W L) v1 (.list ps) as) (hm : 0 < ps.length) (hm2 : ps.length ≤ 1000) (hk1 : k ≤ 1000)
    (hQ : ∀ s' v d i, LS sc L W Cs s0 (k + 1) en s' → (∀ b o, b ≠ W → s.heap.get? b = some o → s'.heap.get? b = some o) → i < ps.length → ps[i]? = some d → (∃ as, Reads (hide2 s'.heap W L) v d as) → Q v s') :
    wpAny (model PySem.Challenge.rw_pf0024_01.row.prog w) A (eval (.Call (.Name "_law_dip" p1) [.Name "well" p2, .Constant (.int ps.length) 0 p3] [] p4) (envOf q sc L a cd))
      (fun i s2 => wpAny (model PySem.Challenge.rw_pf0024_01.row.prog w) A (subscriptTail value (.Call (.Name "_law_dip" p1) [.Name "well" p2, .Constant (.int ps.length) 0 p3] [] p4) v1 i) Q E s2) E s := by
  obtain ⟨as, hr⟩ := hr
  cases hr
  rename_i al o vs nn as' ho hoc hod hrs
  obtain ⟨ho1, nW, nL⟩ := of_hide2 ho
  refine wpAny_mono (dip_eval C H hm hk1) (fun i s2 h2 => ?_) fun _ _ z => z
  obtain ⟨tr, rfl, H2, kk⟩ := h2
  have hl : s2.heap.IsList al vs := ⟨o, kk _ _ nW ho1, hoc, _, hod⟩
  obtain ⟨g0, g1⟩ := drawn_lt (cells := cells) (k := k) hm
  have hi : (drawn cells k ps.length).toNat < ps.length := by omega
  obtain ⟨v, bs, hv, hrd⟩ := reads_at hrs (List.getElem?_eq_getElem hi)
  refine tail_any (T := "list") hl.typeIs slot_list_getitem.lookup (wpAny_getItem_list hl g0 (by omega) (x := v) (by rw [← Array.getElem?_toList]; exact hv) ?_) rfl
  exact hQ s2 v _ _ H2 kk hi (List.getElem?_eq_getElem hi) ⟨bs, Reads.keeps (But.hide fun b o e n1 _ => kk b o n1 e) hrd⟩
theorem pick0 (C : LC w base mg mb A q sc L a cd W Cs vals cells s0) (H : LS sc L W Cs s0 k en s) {kf fa : Nat} {fn : Fn} {ss : List St} {id : Str} {ps : List PyData} {p0 p1 p2 p3 p4 p5 p6 : Pos} {Q : Value → Shared → Prop} (hfa : faOf kf = fa) (hfn : nth fns kf = some fn) (hss : fn.bd = .body ss)
    (hid : nsIn (heapK w.params) mainGlobals id = some (some (.ref fa))) (hl : sc.names.lookup id = some .globalImplicit) (hdb : (id == ("__debug__" : Str)) = false) (hkp : keepIn (heapK w.params) (.ref fa) = true)
    (e : tabR fns wtab 5 sg0 kf [] = some (.list ps)) (hm : 0 < ps.length) (hm2 : ps.length ≤ 1000) (hk1 : k ≤ 1000)
    (hQ : ∀ s' v d i, LS sc L W Cs s0 (k + 1) en s' → (∀ b o, b ≠ W → s.heap.get? b = some o → s'.heap.get? b = some o) → i < ps.length → ps[i]? = some d → (∃ as, Reads (hide2 s'.heap W L) v d as) → Q v s') :
    wpAny (model PySem.Challenge.rw_pf0024_01.row.prog w) A (eval (.Subscript (.Call (.Name id p0) [] [] p5) (.Call (.Name "_law_dip" p1) [.Name "well" p2, .Constant (.int ps.length) 0 p3] [] p4) p6) (envOf q sc L a cd)) Q E s := by
  refine Subscript_ (Call_ (H.glb C (v := .ref fa) hid hl hdb (callWith_K0 (C.hK.keeps (H.stays C)) hkp ?_)) callName_eq)
  obtain ⟨m, hn, hw, K⟩ := H.ns
  obtain ⟨tk, hW⟩ := H.hW
  subst hfa
  refine tab_call (c := cx w base mg mb) (ground C.hK C.T) (H.atLaw C hn) hW C.bW hfn hss (ds := []) (vs := []) Vs.nil e fun s1 v1 kk r1 rd => ?_
  have H1 : LS sc L W Cs s0 k en s1 := H.step (fun b o _ e => kk b o e) (fun m hn => Heap.Ns.keep1 hn fun o e => kk _ _ e) C.WL r1
  refine pick_tail C H1 (rd _ (but_hide2 _ _ _)) hm hm2 hk1 fun s' v d i a1 a2 a3 a4 a5 => hQ s' v d i a1 (fun b o nb eb => a2 b o nb (kk b o eb)) a3 a4 a5
theorem pick1 (C : LC w base mg mb A q sc L a cd W Cs vals cells s0) (H : LS sc L W Cs s0 k en s) {kf fa : Nat} {fn : Fn} {ss : List St} {id : Str} {ps : List PyData} {wd : Txt} {p0 p1 p2 p3 p4 p5 p6 p7 : Pos} {Q : Value → Shared → Prop} (hfa : faOf kf = fa) (hfn : nth fns kf = some fn) (hss : fn.bd = .body ss)
    (hid : nsIn (heapK w.params) mainGlobals id = some (some (.ref fa))) (hl : sc.names.lookup id = some .globalImplicit) (hdb : (id == ("__debug__" : Str)) = false) (hkp : keepIn (heapK w.params) (.ref fa) = true) (hword : en.lookup ("word" : Str) = some (.str (sOf wd)))
    (e : tabR fns wtab 5 sg0 kf [.str wd] = some (.list ps)) (hm : 0 < ps.length) (hm2 : ps.length ≤ 1000) (hk1 : k ≤ 1000)
    (hQ : ∀ s' v d i, LS sc L W Cs s0 (k + 1) en s' → (∀ b o, b ≠ W → s.heap.get? b = some o → s'.heap.get? b = some o) → i < ps.length → ps[i]? = some d → (∃ as, Reads (hide2 s'.heap W L) v d as) → Q v s') :
    wpAny (model PySem.Challenge.rw_pf0024_01.row.prog w) A (eval (.Subscript (.Call (.Name id p0) [.Name "word" p7] [] p5) (.Call (.Name "_law_dip" p1) [.Name "well" p2, .Constant (.int ps.length) 0 p3] [] p4) p6) (envOf q sc L a cd)) Q E s := by
  obtain ⟨m, hn, hw, K⟩ := H.ns
  obtain ⟨tk, hW⟩ := H.hW
  obtain ⟨w1, w2, wv, was, w3, w4⟩ := K _ _ hword
  cases w4
  rename_i tw
  have st := H.stays C
  refine Subscript_ (Call_ (H.glb C (v := .ref fa) hid hl hdb (callWith_K (h₀ := base) C.hK hkp (args_cons (wpAny_Name (wpAny_loadName_local C.kind w1 hn w3 (args_nil ⟨C.hK.keeps st, ?_⟩)) w2) rfl) rfl rfl)) callName_eq)
  subst hfa
  refine tab_call (c := cx w base mg mb) (ground C.hK C.T) (H.atLaw C hn) hW C.bW hfn hss (ds := [.str wd]) (vs := [.str (sOf wd) tw]) (Vs.one (by unfold V; exact ⟨tw, rfl⟩)) e fun s1 v1 kk r1 rd => ?_
  have H1 : LS sc L W Cs s0 k en s1 := H.step (fun b o _ e => kk b o e) (fun m hn => Heap.Ns.keep1 hn fun o e => kk _ _ e) C.WL r1
  refine pick_tail C H1 (rd _ (but_hide2 _ _ _)) hm hm2 hk1 fun s' v d i a1 a2 a3 a4 a5 => hQ s' v d i a1 (fun b o nb eb => a2 b o nb (kk b o eb)) a3 a4 a5
end
end Mine
-- L4
open PySem PySem.W PyProof.Rows PySem.Calls PySem.SeqAt
namespace Mine
theorem sOf_list (l : Txt) : (sOf l).cps.toList = l := by simp [sOf]
section
variable {w : World} {base : Heap} {mg mb : Str → Option Value} {A : Around} {q : Str} {sc : Scope} {L a : Addr} {cd : Value} {W Cs : Addr} {vals : List Value} {cells : List Int} {s0 s : Shared} {k : Nat} {en : List (Str × PyData)} {E : Value → Shared → Prop}
theorem slc2 {wd : Txt} {t tu : Tok} {Q : Value → Shared → Prop} (hs : small wd.length = true) (hQ : ∀ t' k, Q (.str (sOf (wd.take 2)) t') { s with heap := s.heap.push { cls := .type "slice", data := .fields #[.none, .int 2 tu, .none] }, toks := k }) :
    (sliceMade (sOf wd) t none (some ((2 : Int), tu)) none).post Q { s with heap := s.heap.push { cls := .type "slice", data := .fields #[.none, .int 2 tu, .none] } } := by
  have er : slcD (.str wd) none (some (.int (.ofNat 2))) = some (.str (wd.take 2)) := by
    show (match natOf (.ofNat 2) with | some n => (match small wd.length with | true => some (D.str (wd.take n)) | false => none) | none => none) = _
    rw [show natOf (.ofNat 2) = some 2 from rfl]
    dsimp only
    rw [hs]
  obtain ⟨l, r', i, j, e1, e2, e3, e4, hs', es⟩ := slcD_some er
  cases e1
  have h2 : sOf r' = sOf (wd.take 2) := by cases e4; rfl
  have := small_lt hs
  have i0 : i = none := by cases i with | none => rfl | some i => cases e2
  have j0 : j = some 2 := by
    cases j with
    | none => cases e3
    | some j =>
      have e3 : some (D.int (Int.ofNat 2)) = some (D.int (Int.ofNat j)) := e3
      injection e3 with e3
      injection e3 with e3
      injection e3 with e3
      rw [e3]
  subst i0
  subst j0
  have hz : (Txt.slice (sOf wd) ((none : Option (Int × Tok)).map (·.1)) ((some ((2 : Int), tu)).map (·.1))).length ≤ sizeLine := by
    have := Txt.slice_le (sOf wd) ((none : Option (Int × Tok)).map (·.1)) ((some ((2 : Int), tu)).map (·.1))
    rw [sOf_len] at this
    rw [sizeLine_eq]; omega
  unfold sliceMade
  refine PySem.post_val_or_str ⟨hz, fun t' k => ?_⟩
  have e : (if (((none : Option (Int × Tok)).map (·.1)).getD 1 == 1 && (slicePicked (sOf wd) none (some ((2 : Int), tu)) none).length == (sOf wd).length) = true then sOf wd else ⟨((slicePicked (sOf wd) none (some ((2 : Int), tu)) none).filterMap ((sOf wd).cps[·]?)).toArray⟩) = sOf r' := by
    rw [← es]; rfl
  rw [e, h2]
  exact hQ t' k
theorem is_call (C : LC w base mg mb A q sc L a cd W Cs vals cells s0) (H : LS sc L W Cs s0 k en s) {wd : Txt} (hword : en.lookup ("word" : Str) = some (.str (sOf wd))) (hs : small wd.length = true) {p1 p2 p3 p4 p5 p6 : Pos} :
    wpAny (model PySem.Challenge.rw_pf0024_01.row.prog w) A (eval (.Compare (.Subscript (.Name "word" p1) (.Slice none (some (.Constant (.int 2) 0 p2)) none p3) p4) [.Eq] [.Constant (.str "FN") 0 p5] p6) (envOf q sc L a cd)) (fun v s' => v = .bool (beqL (wd.take 2) [70, 78]) ∧ Keeps s s') E s := by
  obtain ⟨m, hn, K⟩ := H.kn
  obtain ⟨w1, w2, wv, was, w3, w4⟩ := K _ _ hword
  cases w4
  rename_i tw
  refine wpAny_Compare1 (wpAny_Subscript_str_slice (wpAny_Name (wpAny_loadName_local C.kind w1 hn w3 ?_) w2) (fun _ _ => rfl)) rfl
  refine evalPart_none_step (evalPart_some_step (wpAny_Constant_int ⟨sOf wd, tw, none, some ((2 : Int), _), rfl, rfl, rfl, ?_⟩))
  refine slc2 (s := { s with toks := s.toks + 1 }) hs fun t' k => Constant_str (eq_str ?_)
  rw [show (Str.ofString "FN") = sOf [70, 78] from by decide +kernel, beqL_str]
  exact ⟨rfl, _, _, rfl, fun b o e => Heap.get?_push_of_some _ e⟩
end
end Mine
-- L5
open PySem PySem.W PyProof.Rows PySem.Calls PySem.SeqAt
namespace Mine
structure Nm (sc : Scope) (x : Str) : Prop where
  loc : sc.names.lookup x = some .local
  dbg : (x == ("__debug__" : Str)) = false
  well : (x == ("well" : Str)) = false
section
variable {w : World} {base : Heap} {mg mb : Str → Option Value} {A : Around} {q : Str} {sc : Scope} {L a : Addr} {cd : Value} {W Cs : Addr} {vals : List Value} {cells : List Int} {s0 s : Shared} {k : Nat} {en : List (Str × PyData)} {E : Value → Shared → Prop}
theorem unpack2 (C : LC w base mg mb A q sc L a cd W Cs vals cells s0) (H : LS sc L W Cs s0 k en s) {v : Value} {d1 d2 : PyData} {x1 x2 : Str} {p1 p2 p3 : Pos} {kk : Nat} {Q : Unit → Shared → Prop} (hr : ∃ as, Reads (hide2 s.heap W L) v (.tuple [d1, d2]) as) (n1 : Nm sc x1) (n2 : Nm sc x2)
    (hQ : ∀ s', LS sc L W Cs s0 k ((x2, d2) :: (x1, d1) :: en) s' → (∀ b o, b ≠ L → s.heap.get? b = some o → s'.heap.get? b = some o) → Q () s') :
    wpAny (model PySem.Challenge.rw_pf0024_01.row.prog w) A (assign (.Tuple [.Name x1 p1, .Name x2 p2] kk p3) (envOf q sc L a cd) v) Q E s := by
  obtain ⟨as, hr⟩ := hr
  cases hr
  rename_i al o vs nn ho hoc hod hrs
  obtain ⟨ho1, nW, nL⟩ := of_hide2 ho
  cases hv : vs.toList with
  | nil => rw [hv] at hrs; cases hrs
  | cons v1 r =>
    rw [hv] at hrs
    cases hrs
    rename_i as1 bs1 hr1 hrs
    cases r with
    | nil => cases hrs
    | cons v2 r =>
      cases hrs
      rename_i as2 bs2 hr2 hrs
      cases hrs
      have hsz : vs = #[v1, v2] := by rw [← Array.toArray_toList (xs := vs), hv]
      subst hsz
      refine wpAny_assign_Tuple C.handled (items := #[v1, v2]) ⟨o, ho1, hoc, _, hod⟩ rfl rfl fun h' hx => ?_
      have kp : Keeps s { s with heap := h' } := ⟨h', s.toks, rfl, fun b o e => hx b o (Nat.ne_of_lt (Heap.lt_size e)) e⟩
      have H1 := H.keeps kp C.WL
      have b1 : But W L s.heap h' := But.of (kHeap kp)
      refine wpAny_assignInOrder_more (wpAny_assign_Name (H1.store C n1.loc n1.dbg n1.well ⟨_, Reads.keeps b1.hide hr1⟩ fun s2 H2 k2 => ?_))
      have b2 : But W L h' s2.heap := fun b o e _ n => k2 b o n e
      refine wpAny_assignInOrder_more (wpAny_assign_Name (H2.store C n2.loc n2.dbg n2.well ⟨_, Reads.keeps b2.hide (Reads.keeps b1.hide hr2)⟩ fun s3 H3 k3 => ?_))
      exact wpAny_assignInOrder_none (hQ s3 H3 fun b o n e => k3 b o n (k2 b o n (kHeap kp b o e)))
theorem unpack3 (C : LC w base mg mb A q sc L a cd W Cs vals cells s0) (H : LS sc L W Cs s0 k en s) {v : Value} {d1 d2 d3 : PyData} {x1 x2 x3 : Str} {p1 p2 p3 p4 : Pos} {kk : Nat} {Q : Unit → Shared → Prop} (hr : ∃ as, Reads (hide2 s.heap W L) v (.tuple [d1, d2, d3]) as) (n1 : Nm sc x1) (n2 : Nm sc x2) (n3 : Nm sc x3)
    (hQ : ∀ s', LS sc L W Cs s0 k ((x3, d3) :: (x2, d2) :: (x1, d1) :: en) s' → (∀ b o, b ≠ L → s.heap.get? b = some o → s'.heap.get? b = some o) → Q () s') :
    wpAny (model PySem.Challenge.rw_pf0024_01.row.prog w) A (assign (.Tuple [.Name x1 p1, .Name x2 p2, .Name x3 p4] kk p3) (envOf q sc L a cd) v) Q E s := by
  obtain ⟨as, hr⟩ := hr
  cases hr
  rename_i al o vs nn ho hoc hod hrs
  obtain ⟨ho1, nW, nL⟩ := of_hide2 ho
  cases hv : vs.toList with
  | nil => rw [hv] at hrs; cases hrs
  | cons v1 r =>
    rw [hv] at hrs
    cases hrs
    rename_i as1 bs1 hr1 hrs
    cases r with
    | nil => cases hrs
    | cons v2 r =>
      cases hrs
      rename_i as2 bs2 hr2 hrs
      cases r with
      | nil => cases hrs
      | cons v3 r =>
        cases hrs
        rename_i as3 bs3 hr3 hrs
        cases hrs
        have hsz : vs = #[v1, v2, v3] := by rw [← Array.toArray_toList (xs := vs), hv]
        subst hsz
        refine wpAny_assign_Tuple C.handled (items := #[v1, v2, v3]) ⟨o, ho1, hoc, _, hod⟩ rfl rfl fun h' hx => ?_
        have kp : Keeps s { s with heap := h' } := ⟨h', s.toks, rfl, fun b o e => hx b o (Nat.ne_of_lt (Heap.lt_size e)) e⟩
        have H1 := H.keeps kp C.WL
        have b1 : But W L s.heap h' := But.of (kHeap kp)
        refine wpAny_assignInOrder_more (wpAny_assign_Name (H1.store C n1.loc n1.dbg n1.well ⟨_, Reads.keeps b1.hide hr1⟩ fun s2 H2 k2 => ?_))
        have b2 : But W L h' s2.heap := fun b o e _ n => k2 b o n e
        refine wpAny_assignInOrder_more (wpAny_assign_Name (H2.store C n2.loc n2.dbg n2.well ⟨_, Reads.keeps b2.hide (Reads.keeps b1.hide hr2)⟩ fun s3 H3 k3 => ?_))
        have b3 : But W L s2.heap s3.heap := fun b o e _ n => k3 b o n e
        refine wpAny_assignInOrder_more (wpAny_assign_Name (H3.store C n3.loc n3.dbg n3.well ⟨_, Reads.keeps b3.hide (Reads.keeps b2.hide (Reads.keeps b1.hide hr3))⟩ fun s4 H4 k4 => ?_))
        exact wpAny_assignInOrder_none (hQ s4 H4 fun b o n e => k4 b o n (k3 b o n (k2 b o n (kHeap kp b o e))))
end
/-- what a check asks -/
noncomputable def Chk (en : List (Str × PyData)) (X Y : Expr) : Prop := ∃ row e e', (ye en 8).1 X = some (.str row) ∧ heardR fns wtab 5 sg0 row.cps.toList = some e ∧ (ye en 8).1 Y = some e' ∧ PyData.eqv e e' = true ∧ shaped e = true ∧ shaped e' = true
noncomputable abbrev ifHeard (X Y : Expr) (p1 p2 p3 p4 p5 p6 : Pos) : Stmt := .If (.Compare (.Call (.Name "_law_heard" p1) [X] [] p2) [.NotEq] [Y] p3) [.Return (some (.Constant (.bool false) 0 p4)) p5] [] p6
noncomputable abbrev dipOf (n : Nat) (p1 p2 p3 p4 : Pos) : Expr := .Call (.Name "_law_dip" p1) [.Name "well" p2, .Constant (.int n) 0 p3] [] p4
/-- what is known of one word -/
structure WD (wd : Txt) (X4 Y4 X5 Y5 X6 Y6 X7 Y7 : Expr) : Prop where
  small : small wd.length = true
  places : ∃ ps : List PyData, tabR fns wtab 5 sg0 69 [.str wd] = some (.list ps) ∧ ps.length = 21 ∧ ∀ (i : Nat) (d : PyData), ps[i]? = some d → ∃ d1 d2, d = .tuple [d1, d2] ∧ ∀ en, Chk (("tree", d2) :: ("row", d1) :: ("is_call", .bool (beqL (wd.take 2) [70, 78])) :: ("word", .str (sOf wd)) :: en) X4 Y4
  five : ∀ (d1 d2 : PyData) (en : List (Str × PyData)), Chk (("tree", d2) :: ("row", d1) :: ("is_call", .bool (beqL (wd.take 2) [70, 78])) :: ("word", .str (sOf wd)) :: en) X5 Y5
  six : ∀ (d1 d2 : PyData) (en : List (Str × PyData)), Chk (("tree", d2) :: ("row", d1) :: ("is_call", .bool (beqL (wd.take 2) [70, 78])) :: ("word", .str (sOf wd)) :: en) X6 Y6
  seven : ∀ (d1 d2 : PyData) (en : List (Str × PyData)), Chk (("tree", d2) :: ("row", d1) :: ("is_call", .bool (beqL (wd.take 2) [70, 78])) :: ("word", .str (sOf wd)) :: en) X7 Y7
structure TD (X4 Y4 X5 Y5 X6 Y6 X7 Y7 X9 Y9 X11 Y11 : Expr) : Prop where
  words : ∃ ps : List PyData, tabR fns wtab 5 sg0 67 [] = some (.list ps) ∧ ps.length = 10 ∧ ∀ (i : Nat) (d : PyData), ps[i]? = some d → ∃ wd, d = .str (sOf wd) ∧ WD wd X4 Y4 X5 Y5 X6 Y6 X7 Y7
  nums : ∃ ps : List PyData, tabR fns wtab 5 sg0 68 [] = some (.list ps) ∧ ps.length = 6 ∧ ∀ (i : Nat) (d : PyData), ps[i]? = some d → ∃ d1 d2, d = .tuple [d1, d2] ∧ ∀ en, Chk (("number", d2) :: ("figures", d1) :: en) X9 Y9
  opened : ∃ ps : List PyData, tabR fns wtab 5 sg0 70 [] = some (.list ps) ∧ ps.length = 9 ∧ ∀ (i : Nat) (d : PyData), ps[i]? = some d → ∃ d1 d2 d3, d = .tuple [d1, d2, d3] ∧ ∀ en, Chk (("size", d3) :: ("channel", d2) :: ("told", d1) :: en) X11 Y11
end Mine
-- L6
open PySem PySem.W PyProof.Rows PySem.Calls PySem.SeqAt
namespace Mine
structure LN (sc : Scope) : Prop where
  word : Nm sc "word"
  call : Nm sc "is_call"
  row : Nm sc "row"
  tree : Nm sc "tree"
  fig : Nm sc "figures"
  num : Nm sc "number"
  told : Nm sc "told"
  chan : Nm sc "channel"
  size : Nm sc "size"
  gw : sc.names.lookup ("_law_words" : Str) = some .globalImplicit
  gp : sc.names.lookup ("_law_places" : Str) = some .globalImplicit
  gn : sc.names.lookup ("_law_numbers" : Str) = some .globalImplicit
  go : sc.names.lookup ("_law_opened" : Str) = some .globalImplicit
  gh : sc.names.lookup ("_law_heard" : Str) = some .globalImplicit
  gl : sc.names.lookup ("len" : Str) = some .globalImplicit
section
variable {w : World} {base : Heap} {mg mb : Str → Option Value} {A : Around} {q : Str} {sc : Scope} {L a : Addr} {cd : Value} {W Cs : Addr} {vals : List Value} {cells : List Int} {s0 s : Shared} {k : Nat} {en : List (Str × PyData)} {E : Value → Shared → Prop}
variable {X4 Y4 X5 Y5 X6 Y6 X7 Y7 X9 Y9 X11 Y11 : Expr}
variable {a1 a2 a3 a4 a5 a6 a7 a8 a9 b1 b2 b3 b4 b5 b6 b7 b8 c1 c2 c3 c4 c5 c6 c7 c8 c9 c10 c11 c12 d1 d2 d3 d4 d5 d6 e1 e2 e3 e4 e5 e6 f1 f2 f3 f4 f5 f6 g1 g2 g3 g4 g5 g6 h1 h2 h3 h4 h5 h6 h7 h8 h9 h10 h11 i1 i2 i3 i4 i5 i6 j1 j2 j3 j4 j5 j6 j7 j8 j9 j10 j11 j12 k1 k2 k3 k4 k5 k6 : Pos}
theorem chk_stmt (C : LC w base mg mb A q sc L a cd W Cs vals cells s0) (N : LN sc) (H : LS sc L W Cs s0 k en s) {Q : Flow → Shared → Prop} {X Y : Expr} {rest : List Stmt} (hc : Chk en X Y) (hb : behindInMarks .NotEq Y = false)
    (hQ : ∀ s', LS sc L W Cs s0 k en s' → wpAny (model PySem.Challenge.rw_pf0024_01.row.prog w) A (execs rest (envOf q sc L a cd)) Q E s') :
    wpAny (model PySem.Challenge.rw_pf0024_01.row.prog w) A (execs (ifHeard X Y k1 k2 k3 k4 k5 k6 :: rest) (envOf q sc L a cd)) Q E s := by
  obtain ⟨row, e, e', q1, q2, q3, q4, q5, q6⟩ := hc
  exact check C H N.gh N.gl q1 q2 q3 q4 q5 q6 hb fun s' H' _ => hQ s' H'
theorem body (C : LC w base mg mb A q sc L a cd W Cs vals cells s0) (N : LN sc) (D : TD X4 Y4 X5 Y5 X6 Y6 X7 Y7 X9 Y9 X11 Y11) (hk : k ≤ 900) (H : LS sc L W Cs s0 k en s) {Q : Flow → Shared → Prop} {kk1 kk2 kk3 : Nat}
    (m4 : behindInMarks .NotEq Y4 = false) (m5 : behindInMarks .NotEq Y5 = false) (m6 : behindInMarks .NotEq Y6 = false) (m7 : behindInMarks .NotEq Y7 = false) (m9 : behindInMarks .NotEq Y9 = false) (m11 : behindInMarks .NotEq Y11 = false)
    (hQ : ∀ s' en', LS sc L W Cs s0 (k + 4) en' s' → Q .next s') :
    wpAny (model PySem.Challenge.rw_pf0024_01.row.prog w) A (execs [
      .Assign [.Name "word" a1] (.Subscript (.Call (.Name "_law_words" a2) [] [] a3) (dipOf 10 a4 a5 a6 a7) a8) a9,
      .Assign [.Name "is_call" b1] (.Compare (.Subscript (.Name "word" b2) (.Slice none (some (.Constant (.int 2) 0 b3)) none b4) b5) [.Eq] [.Constant (.str "FN") 0 b6] b7) b8,
      .Assign [.Tuple [.Name "row" c1, .Name "tree" c2] kk1 c3] (.Subscript (.Call (.Name "_law_places" c4) [.Name "word" c5] [] c6) (dipOf 21 c7 c8 c9 c10) c11) c12,
      ifHeard X4 Y4 d1 d2 d3 d4 d5 d6, ifHeard X5 Y5 e1 e2 e3 e4 e5 e6, ifHeard X6 Y6 f1 f2 f3 f4 f5 f6, ifHeard X7 Y7 g1 g2 g3 g4 g5 g6,
      .Assign [.Tuple [.Name "figures" h1, .Name "number" h2] kk2 h3] (.Subscript (.Call (.Name "_law_numbers" h4) [] [] h5) (dipOf 6 h6 h7 h8 h9) h10) h11,
      ifHeard X9 Y9 i1 i2 i3 i4 i5 i6,
      .Assign [.Tuple [.Name "told" j1, .Name "channel" j2, .Name "size" j3] kk3 j4] (.Subscript (.Call (.Name "_law_opened" j5) [] [] j6) (dipOf 9 j7 j8 j9 j10) j11) j12,
      ifHeard X11 Y11 k1 k2 k3 k4 k5 k6] (envOf q sc L a cd)) Q E s := by
  obtain ⟨pw, ew, lw, fw⟩ := D.words
  obtain ⟨pn, en', ln, fn⟩ := D.nums
  obtain ⟨po, eo, lo, fo⟩ := D.opened
  refine wpAny_execs_cons (wpAny_Assign_Name ?_)
  rw [show dipOf 10 a4 a5 a6 a7 = dipOf pw.length a4 a5 a6 a7 from by rw [lw]]
  refine pick0 C H (kf := 67) (fa := faOf 67) rfl (fn := f67) rfl rfl (by kernel_rfl) N.gw (by decide +kernel) (by kernel_rfl) ew (by omega) (by omega) (by omega) fun s1 v dd i H1 _ hi hd hr => ?_
  obtain ⟨wd, rfl, WDw⟩ := fw i dd hd
  refine H1.store C N.word.loc N.word.dbg N.word.well hr fun s2 H2 _ => ?_
  refine wpAny_execs_cons (wpAny_Assign_Name (wpAny_mono (is_call C H2 rfl WDw.small) (fun v s3 h3 => ?_) fun _ _ z => z))
  obtain ⟨rfl, kp⟩ := h3
  have H3 := H2.keeps kp C.WL
  refine H3.store C N.call.loc N.call.dbg N.call.well ⟨_, .bool _⟩ fun s4 H4 _ => ?_
  obtain ⟨pp, ep, lp, fp⟩ := WDw.places
  refine wpAny_execs_cons (Assign_Tuple ?_ rfl rfl)
  rw [show dipOf 21 c7 c8 c9 c10 = dipOf pp.length c7 c8 c9 c10 from by rw [lp]]
  refine pick1 C H4 (kf := 69) (fa := faOf 69) rfl (fn := f69) rfl rfl (by kernel_rfl) N.gp (by decide +kernel) (by kernel_rfl) (wd := wd) rfl ep (by omega) (by omega) (by omega) fun s5 v dd i5 H5 _ hi5 hd5 hr5 => ?_
  obtain ⟨t1, t2, rfl, c4⟩ := fp i5 dd hd5
  refine unpack2 C H5 hr5 N.row N.tree fun s6 H6 _ => ?_
  refine chk_stmt C N H6 (c4 _) m4 fun s7 H7 => ?_
  refine chk_stmt C N H7 (WDw.five _ _ _) m5 fun s8 H8 => ?_
  refine chk_stmt C N H8 (WDw.six _ _ _) m6 fun s9 H9 => ?_
  refine chk_stmt C N H9 (WDw.seven _ _ _) m7 fun s10 H10 => ?_
  refine wpAny_execs_cons (Assign_Tuple ?_ rfl rfl)
  rw [show dipOf 6 h6 h7 h8 h9 = dipOf pn.length h6 h7 h8 h9 from by rw [ln]]
  refine pick0 C H10 (kf := 68) (fa := faOf 68) rfl (fn := f68) rfl rfl (by kernel_rfl) N.gn (by decide +kernel) (by kernel_rfl) en' (by omega) (by omega) (by omega) fun s11 v dd i11 H11 _ hi11 hd11 hr11 => ?_
  obtain ⟨u1, u2, rfl, c9⟩ := fn i11 dd hd11
  refine unpack2 C H11 hr11 N.fig N.num fun s12 H12 _ => ?_
  refine chk_stmt C N H12 (c9 _) m9 fun s13 H13 => ?_
  refine wpAny_execs_cons (Assign_Tuple ?_ rfl rfl)
  rw [show dipOf 9 j7 j8 j9 j10 = dipOf po.length j7 j8 j9 j10 from by rw [lo]]
  refine pick0 C H13 (kf := 70) (fa := faOf 70) rfl (fn := f70) rfl rfl (by kernel_rfl) N.go (by decide +kernel) (by kernel_rfl) eo (by omega) (by omega) (by omega) fun s14 v dd i14 H14 _ hi14 hd14 hr14 => ?_
  obtain ⟨o1, o2, o3, rfl, c11⟩ := fo i14 dd hd14
  refine unpack3 C H14 hr14 N.told N.chan N.size fun s15 H15 _ => ?_
  refine chk_stmt C N H15 (c11 _) m11 fun s16 H16 => ?_
  exact wpAny_execs_nil (hQ s16 _ H16)
end
end Mine
-- EV
open PySem PySem.W PyProof.Rows PySem.SeqAt
namespace Mine
noncomputable def stmtsOf (fd : FuncData) : List Stmt := match fd.body with | .stmts b => b | _ => []
noncomputable def loopOf (l : List Stmt) : List Stmt := match nth l 1 with | some (.For _ _ b _ _) => b | _ => []
noncomputable def askX (s : Option Stmt) : Expr := match s with | some (.If (.Compare (.Call _ [x] _ _) _ _ _) _ _ _) => x | _ => .Constant .none 0 ⟨0, 0, 0, 0⟩
noncomputable def askY (s : Option Stmt) : Expr := match s with | some (.If (.Compare _ _ [y] _) _ _ _) => y | _ => .Constant .none 0 ⟨0, 0, 0, 0⟩
noncomputable def lawX (w : World) (i : Nat) : Expr := askX (nth (loopOf (stmtsOf (fdOf (objOf (heapK w.params) 811)))) i)
noncomputable def lawY (w : World) (i : Nat) : Expr := askY (nth (loopOf (stmtsOf (fdOf (objOf (heapK w.params) 811)))) i)
noncomputable def strP (o : Option PyData) (f : Str → Bool) : Bool := match o with | some (.str s) => f s | _ => false
noncomputable def someP (o : Option PyData) (f : PyData → Bool) : Bool := match o with | some d => f d | _ => false
theorem strP_inv {o : Option PyData} {f : Str → Bool} (h : strP o f = true) : ∃ s, o = some (.str s) ∧ f s = true := by
  unfold strP at h
  split at h
  · exact ⟨_, rfl, h⟩
  · cases h
theorem someP_inv {o : Option PyData} {f : PyData → Bool} (h : someP o f = true) : ∃ d, o = some d ∧ f d = true := by
  cases o with
  | none => cases h
  | some d => exact ⟨d, rfl, h⟩
noncomputable def chkQ (en : List (Str × PyData)) (X Y : Expr) : Bool :=
  strP ((ye en 8).1 X) fun row => someP (heardR fns wtab 5 sg0 row.cps.toList) fun e => someP ((ye en 8).1 Y) fun e' => PyData.eqv e e' && (shaped e && shaped e')
theorem chkQ_ok {en : List (Str × PyData)} {X Y : Expr} (h : chkQ en X Y = true) : Chk en X Y := by
  obtain ⟨row, h1, h⟩ := strP_inv h
  obtain ⟨e, h2, h⟩ := someP_inv h
  obtain ⟨e', h3, h⟩ := someP_inv h
  obtain ⟨h4, h⟩ := Bool.and_eq_true_iff.mp h
  obtain ⟨h5, h6⟩ := Bool.and_eq_true_iff.mp h
  exact ⟨row, e, e', h1, h2, h3, h4, h5, h6⟩
noncomputable def tup2 (d : PyData) (f : PyData → PyData → Bool) : Bool := match d with | .tuple [a, b] => f a b | _ => false
noncomputable def tup3 (d : PyData) (f : PyData → PyData → PyData → Bool) : Bool := match d with | .tuple [a, b, c] => f a b c | _ => false
theorem tup2_inv {d : PyData} {α : Type} {f : α → PyData → PyData → Bool} (o : α) (h : ∀ en, tup2 d (f en) = true) : ∃ a b, d = .tuple [a, b] ∧ ∀ en, f en a b = true := by
  have h0 := h o
  unfold tup2 at h0
  split at h0
  · exact ⟨_, _, rfl, h⟩
  · cases h0
theorem tup3_inv {d : PyData} {α : Type} {f : α → PyData → PyData → PyData → Bool} (o : α) (h : ∀ en, tup3 d (f en) = true) : ∃ a b c, d = .tuple [a, b, c] ∧ ∀ en, f en a b c = true := by
  have h0 := h o
  unfold tup3 at h0
  split at h0
  · exact ⟨_, _, _, rfl, h⟩
  · cases h0
noncomputable def listP (o : Option PyData) : List PyData := match o with | some (.list ps) => ps | _ => []
theorem listP_ok {o : Option PyData} {n : Nat} (h : (listP o).length = n + 1) : o = some (.list (listP o)) := by
  unfold listP at h ⊢
  split at h
  · rfl
  · cases h
theorem all_at {α : Type} {xs : List PyData} {f : α → PyData → Bool} (h : ∀ en, xs.all (f en) = true) (i : Nat) (d : PyData) (e : xs[i]? = some d) : ∀ en, f en d = true := fun en => List.all_eq_true.mp (h en) d (List.mem_of_getElem? e)
noncomputable def numsL : List PyData := listP (tabR fns wtab 5 sg0 68 [])
noncomputable def opensL : List PyData := listP (tabR fns wtab 5 sg0 70 [])
noncomputable def placesL (wd : Txt) : List PyData := listP (tabR fns wtab 5 sg0 69 [.str wd])
abbrev En : Type := List (Str × PyData)
noncomputable abbrev numQ (w : World) (en : En) (d : PyData) : Bool := tup2 d fun d1 d2 => chkQ (("number", d2) :: ("figures", d1) :: en) (lawX w 8) (lawY w 8)
noncomputable abbrev openQ (w : World) (en : En) (d : PyData) : Bool := tup3 d fun d1 d2 d3 => chkQ (("size", d3) :: ("channel", d2) :: ("told", d1) :: en) (lawX w 10) (lawY w 10)
noncomputable abbrev enW (wd : Txt) (d1 d2 : PyData) (en : En) : En := ("tree", d2) :: ("row", d1) :: ("is_call", .bool (beqL (wd.take 2) [70, 78])) :: ("word", .str (sOf wd)) :: en
noncomputable abbrev placeQ (w : World) (wd : Txt) (en : En) (d : PyData) : Bool := tup2 d fun d1 d2 => chkQ (enW wd d1 d2 en) (lawX w 3) (lawY w 3)
theorem numsLen : numsL.length = 6 := by kernel_rfl
theorem opensLen : opensL.length = 9 := by kernel_rfl
theorem numsQ (w : World) (en : En) : numsL.all (numQ w en) = true := by kernel_rfl
theorem opensQ (w : World) (en : En) : opensL.all (openQ w en) = true := by kernel_rfl
theorem wd_of {w : World} {wd : Txt} (hs : small wd.length = true) (hl : (placesL wd).length = 21) (hp : ∀ en, (placesL wd).all (placeQ w wd en) = true)
    (h3 : ∀ d1 d2 en, (chkQ (enW wd d1 d2 en) (lawX w 4) (lawY w 4) && chkQ (enW wd d1 d2 en) (lawX w 5) (lawY w 5) && chkQ (enW wd d1 d2 en) (lawX w 6) (lawY w 6)) = true) :
    WD wd (lawX w 3) (lawY w 3) (lawX w 4) (lawY w 4) (lawX w 5) (lawY w 5) (lawX w 6) (lawY w 6) := by
  refine ⟨hs, ⟨placesL wd, listP_ok hl, hl, fun i d e => ?_⟩, fun d1 d2 en => ?_, fun d1 d2 en => ?_, fun d1 d2 en => ?_⟩
  · obtain ⟨a, b, q, h⟩ := tup2_inv [] (all_at hp i d e)
    exact ⟨a, b, q, fun en => chkQ_ok (h en)⟩
  · exact chkQ_ok (Bool.and_eq_true_iff.mp (Bool.and_eq_true_iff.mp (h3 d1 d2 en)).1).1
  · exact chkQ_ok (Bool.and_eq_true_iff.mp (Bool.and_eq_true_iff.mp (h3 d1 d2 en)).1).2
  · exact chkQ_ok (Bool.and_eq_true_iff.mp (h3 d1 d2 en)).2
theorem wdL0 : (placesL [65]).length = 21 := by kernel_rfl
theorem wdP0 (w : World) (en : En) : (placesL [65]).all (placeQ w [65] en) = true := by kernel_rfl
theorem wdQ0 (w : World) (d1 d2 : PyData) (en : En) : (chkQ (enW [65] d1 d2 en) (lawX w 4) (lawY w 4) && chkQ (enW [65] d1 d2 en) (lawX w 5) (lawY w 5) && chkQ (enW [65] d1 d2 en) (lawX w 6) (lawY w 6)) = true := by kernel_rfl
theorem wdL1 : (placesL [78,37]).length = 21 := by kernel_rfl
theorem wdP1 (w : World) (en : En) : (placesL [78,37]).all (placeQ w [78,37] en) = true := by kernel_rfl
theorem wdQ1 (w : World) (d1 d2 : PyData) (en : En) : (chkQ (enW [78,37] d1 d2 en) (lawX w 4) (lawY w 4) && chkQ (enW [78,37] d1 d2 en) (lawX w 5) (lawY w 5) && chkQ (enW [78,37] d1 d2 en) (lawX w 6) (lawY w 6)) = true := by kernel_rfl
theorem wdL2 : (placesL [67,36]).length = 21 := by kernel_rfl
theorem wdP2 (w : World) (en : En) : (placesL [67,36]).all (placeQ w [67,36] en) = true := by kernel_rfl
theorem wdQ2 (w : World) (d1 d2 : PyData) (en : En) : (chkQ (enW [67,36] d1 d2 en) (lawX w 4) (lawY w 4) && chkQ (enW [67,36] d1 d2 en) (lawX w 5) (lawY w 5) && chkQ (enW [67,36] d1 d2 en) (lawX w 6) (lawY w 6)) = true := by kernel_rfl
theorem wdL3 : (placesL [88,46,49]).length = 21 := by kernel_rfl
theorem wdP3 (w : World) (en : En) : (placesL [88,46,49]).all (placeQ w [88,46,49] en) = true := by kernel_rfl
theorem wdQ3 (w : World) (d1 d2 : PyData) (en : En) : (chkQ (enW [88,46,49] d1 d2 en) (lawX w 4) (lawY w 4) && chkQ (enW [88,46,49] d1 d2 en) (lawX w 5) (lawY w 5) && chkQ (enW [88,46,49] d1 d2 en) (lawX w 6) (lawY w 6)) = true := by kernel_rfl
theorem wdL4 : (placesL [70,78,65]).length = 21 := by kernel_rfl
theorem wdP4 (w : World) (en : En) : (placesL [70,78,65]).all (placeQ w [70,78,65] en) = true := by kernel_rfl
theorem wdQ4 (w : World) (d1 d2 : PyData) (en : En) : (chkQ (enW [70,78,65] d1 d2 en) (lawX w 4) (lawY w 4) && chkQ (enW [70,78,65] d1 d2 en) (lawX w 5) (lawY w 5) && chkQ (enW [70,78,65] d1 d2 en) (lawX w 6) (lawY w 6)) = true := by kernel_rfl
theorem wdL5 : (placesL [70,78]).length = 21 := by kernel_rfl
theorem wdP5 (w : World) (en : En) : (placesL [70,78]).all (placeQ w [70,78] en) = true := by kernel_rfl
theorem wdQ5 (w : World) (d1 d2 : PyData) (en : En) : (chkQ (enW [70,78] d1 d2 en) (lawX w 4) (lawY w 4) && chkQ (enW [70,78] d1 d2 en) (lawX w 5) (lawY w 5) && chkQ (enW [70,78] d1 d2 en) (lawX w 6) (lawY w 6)) = true := by kernel_rfl
theorem wdL6 : (placesL [70,78,37]).length = 21 := by kernel_rfl
theorem wdP6 (w : World) (en : En) : (placesL [70,78,37]).all (placeQ w [70,78,37] en) = true := by kernel_rfl
theorem wdQ6 (w : World) (d1 d2 : PyData) (en : En) : (chkQ (enW [70,78,37] d1 d2 en) (lawX w 4) (lawY w 4) && chkQ (enW [70,78,37] d1 d2 en) (lawX w 5) (lawY w 5) && chkQ (enW [70,78,37] d1 d2 en) (lawX w 6) (lawY w 6)) = true := by kernel_rfl
theorem wdL7 : (placesL [70,46,78]).length = 21 := by kernel_rfl
theorem wdP7 (w : World) (en : En) : (placesL [70,46,78]).all (placeQ w [70,46,78] en) = true := by kernel_rfl
theorem wdQ7 (w : World) (d1 d2 : PyData) (en : En) : (chkQ (enW [70,46,78] d1 d2 en) (lawX w 4) (lawY w 4) && chkQ (enW [70,46,78] d1 d2 en) (lawX w 5) (lawY w 5) && chkQ (enW [70,46,78] d1 d2 en) (lawX w 6) (lawY w 6)) = true := by kernel_rfl
theorem wdL8 : (placesL [78,70,78]).length = 21 := by kernel_rfl
theorem wdP8 (w : World) (en : En) : (placesL [78,70,78]).all (placeQ w [78,70,78] en) = true := by kernel_rfl
theorem wdQ8 (w : World) (d1 d2 : PyData) (en : En) : (chkQ (enW [78,70,78] d1 d2 en) (lawX w 4) (lawY w 4) && chkQ (enW [78,70,78] d1 d2 en) (lawX w 5) (lawY w 5) && chkQ (enW [78,70,78] d1 d2 en) (lawX w 6) (lawY w 6)) = true := by kernel_rfl
theorem wdL9 : (placesL [70,78,46,49]).length = 21 := by kernel_rfl
theorem wdP9 (w : World) (en : En) : (placesL [70,78,46,49]).all (placeQ w [70,78,46,49] en) = true := by kernel_rfl
theorem wdQ9 (w : World) (d1 d2 : PyData) (en : En) : (chkQ (enW [70,78,46,49] d1 d2 en) (lawX w 4) (lawY w 4) && chkQ (enW [70,78,46,49] d1 d2 en) (lawX w 5) (lawY w 5) && chkQ (enW [70,78,46,49] d1 d2 en) (lawX w 6) (lawY w 6)) = true := by kernel_rfl
noncomputable def wordsL : List Txt := [[65], [78,37], [67,36], [88,46,49], [70,78,65], [70,78], [70,78,37], [70,46,78], [78,70,78], [70,78,46,49]]
theorem evWords : tabR fns wtab 5 sg0 67 [] = some (.list (wordsL.map fun t => .str (sOf t))) := by kernel_rfl
theorem wordsOk (w : World) : ∀ wd ∈ wordsL, WD wd (lawX w 3) (lawY w 3) (lawX w 4) (lawY w 4) (lawX w 5) (lawY w 5) (lawX w 6) (lawY w 6) :=
  List.forall_mem_cons.mpr ⟨wd_of rfl wdL0 (wdP0 w) (wdQ0 w), List.forall_mem_cons.mpr ⟨wd_of rfl wdL1 (wdP1 w) (wdQ1 w), List.forall_mem_cons.mpr ⟨wd_of rfl wdL2 (wdP2 w) (wdQ2 w), List.forall_mem_cons.mpr ⟨wd_of rfl wdL3 (wdP3 w) (wdQ3 w), List.forall_mem_cons.mpr ⟨wd_of rfl wdL4 (wdP4 w) (wdQ4 w), List.forall_mem_cons.mpr ⟨wd_of rfl wdL5 (wdP5 w) (wdQ5 w), List.forall_mem_cons.mpr ⟨wd_of rfl wdL6 (wdP6 w) (wdQ6 w), List.forall_mem_cons.mpr ⟨wd_of rfl wdL7 (wdP7 w) (wdQ7 w), List.forall_mem_cons.mpr ⟨wd_of rfl wdL8 (wdP8 w) (wdQ8 w), List.forall_mem_cons.mpr ⟨wd_of rfl wdL9 (wdP9 w) (wdQ9 w), fun _ h => nomatch h⟩⟩⟩⟩⟩⟩⟩⟩⟩⟩
theorem td (w : World) : TD (lawX w 3) (lawY w 3) (lawX w 4) (lawY w 4) (lawX w 5) (lawY w 5) (lawX w 6) (lawY w 6) (lawX w 8) (lawY w 8) (lawX w 10) (lawY w 10) := by
  refine ⟨⟨_, evWords, rfl, fun i d e => ?_⟩, ⟨numsL, listP_ok numsLen, numsLen, fun i d e => ?_⟩, ⟨opensL, listP_ok opensLen, opensLen, fun i d e => ?_⟩⟩
  · obtain ⟨wd, m, rfl⟩ := List.mem_map.mp (List.mem_of_getElem? e)
    exact ⟨wd, rfl, wordsOk w wd m⟩
  · obtain ⟨a, b, q, h⟩ := tup2_inv [] (all_at (numsQ w) i d e)
    exact ⟨a, b, q, fun en => chkQ_ok (h en)⟩
  · obtain ⟨a, b, c, q, h⟩ := tup3_inv [] (all_at (opensQ w) i d e)
    exact ⟨a, b, c, q, fun en => chkQ_ok (h en)⟩
end Mine
-- L7
open PySem PySem.W PyProof.Rows PySem.Calls PySem.SeqAt
namespace Mine
theorem ints_mem : ∀ {vs : List Value} {zs : List Int} {v : Value}, IntsAre vs zs → v ∈ vs → ∃ z t, v = .int z t
  | _, _, _, .cons n t _, .head _ => ⟨n, t, rfl⟩
  | _, _, _, .cons _ _ r, .tail _ m => ints_mem r m
noncomputable def IntR (v r : Value) : Prop := ∃ z t, r = .int z t
theorem paired_ints : ∀ {vs ys : List Value}, Paired IntR vs ys → ∃ zs, IntsAre ys zs ∧ ys.length = vs.length
  | _, _, .nil => ⟨[], .nil, rfl⟩
  | _, _, .cons h t => by
    obtain ⟨z, u, rfl⟩ := h
    obtain ⟨zs, a, b⟩ := paired_ints t
    exact ⟨z :: zs, .cons z u a, by simp [b]⟩
theorem pick_mem {items : Array Value} {lo hi : Option Int} {i : Nat} {v : Value} (e : (slicePick items lo hi none)[i]? = some v) : v ∈ items.toList := by
  unfold slicePick at e
  have m : v ∈ ((sliceRange (sliceBounds lo hi none items.size).1 (sliceBounds lo hi none items.size).2.1 (sliceBounds lo hi none items.size).2.2).filterMap (items[·]?)) := by
    rw [List.getElem?_toArray] at e
    exact List.mem_of_getElem? e
  obtain ⟨j, _, hj⟩ := List.mem_filterMap.mp m
  exact Array.mem_toList_iff.mpr (Array.mem_of_getElem? hj)
section
variable {w : World} {base : Heap} {mg mb : Str → Option Value} {A : Around} {q : Str} {sc : Scope} {L a : Addr} {cd : Value} {s : Shared} {E : Value → Shared → Prop} {m : Str → Option Value} {l : Addr} {vals0 : List Value} {zs : List Int} {scope : Scope}
variable {p1 p2 p3 p4 p5 p6 p7 p8 p9 p10 p11 p12 p13 : Pos}
theorem start (hK : (heapK w.params).In base) (T : TopRead viewK (looseW viewK namesL) mg mb base) (hh : A.handled = none) (F : Fr base L s.heap m) (hm : m "script" = some (.ref l)) (hl : base.IsList l vals0.toArray) (hi : IntsAre vals0 zs) (hlen : vals0.length ≤ 1000) (hk : sc.kind = .function)
    (locS : sc.names.lookup ("script" : Str) = some .local) (locW : sc.names.lookup ("well" : Str) = some .local)
    (hfree : ∀ y ∈ scope.names, y.2 ≠ .free) (hcell : ∀ y ∈ scope.names, y.2 ≠ .cell) (hkind : scope.kind = .function) (hnames : ∀ y ∈ scope.names, y.2 = .local → scope.names.lookup y.1 = some .local) (hx : scope.names.lookup ("cell" : Str) = some .local) (habs : scope.names.lookup ("abs" : Str) = some .globalImplicit)
    {rest : List Stmt} {Q : Flow → Shared → Prop}
    (hQ : ∀ s' W Cs vals cells, Rest s s' → base.StaysIn s'.heap → (∃ m', s'.heap.Ns L m' ∧ m' "well" = some (.ref W)) → (∃ t, s'.heap.IsList W #[.ref Cs, .int 0 t]) → s'.heap.IsList Cs vals.toArray → IntsAre vals cells → vals.length ≤ 1000 → Cs ≠ W → Cs ≠ L → W ≠ L → base.objs.size ≤ W → wpAny (model PySem.Challenge.rw_pf0024_01.row.prog w) A (execs rest (envOf q sc L a cd)) Q E s') :
    wpAny (model PySem.Challenge.rw_pf0024_01.row.prog w) A (execs (.Assign [.Name "well" p1] (.List [.ListComp (.Call (.Name "abs" p2) [.Name "cell" p3] [] p4) [⟨.Name "cell" p5, .Subscript (.Name "script" p6) (.Slice none (some (.Constant (.int 24) 0 p7)) none p8) p9, [], 0⟩] scope p10, .Constant (.int 0) 0 p11] p12) p13 :: rest) (envOf q sc L a cd)) Q E s := by
  obtain ⟨h0, g, d, tt, os⟩ := s
  refine wpAny_execs_cons (wpAny_Assign_Name (wpAny_List (args_cons ?_ rfl)))
  refine wpAny_ListComp_walk (fun _ => true) IntR hfree hcell hkind hnames hx ?_
  refine wpAny_Subscript_list_slice (wpAny_Name (wpAny_loadName_local hk locS F.ns hm (evalPart_none_step (evalPart_some_step (wpAny_Constant_int ?_)))) (by decide +kernel))
  have hl0 : h0.IsList l vals0.toArray := let ⟨o, e, r⟩ := hl; ⟨o, F.keep _ _ e, r⟩
  refine ⟨l, vals0.toArray, none, some 24, rfl, hl0, by simp only [List.size_toArray]; rw [sizeLine_eq]; omega, .none, .int .., ?_⟩
  generalize hitems : slicePick vals0.toArray none (some 24) none = items
  have hisz : items.size ≤ 1000 := by
    rw [← hitems]
    exact Nat.le_trans (slicePick_size_le vals0.toArray none (some 24) none) (by simpa using hlen)
  have hint : ∀ (j : Nat) (v : Value), items[j]? = some v → ∃ z t, v = .int z t := fun j v e => ints_mem hi (by
    rw [← hitems] at e
    simpa using pick_mem e)
  generalize hh1 : h0.push { cls := .type "slice", data := .fields #[.none, .int 24 tt, .none] } = h1
  have k1 : ∀ b o, h0.get? b = some o → h1.get? b = some o := fun b o e => hh1 ▸ Heap.get?_push_of_some _ e
  have hz1 : h1.objs.size = h0.objs.size + 1 := by rw [← hh1, Heap.size_push]
  have k2 : ∀ b o, h0.get? b = some o → (h1.push { cls := .type "list", data := .seq items }).get? b = some o := fun b o e => Heap.get?_push_of_some _ (k1 b o e)
  have hla : (h1.push { cls := .type "list", data := .seq items }).IsList (h0.objs.size + 1) items := ⟨_, by rw [← hz1]; exact Heap.get?_push_size _ rfl, rfl, _, rfl⟩
  refine wpAny_pyIter_list hla ?_
  have hz2 : (h1.push { cls := .type "list", data := .seq items }).objs.size = h0.objs.size + 2 := by rw [Heap.size_push, hz1]
  have ne1 : h0.objs.size + 1 ≠ (h1.push { cls := .type "list", data := .seq items }).objs.size := by rw [hz2]; omega
  have old3 : ∀ {o' : Obj} {h' : Heap}, (∀ b o, b ∉ [(h1.push { cls := .type "list", data := .seq items }).objs.size] → ((h1.push { cls := .type "list", data := .seq items }).push o').get? b = some o → h'.get? b = some o) → ∀ b o, h0.get? b = some o → h'.get? b = some o := fun hk b o e =>
    hk b o (fun m => Nat.ne_of_lt (Nat.lt_of_lt_of_le (Heap.lt_size e) (Nat.le_add_right _ 2)) (hz2 ▸ List.mem_singleton.mp m)) (Heap.get?_push_of_some _ (k2 b o e))
  refine ⟨_, _, _, items.size, _, _, rfl, Walks.list hh _ (h0.objs.size + 1) ne1 items, by rw [sizeLine_eq]; omega, ?_, ?_, ⟨?_, ?_⟩, ?_⟩
  · exact ⟨⟨_, Heap.get?_push_size _ rfl, rfl, rfl⟩, list_push hla _⟩
  · intro b hb
    show b < ((h1.push _).push _).objs.size
    rw [Heap.size_push, hz2]
    rcases List.mem_cons.mp hb with rfl | hb
    · rw [hz2]; exact Nat.lt_succ_self _
    · rw [List.mem_singleton.mp hb]; exact Nat.lt_succ_of_lt (Nat.lt_succ_self _)
  · intro C i v s₃ m₃ E' hP hn hmm _ _
    exact wpAny_pure ⟨rfl, s₃.heap, s₃.toks, rfl, fun _ _ e => e⟩
  · intro C i v s₃ m₃ E' hP _ hn hmm hk3 _
    obtain ⟨z, t, rfl⟩ := hint i v hP
    have old : ∀ b o, base.get? b = some o → s₃.heap.get? b = some o := fun b o e => old3 hk3 b o (F.keep b o e)
    refine Call_ (wpAny_Name (ks_loadName_global hkind habs (loadGlobal_builtin (T.g.keeps old) (mg_none_of hK T.g (by kernel_rfl)) (T.b.keeps old) ((T.builtins _ (by decide +kernel)).trans boot_abs) ?_)) (by decide +kernel)) callName_eq
    refine Calls.callWith_builtin rfl (Calls.evalArgs_plain (Calls.spliced_cons (wpAny_Name (wpAny_loadName_local hkind hx hn hmm (Calls.spliced_nil (call_abs_int fun u tk => ?_))) (by decide +kernel))))
    exact ⟨⟨_, _, rfl⟩, s₃.heap, tk, rfl, fun _ _ e => e⟩
  · intro D h' tk' ys vs hnew hlD hplD hlen' hP hF hkk
    have kk : ∀ b o, h0.get? b = some o → h'.get? b = some o := old3 hkk
    have hfl : vs.filter (fun _ => true) = vs := List.filter_eq_self.mpr fun _ _ => rfl
    rw [hfl] at hF
    obtain ⟨cells, hc1, hc2⟩ := paired_ints hF
    refine args_cons (wpAny_Constant_int (args_nil ⟨by show 2 ≤ sizeLine; rw [sizeLine_eq]; omega, ?_⟩)) rfl
    have F' : h'.Ns L m := Heap.Ns.keep1 F.ns fun o e => kk _ _ e
    have hDL : D ≠ L := fun z => by
      obtain ⟨o, _, _, e, _⟩ := F.ns
      have e2 := Heap.get?_push_of_some { cls := .type "list_iterator", data := .fields #[.ref (h0.objs.size + 1), .int 0 0] } (k2 L o e)
      rw [← z] at e2
      rw [show Heap.get? _ D = none from hnew] at e2; cases e2
    have hDlt : D < h'.objs.size := by obtain ⟨o, e, _⟩ := hlD; exact Heap.lt_size e
    have hLlt : L < h'.objs.size := Ns.there F'
    refine wpAny_storeName_local (s := ⟨h'.push _, g, d, _, os⟩) locW (Heap.Ns.keep1 F' fun o e => Heap.get?_push_of_some _ e) (fun h2 hn2 hs2 => ?_) (by show (sc.kind == .class || (sc.kind == .module && _)) = false; rw [hk]; rfl)
    have kL : ∀ b o, b ≠ L → h'.get? b = some o → h2.get? b = some o := fun b o nb e => (hs2.2 b nb).trans (Heap.get?_push_of_some _ e)
    refine hQ ⟨h2, g, d, _, os⟩ h'.objs.size D ys.toList cells ⟨rfl, rfl⟩ (fun b o e => kL b o (fun z => absurd (Heap.lt_size e) (Nat.not_lt.mpr (z ▸ F.above))) (kk b o (F.keep b o e))) ⟨_, hn2, if_pos rfl⟩ ⟨_, _, (hs2.2 _ (Nat.ne_of_gt hLlt)).trans (Heap.get?_push_size _ rfl), rfl, _, rfl⟩ ?_ hc1 (by rw [hc2, hlen']; exact hisz) (Nat.ne_of_lt hDlt) hDL (Nat.ne_of_gt hLlt) (Nat.le_trans F.above (Nat.le_of_lt hLlt))
    obtain ⟨o, e, r⟩ := hlD
    exact ⟨o, kL _ _ hDL e, by simpa using r⟩
end
end Mine
-- L8
open PySem PySem.W PyProof.Rows PySem.Calls PySem.SeqAt
namespace Mine
section
variable {w : World} {base : Heap} {mg mb : Str → Option Value} {A : Around} {q : Str} {sc : Scope} {L a : Addr} {cd : Value} {W Cs : Addr} {vals : List Value} {cells : List Int} {s0 s : Shared} {k : Nat} {en : List (Str × PyData)} {E : Value → Shared → Prop}
theorem LC.re (C : LC w base mg mb A q sc L a cd W Cs vals cells s0) {s : Shared} (st : base.StaysIn s.heap) (hCs : s.heap.IsList Cs vals.toArray) : LC w base mg mb A q sc L a cd W Cs vals cells s :=
  ⟨C.hK, C.T, C.frames, C.handled, C.depth, C.units, C.kind, st, hCs, C.CW, C.CL, C.WL, C.bW, C.bL, C.len, C.isI, C.locW, C.gdip⟩
theorem LS.fresh {sc : Scope} {L W Cs : Addr} {k : Nat} {s : Shared} (hn : ∃ m, s.heap.Ns L m ∧ m "well" = some (.ref W)) (hW : ∃ tk, s.heap.IsList W #[.ref Cs, .int k tk]) : LS sc L W Cs s k [] s := by
  obtain ⟨m, h1, h2⟩ := hn
  exact ⟨⟨m, h1, h2, fun id d e => nomatch e⟩, fun b o e _ _ => e, hW, Rest.refl _⟩
/-- one turn's ground -/
structure Turn (w : World) (base : Heap) (mg mb : Str → Option Value) (A : Around) (q : Str) (sc : Scope) (L a : Addr) (cd : Value) (W Cs : Addr) (vals : List Value) (cells : List Int) (I : Addr) (N i : Nat) (s : Shared) : Prop where
  lc : LC w base mg mb A q sc L a cd W Cs vals cells s
  ns : ∃ m, s.heap.Ns L m ∧ m "well" = some (.ref W)
  hW : ∃ tk, s.heap.IsList W #[.ref Cs, .int ((1 + 4 * i : Nat) : Int) tk]
  it : IsRangeIter s.heap I i ((N : Int) - i) 1
  nW : I ≠ W
  nL : I ≠ L
  nC : I ≠ Cs
  nB : base.objs.size ≤ I
theorem Turn.poke {I : Addr} {N i : Nat} {h' : Heap} {t : Nat} (X : Turn w base mg mb A q sc L a cd W Cs vals cells I N i s) (kk : ∀ b o, b ≠ I → s.heap.get? b = some o → h'.get? b = some o) :
    LC w base mg mb A q sc L a cd W Cs vals cells { s with heap := h', toks := t } ∧ LS sc L W Cs { s with heap := h', toks := t } (1 + 4 * i) [] { s with heap := h', toks := t } := by
  obtain ⟨m, h1, h2⟩ := X.ns
  obtain ⟨tk, o, e, r⟩ := X.hW
  obtain ⟨oc, ec, rc⟩ := X.lc.hCs
  exact ⟨X.lc.re (fun b o e => kk b o (Nat.ne_of_lt (Nat.lt_of_lt_of_le (Heap.lt_size e) X.nB)) (X.lc.st0 b o e)) ⟨oc, kk _ _ (Ne.symm X.nC) ec, rc⟩, LS.fresh ⟨m, Heap.Ns.keep1 h1 fun o e => kk _ _ (Ne.symm X.nL) e, h2⟩ ⟨tk, o, kk _ _ (Ne.symm X.nW) e, r⟩⟩
theorem LS.turn {s0 : Shared} {I : Addr} {N i : Nat} (C : LC w base mg mb A q sc L a cd W Cs vals cells s0) (H : LS sc L W Cs s0 (1 + 4 * i) en s) (it : IsRangeIter s.heap I i ((N : Int) - i) 1) (nW : I ≠ W) (nL : I ≠ L) (nC : I ≠ Cs) (nB : base.objs.size ≤ I) : Turn w base mg mb A q sc L a cd W Cs vals cells I N i s := by
  obtain ⟨m, h1, h2, _⟩ := H.ns
  exact ⟨C.re (H.stays C) (H.cs C), ⟨m, h1, h2⟩, H.hW, it, nW, nL, nC, nB⟩
variable {X4 Y4 X5 Y5 X6 Y6 X7 Y7 X9 Y9 X11 Y11 : Expr}
variable {a1 a2 a3 a4 a5 a6 a7 a8 a9 b1 b2 b3 b4 b5 b6 b7 b8 c1 c2 c3 c4 c5 c6 c7 c8 c9 c10 c11 c12 d1 d2 d3 d4 d5 d6 e1 e2 e3 e4 e5 e6 f1 f2 f3 f4 f5 f6 g1 g2 g3 g4 g5 g6 h1 h2 h3 h4 h5 h6 h7 h8 h9 h10 h11 i1 i2 i3 i4 i5 i6 j1 j2 j3 j4 j5 j6 j7 j8 j9 j10 j11 j12 k1 k2 k3 k4 k5 k6 l1 l2 l3 l4 l5 l6 l7 l8 l9 l10 : Pos}
theorem loop (C : LC w base mg mb A q sc L a cd W Cs vals cells s0) (H : LS sc L W Cs s0 0 en s) (N : LN sc) (nt : Nm sc "turn") (gr : sc.names.lookup ("range" : Str) = some .globalImplicit) (D : TD X4 Y4 X5 Y5 X6 Y6 X7 Y7 X9 Y9 X11 Y11) {Q : Flow → Shared → Prop} {kk1 kk2 kk3 : Nat} {rest : List Stmt}
    (m4 : behindInMarks .NotEq Y4 = false) (m5 : behindInMarks .NotEq Y5 = false) (m6 : behindInMarks .NotEq Y6 = false) (m7 : behindInMarks .NotEq Y7 = false) (m9 : behindInMarks .NotEq Y9 = false) (m11 : behindInMarks .NotEq Y11 = false)
    (hQ : ∀ s', Rest s0 s' → base.StaysIn s'.heap → wpAny (model PySem.Challenge.rw_pf0024_01.row.prog w) A (execs rest (envOf q sc L a cd)) Q E s') :
    wpAny (model PySem.Challenge.rw_pf0024_01.row.prog w) A (execs (.For (.Name "turn" l1) (.Call (.Name "range" l2) [.BinOp (.Constant (.int 1) 0 l3) .Add (dipOf 2 l4 l5 l6 l7) l8] [] l9) [
      .Assign [.Name "word" a1] (.Subscript (.Call (.Name "_law_words" a2) [] [] a3) (dipOf 10 a4 a5 a6 a7) a8) a9,
      .Assign [.Name "is_call" b1] (.Compare (.Subscript (.Name "word" b2) (.Slice none (some (.Constant (.int 2) 0 b3)) none b4) b5) [.Eq] [.Constant (.str "FN") 0 b6] b7) b8,
      .Assign [.Tuple [.Name "row" c1, .Name "tree" c2] kk1 c3] (.Subscript (.Call (.Name "_law_places" c4) [.Name "word" c5] [] c6) (dipOf 21 c7 c8 c9 c10) c11) c12,
      ifHeard X4 Y4 d1 d2 d3 d4 d5 d6, ifHeard X5 Y5 e1 e2 e3 e4 e5 e6, ifHeard X6 Y6 f1 f2 f3 f4 f5 f6, ifHeard X7 Y7 g1 g2 g3 g4 g5 g6,
      .Assign [.Tuple [.Name "figures" h1, .Name "number" h2] kk2 h3] (.Subscript (.Call (.Name "_law_numbers" h4) [] [] h5) (dipOf 6 h6 h7 h8 h9) h10) h11,
      ifHeard X9 Y9 i1 i2 i3 i4 i5 i6,
      .Assign [.Tuple [.Name "told" j1, .Name "channel" j2, .Name "size" j3] kk3 j4] (.Subscript (.Call (.Name "_law_opened" j5) [] [] j6) (dipOf 9 j7 j8 j9 j10) j11) j12,
      ifHeard X11 Y11 k1 k2 k3 k4 k5 k6] [] l10 :: rest) (envOf q sc L a cd)) Q E s := by
  obtain ⟨m, hn, hw, _⟩ := H.ns
  refine wpAny_execs_cons (wpAny_For (Call_ (name_B (L := L) (h₀ := base) ⟨hn, H.stays C, C.bL⟩ C.hK C.T (by kernel_rfl) Boot.«range» (by decide +kernel) (PyProof.Rows.callWith_type rfl (Calls.evalArgs_plain (Calls.spliced_cons (wpAny_BinOp (wpAny_Constant_int ?_))))) C.kind gr (by decide +kernel)) callName_eq))
  refine wpAny_mono (dip_eval (s := { s with toks := s.toks + 1 }) C (H.keeps (kRefl s _) C.WL) (by decide) (by omega)) (fun v s1 hv => ?_) fun _ _ z => z
  obtain ⟨tr, rfl, H1, _⟩ := hv
  obtain ⟨r0, r1⟩ := drawn_lt (cells := cells) (k := 0) (many := 2) (by decide)
  refine PyProof.Rows.add_int (Calls.spliced_nil ?_)
  generalize hN : (1 + drawn cells 0 2 : Int) = NI
  obtain ⟨NN, hNN⟩ : ∃ NN : Nat, NI = (NN : Int) := ⟨NI.toNat, by omega⟩
  have hN2 : NN ≤ 2 := by omega
  subst hNN
  refine call_range_1 ?_
  have hnew : ∀ {h : Heap} {o : Obj} {b : Addr} {o' : Obj}, h.get? b = some o' → (h.push o).get? b = some o' := fun e => Heap.get?_push_of_some _ e
  refine wpAny_pyIter_range (IsRange.new ..) (small_one (by omega) (by omega) (by omega) (by omega)) ?_
  have hrs : Builtin.Range.rangeSize 0 (NN : Int) 1 = (NN : Int) := by rw [rangeSize_one]; split <;> omega
  rw [hrs]
  generalize hH : (s1.heap.push { cls := .type "range", data := .fields #[.int 0 (s1.toks + 1), .int NN s1.toks, .int 1 (s1.toks + 1 + 1)] }) = hA
  have kA : ∀ b o, s1.heap.get? b = some o → hA.get? b = some o := fun b o e => hH ▸ Heap.get?_push_of_some _ e
  have zA : hA.objs.size = s1.heap.objs.size + 1 := by rw [← hH, Heap.size_push]
  show codeAny _ A (.forLoop _ (.ref hA.objs.size) _ _ _) _ ⟨hA.push { cls := .type "range_iterator", data := .fields #[rawInt 0, rawInt NN, rawInt 1] }, s1.gens, s1.drawn, s1.toks + 1 + 1 + 1, s1.os⟩
  generalize hI : hA.objs.size = I
  have kk : ∀ b o, s1.heap.get? b = some o → (hA.push { cls := .type "range_iterator", data := .fields #[rawInt 0, rawInt NN, rawInt 1] }).get? b = some o := fun b o e => Heap.get?_push_of_some _ (kA b o e)
  have ltI : ∀ b o, s1.heap.get? b = some o → b ≠ I := fun b o e => Nat.ne_of_lt (Nat.lt_of_lt_of_le (Heap.lt_size e) (by rw [← hI, zA]; exact Nat.le_succ _))
  have H2 : LS sc L W Cs s0 (1 + 4 * 0) en ⟨hA.push { cls := .type "range_iterator", data := .fields #[rawInt 0, rawInt NN, rawInt 1] }, s1.gens, s1.drawn, s1.toks + 1 + 1 + 1, s1.os⟩ := H1.keeps ⟨_, _, rfl, kk⟩ C.WL
  obtain ⟨mm, hnm, _, _⟩ := H1.ns
  obtain ⟨tkw, ow, ew, _⟩ := H1.hW
  obtain ⟨oc, ec, _⟩ := H1.cs C
  obtain ⟨oL, _, _, eL, _⟩ := hnm
  have nB : base.objs.size ≤ I := Nat.le_trans C.bL (by rw [← hI, zA]; exact Nat.le_trans (Nat.le_of_lt (Heap.lt_size eL)) (Nat.le_succ _))
  have T0 : Turn w base mg mb A q sc L a cd W Cs vals cells I NN 0 ⟨hA.push { cls := .type "range_iterator", data := .fields #[rawInt 0, rawInt NN, rawInt 1] }, s1.gens, s1.drawn, s1.toks + 1 + 1 + 1, s1.os⟩ :=
    LS.turn C H2 (by rw [← hI]; exact Heap.get?_push_size _ rfl) (Ne.symm (ltI _ _ ew)) (Ne.symm (ltI _ _ eL)) (Ne.symm (ltI _ _ ec)) nB
  have hend : ∀ s', Rest s0 s' → base.StaysIn s'.heap → wpAny (model PySem.Challenge.rw_pf0024_01.row.prog w) A (execs rest (envOf q sc L a cd)) Q E s' := hQ
  refine codeAny_forLoop (fun n s' => ∃ i, Turn w base mg mb A q sc L a cd W Cs vals cells I NN i s' ∧ n = NN - i ∧ i ≤ NN ∧ Rest s0 s') ?_ NN ⟨0, T0, rfl, Nat.zero_le _, H2.rest⟩
  rintro n s' ⟨i, X, rfl, hi, rs⟩
  by_cases q : i < NN
  · refine wpAny_pyNext_range_item X.it (by omega) fun h' it' hs' => ?_
    obtain ⟨C', H'⟩ := X.poke (t := s'.toks + 1) (fun b o nb e => (hs'.2 b nb).trans e)
    refine wpAny_assign_Name (H'.store C' nt.loc nt.dbg nt.well ⟨_, .int _ _⟩ fun s2 H3 k3 => ?_)
    refine body C' N D (by omega) H3 m4 m5 m6 m7 m9 m11 fun s4 en' H4 => ?_
    refine ⟨NN - (i + 1), by omega, i + 1, LS.turn C' (by rw [show 1 + 4 * (i + 1) = 1 + 4 * i + 4 by omega]; exact H4) ?_ X.nW X.nL X.nC X.nB, rfl, q, rs.trans ((⟨rfl, rfl⟩ : Rest s' ⟨h', s'.gens, s'.drawn, s'.toks + 1, s'.os⟩).trans H4.rest)⟩
    have := H4.but _ _ it' X.nW X.nL
    have e1 : (i : Int) + 1 = ((i + 1 : Nat) : Int) := by omega
    have e2 : (NN : Int) - i - 1 = (NN : Int) - ((i : Int) + 1) := by omega
    rw [e2] at this
    rw [← e1]
    exact this
  · refine wpAny_pyNext_range_end X.lc.handled X.it (by omega) fun h' hx => wpAny_execs_nil ?_
    obtain ⟨C', H'⟩ := X.poke (t := s'.toks) (fun b o nb e => hx b o nb e)
    exact hend { s' with heap := h' } (rs.trans ⟨rfl, rfl⟩) C'.st0
end
end Mine
-- L9
open PySem PySem.W PyProof.Rows PySem.Calls PySem.SeqAt
namespace Mine
section
variable {w : World} {mg mb : Str → Option Value} {q : Str} {sc : Scope} {L a : Addr} {cd : Value} {s1 : Shared} {h1 : Heap} {m : Str → Option Value} {l : Addr} {vals0 : List Value} {zs : List Int} {scope : Scope}
variable {X4 Y4 X5 Y5 X6 Y6 X7 Y7 X9 Y9 X11 Y11 : Expr} {kk1 kk2 kk3 : Nat} {t : Nat} {E : Value → Shared → Prop} {Q : Flow → Shared → Prop}
variable {p1 p2 p3 p4 p5 p6 p7 p8 p9 p10 p11 p12 p13 r1 r2 a1 a2 a3 a4 a5 a6 a7 a8 a9 b1 b2 b3 b4 b5 b6 b7 b8 c1 c2 c3 c4 c5 c6 c7 c8 c9 c10 c11 c12 d1 d2 d3 d4 d5 d6 e1 e2 e3 e4 e5 e6 f1 f2 f3 f4 f5 f6 g1 g2 g3 g4 g5 g6 w1 w2 w3 w4 w5 w6 w7 w8 w9 w10 w11 i1 i2 i3 i4 i5 i6 j1 j2 j3 j4 j5 j6 j7 j8 j9 j10 j11 j12 k1 k2 k3 k4 k5 k6 l1 l2 l3 l4 l5 l6 l7 l8 l9 l10 : Pos}
theorem law_run (KX : (heapK w.params).In s1.heap) (T : TopRead viewK (looseW viewK namesL) mg mb s1.heap) (hfr : callerA.frames = some []) (F : Fr s1.heap L h1 m) (hm : m "script" = some (.ref l)) (hl : s1.heap.IsList l vals0.toArray) (hi : IntsAre vals0 zs) (hlen : vals0.length ≤ 1000) (hk : sc.kind = .function)
    (N : LN sc) (nt : Nm sc "turn") (gr : sc.names.lookup ("range" : Str) = some .globalImplicit) (gd : sc.names.lookup ("_law_dip" : Str) = some .globalImplicit) (locS : sc.names.lookup ("script" : Str) = some .local) (locW : sc.names.lookup ("well" : Str) = some .local)
    (hfree : ∀ y ∈ scope.names, y.2 ≠ .free) (hcell : ∀ y ∈ scope.names, y.2 ≠ .cell) (hkind : scope.kind = .function) (hnames : ∀ y ∈ scope.names, y.2 = .local → scope.names.lookup y.1 = some .local) (hx : scope.names.lookup ("cell" : Str) = some .local) (habs : scope.names.lookup ("abs" : Str) = some .globalImplicit)
    (m4 : behindInMarks .NotEq Y4 = false) (m5 : behindInMarks .NotEq Y5 = false) (m6 : behindInMarks .NotEq Y6 = false) (m7 : behindInMarks .NotEq Y7 = false) (m9 : behindInMarks .NotEq Y9 = false) (m11 : behindInMarks .NotEq Y11 = false)
    (D : TD X4 Y4 X5 Y5 X6 Y6 X7 Y7 X9 Y9 X11 Y11)
    (hQ : ∀ s', Rest s1 s' → (∀ b o, s1.heap.get? b = some o → s'.heap.get? b = some o) → Q (.ret (.bool true)) s') :
    wpAny (model PySem.Challenge.rw_pf0024_01.row.prog w) (callerA.deeper (envOf q sc L a cd)) (execs [.Assign [.Name "well" p1] (.List [.ListComp (.Call (.Name "abs" p2) [.Name "cell" p3] [] p4) [⟨.Name "cell" p5, .Subscript (.Name "script" p6) (.Slice none (some (.Constant (.int 24) 0 p7)) none p8) p9, [], 0⟩] scope p10, .Constant (.int 0) 0 p11] p12) p13,
      .For (.Name "turn" l1) (.Call (.Name "range" l2) [.BinOp (.Constant (.int 1) 0 l3) .Add (dipOf 2 l4 l5 l6 l7) l8] [] l9) [
      .Assign [.Name "word" a1] (.Subscript (.Call (.Name "_law_words" a2) [] [] a3) (dipOf 10 a4 a5 a6 a7) a8) a9,
      .Assign [.Name "is_call" b1] (.Compare (.Subscript (.Name "word" b2) (.Slice none (some (.Constant (.int 2) 0 b3)) none b4) b5) [.Eq] [.Constant (.str "FN") 0 b6] b7) b8,
      .Assign [.Tuple [.Name "row" c1, .Name "tree" c2] kk1 c3] (.Subscript (.Call (.Name "_law_places" c4) [.Name "word" c5] [] c6) (dipOf 21 c7 c8 c9 c10) c11) c12,
      ifHeard X4 Y4 d1 d2 d3 d4 d5 d6, ifHeard X5 Y5 e1 e2 e3 e4 e5 e6, ifHeard X6 Y6 f1 f2 f3 f4 f5 f6, ifHeard X7 Y7 g1 g2 g3 g4 g5 g6,
      .Assign [.Tuple [.Name "figures" w1, .Name "number" w2] kk2 w3] (.Subscript (.Call (.Name "_law_numbers" w4) [] [] w5) (dipOf 6 w6 w7 w8 w9) w10) w11,
      ifHeard X9 Y9 i1 i2 i3 i4 i5 i6,
      .Assign [.Tuple [.Name "told" j1, .Name "channel" j2, .Name "size" j3] kk3 j4] (.Subscript (.Call (.Name "_law_opened" j5) [] [] j6) (dipOf 9 j7 j8 j9 j10) j11) j12,
      ifHeard X11 Y11 k1 k2 k3 k4 k5 k6] [] l10,
      .Return (some (.Constant (.bool true) 0 r1)) r2] (envOf q sc L a cd)) Q E { s1 with heap := h1, toks := t } := by
  refine start KX T rfl F hm hl hi hlen hk locS locW hfree hcell hkind hnames hx habs fun s' W Cs vals cells rs st hn hW hCs hI hln n1 n2 n3 bW => ?_
  have C : LC w s1.heap mg mb (callerA.deeper (envOf q sc L a cd)) q sc L a cd W Cs vals cells s' :=
    ⟨KX, T, Around.frames_deeper hfr, rfl, (show callerA.depth + 1 + 450 < recursionLimit by decide), (show callerA.units + 3 + 3000 < cLine by decide), hk, st, hCs, n1, n2, n3, bW, F.above, hln, hI, locW, gd⟩
  refine loop C (LS.fresh hn hW) N nt gr D m4 m5 m6 m7 m9 m11 fun s2 r2 st2 => ?_
  refine wpAny_execs_cons (wpAny_Return_some (wpAny_Constant_bool ?_))
  exact hQ s2 ((⟨rs.gens, rs.os⟩ : Rest s1 s').trans r2) st2
end
end Mine
-- Fin1
open PySem PySem.W PyProof.Rows PySem.Calls PySem.SeqAt Mine
namespace Mine
theorem names_of {scope : Scope} (h : (scope.names.all fun y => match y.2 with | .local => decide (scope.names.lookup y.1 = some .local) | _ => true) = true) : ∀ y ∈ scope.names, y.2 = .local → scope.names.lookup y.1 = some .local := fun y m e => by
  have := List.all_eq_true.mp h y m
  rw [e] at this
  exact of_decide_eq_true this
theorem free_of {scope : Scope} {k : NameKind} (h : (scope.names.all fun y => decide (y.2 ≠ k)) = true) : ∀ y ∈ scope.names, y.2 ≠ k := fun y m => of_decide_eq_true (List.all_eq_true.mp h y m)
theorem law_post (zz : List Int) : PySem.Challenge.rw_pf0024_01.row.claim.post [ofPy (PyData.list (List.map PyData.int zz))] (WData.bool true) [ofPy (PyData.list (List.map PyData.int zz))] = true := by
  refine postW_of (X := true) ?_ ?_ ?_
  all_goals first | rfl | kernel_rfl | decide +kernel
end Mine
theorem PySem.Challenge.cw_pf0024_01_holds : PySem.Challenge.rw_pf0024_01.Holds :=
  head (by
  intro w s₀ s₁ mg mb G Y fa o pm cd doc dV kV ho hd hcd hD hmg hg args vals as hpre hlay hrd hwl hlo
  have KX := kIn_of Y
  refine Ground.open G ?_
  intro T B D TE TW
  obtain ⟨_, _, M⟩ := bmod_of_top T
  have TA := at_of_top T
  clear hmg
  wrow_args hpre hlay hrd hwl hlo
  refine enter_call ?_
  refine codeAny_mono ?_ (fun _ _ g => GoodW.toG g)
  have K0 := below_caller (Top.heap T)
  w_call any ho hd hcd hD T F
  rename_i w7 w6 zz hs hlay0 hL1 hr1 hl2 w4 w3 l vals w0 hL ra w1x r0 hI hr hcond1 hcond h1 N0
  have hvl : vals.length ≤ 1000 := by
    have e := hI.length
    have c : ¬ (63 : Int) < (zz.length : Int) := hcond1
    omega
  refine law_run (vals0 := vals) (zs := zz) (l := l) KX (topRead_of T) rfl F rfl hL hI hvl rfl ?_ ?_ ?_ ?_ ?_ ?_ (free_of ?_) (free_of ?_) ?_ (names_of ?_) ?_ ?_ ?_ ?_ ?_ ?_ ?_ ?_ ?_ ?_
  · exact ⟨⟨by kernel_rfl, by decide +kernel, by decide +kernel⟩, ⟨by kernel_rfl, by decide +kernel, by decide +kernel⟩, ⟨by kernel_rfl, by decide +kernel, by decide +kernel⟩, ⟨by kernel_rfl, by decide +kernel, by decide +kernel⟩, ⟨by kernel_rfl, by decide +kernel, by decide +kernel⟩, ⟨by kernel_rfl, by decide +kernel, by decide +kernel⟩, ⟨by kernel_rfl, by decide +kernel, by decide +kernel⟩, ⟨by kernel_rfl, by decide +kernel, by decide +kernel⟩, ⟨by kernel_rfl, by decide +kernel, by decide +kernel⟩,
      by kernel_rfl, by kernel_rfl, by kernel_rfl, by kernel_rfl, by kernel_rfl, by kernel_rfl⟩
  · exact ⟨by kernel_rfl, by decide +kernel, by decide +kernel⟩
  · kernel_rfl
  · kernel_rfl
  · kernel_rfl
  · kernel_rfl
  · kernel_rfl
  · kernel_rfl
  · kernel_rfl
  · kernel_rfl
  · kernel_rfl
  · kernel_rfl
  · kernel_rfl
  · kernel_rfl
  · kernel_rfl
  · kernel_rfl
  · kernel_rfl
  · kernel_rfl
  · refine Eq.mp ?_ (td w)
    kernel_rfl
  · intro s' rs kk
    refine ⟨.inl ⟨.bool true, .bool true, [], rfl, fun _ => rfl, .bool true, ?_, fun _ => ⟨List.nodup_nil, fun _ m => nomatch m⟩⟩, kk, rs.os, rs.gens.trans hg⟩
    exact law_post zz)
