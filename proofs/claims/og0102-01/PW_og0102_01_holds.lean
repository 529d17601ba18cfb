import PyProof.Rows.All
import Wide.All
import OpenK.AllK
import Wide.FinOn
import Lean
import PySem.Challenge.RW_og0102_01
open PySem PySem.W PyProof.Rows PySem.SeqAt
set_option Elab.async false
set_option maxRecDepth 100000
set_option maxHeartbeats 0
set_option linter.unusedVariables false
set_option linter.unusedSimpArgs false
set_option linter.unnecessarySimpa false
set_option bootstrap.genMatcherCode false
set_option compiler.extract_closed false
set_option genSizeOf false
namespace Mine
local macro_rules | `(tactic| walk_at "z") => `(tactic| refine Classical.byContradiction fun $(Lean.mkIdent `hN) => ?_)
local macro_rules | `(tactic| walk_at "y") => `(tactic| (refine $(Lean.mkIdent `hN) ?_; clear $(Lean.mkIdent `hN)))
noncomputable abbrev pg : Program := PySem.Challenge.pw_og0102_01
noncomputable def stAt (i : Nat) : Stmt := (pg.main.body[i]?).getD (.Pass ⟨0, 0, 0, 0⟩)
set_option backward.match.sparseCases false in
noncomputable def clsSt (i j : Nat) : Stmt := match stAt i with
 | .ClassDef _ _ _ b _ _ _ _ _ _ _ => (b[j]?).getD (.Pass ⟨0, 0, 0, 0⟩)
 | _ => .Pass ⟨0, 0, 0, 0⟩
set_option backward.match.sparseCases false in
noncomputable def strOf : Stmt → Str
 | .Assign _ (.Constant (.str x) _ _) _ => x
 | _ => Str.empty
noncomputable def resS : Str := strOf (stAt 69)
set_option backward.match.sparseCases false in
noncomputable def fnD (st : Stmt) (q : Str) (dV cd pm : Value) : FuncData := match st with
 | .FunctionDef name args body _ _ _ scope _ _ _ => { name, qualname := q, params := args, body := .stmts body, scope, globals := mainGlobals, closure := [], defaults := dV, kwdefaults := .none, pyModule := pm, code := cd, closureTuple := .none, builtins := builtinsNs }
 | _ => default
noncomputable def fnO (st : Stmt) (q : Str) (dV cd pm : Value) : Obj := { cls := .type "function", data := .func (fnD st q dV cd pm) }
noncomputable def cdO (vs : List Value) : Obj := { cls := .type "code", data := .fields vs.toArray }
noncomputable def cdF (a b : Str) (t l n f u : Nat) : Obj := cdO [.str a t, .str b (t + 1), .str "/claim/cut.py" (t + 2), .int l 0, .int n 0, .int 0 0, .int 0 0, .int 3 0, .ref f, .bool true, .int 181 0, .ref (f + 1), .none, .ref (f + 2), .ref (f + 3), .ref (f + 4), .int u 0, .int l 0, .str "/claim/cut.py" (u + 1)]
noncomputable def cdE (a : Str) (t l n f u : Nat) : Obj := cdF a a t l n f u
noncomputable abbrev md0 : Value := .str "ledgerspeak.decimals" 268
noncomputable abbrev md1 : Value := .str "ledgerspeak.columns" 351
noncomputable abbrev md2 : Value := .str "ledgerspeak.tokens" 393
noncomputable abbrev md3 : Value := .str "ledgerspeak.references" 654
noncomputable abbrev md4 : Value := .str "ledgerspeak.reader" 802
noncomputable abbrev md5 : Value := .str "law_og0102_01" 1027
noncomputable def tpO (vs : List Value) (n : Nat) : Obj := { cls := .type "tuple", data := .seq vs.toArray n }
noncomputable def ke (P : Params) (k : Str) (t : Tok) (v : Value) : DictEntry := ⟨PyData.keyHash P k, .str k t, v⟩
noncomputable def dictOf' (es : List DictEntry) (n : Nat) : Obj := { cls := .type "dict", data := .dict es.toArray n }
noncomputable def clO (slots : List (Option Value)) (name : Str) (bases mro : List Value) (ns : Addr) (qual : Str) (subs : List Value) : Obj :=
 { cls := .type "type", data := .cls { name, bases, mro, ns, qualname := qual, subclasses := subs }, slots := slots.toArray }
noncomputable def kTop (P : Params) : Obj := dictOf' [
ke P "__name__" 165 md5, ke P "__doc__" 166 .none, ke P "__package__" 167 .none, ke P "__loader__" 168 (.builtin "__main__.__loader__#opaque"), ke P "__spec__" 169 .none, ke P "__annotations__" 170 (.ref 6), ke P "__builtins__" 171 (.ref 4), ke P "__file__" 173 (.str "/claim/cut.py" 172), ke P "__cached__" 174 .none, ke P "_wall" 193 (.ref 21), ke P "LedgerError" 235 (.ref 47), ke P "TokenFault" 251 (.ref 60), ke P "GrammarFault" 267 (.ref 72), ke P "FIGURES_decimals" 271 (.str "0123456789" 270), ke P "cut_quotient" 279 (.ref 81), ke P "decimal" 288 (.ref 89), ke P "negated" 295 (.ref 96), ke P "units_at" 306 (.ref 103), ke P "is_whole" 313 (.ref 110), ke P "whole_of" 320 (.ref 117), ke P "worth_of" 329 (.ref 124), ke P "read_decimal" 342 (.ref 131), ke P "write_decimal" 350 (.ref 138), ke P "QUOTES" 354 (.str "\"'" 353), ke P "Line" 392 (.ref 162), ke P "LETTERS" 396 (.str "ABCDEFGHIJKLMNOPQRSTUVWXYZ" 395), ke P "FIGURES_tokens" 398 (.str "0123456789" 397), ke P "WORD_SIGNS" 402 (.str "ABCDEFGHIJKLMNOPQRSTUVWXYZ0123456789-" 401), ke P "SINGLE_SIGNS" 404 (.str "():+-*/=<>" 403), ke P "DOUBLE_SIGNS" 406 (.str "** <= >=" 405), ke P "ENDS" 408 (.str ".,;" 407), ke P "MOST_WORD" 410 (.int 30 409), ke P "MOST_FIGURES" 412 (.int 18 411), ke P "MOST_LITERAL" 414 (.int 160 413), ke P "Token" 458 (.ref 192), ke P "capital_of" 465 (.ref 203), ke P "capitals" 471 (.ref 208), ke P "is_word_sign" 478 (.ref 215), ke P "is_parted" 486 (.ref 222), ke P "line_fault" 495 (.ref 229), ke P "run_end" 504 (.ref 236), ke P "number_end" 513 (.ref 243), ke P "literal_end" 523 (.ref 250), ke P "picture_end" 532 (.ref 257), ke P "checked_word" 538 (.ref 262), ke P "checked_number" 548 (.ref 269), ke P "checked_literal" 559 (.ref 276), ke P "checked_picture" 568 (.ref 283), ke P "need_apart" 577 (.ref 290), ke P "mark_at" 587 (.ref 297), ke P "worth_at" 600 (.ref 304), ke P "is_blank_at" 608 (.ref 311), ke P "is_picture_next" 615 (.ref 318), ke P "add_tokens" 629 (.ref 325), ke P "is_word_is" 637 (.ref 332), ke P "tokens_of" 646 (.ref 339), ke P "quoted" 653 (.ref 346), ke P "MOST_SUBSCRIPTS" 657 (.int 7 656), ke P "FIGURE_NAMES" 691 (.ref 347), ke P "FIGURE_SHOWN" 707 (.ref 348), ke P "is_part_next" 716 (.ref 355), ke P "read_subscripts" 725 (.ref 362), ke P "read_part" 735 (.ref 369), ke P "read_ref" 747 (.ref 376), ke P "read_all" 755 (.ref 383), ke P "read_figure" 762 (.ref 390), ke P "read_operand" 771 (.ref 397), ke P "shown_octets" 777 (.ref 402), ke P "shown_subscripts" 783 (.ref 407), ke P "show_ref" 793 (.ref 414), ke P "show_operand" 801 (.ref 421), ke P "MOST_OCTET" 805 (.int 255 804), ke P "RESERVED" 807 (.str resS 806), ke P "is_reserved" 814 (.ref 428), ke P "octets_of_text" 820 (.ref 433), ke P "Reader" 1026 (.ref 602), ke P "_law_draw" 1039 (.ref 613), ke P "_law_numbers" 1045 (.ref 620), ke P "_law_texts" 1050 (.ref 621), ke P "_law_figures" 1056 (.ref 622), ke P "_law_operand" 1062 (.ref 627), ke P "_law_expr" 1072 (.ref 634), ke P "_law_show" 1079 (.ref 641), ke P "_law_read" 1087 (.ref 648), ke P "_law_term" 1094 (.ref 655), ke P "_law_one" 1102 (.ref 662), ke P "_law_told" 1112 (.ref 669), ke P "law" 1118 (.ref 674)] 88
noncomputable def kAddrs : List Nat := 3 :: 29 :: 30 :: 36 :: 37 :: 46 :: 47 :: 71 :: 72 :: 82 :: 88 :: 89 :: 95 :: 96 :: 123 :: 124 :: 130 :: 131 :: 137 :: 138 :: 151 :: 152 :: 161 :: 162 :: 174 :: 175 :: 181 :: 182 :: 191 :: 192 :: 202 :: 203 :: 207 :: 208 :: 214 :: 215 :: 221 :: 222 :: 235 :: 236 :: 242 :: 243 :: 249 :: 250 :: 261 :: 262 :: 268 :: 269 :: 275 :: 276 :: 289 :: 290 :: 296 :: 297 :: 303 :: 304 :: 310 :: 311 :: 317 :: 318 :: 324 :: 325 :: 338 :: 339 :: 345 :: 346 :: 347 :: 348 :: 354 :: 355 :: 361 :: 362 :: 368 :: 369 :: 375 :: 376 :: 382 :: 383 :: 389 :: 390 :: 396 :: 397 :: 401 :: 402 :: 406 :: 407 :: 413 :: 414 :: 420 :: 421 :: 427 :: 428 :: 432 :: 433 :: 441 :: 447 :: 448 :: 449 :: 455 :: 456 :: 462 :: 463 :: 469 :: 470 :: 476 :: 477 :: 478 :: 484 :: 485 :: 491 :: 492 :: 498 :: 499 :: 512 :: 513 :: 521 :: 527 :: 528 :: 534 :: 535 :: 543 :: 549 :: 550 :: 556 :: 557 :: 563 :: 564 :: 570 :: 571 :: 577 :: 578 :: 598 :: 599 :: 601 :: 602 :: 612 :: 613 :: 619 :: 620 :: 621 :: 622 :: 626 :: 627 :: 633 :: 634 :: 640 :: 641 :: 647 :: 648 :: 654 :: 655 :: 661 :: 662 :: 668 :: 669 :: 673 :: 674 :: []
noncomputable def kObjs (P : Params) : List (Option Obj) :=
 some (kTop P) ::
 some (tpO [.int 0 208, .int 0 209] 0) ::
 some (tpO [.ref 29] 0) ::
 some (cdF "__init__" "LedgerError.__init__" 210 7 3 31 216) ::
 some (fnO (clsSt 2 0) "LedgerError.__init__" (.ref 30) (.ref 36) (.str "ledgerspeak.errors" 194)) ::
 some (dictOf' [ke P "__module__" 203 (.str "ledgerspeak.errors" 194), ke P "__firstlineno__" 207 (.int 5 206), ke P "__init__" 218 (.ref 37), ke P "told" 225 (.ref 44), ke P "__static_attributes__" 228 (.ref 45), ke P "__weakref__" 230 (.ref 48), ke P "__doc__" 231 .none] 3) ::
 some (clO [some (.ref 22), none, some (.str "LedgerError" 196), some (.str "LedgerError" 204), some (.builtin "Exception.__new__"), some (.bool true)] "LedgerError" [.type "Exception"] [.ref 47, .type "Exception", .type "BaseException", .type "object"] 46 "LedgerError" [.ref 60, .ref 72]) ::
 some (dictOf' [ke P "__module__" 259 (.str "ledgerspeak.errors" 194), ke P "__firstlineno__" 263 (.int 16 262), ke P "__static_attributes__" 264 (.ref 70), ke P "__doc__" 265 .none] 2) ::
 some (clO [some (.ref 63), none, some (.str "GrammarFault" 252), some (.str "GrammarFault" 260), some (.builtin "Exception.__new__"), some (.bool true)] "GrammarFault" [.ref 47] [.ref 72, .ref 47, .type "Exception", .type "BaseException", .type "object"] 71 "GrammarFault" []) ::
 some (tpO [.int 0 280] 0) ::
 some (cdE "decimal" 281 24 2 83 286) ::
 some (fnO (stAt 8) "decimal" (.ref 82) (.ref 88) md0) ::
 some (cdE "negated" 289 31 1 90 293) ::
 some (fnO (stAt 9) "negated" .none (.ref 95) md0) ::
 some (cdE "worth_of" 321 45 1 118 327) ::
 some (fnO (stAt 13) "worth_of" .none (.ref 123) md0) ::
 some (cdE "read_decimal" 330 50 1 125 340) ::
 some (fnO (stAt 14) "read_decimal" .none (.ref 130) md0) ::
 some (cdE "write_decimal" 343 65 1 132 348) ::
 some (fnO (stAt 15) "write_decimal" .none (.ref 137) md0) ::
 some (cdF "__init__" "Line.__init__" 367 75 3 146 373) ::
 some (fnO (clsSt 18 0) "Line.__init__" .none (.ref 151) md1) ::
 some (dictOf' [ke P "__module__" 362 md1, ke P "__firstlineno__" 366 (.int 73 365), ke P "__init__" 375 (.ref 152), ke P "told" 382 (.ref 159), ke P "__static_attributes__" 385 (.ref 160), ke P "__dict__" 387 (.ref 163), ke P "__weakref__" 389 (.ref 164), ke P "__doc__" 390 .none] 4) ::
 some (clO [none, none, some (.str "Line" 355), some (.str "Line" 363), some (.builtin "object.__new__"), some (.bool true)] "Line" [.type "object"] [.ref 162, .type "object"] 161 "Line" []) ::
 some (tpO [.int 0 427, .int 0 428] 0) ::
 some (tpO [.ref 174, .bool false] 0) ::
 some (cdF "__init__" "Token.__init__" 429 93 5 176 437) ::
 some (fnO (clsSt 29 0) "Token.__init__" (.ref 175) (.ref 181) md2) ::
 some (dictOf' [ke P "__module__" 422 md2, ke P "__firstlineno__" 426 (.int 91 425), ke P "__init__" 439 (.ref 182), ke P "told" 446 (.ref 189), ke P "__static_attributes__" 451 (.ref 190), ke P "__dict__" 453 (.ref 193), ke P "__weakref__" 455 (.ref 194), ke P "__doc__" 456 .none] 4) ::
 some (clO [none, none, some (.str "Token" 415), some (.str "Token" 423), some (.builtin "object.__new__"), some (.bool true)] "Token" [.type "object"] [.ref 192, .type "object"] 191 "Token" []) ::
 some (cdE "capital_of" 459 101 1 197 463) ::
 some (fnO (stAt 30) "capital_of" .none (.ref 202) md2) ::
 some (cdO [.str "capitals" 466, .str "capitals" 467, .str "/claim/cut.py" 468, .int 103 0, .int 1 0, .int 0 0, .int 0 0, .int 3 0, .ref 204, .bool true, .int 181 0, .ref 205, .none, .none, .none, .ref 206, .int 469 0, .int 103 0, .str "/claim/cut.py" 470]) ::
 some (fnO (stAt 31) "capitals" .none (.ref 207) md2) ::
 some (cdE "is_word_sign" 472 105 1 209 476) ::
 some (fnO (stAt 32) "is_word_sign" .none (.ref 214) md2) ::
 some (cdE "is_parted" 479 107 2 216 484) ::
 some (fnO (stAt 33) "is_parted" .none (.ref 221) md2) ::
 some (cdE "run_end" 496 111 3 230 502) ::
 some (fnO (stAt 35) "run_end" .none (.ref 235) md2) ::
 some (cdE "number_end" 505 115 2 237 511) ::
 some (fnO (stAt 36) "number_end" .none (.ref 242) md2) ::
 some (cdE "literal_end" 514 120 2 244 521) ::
 some (fnO (stAt 37) "literal_end" .none (.ref 249) md2) ::
 some (cdO [.str "checked_word" 533, .str "checked_word" 534, .str "/claim/cut.py" 535, .int 136 0, .int 3 0, .int 0 0, .int 0 0, .int 3 0, .ref 258, .bool true, .int 181 0, .ref 259, .none, .none, .none, .ref 260, .int 536 0, .int 136 0, .str "/claim/cut.py" 537]) ::
 some (fnO (stAt 39) "checked_word" .none (.ref 261) md2) ::
 some (cdE "checked_number" 539 145 3 263 546) ::
 some (fnO (stAt 40) "checked_number" .none (.ref 268) md2) ::
 some (cdE "checked_literal" 549 150 3 270 557) ::
 some (fnO (stAt 41) "checked_literal" .none (.ref 275) md2) ::
 some (cdE "need_apart" 569 161 2 284 575) ::
 some (fnO (stAt 43) "need_apart" .none (.ref 289) md2) ::
 some (cdE "mark_at" 578 169 2 291 585) ::
 some (fnO (stAt 44) "mark_at" .none (.ref 296) md2) ::
 some (cdE "worth_at" 588 179 2 298 598) ::
 some (fnO (stAt 45) "worth_at" .none (.ref 303) md2) ::
 some (cdE "is_blank_at" 601 199 2 305 606) ::
 some (fnO (stAt 46) "is_blank_at" .none (.ref 310) md2) ::
 some (cdE "is_picture_next" 609 201 1 312 613) ::
 some (fnO (stAt 47) "is_picture_next" .none (.ref 317) md2) ::
 some (cdE "add_tokens" 616 203 2 319 627) ::
 some (fnO (stAt 48) "add_tokens" .none (.ref 324) md2) ::
 some (cdE "tokens_of" 638 225 1 333 644) ::
 some (fnO (stAt 50) "tokens_of" .none (.ref 338) md2) ::
 some (cdE "quoted" 647 230 1 340 651) ::
 some (fnO (stAt 51) "quoted" .none (.ref 345) md2) ::
 some (dictOf' [ke P "ZERO" 658 (.str "ZERO" 659), ke P "ZEROS" 660 (.str "ZERO" 661), ke P "ZEROES" 662 (.str "ZERO" 663), ke P "SPACE" 664 (.str "SPACE" 665), ke P "SPACES" 666 (.str "SPACE" 667), ke P "HIGH-VALUE" 668 (.str "HIGH" 669), ke P "HIGH-VALUES" 670 (.str "HIGH" 671), ke P "LOW-VALUE" 672 (.str "LOW" 673), ke P "LOW-VALUES" 674 (.str "LOW" 675), ke P "QUOTE" 676 (.str "QUOTE" 677), ke P "QUOTES" 678 (.str "QUOTE" 679)] 11) ::
 some (dictOf' [ke P "ZERO" 692 (.str "ZERO" 693), ke P "SPACE" 694 (.str "SPACE" 695), ke P "HIGH" 696 (.str "HIGH-VALUE" 697), ke P "LOW" 698 (.str "LOW-VALUE" 699), ke P "QUOTE" 700 (.str "QUOTE" 701)] 5) ::
 some (cdE "is_part_next" 708 236 1 349 714) ::
 some (fnO (stAt 56) "is_part_next" .none (.ref 354) md3) ::
 some (cdE "read_subscripts" 717 249 2 356 723) ::
 some (fnO (stAt 57) "read_subscripts" .none (.ref 361) md3) ::
 some (cdE "read_part" 726 257 2 363 733) ::
 some (fnO (stAt 58) "read_part" .none (.ref 368) md3) ::
 some (cdE "read_ref" 736 264 2 370 745) ::
 some (fnO (stAt 59) "read_ref" .none (.ref 375) md3) ::
 some (cdE "read_all" 748 274 1 377 753) ::
 some (fnO (stAt 60) "read_all" .none (.ref 382) md3) ::
 some (cdE "read_figure" 756 281 1 384 760) ::
 some (fnO (stAt 61) "read_figure" .none (.ref 389) md3) ::
 some (cdE "read_operand" 763 285 2 391 769) ::
 some (fnO (stAt 62) "read_operand" .none (.ref 396) md3) ::
 some (cdO [.str "shown_octets" 772, .str "shown_octets" 773, .str "/claim/cut.py" 774, .int 294 0, .int 1 0, .int 0 0, .int 0 0, .int 3 0, .ref 398, .bool true, .int 181 0, .ref 399, .none, .none, .none, .ref 400, .int 775 0, .int 294 0, .str "/claim/cut.py" 776]) ::
 some (fnO (stAt 63) "shown_octets" .none (.ref 401) md3) ::
 some (cdO [.str "shown_subscripts" 778, .str "shown_subscripts" 779, .str "/claim/cut.py" 780, .int 296 0, .int 2 0, .int 0 0, .int 0 0, .int 3 0, .ref 403, .bool true, .int 181 0, .ref 404, .none, .none, .none, .ref 405, .int 781 0, .int 296 0, .str "/claim/cut.py" 782]) ::
 some (fnO (stAt 64) "shown_subscripts" .none (.ref 406) md3) ::
 some (cdE "show_ref" 784 301 2 408 791) ::
 some (fnO (stAt 65) "show_ref" .none (.ref 413) md3) ::
 some (cdE "show_operand" 794 309 2 415 799) ::
 some (fnO (stAt 66) "show_operand" .none (.ref 420) md3) ::
 some (cdE "is_reserved" 808 320 1 422 812) ::
 some (fnO (stAt 70) "is_reserved" .none (.ref 427) md4) ::
 some (cdO [.str "octets_of_text" 815, .str "octets_of_text" 816, .str "/claim/cut.py" 817, .int 322 0, .int 1 0, .int 0 0, .int 0 0, .int 3 0, .ref 429, .bool true, .int 181 0, .ref 430, .none, .none, .none, .ref 431, .int 818 0, .int 322 0, .str "/claim/cut.py" 819]) ::
 some (fnO (stAt 71) "octets_of_text" .none (.ref 432) md4) ::
 some (tpO [.int 0 833] 0) ::
 some (cdF "__init__" "Reader.__init__" 834 329 3 442 840) ::
 some (fnO (clsSt 72 0) "Reader.__init__" (.ref 441) (.ref 447) md4) ::
 some (tpO [.int 0 843] 0) ::
 some (cdF "peek" "Reader.peek" 844 334 2 450 849) ::
 some (fnO (clsSt 72 1) "Reader.peek" (.ref 449) (.ref 455) md4) ::
 some (cdF "is_done" "Reader.is_done" 852 339 1 457 856) ::
 some (fnO (clsSt 72 2) "Reader.is_done" .none (.ref 462) md4) ::
 some (cdF "fault" "Reader.fault" 859 342 2 464 864) ::
 some (fnO (clsSt 72 3) "Reader.fault" .none (.ref 469) md4) ::
 some (cdF "take" "Reader.take" 867 347 1 471 872) ::
 some (fnO (clsSt 72 4) "Reader.take" .none (.ref 476) md4) ::
 some (tpO [.int 0 875] 0) ::
 some (cdF "is_kind" "Reader.is_kind" 876 354 3 479 883) ::
 some (fnO (clsSt 72 5) "Reader.is_kind" (.ref 478) (.ref 484) md4) ::
 some (cdF "is_word" "Reader.is_word" 886 358 2 486 893) ::
 some (fnO (clsSt 72 6) "Reader.is_word" .none (.ref 491) md4) ::
 some (cdF "skip" "Reader.skip" 896 366 2 493 901) ::
 some (fnO (clsSt 72 7) "Reader.skip" .none (.ref 498) md4) ::
 some (cdF "one_of" "Reader.one_of" 912 375 2 507 918) ::
 some (fnO (clsSt 72 9) "Reader.one_of" .none (.ref 512) md4) ::
 some (tpO [.int 0 928] 0) ::
 some (cdF "is_name" "Reader.is_name" 929 386 2 522 934) ::
 some (fnO (clsSt 72 11) "Reader.is_name" (.ref 521) (.ref 527) md4) ::
 some (cdF "name" "Reader.name" 937 389 1 529 941) ::
 some (fnO (clsSt 72 12) "Reader.name" .none (.ref 534) md4) ::
 some (tpO [.int 0 951] 0) ::
 some (cdF "is_sign" "Reader.is_sign" 952 397 3 544 958) ::
 some (fnO (clsSt 72 14) "Reader.is_sign" (.ref 543) (.ref 549) md4) ::
 some (cdF "skip_sign" "Reader.skip_sign" 961 400 2 551 966) ::
 some (fnO (clsSt 72 15) "Reader.skip_sign" .none (.ref 556) md4) ::
 some (cdF "need_sign" "Reader.need_sign" 969 406 2 558 974) ::
 some (fnO (clsSt 72 16) "Reader.need_sign" .none (.ref 563) md4) ::
 some (cdF "is_number" "Reader.is_number" 977 410 1 565 981) ::
 some (fnO (clsSt 72 17) "Reader.is_number" .none (.ref 570) md4) ::
 some (cdF "signed" "Reader.signed" 984 415 1 572 990) ::
 some (fnO (clsSt 72 18) "Reader.signed" .none (.ref 577) md4) ::
 some (cdF "octets" "Reader.octets" 1008 438 1 593 1013) ::
 some (fnO (clsSt 72 21) "Reader.octets" .none (.ref 598) md4) ::
 some (dictOf' [ke P "__module__" 828 md4, ke P "__firstlineno__" 832 (.int 327 831), ke P "__init__" 842 (.ref 448), ke P "peek" 851 (.ref 456), ke P "is_done" 858 (.ref 463), ke P "fault" 866 (.ref 470), ke P "take" 874 (.ref 477), ke P "is_kind" 885 (.ref 485), ke P "is_word" 895 (.ref 492), ke P "skip" 903 (.ref 499), ke P "need" 911 (.ref 506), ke P "one_of" 920 (.ref 513), ke P "word" 927 (.ref 520), ke P "is_name" 936 (.ref 528), ke P "name" 943 (.ref 535), ke P "names" 950 (.ref 542), ke P "is_sign" 960 (.ref 550), ke P "skip_sign" 968 (.ref 557), ke P "need_sign" 976 (.ref 564), ke P "is_number" 983 (.ref 571), ke P "signed" 992 (.ref 578), ke P "whole" 1000 (.ref 585), ke P "literal" 1007 (.ref 592), ke P "octets" 1015 (.ref 599), ke P "__static_attributes__" 1019 (.ref 600), ke P "__dict__" 1021 (.ref 603), ke P "__weakref__" 1023 (.ref 604), ke P "__doc__" 1024 .none] 4) ::
 some (clO [none, none, some (.str "Reader" 821), some (.str "Reader" 829), some (.builtin "object.__new__"), some (.bool true)] "Reader" [.type "object"] [.ref 602, .type "object"] 601 "Reader" []) ::
 some (cdE "_law_draw" 1029 447 2 607 1037) ::
 some (fnO (stAt 74) "_law_draw" .none (.ref 612) md5) ::
 some (cdE "_law_numbers" 1040 454 0 614 1043) ::
 some (fnO (stAt 75) "_law_numbers" .none (.ref 619) md5) ::
 some (tpO [.bytes #[120, 34, 121] 1046, .bytes #[39] 1047, .bytes #[233, 32] 1048, .bytes #[40, 49, 32, 58, 32, 50, 41] 1049] 0) ::
 some (tpO [.str "ZERO" 1051, .str "SPACE" 1052, .str "HIGH" 1053, .str "LOW" 1054, .str "QUOTE" 1055] 0) ::
 some (cdO [.str "_law_operand" 1057, .str "_law_operand" 1058, .str "/claim/cut.py" 1059, .int 458 0, .int 2 0, .int 0 0, .int 0 0, .int 3 0, .ref 623, .bool true, .int 181 0, .ref 624, .none, .none, .none, .ref 625, .int 1060 0, .int 458 0, .str "/claim/cut.py" 1061]) ::
 some (fnO (stAt 78) "_law_operand" .none (.ref 626) md5) ::
 some (cdE "_law_expr" 1063 477 2 628 1070) ::
 some (fnO (stAt 79) "_law_expr" .none (.ref 633) md5) ::
 some (cdE "_law_show" 1073 485 1 635 1077) ::
 some (fnO (stAt 80) "_law_show" .none (.ref 640) md5) ::
 some (cdE "_law_read" 1080 491 1 642 1085) ::
 some (fnO (stAt 81) "_law_read" .none (.ref 647) md5) ::
 some (cdE "_law_term" 1088 496 1 649 1092) ::
 some (fnO (stAt 82) "_law_term" .none (.ref 654) md5) ::
 some (cdE "_law_one" 1095 501 1 656 1100) ::
 some (fnO (stAt 83) "_law_one" .none (.ref 661) md5) ::
 some (cdE "_law_told" 1103 507 1 663 1110) ::
 some (fnO (stAt 84) "_law_told" .none (.ref 668) md5) ::
 some (cdO [.str "law" 1113, .str "law" 1114, .str "/claim/cut.py" 1115, .int 514 0, .int 1 0, .int 0 0, .int 0 0, .int 3 0, .ref 670, .bool true, .int 181 0, .ref 671, .none, .none, .none, .ref 672, .int 1116 0, .int 514 0, .str "/claim/cut.py" 1117]) ::
 some (fnO (stAt 85) "law" .none (.ref 673) md5) :: []
noncomputable def pair : List Nat → List (Option Obj) → Frag
 | a :: as, some o :: os => (a, o) :: pair as os
 | _, _ => []
noncomputable def kFrag (P : Params) : Frag := pair kAddrs (kObjs P)
noncomputable def grab : List Obj → Nat → List Nat → List (Option Obj)
 | [], _, _ => []
 | _ :: _, _, [] => []
 | o :: r, i, a :: as => match Nat.beq a i with
  | true => some o :: grab r (i + 1) as
  | false => grab r (i + 1) (a :: as)
theorem grab_gen : ∀ (l : List Obj) (i : Nat) (as : List Nat) (os : List (Option Obj)), grab l i as = os → ∀ p ∈ pair as os, i ≤ p.1 ∧ l[p.1 - i]? = some p.2
 | [], _, as, os, h, p, hp => by
  obtain rfl : [] = os := h
  cases as <;> cases hp
 | _ :: _, _, [], os, h, p, hp => by cases hp
 | o :: r, i, a :: as, os, h, p, hp => by
  replace h : (match Nat.beq a i with
   | true => some o :: grab r (i + 1) as
   | false => grab r (i + 1) (a :: as)) = os := h
  cases hb : Nat.beq a i with
  | true =>
   rw [hb] at h
   dsimp only at h
   obtain rfl : a = i := Nat.eq_of_beq_eq_true hb
   subst h
   rcases List.mem_cons.mp (show p ∈ (a, o) :: pair as (grab r (a + 1) as) from hp) with rfl | hp
   ·simp
   ·obtain ⟨h1, h2⟩ := grab_gen r (a + 1) as _ rfl p hp
    refine ⟨Nat.le_of_succ_le h1, ?_⟩
    rw [show p.1 - a = (p.1 - (a + 1)) + 1 from (Nat.succ_pred_eq_of_pos (Nat.sub_pos_of_lt h1)).symm, List.getElem?_cons_succ, h2]
  | false =>
   rw [hb] at h
   dsimp only at h
   obtain ⟨h1, h2⟩ := grab_gen r (i + 1) (a :: as) os h p hp
   refine ⟨Nat.le_of_succ_le h1, ?_⟩
   rw [show p.1 - i = (p.1 - (i + 1)) + 1 from (Nat.succ_pred_eq_of_pos (Nat.sub_pos_of_lt h1)).symm, List.getElem?_cons_succ, h2]
theorem mem_of_lookup {K : Frag} {a : Addr} {o : Obj} (h : K.lookup a = some o) : (a, o) ∈ K := by
 induction K with
 | nil => cases h
 | cons p r ih =>
  obtain ⟨b, x⟩ := p
  rw [List.lookup_cons] at h
  split at h
  ·rename_i q; cases h; rw [beq_iff_eq.mp q]; exact .head _
  ·exact .tail _ (ih h)
noncomputable def FIn (K : Frag) (h : Heap) : Prop := ∀ a o, K.lookup a = some o → o.isFreed = false → h.get? a = some o
theorem fIn_of (as : List Nat) (os : List (Option Obj)) (h : Heap) (e : grab h.objs.toList 0 as = os) : FIn (pair as os) h := by
 intro a o hl hf
 obtain ⟨_, h2⟩ := grab_gen _ _ _ _ e _ (mem_of_lookup hl)
 rw [Nat.sub_zero, Array.getElem?_toList] at h2
 exact Heap.get?_some_iff.mpr ⟨h2, hf⟩
noncomputable def mkH (as : List Nat) (val : World → List (Option Obj)) : Hook := ⟨List (Option Obj), fun s => grab s.heap.objs.toList 0 as, val, fun w h => FIn (pair as (val w)) h, fun w s e => fIn_of as (val w) s.heap e, fun _ _ _ x k a o hl hf => k _ _ (x a o hl hf)⟩
noncomputable def mVal (w : World) : List (Option Obj) := kObjs w.params
theorem kFrag_live (P : Params) : (kFrag P).all (fun p => !p.2.isFreed) = true := by rfl
theorem kIn {w : World} {h : Heap} (x : (mkH kAddrs mVal).says w h) : (kFrag w.params).In h := fun a o hl => x a o hl (by
 have hf := List.all_eq_true.mp (kFrag_live w.params) _ (mem_of_lookup hl)
 simpa using hf)
theorem noRoad_app (lk : Look) (b : List Stmt) : ∀ a : List Stmt, noRoadLSs lk (a ++ b) = (noRoadLSs lk a && noRoadLSs lk b)
 | [] => rfl
 | s :: a => by
  show (noRoadLS lk s && noRoadLSs lk (a ++ b)) = ((noRoadLS lk s && noRoadLSs lk a) && noRoadLSs lk b)
  rw [noRoad_app lk b a, Bool.and_assoc]
theorem noRoad_cut (lk : Look) (b : List Stmt) (n : Nat) (s : Stmt) (h1 : noRoadLSs lk (b.take n) = true) (h2 : noRoadLSs lk (b.drop (n + 1)) = true) (hs : b[n]? = some s) (h3 : noRoadLS lk s = true) : noRoadLSs lk b = true := by
 have e : b = b.take n ++ s :: b.drop (n + 1) := by
  obtain ⟨h, e⟩ := List.getElem?_eq_some_iff.mp hs
  rw [← e, ← List.drop_eq_getElem_cons h, List.take_append_drop]
 rw [e, noRoad_app, h1]
 show (true && (noRoadLS lk s && noRoadLSs lk (b.drop (n + 1)))) = true
 rw [h3, h2]; rfl
noncomputable abbrev prog := PySem.Challenge.pw_og0102_01
noncomputable abbrev ol := PySem.Challenge.rw_og0102_01
noncomputable def lkTop : Look := { strict := false, foot := none, bare := [] }
theorem lkTop_is : ({ strict := !(importedModules ol.row.prog.main.body).all cThrough.contains, foot := none, bare := (["vars", "dir", "locals"] : List Str).filter (readsOut ol.row.prog ol.row.prog.main.body) } : Look) = lkTop := by
 have h1 : (!(importedModules ol.row.prog.main.body).all cThrough.contains) = false := by
  have : ((importedModules ol.row.prog.main.body).all cThrough.contains) = true := by
   rw [PySem.W.Fast.te5923862056798008813, PySem.W.Fast.te17691160309236699985]
   kernel_rfl
  rw [this]; rfl
 have h2 : (["vars", "dir", "locals"] : List Str).filter (readsOut ol.row.prog ol.row.prog.main.body) = [] := by
  have : ((["vars", "dir", "locals"] : List Str).filter (readsOut ol.row.prog ol.row.prog.main.body)).isEmpty = true := by
   rw [PySem.W.Fast.te13343964577679436407]
   kernel_rfl
  exact List.isEmpty_iff.mp this
 rw [h1, h2]; rfl
theorem road1 : noRoadLSs lkTop (ol.row.prog.main.body.take 69) = true := by
 rw [PySem.W.Fast.te8326940854005059898]
 kernel_rfl
theorem road2 : noRoadLSs lkTop (ol.row.prog.main.body.drop 70) = true := by
 rw [PySem.W.Fast.te8326940854005059898]
 kernel_rfl
noncomputable def resOk (cs : List Char) : Bool := (cs.head?.map Char.toNat == some 32) && cs.all (fun c => !(c.toNat == 123 || c.toNat == 125 || c.toNat == 46))
noncomputable def resT : Str := (prog.main.body[69]?.map strOf).getD Str.empty
theorem res_ex : ∃ cs : List Char, resT = Str.ofString (String.ofList cs) ∧ resOk cs = true := by
 refine ⟨_, rfl, ?_⟩
 decide +kernel
theorem str_ok (x : Str) (cs : List Char) (e : x = Str.ofString (String.ofList cs)) (ok : resOk cs = true) : lkTop.str x = true := by
 have e : x = ⟨(cs.map Char.toNat).toArray⟩ := e.trans (Fast.ofString_ofList cs)
 obtain ⟨k0, k1⟩ := Bool.and_eq_true_iff.mp ok
 have h0 : x.cps[0]? = some 32 := by
  rw [e]
  cases cs with
  | nil => cases k0
  | cons c r => simpa using k0
 have hall : ∀ n ∈ x.cps.toList, n ≠ 123 ∧ n ≠ 125 ∧ n ≠ 46 := by
  rw [e]
  intro n hn
  obtain ⟨c, hc, rfl⟩ := List.mem_map.mp hn
  have := List.all_eq_true.mp k1 c hc
  simp only [Bool.not_eq_true', Bool.or_eq_false_iff, beq_eq_false_iff_ne] at this
  exact ⟨this.1.1, this.1.2, this.2⟩
 have hf : frameAttrs.contains x = false := by
  cases h : frameAttrs.contains x with
  | false => rfl
  | true =>
   have a := List.all_eq_true.mp (show frameAttrs.all (fun y => y.cps[0]? != some 32) = true by decide +kernel) _ (List.contains_iff_mem.mp h)
   rw [h0] at a; simp at a
 have ho : x.opensWith "__" = false := by
  cases h : x.opensWith "__" with
  | false => rfl
  | true =>
   unfold Str.opensWith at h
   have h2 := congrArg (fun a => a[0]?) (eq_of_beq h)
   revert h2
   rw [show (Str.ofString "__").cps = #[95, 95] from by decide +kernel]
   intro h2
   rw [Array.getElem?_extract] at h2
   simp at h2
   rw [h0] at h2; simp at h2
 have hr : roadStr x = false := by
  unfold roadStr
  have h1 : x.cps.any (fun c => c == 123 || c == 125) = false := by
   rw [← Array.any_toList, List.any_eq_false]
   intro n hn; simp [hall n hn]
  have h2 : x.cps.any (· == 46) = false := by
   rw [← Array.any_toList, List.any_eq_false]
   intro n hn; simp [hall n hn]
  rw [h1, h2]; rfl
 unfold Look.str
 have hw : lkTop.word x = true := by
  unfold Look.word attrL
  rw [hf, ho]; rfl
 rw [hw, hr, Bool.or_true]; rfl
theorem road69 (x : Str) (n : Str) (p q r : Pos) (k : Nat) (hx : lkTop.str x = true) (hn : lkTop.name n = true) : noRoadLS lkTop (.Assign [.Name n p] (.Constant (.str x) k q) r) = true := by
 show (lkTop.stores [.Name n p] && (lkTop.name n && true) && lkTop.str x) = true
 rw [hn, hx]; rfl
theorem res_lk : lkTop.str resT = true := let ⟨cs, e, ok⟩ := res_ex; str_ok _ cs e ok
theorem road : noRoadLSs lkTop ol.row.prog.main.body = true :=
 noRoad_cut lkTop _ 69 _ road1 road2 rfl (road69 _ _ _ _ _ _ res_lk (by decide +kernel))
theorem said : ol.wellSaid = true := by
 unfold OpenLaw.wellSaid OpenRow.wellSaid OpenRow.partSaid looksOpen
 rw [lkTop_is, road]
 repeat' (with_reducible refine look_both ?_ ?_)
 all_goals first | (with_reducible exact Eq.refl true) | ((try simp only [PySem.W.Fast.named_eq, PySem.W.Fast.te6984425678791042302, PySem.W.Fast.te10792542408131684335, PySem.W.Fast.te797321630700447069, PySem.W.Fast.te9572597257264208301, PySem.W.Fast.te16286561074155671207, PySem.W.Fast.te8377067652309620493, PySem.W.Fast.te17119622794617984870, PySem.W.Fast.te14412699480532031325, PySem.W.Fast.te2357444279172408678, PySem.W.Fast.te8179353310426384613, PySem.W.Fast.te10501279942588096481, PySem.W.Fast.te13582783067957832011, PySem.W.Fast.te11788848310118352699, PySem.W.Fast.te482687673346738481, PySem.W.Fast.te12862048085361865435, PySem.W.Fast.te18344453789297297638, PySem.W.Fast.te12879404354523853263, PySem.W.Fast.te13343964577679436407, PySem.W.Fast.te17691160309236699985, PySem.W.Fast.te9807087744658564304, PySem.W.Fast.te12749700546528644094]); kernel_rfl) | decide +kernel
noncomputable def oF : Obj := { cls := .none, data := .fields #[] }
noncomputable def fnT (st : Stmt) (q : Str) (dV cd pm : Value) : Obj := { cls := .none, data := .func { fnD st q dV cd pm with builtins := 0, globals := 0 } }
noncomputable def kk (P : Params) (a : Nat) : Obj := ((kFrag P).lookup a).getD default
noncomputable def dEnts (o : Obj) : List DictEntry := match o.data with | .dict es _ => es.toList | _ => []
noncomputable def topN (P : Params) (k : Nat) (m : List (Nat × DictEntry)) (n : Nat) : Obj := dictOf' (m.foldl (fun l x => l.set x.1 x.2) ((dEnts (kTop P)).take k)) n
noncomputable def upd (t : BT) (l : List (Nat × Obj)) : BT := l.foldl (fun t x => t.ins x.1 x.2) t
noncomputable def bootT (P : Params) : BT := upd .nil [(0, boot_o_0 P), (1, boot_o_1 P), (2, boot_o_2 P), (3, boot_o_3 P), (4, boot_o_4 P), (5, boot_o_5 P), (6, boot_o_6 P), (7, boot_o_7 P), (8, boot_o_8 P), (9, boot_o_9 P), (10, boot_o_10 P)]
noncomputable def fn5 (a : Nat) (ns : List Value) (st : Stmt) (q : Str) : List (Nat × Obj) := [(a, tpO [] 0), (a + 1, oF), (a + 2, tpO ns 0), (a + 3, tpO [] 0), (a + 4, fnT st q .none .none .none)]
noncomputable def fn7 (P : Params) (a : Nat) (ns : List Value) (st : Stmt) (q : Str) : List (Nat × Obj) := fn5 a ns st q ++ [(a + 5, kk P (a + 5)), (a + 6, kk P (a + 6))]
noncomputable def u0 (P : Params) : List (Nat × Obj) := [(11, tpO [] 0),
 (12, oF),
 (13, cdO [.str "<module>" 182, .str "<module>" 183, .str "/claim/cut.py" 184, .int 1 0, .int 0 0, .int 0 0, .int 0 0, .int 0 0, .ref 11, .bool false, .int 181 0, .ref 12, .none, .none, .none, .none, .int 185 0, .int 1 0, .str "/claim/cut.py" 186]),
 (14, (⟨.type "frame", none, .plain, [some (.ref 13), some (.ref 3), some (.ref 3), none, some (.str "__main__" 164), none, some (.ref 0)].toArray⟩ : Obj))]
noncomputable def T0 (P : Params) : BT := upd (bootT P) (u0 P)
noncomputable def u1 (P : Params) : List (Nat × Obj) := [(2, (⟨.none, none, .dict [ke P "type.__subclasses__.Exception.0" 232 (.int 47 0), ke P "type.__subclasses__.Exception.n" 233 (.int 1 0)].toArray 2, [].toArray⟩ : Obj)),
 (3, topN P 11 [(0, ke P "__name__" 165 (.str "ledgerspeak.errors" 194))] 11),
 (12, (⟨.none, none, .fields [.int 1 0, .int 0 0, .ref 20, .int 5 0, .int 0 0, .ref 27].toArray, [].toArray⟩ : Obj))] ++
 fn5 15 [.str "k" 190] (stAt 0) "_wall" ++
 [(20, cdE "_wall" 187 1 1 15 191),
 (21, fnO (stAt 0) "_wall" .none (.ref 20) (.str "__main__" 164)),
 (22, tpO [.type "Exception"] 0),
 (23, (⟨.type "builtin_function_or_method", none, .fields [.builtin "type.__prepare__", .type "type"].toArray, [].toArray⟩ : Obj)),
 (24, dictOf' [ke P "__module__" 203 (.str "ledgerspeak.errors" 194), ke P "__qualname__" 205 (.str "LedgerError" 204), ke P "__firstlineno__" 207 (.int 5 206), ke P "__init__" 218 (.ref 37), ke P "told" 225 (.ref 44), ke P "__static_attributes__" 228 (.ref 45)] 6),
 (25, tpO [] 0),
 (26, (⟨.none, none, .fields [.int 7 0, .int 4 0, .ref 36, .int 12 0, .int 4 0, .ref 43].toArray, [].toArray⟩ : Obj)),
 (27, cdO [.str "LedgerError" 198, .str "LedgerError" 199, .str "/claim/cut.py" 200, .int 5 0, .int 0 0, .int 0 0, .int 0 0, .int 0 0, .ref 25, .bool false, .int 181 0, .ref 26, .none, .none, .none, .none, .int 201 0, .int 5 0, .str "/claim/cut.py" 202]),
 (28, (⟨.type "frame", none, .plain, [some (.ref 27), some (.ref 3), some (.ref 24), none, some (.str "ledgerspeak.errors" 194), none, some (.ref 0)].toArray⟩ : Obj)),
 (29, kk P 29),
 (30, kk P 30)] ++
 fn7 P 31 [.str "self" 213, .str "what" 214, .str "at" 215] (clsSt 2 0) "LedgerError.__init__" ++
 fn5 38 [.str "self" 222] (clsSt 2 1) "LedgerError.told" ++
 [(43, cdF "told" "LedgerError.told" 219 12 1 38 223),
 (44, fnO (clsSt 2 1) "LedgerError.told" .none (.ref 43) (.str "ledgerspeak.errors" 194)),
 (45, tpO [.str "at" 226, .str "what" 227] 0),
 (46, kk P 46),
 (47, clO [some (.ref 22), none, some (.str "LedgerError" 196), some (.str "LedgerError" 204), some (.builtin "Exception.__new__"), some (.bool true)] "LedgerError" [.type "Exception"] [.ref 47, .type "Exception", .type "BaseException", .type "object"] 46 "LedgerError" []),
 (48, (⟨.type "getset_descriptor", none, .fields [.str "__weakref__" 229, .ref 47, .builtin "ExceptionGroup.__weakref__", .none].toArray, [].toArray⟩ : Obj)),
 (49, (⟨.type "super", none, .fields [.ref 47, .ref 47, .ref 47].toArray, [].toArray⟩ : Obj)),
 (50, (⟨.type "builtin_function_or_method", none, .fields [.builtin "object.__init_subclass__", .ref 47].toArray, [].toArray⟩ : Obj))]
noncomputable def T1 (P : Params) : BT := upd (T0 P) (u1 P)
noncomputable def u2 (P : Params) : List (Nat × Obj) := [(3, topN P 13 [(0, ke P "__name__" 165 (.str "ledgerspeak.errors" 194))] 13),
 (12, (⟨.none, none, .fields [.int 1 0, .int 0 0, .ref 20, .int 5 0, .int 0 0, .ref 27, .int 14 0, .int 0 0, .ref 56, .int 16 0, .int 0 0, .ref 68].toArray, [].toArray⟩ : Obj)),
 (47, kk P 47),
 (51, tpO [.ref 47] 0),
 (52, (⟨.type "builtin_function_or_method", none, .fields [.builtin "type.__prepare__", .type "type"].toArray, [].toArray⟩ : Obj)),
 (53, dictOf' [ke P "__module__" 243 (.str "ledgerspeak.errors" 194), ke P "__qualname__" 245 (.str "TokenFault" 244), ke P "__firstlineno__" 247 (.int 14 246), ke P "__static_attributes__" 248 (.ref 58)] 4),
 (54, tpO [] 0),
 (55, oF),
 (56, cdO [.str "TokenFault" 238, .str "TokenFault" 239, .str "/claim/cut.py" 240, .int 14 0, .int 0 0, .int 0 0, .int 0 0, .int 0 0, .ref 54, .bool false, .int 181 0, .ref 55, .none, .none, .none, .none, .int 241 0, .int 14 0, .str "/claim/cut.py" 242]),
 (57, (⟨.type "frame", none, .plain, [some (.ref 56), some (.ref 3), some (.ref 53), none, some (.str "ledgerspeak.errors" 194), none, some (.ref 0)].toArray⟩ : Obj)),
 (58, tpO [] 0),
 (59, dictOf' [ke P "__module__" 243 (.str "ledgerspeak.errors" 194), ke P "__firstlineno__" 247 (.int 14 246), ke P "__static_attributes__" 248 (.ref 58), ke P "__doc__" 249 .none] 2),
 (60, clO [some (.ref 51), none, some (.str "TokenFault" 236), some (.str "TokenFault" 244), some (.builtin "Exception.__new__"), some (.bool true)] "TokenFault" [.ref 47] [.ref 60, .ref 47, .type "Exception", .type "BaseException", .type "object"] 59 "TokenFault" []),
 (61, (⟨.type "super", none, .fields [.ref 60, .ref 60, .ref 60].toArray, [].toArray⟩ : Obj)),
 (62, (⟨.type "builtin_function_or_method", none, .fields [.builtin "object.__init_subclass__", .ref 60].toArray, [].toArray⟩ : Obj)),
 (63, tpO [.ref 47] 0),
 (64, (⟨.type "builtin_function_or_method", none, .fields [.builtin "type.__prepare__", .type "type"].toArray, [].toArray⟩ : Obj)),
 (65, dictOf' [ke P "__module__" 259 (.str "ledgerspeak.errors" 194), ke P "__qualname__" 261 (.str "GrammarFault" 260), ke P "__firstlineno__" 263 (.int 16 262), ke P "__static_attributes__" 264 (.ref 70)] 4),
 (66, tpO [] 0),
 (67, oF),
 (68, cdO [.str "GrammarFault" 254, .str "GrammarFault" 255, .str "/claim/cut.py" 256, .int 16 0, .int 0 0, .int 0 0, .int 0 0, .int 0 0, .ref 66, .bool false, .int 181 0, .ref 67, .none, .none, .none, .none, .int 257 0, .int 16 0, .str "/claim/cut.py" 258]),
 (69, (⟨.type "frame", none, .plain, [some (.ref 68), some (.ref 3), some (.ref 65), none, some (.str "ledgerspeak.errors" 194), none, some (.ref 0)].toArray⟩ : Obj)),
 (70, tpO [] 0),
 (71, kk P 71),
 (72, kk P 72),
 (73, (⟨.type "super", none, .fields [.ref 72, .ref 72, .ref 72].toArray, [].toArray⟩ : Obj)),
 (74, (⟨.type "builtin_function_or_method", none, .fields [.builtin "object.__init_subclass__", .ref 72].toArray, [].toArray⟩ : Obj))]
noncomputable def T2 (P : Params) : BT := upd (T1 P) (u2 P)
noncomputable def u3 (P : Params) : List (Nat × Obj) := [(3, topN P 24 [(0, ke P "__name__" 165 md1)] 24),
 (12, (⟨.none, none, .fields [.int 1 0, .int 0 0, .ref 20, .int 5 0, .int 0 0, .ref 27, .int 14 0, .int 0 0, .ref 56, .int 16 0, .int 0 0, .ref 68, .int 20 0, .int 0 0, .ref 80, .int 24 0, .int 0 0, .ref 88, .int 31 0, .int 0 0, .ref 95, .int 33 0, .int 0 0, .ref 102, .int 41 0, .int 0 0, .ref 109, .int 43 0, .int 0 0, .ref 116, .int 45 0, .int 0 0, .ref 123, .int 50 0, .int 0 0, .ref 130, .int 65 0, .int 0 0, .ref 137].toArray, [].toArray⟩ : Obj))] ++
 fn5 75 [.str "top" 275, .str "bottom" 276] (stAt 7) "cut_quotient" ++
 [(80, cdE "cut_quotient" 272 20 2 75 277),
 (81, fnO (stAt 7) "cut_quotient" .none (.ref 80) md0),
 (82, kk P 82)] ++
 fn7 P 83 [.str "units" 284, .str "scale" 285] (stAt 8) "decimal" ++
 fn7 P 90 [.str "a" 292] (stAt 9) "negated" ++
 fn5 97 [.str "a" 299, .str "scale" 300, .str "is_rounded" 301, .str "size" 302, .str "half" 303] (stAt 10) "units_at" ++
 [(102, cdE "units_at" 296 33 3 97 304),
 (103, fnO (stAt 10) "units_at" .none (.ref 102) md0)] ++
 fn5 104 [.str "a" 310] (stAt 11) "is_whole" ++
 [(109, cdE "is_whole" 307 41 1 104 311),
 (110, fnO (stAt 11) "is_whole" .none (.ref 109) md0)] ++
 fn5 111 [.str "a" 317] (stAt 12) "whole_of" ++
 [(116, cdE "whole_of" 314 43 1 111 318),
 (117, fnO (stAt 12) "whole_of" .none (.ref 116) md0)] ++
 fn7 P 118 [.str "figures" 324, .str "number" 325, .str "figure" 326] (stAt 13) "worth_of" ++
 fn7 P 125 [.str "text" 333, .str "begin" 334, .str "ahead" 335, .str "behind" 336, .str "point" 337, .str "at" 338, .str "units" 339] (stAt 14) "read_decimal" ++
 fn7 P 132 [.str "a" 346, .str "figures" 347] (stAt 15) "write_decimal"
noncomputable def T3 (P : Params) : BT := upd (T2 P) (u3 P)
noncomputable def u4 (P : Params) : List (Nat × Obj) := [(3, topN P 34 [(0, ke P "__name__" 165 md2)] 34),
 (12, (⟨.none, none, .fields [.int 1 0, .int 0 0, .ref 20, .int 5 0, .int 0 0, .ref 27, .int 14 0, .int 0 0, .ref 56, .int 16 0, .int 0 0, .ref 68, .int 20 0, .int 0 0, .ref 80, .int 24 0, .int 0 0, .ref 88, .int 31 0, .int 0 0, .ref 95, .int 33 0, .int 0 0, .ref 102, .int 41 0, .int 0 0, .ref 109, .int 43 0, .int 0 0, .ref 116, .int 45 0, .int 0 0, .ref 123, .int 50 0, .int 0 0, .ref 130, .int 65 0, .int 0 0, .ref 137, .int 73 0, .int 0 0, .ref 144].toArray, [].toArray⟩ : Obj)),
 (139, tpO [] 0),
 (140, (⟨.type "builtin_function_or_method", none, .fields [.builtin "type.__prepare__", .type "type"].toArray, [].toArray⟩ : Obj)),
 (141, dictOf' [ke P "__module__" 362 md1, ke P "__qualname__" 364 (.str "Line" 363), ke P "__firstlineno__" 366 (.int 73 365), ke P "__init__" 375 (.ref 152), ke P "told" 382 (.ref 159), ke P "__static_attributes__" 385 (.ref 160)] 6),
 (142, tpO [] 0),
 (143, (⟨.none, none, .fields [.int 75 0, .int 4 0, .ref 151, .int 79 0, .int 4 0, .ref 158].toArray, [].toArray⟩ : Obj)),
 (144, cdO [.str "Line" 357, .str "Line" 358, .str "/claim/cut.py" 359, .int 73 0, .int 0 0, .int 0 0, .int 0 0, .int 0 0, .ref 142, .bool false, .int 181 0, .ref 143, .none, .none, .none, .none, .int 360 0, .int 73 0, .str "/claim/cut.py" 361]),
 (145, (⟨.type "frame", none, .plain, [some (.ref 144), some (.ref 3), some (.ref 141), none, some md1, none, some (.ref 0)].toArray⟩ : Obj))] ++
 fn7 P 146 [.str "self" 370, .str "text" 371, .str "spots" 372] (clsSt 18 0) "Line.__init__" ++
 fn5 153 [.str "self" 379] (clsSt 18 1) "Line.told" ++
 [(158, cdF "told" "Line.told" 376 79 1 153 380),
 (159, fnO (clsSt 18 1) "Line.told" .none (.ref 158) md1),
 (160, tpO [.str "places" 383, .str "text" 384] 0),
 (161, kk P 161),
 (162, kk P 162),
 (163, (⟨.type "getset_descriptor", none, .fields [.str "__dict__" 386, .ref 162, .builtin "function.__dict__", .builtin "function.__dict__#set"].toArray, [].toArray⟩ : Obj)),
 (164, (⟨.type "getset_descriptor", none, .fields [.str "__weakref__" 388, .ref 162, .builtin "ExceptionGroup.__weakref__", .none].toArray, [].toArray⟩ : Obj)),
 (165, (⟨.type "super", none, .fields [.ref 162, .ref 162, .ref 162].toArray, [].toArray⟩ : Obj)),
 (166, (⟨.type "builtin_function_or_method", none, .fields [.builtin "object.__init_subclass__", .ref 162].toArray, [].toArray⟩ : Obj))]
noncomputable def T4 (P : Params) : BT := upd (T3 P) (u4 P)
noncomputable def u5 (P : Params) : List (Nat × Obj) := [(3, topN P 40 [(0, ke P "__name__" 165 md2)] 40),
 (12, (⟨.none, none, .fields [.int 1 0, .int 0 0, .ref 20, .int 5 0, .int 0 0, .ref 27, .int 14 0, .int 0 0, .ref 56, .int 16 0, .int 0 0, .ref 68, .int 20 0, .int 0 0, .ref 80, .int 24 0, .int 0 0, .ref 88, .int 31 0, .int 0 0, .ref 95, .int 33 0, .int 0 0, .ref 102, .int 41 0, .int 0 0, .ref 109, .int 43 0, .int 0 0, .ref 116, .int 45 0, .int 0 0, .ref 123, .int 50 0, .int 0 0, .ref 130, .int 65 0, .int 0 0, .ref 137, .int 73 0, .int 0 0, .ref 144, .int 91 0, .int 0 0, .ref 172, .int 101 0, .int 0 0, .ref 202, .int 103 0, .int 0 0, .ref 207, .int 105 0, .int 0 0, .ref 214, .int 107 0, .int 0 0, .ref 221, .int 109 0, .int 0 0, .ref 228].toArray, [].toArray⟩ : Obj)),
 (167, tpO [] 0),
 (168, (⟨.type "builtin_function_or_method", none, .fields [.builtin "type.__prepare__", .type "type"].toArray, [].toArray⟩ : Obj)),
 (169, dictOf' [ke P "__module__" 422 md2, ke P "__qualname__" 424 (.str "Token" 423), ke P "__firstlineno__" 426 (.int 91 425), ke P "__init__" 439 (.ref 182), ke P "told" 446 (.ref 189), ke P "__static_attributes__" 451 (.ref 190)] 6),
 (170, tpO [] 0),
 (171, (⟨.none, none, .fields [.int 93 0, .int 4 0, .ref 181, .int 99 0, .int 4 0, .ref 188].toArray, [].toArray⟩ : Obj)),
 (172, cdO [.str "Token" 417, .str "Token" 418, .str "/claim/cut.py" 419, .int 91 0, .int 0 0, .int 0 0, .int 0 0, .int 0 0, .ref 170, .bool false, .int 181 0, .ref 171, .none, .none, .none, .none, .int 420 0, .int 91 0, .str "/claim/cut.py" 421]),
 (173, (⟨.type "frame", none, .plain, [some (.ref 172), some (.ref 3), some (.ref 169), none, some md2, none, some (.ref 0)].toArray⟩ : Obj)),
 (174, kk P 174),
 (175, kk P 175)] ++
 fn7 P 176 [.str "self" 432, .str "kind" 433, .str "worth" 434, .str "at" 435, .str "is_in_a" 436] (clsSt 29 0) "Token.__init__" ++
 fn5 183 [.str "self" 443] (clsSt 29 1) "Token.told" ++
 [(188, cdF "told" "Token.told" 440 99 1 183 444),
 (189, fnO (clsSt 29 1) "Token.told" .none (.ref 188) md2),
 (190, tpO [.str "at" 447, .str "is_in_a" 448, .str "kind" 449, .str "worth" 450] 0),
 (191, kk P 191),
 (192, kk P 192),
 (193, (⟨.type "getset_descriptor", none, .fields [.str "__dict__" 452, .ref 192, .builtin "function.__dict__", .builtin "function.__dict__#set"].toArray, [].toArray⟩ : Obj)),
 (194, (⟨.type "getset_descriptor", none, .fields [.str "__weakref__" 454, .ref 192, .builtin "ExceptionGroup.__weakref__", .none].toArray, [].toArray⟩ : Obj)),
 (195, (⟨.type "super", none, .fields [.ref 192, .ref 192, .ref 192].toArray, [].toArray⟩ : Obj)),
 (196, (⟨.type "builtin_function_or_method", none, .fields [.builtin "object.__init_subclass__", .ref 192].toArray, [].toArray⟩ : Obj))] ++
 fn7 P 197 [.str "sign" 462] (stAt 30) "capital_of" ++
 [(204, tpO [] 0),
 (205, oF),
 (206, fnT (stAt 31) "capitals" .none .none .none),
 (207, kk P 207),
 (208, kk P 208)] ++
 fn7 P 209 [.str "sign" 475] (stAt 32) "is_word_sign" ++
 fn7 P 216 [.str "text" 482, .str "at" 483] (stAt 33) "is_parted" ++
 fn5 223 [.str "line" 490, .str "at" 491, .str "what" 492] (stAt 34) "line_fault" ++
 [(228, cdE "line_fault" 487 109 3 223 493),
 (229, fnO (stAt 34) "line_fault" .none (.ref 228) md2)]
noncomputable def T5 (P : Params) : BT := upd (T4 P) (u5 P)
noncomputable def u6 (P : Params) : List (Nat × Obj) := [(3, topN P 53 [(0, ke P "__name__" 165 md2)] 53),
 (12, (⟨.none, none, .fields [.int 1 0, .int 0 0, .ref 20, .int 5 0, .int 0 0, .ref 27, .int 14 0, .int 0 0, .ref 56, .int 16 0, .int 0 0, .ref 68, .int 20 0, .int 0 0, .ref 80, .int 24 0, .int 0 0, .ref 88, .int 31 0, .int 0 0, .ref 95, .int 33 0, .int 0 0, .ref 102, .int 41 0, .int 0 0, .ref 109, .int 43 0, .int 0 0, .ref 116, .int 45 0, .int 0 0, .ref 123, .int 50 0, .int 0 0, .ref 130, .int 65 0, .int 0 0, .ref 137, .int 73 0, .int 0 0, .ref 144, .int 91 0, .int 0 0, .ref 172, .int 101 0, .int 0 0, .ref 202, .int 103 0, .int 0 0, .ref 207, .int 105 0, .int 0 0, .ref 214, .int 107 0, .int 0 0, .ref 221, .int 109 0, .int 0 0, .ref 228, .int 111 0, .int 0 0, .ref 235, .int 115 0, .int 0 0, .ref 242, .int 120 0, .int 0 0, .ref 249, .int 131 0, .int 0 0, .ref 256, .int 136 0, .int 0 0, .ref 261, .int 145 0, .int 0 0, .ref 268, .int 150 0, .int 0 0, .ref 275, .int 156 0, .int 0 0, .ref 282, .int 161 0, .int 0 0, .ref 289, .int 169 0, .int 0 0, .ref 296, .int 179 0, .int 0 0, .ref 303, .int 199 0, .int 0 0, .ref 310, .int 201 0, .int 0 0, .ref 317].toArray, [].toArray⟩ : Obj))] ++
 fn7 P 230 [.str "text" 499, .str "at" 500, .str "signs" 501] (stAt 35) "run_end" ++
 fn7 P 237 [.str "text" 508, .str "at" 509, .str "end" 510] (stAt 36) "number_end" ++
 fn7 P 244 [.str "line" 517, .str "at" 518, .str "quote" 519, .str "end" 520] (stAt 37) "literal_end" ++
 fn5 251 [.str "text" 527, .str "at" 528, .str "end" 529] (stAt 38) "picture_end" ++
 [(256, cdE "picture_end" 524 131 2 251 530),
 (257, fnO (stAt 38) "picture_end" .none (.ref 256) md2),
 (258, tpO [] 0),
 (259, oF),
 (260, fnT (stAt 39) "checked_word" .none .none .none),
 (261, kk P 261),
 (262, kk P 262)] ++
 fn7 P 263 [.str "line" 542, .str "at" 543, .str "end" 544, .str "worth" 545] (stAt 40) "checked_number" ++
 fn7 P 270 [.str "line" 552, .str "at" 553, .str "end" 554, .str "quote" 555, .str "worth" 556] (stAt 41) "checked_literal" ++
 fn5 277 [.str "line" 563, .str "at" 564, .str "end" 565] (stAt 42) "checked_picture" ++
 [(282, cdE "checked_picture" 560 156 2 277 566),
 (283, fnO (stAt 42) "checked_picture" .none (.ref 282) md2)] ++
 fn7 P 284 [.str "line" 572, .str "end" 573, .str "behind" 574] (stAt 43) "need_apart" ++
 fn7 P 291 [.str "line" 581, .str "at" 582, .str "pair" 583, .str "sign" 584] (stAt 44) "mark_at" ++
 fn7 P 298 [.str "line" 591, .str "at" 592, .str "sign" 593, .str "end" 594, .str "behind" 595, .str "kind" 596, .str "worth" 597] (stAt 45) "worth_at" ++
 fn7 P 305 [.str "text" 604, .str "at" 605] (stAt 46) "is_blank_at" ++
 fn7 P 312 [.str "tokens" 612] (stAt 47) "is_picture_next"
noncomputable def T6 (P : Params) : BT := upd (T5 P) (u6 P)
noncomputable def u7 (P : Params) : List (Nat × Obj) := [(3, topN P 58 [(0, ke P "__name__" 165 md3)] 58),
 (12, (⟨.none, none, .fields [.int 1 0, .int 0 0, .ref 20, .int 5 0, .int 0 0, .ref 27, .int 14 0, .int 0 0, .ref 56, .int 16 0, .int 0 0, .ref 68, .int 20 0, .int 0 0, .ref 80, .int 24 0, .int 0 0, .ref 88, .int 31 0, .int 0 0, .ref 95, .int 33 0, .int 0 0, .ref 102, .int 41 0, .int 0 0, .ref 109, .int 43 0, .int 0 0, .ref 116, .int 45 0, .int 0 0, .ref 123, .int 50 0, .int 0 0, .ref 130, .int 65 0, .int 0 0, .ref 137, .int 73 0, .int 0 0, .ref 144, .int 91 0, .int 0 0, .ref 172, .int 101 0, .int 0 0, .ref 202, .int 103 0, .int 0 0, .ref 207, .int 105 0, .int 0 0, .ref 214, .int 107 0, .int 0 0, .ref 221, .int 109 0, .int 0 0, .ref 228, .int 111 0, .int 0 0, .ref 235, .int 115 0, .int 0 0, .ref 242, .int 120 0, .int 0 0, .ref 249, .int 131 0, .int 0 0, .ref 256, .int 136 0, .int 0 0, .ref 261, .int 145 0, .int 0 0, .ref 268, .int 150 0, .int 0 0, .ref 275, .int 156 0, .int 0 0, .ref 282, .int 161 0, .int 0 0, .ref 289, .int 169 0, .int 0 0, .ref 296, .int 179 0, .int 0 0, .ref 303, .int 199 0, .int 0 0, .ref 310, .int 201 0, .int 0 0, .ref 317, .int 203 0, .int 0 0, .ref 324, .int 223 0, .int 0 0, .ref 331, .int 225 0, .int 0 0, .ref 338, .int 230 0, .int 0 0, .ref 345].toArray, [].toArray⟩ : Obj))] ++
 fn7 P 319 [.str "tokens" 619, .str "line" 620, .str "at" 621, .str "was_is" 622, .str "place" 623, .str "kind" 624, .str "worth" 625, .str "end" 626] (stAt 48) "add_tokens" ++
 fn5 326 [.str "text" 633, .str "at" 634] (stAt 49) "is_word_is" ++
 [(331, cdE "is_word_is" 630 223 2 326 635),
 (332, fnO (stAt 49) "is_word_is" .none (.ref 331) md2)] ++
 fn7 P 333 [.str "lines" 641, .str "tokens" 642, .str "line" 643] (stAt 50) "tokens_of" ++
 fn7 P 340 [.str "text" 650] (stAt 51) "quoted"
noncomputable def T7 (P : Params) : BT := upd (T6 P) (u7 P)
noncomputable def u8 (P : Params) : List (Nat × Obj) := [(3, topN P 60 [(0, ke P "__name__" 165 md3)] 60),
 (347, kk P 347),
 (348, kk P 348)]
noncomputable def T8 (P : Params) : BT := upd (T7 P) (u8 P)
noncomputable def u9 (P : Params) : List (Nat × Obj) := [(3, topN P 75 [(0, ke P "__name__" 165 md4)] 75),
 (12, (⟨.none, none, .fields [.int 1 0, .int 0 0, .ref 20, .int 5 0, .int 0 0, .ref 27, .int 14 0, .int 0 0, .ref 56, .int 16 0, .int 0 0, .ref 68, .int 20 0, .int 0 0, .ref 80, .int 24 0, .int 0 0, .ref 88, .int 31 0, .int 0 0, .ref 95, .int 33 0, .int 0 0, .ref 102, .int 41 0, .int 0 0, .ref 109, .int 43 0, .int 0 0, .ref 116, .int 45 0, .int 0 0, .ref 123, .int 50 0, .int 0 0, .ref 130, .int 65 0, .int 0 0, .ref 137, .int 73 0, .int 0 0, .ref 144, .int 91 0, .int 0 0, .ref 172, .int 101 0, .int 0 0, .ref 202, .int 103 0, .int 0 0, .ref 207, .int 105 0, .int 0 0, .ref 214, .int 107 0, .int 0 0, .ref 221, .int 109 0, .int 0 0, .ref 228, .int 111 0, .int 0 0, .ref 235, .int 115 0, .int 0 0, .ref 242, .int 120 0, .int 0 0, .ref 249, .int 131 0, .int 0 0, .ref 256, .int 136 0, .int 0 0, .ref 261, .int 145 0, .int 0 0, .ref 268, .int 150 0, .int 0 0, .ref 275, .int 156 0, .int 0 0, .ref 282, .int 161 0, .int 0 0, .ref 289, .int 169 0, .int 0 0, .ref 296, .int 179 0, .int 0 0, .ref 303, .int 199 0, .int 0 0, .ref 310, .int 201 0, .int 0 0, .ref 317, .int 203 0, .int 0 0, .ref 324, .int 223 0, .int 0 0, .ref 331, .int 225 0, .int 0 0, .ref 338, .int 230 0, .int 0 0, .ref 345, .int 236 0, .int 0 0, .ref 354, .int 249 0, .int 0 0, .ref 361, .int 257 0, .int 0 0, .ref 368, .int 264 0, .int 0 0, .ref 375, .int 274 0, .int 0 0, .ref 382, .int 281 0, .int 0 0, .ref 389, .int 285 0, .int 0 0, .ref 396, .int 294 0, .int 0 0, .ref 401, .int 296 0, .int 0 0, .ref 406, .int 301 0, .int 0 0, .ref 413, .int 309 0, .int 0 0, .ref 420, .int 320 0, .int 0 0, .ref 427, .int 322 0, .int 0 0, .ref 432].toArray, [].toArray⟩ : Obj))] ++
 fn7 P 349 [.str "reader" 711, .str "depth" 712, .str "ahead" 713] (stAt 56) "is_part_next" ++
 fn7 P 356 [.str "reader" 720, .str "read_expr" 721, .str "found" 722] (stAt 57) "read_subscripts" ++
 fn7 P 363 [.str "reader" 729, .str "read_expr" 730, .str "begin" 731, .str "length" 732] (stAt 58) "read_part" ++
 fn7 P 370 [.str "reader" 739, .str "read_expr" 740, .str "name" 741, .str "qualifiers" 742, .str "subscripts" 743, .str "part" 744] (stAt 59) "read_ref" ++
 fn7 P 377 [.str "reader" 751, .str "figure" 752] (stAt 60) "read_all" ++
 fn7 P 384 [.str "reader" 759] (stAt 61) "read_figure" ++
 fn7 P 391 [.str "reader" 766, .str "read_expr" 767, .str "figure" 768] (stAt 62) "read_operand" ++
 [(398, tpO [] 0),
 (399, oF),
 (400, fnT (stAt 63) "shown_octets" .none .none .none),
 (401, kk P 401),
 (402, kk P 402),
 (403, tpO [] 0),
 (404, oF),
 (405, fnT (stAt 64) "shown_subscripts" .none .none .none),
 (406, kk P 406),
 (407, kk P 407)] ++
 fn7 P 408 [.str "ref" 787, .str "show_expr" 788, .str "found" 789, .str "length" 790] (stAt 65) "show_ref" ++
 fn7 P 415 [.str "operand" 797, .str "show_expr" 798] (stAt 66) "show_operand" ++
 fn7 P 422 [.str "word" 811] (stAt 70) "is_reserved" ++
 [(429, tpO [] 0),
 (430, oF),
 (431, fnT (stAt 71) "octets_of_text" .none .none .none),
 (432, kk P 432),
 (433, kk P 433)]
noncomputable def T9 (P : Params) : BT := upd (T8 P) (u9 P)
noncomputable def u10 (P : Params) : List (Nat × Obj) := [(3, topN P 76 [(0, ke P "__name__" 165 md4)] 76),
 (12, (⟨.none, none, .fields [.int 1 0, .int 0 0, .ref 20, .int 5 0, .int 0 0, .ref 27, .int 14 0, .int 0 0, .ref 56, .int 16 0, .int 0 0, .ref 68, .int 20 0, .int 0 0, .ref 80, .int 24 0, .int 0 0, .ref 88, .int 31 0, .int 0 0, .ref 95, .int 33 0, .int 0 0, .ref 102, .int 41 0, .int 0 0, .ref 109, .int 43 0, .int 0 0, .ref 116, .int 45 0, .int 0 0, .ref 123, .int 50 0, .int 0 0, .ref 130, .int 65 0, .int 0 0, .ref 137, .int 73 0, .int 0 0, .ref 144, .int 91 0, .int 0 0, .ref 172, .int 101 0, .int 0 0, .ref 202, .int 103 0, .int 0 0, .ref 207, .int 105 0, .int 0 0, .ref 214, .int 107 0, .int 0 0, .ref 221, .int 109 0, .int 0 0, .ref 228, .int 111 0, .int 0 0, .ref 235, .int 115 0, .int 0 0, .ref 242, .int 120 0, .int 0 0, .ref 249, .int 131 0, .int 0 0, .ref 256, .int 136 0, .int 0 0, .ref 261, .int 145 0, .int 0 0, .ref 268, .int 150 0, .int 0 0, .ref 275, .int 156 0, .int 0 0, .ref 282, .int 161 0, .int 0 0, .ref 289, .int 169 0, .int 0 0, .ref 296, .int 179 0, .int 0 0, .ref 303, .int 199 0, .int 0 0, .ref 310, .int 201 0, .int 0 0, .ref 317, .int 203 0, .int 0 0, .ref 324, .int 223 0, .int 0 0, .ref 331, .int 225 0, .int 0 0, .ref 338, .int 230 0, .int 0 0, .ref 345, .int 236 0, .int 0 0, .ref 354, .int 249 0, .int 0 0, .ref 361, .int 257 0, .int 0 0, .ref 368, .int 264 0, .int 0 0, .ref 375, .int 274 0, .int 0 0, .ref 382, .int 281 0, .int 0 0, .ref 389, .int 285 0, .int 0 0, .ref 396, .int 294 0, .int 0 0, .ref 401, .int 296 0, .int 0 0, .ref 406, .int 301 0, .int 0 0, .ref 413, .int 309 0, .int 0 0, .ref 420, .int 320 0, .int 0 0, .ref 427, .int 322 0, .int 0 0, .ref 432, .int 327 0, .int 0 0, .ref 439].toArray, [].toArray⟩ : Obj)),
 (434, tpO [] 0),
 (435, (⟨.type "builtin_function_or_method", none, .fields [.builtin "type.__prepare__", .type "type"].toArray, [].toArray⟩ : Obj)),
 (436, dictOf' [ke P "__module__" 828 md4, ke P "__qualname__" 830 (.str "Reader" 829), ke P "__firstlineno__" 832 (.int 327 831), ke P "__init__" 842 (.ref 448), ke P "peek" 851 (.ref 456), ke P "is_done" 858 (.ref 463), ke P "fault" 866 (.ref 470), ke P "take" 874 (.ref 477), ke P "is_kind" 885 (.ref 485), ke P "is_word" 895 (.ref 492), ke P "skip" 903 (.ref 499), ke P "need" 911 (.ref 506), ke P "one_of" 920 (.ref 513), ke P "word" 927 (.ref 520), ke P "is_name" 936 (.ref 528), ke P "name" 943 (.ref 535), ke P "names" 950 (.ref 542), ke P "is_sign" 960 (.ref 550), ke P "skip_sign" 968 (.ref 557), ke P "need_sign" 976 (.ref 564), ke P "is_number" 983 (.ref 571), ke P "signed" 992 (.ref 578), ke P "whole" 1000 (.ref 585), ke P "literal" 1007 (.ref 592), ke P "octets" 1015 (.ref 599), ke P "__static_attributes__" 1019 (.ref 600)] 26),
 (437, tpO [] 0),
 (438, (⟨.none, none, .fields [.int 329 0, .int 4 0, .ref 447, .int 334 0, .int 4 0, .ref 455, .int 339 0, .int 4 0, .ref 462, .int 342 0, .int 4 0, .ref 469, .int 347 0, .int 4 0, .ref 476, .int 354 0, .int 4 0, .ref 484, .int 358 0, .int 4 0, .ref 491, .int 366 0, .int 4 0, .ref 498, .int 372 0, .int 4 0, .ref 505, .int 375 0, .int 4 0, .ref 512, .int 381 0, .int 4 0, .ref 519, .int 386 0, .int 4 0, .ref 527, .int 389 0, .int 4 0, .ref 534, .int 394 0, .int 4 0, .ref 541, .int 397 0, .int 4 0, .ref 549, .int 400 0, .int 4 0, .ref 556, .int 406 0, .int 4 0, .ref 563, .int 410 0, .int 4 0, .ref 570, .int 415 0, .int 4 0, .ref 577, .int 424 0, .int 4 0, .ref 584, .int 433 0, .int 4 0, .ref 591, .int 438 0, .int 4 0, .ref 598].toArray, [].toArray⟩ : Obj)),
 (439, cdO [.str "Reader" 823, .str "Reader" 824, .str "/claim/cut.py" 825, .int 327 0, .int 0 0, .int 0 0, .int 0 0, .int 0 0, .ref 437, .bool false, .int 181 0, .ref 438, .none, .none, .none, .none, .int 826 0, .int 327 0, .str "/claim/cut.py" 827]),
 (440, (⟨.type "frame", none, .plain, [some (.ref 439), some (.ref 3), some (.ref 436), none, some md4, none, some (.ref 0)].toArray⟩ : Obj)),
 (441, kk P 441)] ++
 fn7 P 442 [.str "self" 837, .str "tokens" 838, .str "at" 839] (clsSt 72 0) "Reader.__init__" ++
 [(449, kk P 449)] ++
 fn7 P 450 [.str "self" 847, .str "ahead" 848] (clsSt 72 1) "Reader.peek" ++
 fn7 P 457 [.str "self" 855] (clsSt 72 2) "Reader.is_done" ++
 fn7 P 464 [.str "self" 862, .str "what" 863] (clsSt 72 3) "Reader.fault" ++
 fn7 P 471 [.str "self" 870, .str "token" 871] (clsSt 72 4) "Reader.take" ++
 [(478, kk P 478)] ++
 fn7 P 479 [.str "self" 879, .str "kind" 880, .str "ahead" 881, .str "token" 882] (clsSt 72 5) "Reader.is_kind" ++
 fn7 P 486 [.str "self" 889, .str "words" 890, .str "ahead" 891, .str "word" 892] (clsSt 72 6) "Reader.is_word" ++
 fn7 P 493 [.str "self" 899, .str "words" 900] (clsSt 72 7) "Reader.skip" ++
 fn5 500 [.str "self" 907, .str "words" 908] (clsSt 72 8) "Reader.need" ++
 [(505, cdF "need" "Reader.need" 904 372 2 500 909),
 (506, fnO (clsSt 72 8) "Reader.need" .none (.ref 505) md4)] ++
 fn7 P 507 [.str "self" 915, .str "words" 916, .str "word" 917] (clsSt 72 9) "Reader.one_of" ++
 fn5 514 [.str "self" 924] (clsSt 72 10) "Reader.word" ++
 [(519, cdF "word" "Reader.word" 921 381 1 514 925),
 (520, fnO (clsSt 72 10) "Reader.word" .none (.ref 519) md4),
 (521, kk P 521)] ++
 fn7 P 522 [.str "self" 932, .str "ahead" 933] (clsSt 72 11) "Reader.is_name" ++
 fn7 P 529 [.str "self" 940] (clsSt 72 12) "Reader.name" ++
 fn5 536 [.str "self" 947] (clsSt 72 13) "Reader.names" ++
 [(541, cdF "names" "Reader.names" 944 394 1 536 948),
 (542, fnO (clsSt 72 13) "Reader.names" .none (.ref 541) md4),
 (543, kk P 543)] ++
 fn7 P 544 [.str "self" 955, .str "sign" 956, .str "ahead" 957] (clsSt 72 14) "Reader.is_sign" ++
 fn7 P 551 [.str "self" 964, .str "sign" 965] (clsSt 72 15) "Reader.skip_sign" ++
 fn7 P 558 [.str "self" 972, .str "sign" 973] (clsSt 72 16) "Reader.need_sign" ++
 fn7 P 565 [.str "self" 980] (clsSt 72 17) "Reader.is_number" ++
 fn7 P 572 [.str "self" 987, .str "is_below" 988, .str "found" 989] (clsSt 72 18) "Reader.signed" ++
 fn5 579 [.str "self" 996, .str "found" 997] (clsSt 72 19) "Reader.whole" ++
 [(584, cdF "whole" "Reader.whole" 993 424 1 579 998),
 (585, fnO (clsSt 72 19) "Reader.whole" .none (.ref 584) md4)] ++
 fn5 586 [.str "self" 1004] (clsSt 72 20) "Reader.literal" ++
 [(591, cdF "literal" "Reader.literal" 1001 433 1 586 1005),
 (592, fnO (clsSt 72 20) "Reader.literal" .none (.ref 591) md4)] ++
 fn7 P 593 [.str "self" 1011, .str "found" 1012] (clsSt 72 21) "Reader.octets" ++
 [(600, tpO [.str "at" 1016, .str "named" 1017, .str "tokens" 1018] 0),
 (601, kk P 601),
 (602, kk P 602),
 (603, (⟨.type "getset_descriptor", none, .fields [.str "__dict__" 1020, .ref 602, .builtin "function.__dict__", .builtin "function.__dict__#set"].toArray, [].toArray⟩ : Obj)),
 (604, (⟨.type "getset_descriptor", none, .fields [.str "__weakref__" 1022, .ref 602, .builtin "ExceptionGroup.__weakref__", .none].toArray, [].toArray⟩ : Obj)),
 (605, (⟨.type "super", none, .fields [.ref 602, .ref 602, .ref 602].toArray, [].toArray⟩ : Obj)),
 (606, (⟨.type "builtin_function_or_method", none, .fields [.builtin "object.__init_subclass__", .ref 602].toArray, [].toArray⟩ : Obj))]
noncomputable def T10 (P : Params) : BT := upd (T9 P) (u10 P)
noncomputable def u11 (P : Params) : List (Nat × Obj) := [(3, topN P 88 [] 88),
 (12, (⟨.none, none, .fields [.int 1 0, .int 0 0, .ref 20, .int 5 0, .int 0 0, .ref 27, .int 14 0, .int 0 0, .ref 56, .int 16 0, .int 0 0, .ref 68, .int 20 0, .int 0 0, .ref 80, .int 24 0, .int 0 0, .ref 88, .int 31 0, .int 0 0, .ref 95, .int 33 0, .int 0 0, .ref 102, .int 41 0, .int 0 0, .ref 109, .int 43 0, .int 0 0, .ref 116, .int 45 0, .int 0 0, .ref 123, .int 50 0, .int 0 0, .ref 130, .int 65 0, .int 0 0, .ref 137, .int 73 0, .int 0 0, .ref 144, .int 91 0, .int 0 0, .ref 172, .int 101 0, .int 0 0, .ref 202, .int 103 0, .int 0 0, .ref 207, .int 105 0, .int 0 0, .ref 214, .int 107 0, .int 0 0, .ref 221, .int 109 0, .int 0 0, .ref 228, .int 111 0, .int 0 0, .ref 235, .int 115 0, .int 0 0, .ref 242, .int 120 0, .int 0 0, .ref 249, .int 131 0, .int 0 0, .ref 256, .int 136 0, .int 0 0, .ref 261, .int 145 0, .int 0 0, .ref 268, .int 150 0, .int 0 0, .ref 275, .int 156 0, .int 0 0, .ref 282, .int 161 0, .int 0 0, .ref 289, .int 169 0, .int 0 0, .ref 296, .int 179 0, .int 0 0, .ref 303, .int 199 0, .int 0 0, .ref 310, .int 201 0, .int 0 0, .ref 317, .int 203 0, .int 0 0, .ref 324, .int 223 0, .int 0 0, .ref 331, .int 225 0, .int 0 0, .ref 338, .int 230 0, .int 0 0, .ref 345, .int 236 0, .int 0 0, .ref 354, .int 249 0, .int 0 0, .ref 361, .int 257 0, .int 0 0, .ref 368, .int 264 0, .int 0 0, .ref 375, .int 274 0, .int 0 0, .ref 382, .int 281 0, .int 0 0, .ref 389, .int 285 0, .int 0 0, .ref 396, .int 294 0, .int 0 0, .ref 401, .int 296 0, .int 0 0, .ref 406, .int 301 0, .int 0 0, .ref 413, .int 309 0, .int 0 0, .ref 420, .int 320 0, .int 0 0, .ref 427, .int 322 0, .int 0 0, .ref 432, .int 327 0, .int 0 0, .ref 439, .int 447 0, .int 0 0, .ref 612, .int 454 0, .int 0 0, .ref 619, .int 458 0, .int 0 0, .ref 626, .int 477 0, .int 0 0, .ref 633, .int 485 0, .int 0 0, .ref 640, .int 491 0, .int 0 0, .ref 647, .int 496 0, .int 0 0, .ref 654, .int 501 0, .int 0 0, .ref 661, .int 507 0, .int 0 0, .ref 668, .int 514 0, .int 0 0, .ref 673].toArray, [].toArray⟩ : Obj))] ++
 fn7 P 607 [.str "tape" 1032, .str "limit" 1033, .str "cells" 1034, .str "spot" 1035, .str "cell" 1036] (stAt 74) "_law_draw" ++
 fn7 P 614 [] (stAt 75) "_law_numbers" ++
 [(621, kk P 621),
 (622, kk P 622),
 (623, tpO [] 0),
 (624, oF),
 (625, fnT (stAt 78) "_law_operand" .none .none .none),
 (626, kk P 626),
 (627, kk P 627)] ++
 fn7 P 628 [.str "tape" 1066, .str "depth" 1067, .str "kind" 1068, .str "one" 1069] (stAt 79) "_law_expr" ++
 fn7 P 635 [.str "expr" 1076] (stAt 80) "_law_show" ++
 fn7 P 642 [.str "reader" 1083, .str "found" 1084] (stAt 81) "_law_read" ++
 fn7 P 649 [.str "reader" 1091] (stAt 82) "_law_term" ++
 fn7 P 656 [.str "reader" 1098, .str "found" 1099] (stAt 83) "_law_one" ++
 fn7 P 663 [.str "tokens" 1106, .str "reader" 1107, .str "found" 1108, .str "fault" 1109] (stAt 84) "_law_told" ++
 [(670, tpO [] 0),
 (671, oF),
 (672, fnT (stAt 85) "law" .none .none .none),
 (673, kk P 673),
 (674, kk P 674)]
noncomputable def T11 (P : Params) : BT := upd (T10 P) (u11 P)
noncomputable def uf (P : Params) : List (Nat × Obj) := []
noncomputable def Tf (P : Params) : BT := upd (T11 P) (uf P)
noncomputable def envM : Env := { scope := pg.main.scope, locals := mainNs, globals := mainNs, cells := [], code := .ref 13, frame := some 14 }
noncomputable def bodM : List Stmt := behindTheImports pg
noncomputable def cM : Code := .body bodM envM
noncomputable def BM : List Frame := [topFrame ⟨0, 0, 0, 0⟩]
noncomputable def sT (T : Params → BT) (n t : Nat) (w : World) (os : OsState) : SharedT := ⟨T w.params, n, (boot_heap w.params).life, #[], boot_drawn, t, os⟩
noncomputable abbrev s00 (w : World) (os : OsState) : Shared := ⟨boot_heap w.params, Array.mk [], boot_drawn, boot_toks, os⟩
noncomputable abbrev sF (w : World) (os : OsState) : Shared := ⟨absHeap (Tf w.params) 675 (boot_heap w.params).life, #[], boot_drawn, 1119, os⟩
noncomputable abbrev annM : Option Value := some (.ref 6)
theorem h_pre (w : World) (os : OsState) : topGo treeTable pg w 11 annM 12 (s00 w os) (topStub pg) = some ((sT T0 15 187 w os).abs, ⟨denote treeTable cM, cM, ⟨0, 0, 0, 0⟩, BM⟩) := by
 rw [PySem.W.Fast.te15667345088766844465, PySem.W.Fast.te14364793385576792824, PySem.W.Fast.te11892475500146522536]
 kernel_rfl
theorem h_block (w : World) (os : OsState) : segRunT treeTable pg w 11 annM 1 1 (sT T0 15 187 w os) (blockOf bodM envM cM ⟨0, 0, 0, 0⟩ BM) = some (.next, sT T0 15 187 w os, cM, ⟨0, 0, 0, 0⟩) := by
 rw [PySem.W.Fast.te10110043849684766642, PySem.W.Fast.te14364793385576792824]
 kernel_rfl
theorem h_1 (w : World) (os : OsState) : segRunT treeTable pg w 11 annM 1 305 (sT T0 15 187 w os) (piecesOf ((bodM.drop 0).take 3) envM cM ⟨0, 0, 0, 0⟩ BM) = some (.next, sT T1 51 236 w os, cM, ⟨5, 0, 13, 35⟩) := by
 rw [PySem.W.Fast.te10110043849684766642, PySem.W.Fast.te14364793385576792824]
 kernel_rfl
theorem h_2 (w : World) (os : OsState) : segRunT treeTable pg w 11 annM 1 427 (sT T1 51 236 w os) (piecesOf ((bodM.drop 3).take 2) envM cM ⟨5, 0, 13, 35⟩ BM) = some (.next, sT T2 75 268 w os, cM, ⟨16, 0, 17, 8⟩) := by
 rw [PySem.W.Fast.te10110043849684766642, PySem.W.Fast.te14364793385576792824]
 kernel_rfl
theorem h_3 (w : World) (os : OsState) : segRunT treeTable pg w 11 annM 1 315 (sT T2 75 268 w os) (piecesOf ((bodM.drop 5).take 13) envM cM ⟨16, 0, 17, 8⟩ BM) = some (.next, sT T3 139 355 w os, cM, ⟨72, 0, 72, 6⟩) := by
 rw [PySem.W.Fast.te10110043849684766642, PySem.W.Fast.te14364793385576792824]
 kernel_rfl
theorem h_4 (w : World) (os : OsState) : segRunT treeTable pg w 11 annM 1 362 (sT T3 139 355 w os) (piecesOf ((bodM.drop 18).take 11) envM cM ⟨72, 0, 72, 6⟩ BM) = some (.next, sT T4 167 415 w os, cM, ⟨90, 0, 90, 12⟩) := by
 rw [PySem.W.Fast.te10110043849684766642, PySem.W.Fast.te14364793385576792824]
 kernel_rfl
theorem h_5 (w : World) (os : OsState) : segRunT treeTable pg w 11 annM 1 410 (sT T4 167 415 w os) (piecesOf ((bodM.drop 29).take 6) envM cM ⟨90, 0, 90, 12⟩ BM) = some (.next, sT T5 230 496 w os, cM, ⟨109, 0, 110, 71⟩) := by
 rw [PySem.W.Fast.te10110043849684766642, PySem.W.Fast.te14364793385576792824]
 kernel_rfl
theorem h_6 (w : World) (os : OsState) : segRunT treeTable pg w 11 annM 1 405 (sT T5 230 496 w os) (piecesOf ((bodM.drop 35).take 13) envM cM ⟨109, 0, 110, 71⟩ BM) = some (.next, sT T6 319 616 w os, cM, ⟨201, 0, 202, 101⟩) := by
 rw [PySem.W.Fast.te10110043849684766642, PySem.W.Fast.te14364793385576792824]
 kernel_rfl
theorem h_7 (w : World) (os : OsState) : segRunT treeTable pg w 11 annM 1 145 (sT T6 319 616 w os) (piecesOf ((bodM.drop 48).take 6) envM cM ⟨201, 0, 202, 101⟩ BM) = some (.next, sT T7 347 658 w os, cM, ⟨233, 0, 233, 15⟩) := by
 rw [PySem.W.Fast.te10110043849684766642, PySem.W.Fast.te14364793385576792824]
 kernel_rfl
theorem h_8 (w : World) : ∀ os : OsState, segRunT treeTable pg w 11 annM 1 261 (sT T7 347 658 w os) (piecesOf ((bodM.drop 54).take 2) envM cM ⟨233, 0, 233, 15⟩ BM) = some (.next, sT T8 349 708 w os, cM, ⟨235, 0, 235, 12⟩) := by
 refine byRow2 "special-get-raises" (P := fun w => ∀ os : OsState, segRunT treeTable pg w 11 annM 1 261 (sT T7 347 658 w os) (piecesOf ((bodM.drop 54).take 2) envM cM ⟨233, 0, 233, 15⟩ BM) = some (.next, sT T8 349 708 w os, cM, ⟨235, 0, 235, 12⟩)) (fun w os => ?_) (fun w os => ?_) w
 ·rw [PySem.W.Fast.te10110043849684766642, PySem.W.Fast.te14364793385576792824]
  kernel_rfl
 ·rw [PySem.W.Fast.te10110043849684766642, PySem.W.Fast.te14364793385576792824]
  kernel_rfl
theorem h_9 (w : World) (os : OsState) : segRunT treeTable pg w 11 annM 1 415 (sT T8 349 708 w os) (piecesOf ((bodM.drop 56).take 16) envM cM ⟨235, 0, 235, 12⟩ BM) = some (.next, sT T9 434 821 w os, cM, ⟨322, 0, 326, 25⟩) := by
 rw [PySem.W.Fast.te10110043849684766642, PySem.W.Fast.te14364793385576792824]
 kernel_rfl
theorem h_10 (w : World) (os : OsState) : segRunT treeTable pg w 11 annM 1 909 (sT T9 434 821 w os) (piecesOf ((bodM.drop 72).take 1) envM cM ⟨322, 0, 326, 25⟩ BM) = some (.next, sT T10 607 1027 w os, cM, ⟨327, 0, 445, 20⟩) := by
 rw [PySem.W.Fast.te10110043849684766642, PySem.W.Fast.te14364793385576792824]
 kernel_rfl
theorem h_11 (w : World) (os : OsState) : segRunT treeTable pg w 11 annM 1 334 (sT T10 607 1027 w os) (piecesOf ((bodM.drop 73).take 13) envM cM ⟨327, 0, 445, 20⟩ BM) = some (.next, sT T11 675 1119 w os, cM, ⟨514, 0, 530, 70⟩) := by
 rw [PySem.W.Fast.te10110043849684766642, PySem.W.Fast.te14364793385576792824]
 kernel_rfl
theorem h_fin (w : World) (os : OsState) : topRun treeTable pg w 11 annM 2 (sT T11 675 1119 w os).abs ⟨doneF .next, cM, ⟨514, 0, 530, 70⟩, BM⟩ = some (sF w os) := by
 rw [PySem.W.Fast.te14082659384304107361, PySem.W.Fast.te14364793385576792824]
 kernel_rfl
theorem h_run (w : World) (os : OsState) : topRun treeTable pg w 11 annM (12 + (1 + (305 + (427 + (315 + (362 + (410 + (405 + (145 + (261 + (415 + (909 + (334 + 2))))))))))))) (s00 w os) (topStub pg) = some (sF w os) := by
 refine go_top (h_pre w os) (piece_block (segRun_of (h_block w os)) ?_)
 rw [show bodM = bodM.drop 0 from rfl, ← List.take_append_drop 3 (bodM.drop 0), List.drop_drop]
 refine piece_app (segRun_of (h_1 w os)) ?_
 rw [← List.take_append_drop 2 (bodM.drop 3), List.drop_drop]
 refine piece_app (segRun_of (h_2 w os)) ?_
 rw [← List.take_append_drop 13 (bodM.drop 5), List.drop_drop]
 refine piece_app (segRun_of (h_3 w os)) ?_
 rw [← List.take_append_drop 11 (bodM.drop 18), List.drop_drop]
 refine piece_app (segRun_of (h_4 w os)) ?_
 rw [← List.take_append_drop 6 (bodM.drop 29), List.drop_drop]
 refine piece_app (segRun_of (h_5 w os)) ?_
 rw [← List.take_append_drop 13 (bodM.drop 35), List.drop_drop]
 refine piece_app (segRun_of (h_6 w os)) ?_
 rw [← List.take_append_drop 6 (bodM.drop 48), List.drop_drop]
 refine piece_app (segRun_of (h_7 w os)) ?_
 rw [← List.take_append_drop 2 (bodM.drop 54), List.drop_drop]
 refine piece_app (segRun_of (h_8 w os)) ?_
 rw [← List.take_append_drop 16 (bodM.drop 56), List.drop_drop]
 refine piece_app (segRun_of (h_9 w os)) ?_
 rw [← List.take_append_drop 1 (bodM.drop 72), List.drop_drop]
 refine piece_app (segRun_of (h_10 w os)) ?_
 rw [← List.take_append_drop 13 (bodM.drop 73), List.drop_drop]
 refine piece_app (segRun_of (h_11 w os)) ?_
 exact h_fin w os
noncomputable def qM : Program := { pg with main := { pg.main with body := [stAt 85] } }
noncomputable def looseM : List Str := (pg.main.scope.names.map (·.1)).filter fun x => !(x == Str.ofString "law")
theorem open_M : ∀ w : World, (fencedOpening treeTable pg w 20000).map (fun s => (s.heap, s.gens, s.drawn, s.toks)) = some (boot_heap w.params, Array.mk [], boot_drawn, boot_toks) :=
 boot_open (by kernel_rfl) (by rfl) (fun s => by rfl)
theorem size_M : ∀ w : World, ((boot_heap w.params).isNs mainGlobals && (#[] : Array GenState).size == 0, (boot_heap w.params).objs.size, (boot_heap w.params).nsMap mainGlobals "__annotations__") = (true, 11, annM) := fun w => by
 rw [PySem.W.Fast.te8920871248978507458]
 kernel_rfl
theorem le_M : Nat.ble (12 + (1 + (305 + (427 + (315 + (362 + (410 + (405 + (145 + (261 + (415 + (909 + (334 + 2))))))))))))) 20000 = true := by rfl
theorem looks1 (w : World) (os : OsState) : (staticsOk (importedModules pg.main.body) (boot_heap w.params) (absHeap (Tf w.params) 675 (boot_heap w.params).life)) = true := by kernel_rfl
theorem looks2 (w : World) (os : OsState) : (namesBound pg (absHeap (Tf w.params) 675 (boot_heap w.params).life)) = true := by kernel_rfl
theorem looks3 (w : World) (os : OsState) : gensDone ⟨absHeap (Tf w.params) 675 (boot_heap w.params).life, #[], boot_drawn, 1119, os⟩ = true := by kernel_rfl
theorem looks4 (w : World) (os : OsState) : laidKept (boot_heap w.params) (absHeap (Tf w.params) 675 (boot_heap w.params).life) = true := by kernel_rfl
theorem looks5 (w : World) (os : OsState) : Hook.obs (mkH kAddrs mVal) ⟨absHeap (Tf w.params) 675 (boot_heap w.params).life, #[], boot_drawn, 1119, os⟩ = Hook.val (mkH kAddrs mVal) w := by kernel_rfl
abbrev olM := PySem.Challenge.rw_og0102_01
noncomputable def XtM (s : Shared) : Bool := xlAt qM [] s && recOk (RowW.records (OpenRow.toRowW olM.row)) s
theorem sn1 (w : World) (os : OsState) : (openSeen qM looseM (importedModules pg.main.body) XtM true (sF w os)).1 = (openGood qM looseM).1 := by
 rw [show importedModules pg.main.body = [] from by kernel_rfl]
 kernel_rfl
theorem sn2 (w : World) (os : OsState) : (openSeen qM looseM [] XtM true (sF w os)).2.1 = (openGood qM looseM).2.1 := by
 kernel_rfl
theorem sn3 (w : World) (os : OsState) : (openSeen qM looseM [] XtM true (sF w os)).2.2.1 = (openGood qM looseM).2.2.1 := by
 kernel_rfl
theorem sn4 (w : World) (os : OsState) : (openSeen qM looseM [] XtM true (sF w os)).2.2.2 = (openGood qM looseM).2.2.2 := by
 kernel_rfl
noncomputable abbrev hkM := mkH kAddrs mVal
theorem looks_join {α β : Type} {a : α} {x1 y1 : β} {A B : Type} {b1 b2 b3 b4 : Bool} {f f' : A} (h1 : b1 = true) (h2 : b2 = true) (h3 : b3 = true) (h4 : b4 = true) {s g : B} (hs : s = g) (hf : f = f') : ((b1 && b2 && b3 && b4), s, f) = (true, g, f') := by
 subst hs hf h1 h2 h3 h4
 rfl
theorem pair4 {A B C D : Type} {x y : A × B × C × D} (h1 : x.1 = y.1) (h2 : x.2.1 = y.2.1) (h3 : x.2.2.1 = y.2.2.1) (h4 : x.2.2.2 = y.2.2.2) : x = y := Prod.ext h1 (Prod.ext h2 (Prod.ext h3 h4))
theorem imp_M : importedModules pg.main.body = [] := by kernel_rfl
theorem sn_all (w : World) (os : OsState) : openSeen qM looseM (importedModules pg.main.body) XtM true (sF w os) = openGood qM looseM := by
 have h1 := sn1 w os
 rw [imp_M] at h1 ⊢
 exact pair4 h1 (sn2 w os) (sn3 w os) (sn4 w os)
theorem looks_M (w : World) : (fun os : OsState => ((staticsOk (importedModules pg.main.body) (boot_heap w.params) (absHeap (Tf w.params) 675 (boot_heap w.params).life) && namesBound pg (absHeap (Tf w.params) 675 (boot_heap w.params).life) && gensDone (sF w os) && laidKept (boot_heap w.params) (absHeap (Tf w.params) 675 (boot_heap w.params).life)), openSeen qM looseM (importedModules pg.main.body) XtM true (sF w os), Hook.obs hkM (sF w os))) = fun _ => (true, openGood qM looseM, Hook.val hkM w) :=
 funext fun os => looks_join (α := Nat) (a := 0) (x1 := 0) (y1 := 0) (looks1 w os) (looks2 w os) (looks3 w os) (looks4 w os) (sn_all w os) (looks5 w os)
theorem run_M (w : World) (os : OsState) : topRun treeTable pg w 11 annM (12 + (1 + (305 + (427 + (315 + (362 + (410 + (405 + (145 + (261 + (415 + (909 + (334 + 2))))))))))))) ⟨boot_heap w.params, Array.mk [], boot_drawn, boot_toks, os⟩ (topStub pg) = some (sF w os) := h_run w os
theorem left_M : LeftO pg qM looseM XtM (Hook.obs hkM) (Hook.val hkM) 20000 true :=
 @LeftO.of_pieces pg qM looseM XtM (Hook.α hkM) (Hook.obs hkM) (Hook.val hkM) 20000 true boot_heap (fun P => absHeap (Tf P) 675 (boot_heap P).life) (Array.mk []) #[] boot_drawn boot_drawn boot_toks 1119 11 annM (12 + (1 + (305 + (427 + (315 + (362 + (410 + (405 + (145 + (261 + (415 + (909 + (334 + 2))))))))))))) open_M size_M run_M le_M looks_M
theorem dk_some : (defOf qM (Str.ofString "law")).isSome = true := by kernel_rfl
noncomputable def dkM : DefRec × List (Str × Expr) := (defOf qM (Str.ofString "law")).get dk_some
theorem hdef_M : defOf qM (Str.ofString "law") = some (dkM.1, dkM.2) := by kernel_rfl
theorem hp_M : pg.theDef (Str.ofString "law") = some (dkM.1.params, dkM.1.body, dkM.1.scope) := by kernel_rfl
theorem hk_M : kwWritten? dkM.1.params.kwonlyargs dkM.1.params.kw_defaults = some dkM.2 := by kernel_rfl
theorem nm_M : dkM.1.name = Str.ofString "law" := by kernel_rfl
theorem ok_M : (chainsOk qM && opensWell pg && (frees olM.row.toRowW && olM.row.within.isEmpty)) = true := by kernel_rfl
theorem bare_M : pg.bare := ⟨rfl, rfl, rfl, rfl, rfl, by kernel_rfl⟩
noncomputable def WalkT : Prop := ∀ (w : World) (s₁ : Shared) (mg mb : Str → Option Value) (fa sa : Addr) (vs : List Value) (ns : List Int), (kFrag w.params).In s₁.heap → s₁.heap.Ns mainGlobals mg → s₁.heap.Ns builtinsNs mb → s₁.heap.NoLimit → (∀ x : Str, x ≠ "__name__" → mb x = bootBuiltins x) → mg (Str.ofString "law") = some (.ref fa) → s₁.heap.IsList sa vs.toArray → IntsAre vs ns → ns.length ≤ 63 → ∀ (Q E : Value → Shared → Prop), (∀ s', (∀ b o, s₁.heap.get? b = some o → s'.heap.get? b = some o) → s'.gens = s₁.gens → s'.os = s₁.os → Q (.bool true) s') → wpAny (model pg w) callerA (call (.ref fa) [.ref sa]) Q E s₁
theorem fin_ok (s₀ s₁ s' : Shared) (args : List WData) (hk : ∀ b o, s₁.heap.get? b = some o → s'.heap.get? b = some o) (hg : s'.gens = #[]) (ho : s'.os = s₁.os) : GoodWG PySem.Challenge.rw_og0102_01.row.claim (classAt s₀.heap) (ExcName.means s₀.heap) args s₁ (Except.ok (Flow.ret (.bool true))) s' := by
 refine ⟨.inl ⟨.bool true, .bool true, [], rfl, fun cls => ?_, .bool _, ?_, fun _ => ⟨.nil, fun a ha => nomatch ha⟩⟩, .of_keep hk, ho, .of_eq hg⟩
 ·rfl
 ·wrow_post
theorem hd (said : olM.wellSaid = true) (walk : WalkT) : olM.Holds := by
 refine holds_law said fun said => ?_
 refine @holds_open olM.row qM looseM XtM (XL qM []) (Hook.α hkM) (Hook.obs hkM) (Hook.val hkM) (Hook.says hkM) dkM.1 dkM.2 20000 left_M (Hook.of hkM) (Hook.keeps hkM) (fun s e => xl_of s (Bool.and_eq_true_iff.mp e).1) XL.keeps hdef_M hp_M hk_M (fun s e => recFacts_of (Bool.and_eq_true_iff.mp e).2) rfl said ok_M bare_M ?hw ?hc
 case hw => w_witness2
 intro w s₀ s₁ mg mb G Y fa o pm cd doc dV kV ho hd hcd hD hmg hg args vals as hpre hlay hrd hwl hlo
 have KX := kIn Y
 rw [nm_M] at hmg
 have T := G.T
 clear hcd hD hd ho Y
 wrow_args hpre hlay hrd hwl hlo
 rename_i ns _ _ _ _ _ _ _ sa vs _ hl _ _ _ hi _ hc _
 exact walk w s₁ mg mb fa sa vs ns KX T.g T.b T.nolimit T.builtins hmg hl hi (by omega) _ _ fun s' hk hgens hos => fin_ok s₀ s₁ s' _ hk (hgens.trans hg) hos
theorem rd0 {d n : Nat} (h : d + 2 * (n + 1) < 900) : d + 2 * n < 900 := by omega
theorem rd1 {d n : Nat} (h : d + 2 * (n + 1) < 900) : d + 1 + 2 * n < 900 := by omega
theorem ru1 {u n : Nat} (h : u + 20 * (n + 1) < 9000) : u + 1 + 20 * n < 9000 := by omega
theorem ru3 {u n : Nat} (h : u + 20 * (n + 1) < 9000) : u + 3 + 20 * n < 9000 := by omega
theorem rdK {d n : Nat} (h : d + 2 * n < 900) : d < 1000 := by omega
theorem ru2 {u n : Nat} (h : u + 20 * n < 9000) : u < cLine := Nat.lt_trans (Nat.lt_of_le_of_lt (Nat.le_add_right _ _) h) (by decide)
theorem ruD {u n d : Nat} (h : u + 20 * n < 9000) (hd : d < 100) : u + d + 1 < cLine := by show _ < 9900; omega
theorem uq1 {u d k : Nat} (h : u + (d + 1) < k) : u + 1 + d < k := by omega
theorem uq3 {u d k : Nat} (h : u + d + 1 < k) : u + 1 + d < k := by omega
theorem sub_full {a b n : Nat} (h : a - b = n) (hb : a ≤ n) : b = 0 ∨ n = 0 := by
 cases b with
 | zero => exact .inl rfl
 | succ b =>
  cases n with
  | zero => exact .inr rfl
  | succ n => exact absurd (Nat.lt_of_lt_of_le (Nat.sub_lt (Nat.lt_of_lt_of_le (Nat.succ_pos n) (Nat.le_trans (Nat.le_of_eq h.symm) (Nat.sub_le a (b + 1)))) (Nat.succ_pos b)) hb) (by rw [h]; exact Nat.lt_irrefl _)
theorem le_eq {i n : Nat} (h : ¬ i < n) (h' : i ≤ n) : i = n := Nat.le_antisymm h' (Nat.le_of_not_lt h)
theorem turn_lt {i n : Nat} (h : i < n) : n + 1 - (i + 1) < n + 1 - i := Nat.sub_lt_sub_left (Nat.lt_succ_of_lt h) (Nat.lt_succ_self i)
theorem app_case {α : Type} {l : List α} {x y : α} {i : Nat} (h : (l ++ [x])[i]? = some y) (hi : ¬ i < l.length) : i = l.length := by
 have := (List.getElem?_eq_some_iff.mp h).1
 rw [List.length_append] at this
 exact le_eq hi (Nat.le_of_lt_succ this)
inductive V where
 | none
 | bool (b : Bool)
 | int (i : Int)
 | str (s : Str)
 | bytes (b : Array UInt8)
 | tup (l : List V)
 | obj (i : Nat)
 | val (v : Value)
 | any
noncomputable abbrev Mp := List (Addr × Addr)
mutual
noncomputable def Rep (h : Heap) (μ : Mp) : V → Value → Prop
 | .none, v => v = .none
 | .bool b, v => v = .bool b
 | .int i, v => ∃ t, v = .int i t
 | .str x, v => ∃ t, v = .str x t
 | .bytes x, v => ∃ t, v = .bytes x t
 | .tup l, v => ∃ a vs n, v = .ref a ∧ h.get? a = some (tpO vs n) ∧ RepL h μ l vs
 | .obj i, v => ∃ a, μ[i]? = some a ∧ v = .ref a.1
 | .val c, v => v = c
 | .any, _ => True
noncomputable def RepL (h : Heap) (μ : Mp) : List V → List Value → Prop
 | [], vs => vs = []
 | x :: l, vs => ∃ v r, vs = v :: r ∧ Rep h μ x v ∧ RepL h μ l r
end
inductive AO where
 | list (l : List V)
 | inst (C : Addr) (fs : List (Str × V))
 | exc (C : Addr) (fs : List (Str × V))
 | new (C : Addr) (fs : List (Str × V))
noncomputable def FRel (h : Heap) (μ : Mp) : List (Str × V) → List DictEntry → Prop
 | [], es => es = []
 | (n, x) :: l, es => ∃ e r, es = e :: r ∧ (∃ t, e.key = .str n t) ∧ Rep h μ x e.val ∧ FRel h μ l r
noncomputable def AORel (h : Heap) (μ : Mp) : AO → Addr × Addr → Prop
 | .list l, a => a.2 = a.1 ∧ ∃ vs n, h.get? a.1 = some { cls := .type "list", data := .seq (vs : List Value).toArray n } ∧ RepL h μ l vs
 | .inst C fs, a => ∃ es n, h.get? a.1 = some (instObj C a.2) ∧ h.get? a.2 = some (dictOf es n) ∧ FRel h μ fs es
 | .exc C fs, a => ∃ vs es n, vs.size = 6 ∧ h.get? a.1 = some { cls := .ref C, dict := some a.2, data := .fields vs } ∧ h.get? a.2 = some (dictOf es n) ∧ FRel h μ fs es
 | .new C fs, a => ∃ vs es n, vs.size = 6 ∧ vs[1]? = some .none ∧ h.get? a.1 = some { cls := .ref C, dict := some a.2, data := .fields vs } ∧ h.get? a.2 = some (dictOf es n) ∧ FRel h μ fs es
noncomputable def Mut (μ : Mp) (b : Addr) : Prop := ∃ a ∈ μ, b = a.1 ∨ b = a.2
noncomputable def Apart (a b : Addr × Addr) : Prop := a.1 ≠ b.1 ∧ a.1 ≠ b.2 ∧ a.2 ≠ b.1 ∧ a.2 ≠ b.2
noncomputable def Kept (F D : Addr → Prop) (h h' : Heap) : Prop := ∀ b o, h.get? b = some o → ¬ D b → ∃ sl, h'.get? b = some { o with slots := sl } ∧ (¬ F b → sl = o.slots)
theorem Kept.of_keeps {F D : Addr → Prop} {h h' : Heap} (k : ∀ b o, h.get? b = some o → h'.get? b = some o) : Kept F D h h' := fun _ o e _ => ⟨o.slots, k _ _ e, fun _ => rfl⟩
theorem Kept.refl (F D : Addr → Prop) (h : Heap) : Kept F D h h := Kept.of_keeps fun _ _ e => e
theorem Kept.get {F D : Addr → Prop} {h h' : Heap} (k : Kept F D h h') {b : Addr} {o : Obj} (e : h.get? b = some o) (hD : ¬ D b) (hF : ¬ F b) : h'.get? b = some o := by
 obtain ⟨sl, e', q⟩ := k b o e hD
 rw [q hF] at e'; exact e'
noncomputable def NoF : Addr → Prop := fun _ => False
noncomputable def NoTup (h : Heap) (D : Addr → Prop) : Prop := ∀ b vs n, D b → h.get? b ≠ some (tpO vs n)
theorem noTup_none {h : Heap} : NoTup h (fun b => NoF b ∨ NoF b) := fun _ _ _ x => x.elim (fun z => z.elim) fun z => z.elim
mutual
theorem Rep.mono {h h' : Heap} {μ μ' : Mp} {F D : Addr → Prop} (k : Kept F D h h') (nt : NoTup h (fun b => F b ∨ D b)) (p : μ <+: μ') : ∀ {x : V} {v : Value}, Rep h μ x v → Rep h' μ' x v
 | .none, _, r => r
 | .bool _, _, r => r
 | .int _, _, r => r
 | .str _, _, r => r
 | .bytes _, _, r => r
 | .tup l, _, r => by
  obtain ⟨a, vs, n, rfl, t, rl⟩ := r
  exact ⟨a, vs, n, rfl, k.get t (fun hd => nt a vs n (.inr hd) t) (fun hf => nt a vs n (.inl hf) t), RepL.mono k nt p rl⟩
 | .obj i, _, r => by
  obtain ⟨a, ha, rfl⟩ := r
  exact ⟨a, by obtain ⟨t, rfl⟩ := p; rw [List.getElem?_append_left (List.getElem?_eq_some_iff.mp ha).1, ha], rfl⟩
 | .val _, _, r => r
 | .any, _, r => r
theorem RepL.mono {h h' : Heap} {μ μ' : Mp} {F D : Addr → Prop} (k : Kept F D h h') (nt : NoTup h (fun b => F b ∨ D b)) (p : μ <+: μ') : ∀ {l : List V} {vs : List Value}, RepL h μ l vs → RepL h' μ' l vs
 | [], _, r => r
 | _ :: _, _, r => by
  obtain ⟨v, q, rfl, r1, r2⟩ := r
  exact ⟨v, q, rfl, Rep.mono k nt p r1, RepL.mono k nt p r2⟩
end
theorem FRel.mono {h h' : Heap} {μ μ' : Mp} {F D : Addr → Prop} (k : Kept F D h h') (nt : NoTup h (fun b => F b ∨ D b)) (p : μ <+: μ') : ∀ {l : List (Str × V)} {es : List DictEntry}, FRel h μ l es → FRel h' μ' l es
 | [], _, r => r
 | (_, _) :: _, _, r => by
  obtain ⟨v, q, rfl, r1, r2, r3⟩ := r
  exact ⟨v, q, rfl, r1, Rep.mono k nt p r2, FRel.mono k nt p r3⟩
structure St (base : Heap) (fr : List Env) (μ : Mp) (H : List AO) (h : Heap) : Prop where
 stays : base.StaysIn h
 frames : h.FunFrames base fr
 len : μ.length = H.length
 rel : ∀ (i : Nat) (o : AO) (a : Addr × Addr), H[i]? = some o → μ[i]? = some a → AORel h μ o a
 apart : μ.Pairwise Apart
 off : ∀ L ∈ fr.filterMap (·.frame), ¬ Mut μ L
 fresh : ∀ b, Mut μ b → base.get? b = none
 frd : ∀ L ∈ fr.filterMap (·.frame), ∃ m, h.Ns L m
theorem AORel.live {h : Heap} {μ : Mp} {o : AO} {a : Addr × Addr} (r : AORel h μ o a) : (∃ x, h.get? a.1 = some x ∧ x.cls ≠ .type "tuple") ∧ ∃ x, h.get? a.2 = some x ∧ x.cls ≠ .type "tuple" := by
 cases o with
 | list l =>
  obtain ⟨e, vs, n, g, _⟩ := r
  rw [e]
  exact ⟨⟨_, g, by simp⟩, _, g, by simp⟩
 | inst C fs => obtain ⟨es, n, g, g2, _⟩ := r; exact ⟨⟨_, g, by simp⟩, _, g2, by simp⟩
 | exc C fs => obtain ⟨vs, es, n, _, g, g2, _⟩ := r; exact ⟨⟨_, g, by simp⟩, _, g2, by simp⟩
 | new C fs => obtain ⟨vs, es, n, _, _, g, g2, _⟩ := r; exact ⟨⟨_, g, by simp⟩, _, g2, by simp⟩
theorem St.live {base : Heap} {fr : List Env} {μ : Mp} {H : List AO} {h : Heap} (S : St base fr μ H h) {b : Addr} (hm : Mut μ b) : ∃ x, h.get? b = some x ∧ x.cls ≠ .type "tuple" := by
 obtain ⟨a, ha, hb⟩ := hm
 obtain ⟨i, hi, e⟩ := List.getElem_of_mem ha
 have hH : i < H.length := S.len ▸ hi
 have r := S.rel i H[i] a (List.getElem?_eq_getElem hH) (by rw [List.getElem?_eq_getElem hi, e])
 rcases hb with rfl | rfl
 ·exact r.live.1
 ·exact r.live.2
noncomputable def InFr (fr : List Env) (b : Addr) : Prop := b ∈ fr.filterMap (·.frame)
theorem St.noTup {base : Heap} {fr : List Env} {μ : Mp} {H : List AO} {h : Heap} (S : St base fr μ H h) : NoTup h (fun b => InFr fr b ∨ Mut μ b) := fun b vs n hm ho => by
 rcases hm with hm | hm
 ·obtain ⟨_, o, es, m, e, d, _⟩ := S.frd b hm
  rw [ho] at e; cases e; simp [tpO] at d
 ·obtain ⟨x, hx, hc⟩ := S.live hm
  rw [ho] at hx; cases hx; exact hc rfl
theorem AORel.keeps {h h' : Heap} {μ μ' : Mp} {o : AO} {a : Addr × Addr} {F D : Addr → Prop} (r : AORel h μ o a) (k : Kept F D h h') (nt : NoTup h (fun b => F b ∨ D b)) (p : μ <+: μ') (e1 : h'.get? a.1 = h.get? a.1) (e2 : h'.get? a.2 = h.get? a.2) : AORel h' μ' o a := by
 cases o with
 | list l =>
  obtain ⟨e, vs, n, g, rl⟩ := r
  exact ⟨e, vs, n, e1.trans g, rl.mono k nt p⟩
 | inst C fs => obtain ⟨es, n, g, g2, rl⟩ := r; exact ⟨es, n, e1.trans g, e2.trans g2, rl.mono k nt p⟩
 | exc C fs => obtain ⟨vs, es, n, hs, g, g2, rl⟩ := r; exact ⟨vs, es, n, hs, e1.trans g, e2.trans g2, rl.mono k nt p⟩
 | new C fs => obtain ⟨vs, es, n, hs, h1, g, g2, rl⟩ := r; exact ⟨vs, es, n, hs, h1, e1.trans g, e2.trans g2, rl.mono k nt p⟩
theorem frames_keep {h h' base : Heap} : ∀ {l : List Env}, h.FunFrames base l → (∀ L ∈ l.filterMap (·.frame), ∀ o, h.get? L = some o → (∀ vs, o.data ≠ .fields vs) → ∃ o', h'.get? L = some o' ∧ ∀ vs, o'.data ≠ .fields vs) → h'.FunFrames base l
 | [], _, _ => trivial
 | env :: r, ⟨hk, ⟨L, o, hf, hn, ho, hd⟩, hr⟩, k => by
  refine ⟨hk, ?_, frames_keep hr fun L' hL' => k L' ?_⟩
  ·obtain ⟨o', ho', hd'⟩ := k L (by rw [List.filterMap_cons, hf]; exact .head _) o ho hd
   exact ⟨L, o', hf, hn, ho', hd'⟩
  ·rw [List.filterMap_cons]; split
   ·exact hL'
   ·exact .tail _ hL'
theorem St.keeps {base : Heap} {fr : List Env} {μ : Mp} {H : List AO} {h h' : Heap} (S : St base fr μ H h) (k : ∀ b o, h.get? b = some o → h'.get? b = some o) : St base fr μ H h' where
 stays := fun b o e => k _ _ (S.stays b o e)
 frames := frames_keep S.frames fun L _ o e hd => ⟨o, k _ _ e, hd⟩
 len := S.len
 rel := fun i o a ho ha => by
  have r := S.rel i o a ho ha
  obtain ⟨⟨x, hx, _⟩, y, hy, _⟩ := r.live
  exact r.keeps (F := NoF) (D := NoF) (Kept.of_keeps k) noTup_none (List.prefix_refl _) (by rw [hx, k _ _ hx]) (by rw [hy, k _ _ hy])
 apart := S.apart
 off := S.off
 fresh := S.fresh
 frd := fun L hL => let ⟨m, x⟩ := S.frd L hL; ⟨m, x.keeps k⟩
structure Ext (fr : List Env) (O : Addr → Prop) (μ μ' : Mp) (s s' : Shared) : Prop where
 pre : μ <+: μ'
 keep : Kept (InFr fr) (fun b => Mut μ b ∨ O b) s.heap s'.heap
 new : ∀ (i : Nat) (a : Addr × Addr), μ.length ≤ i → μ'[i]? = some a → s.heap.get? a.1 = none ∧ s.heap.get? a.2 = none
 rest : s'.gens = s.gens ∧ s'.drawn = s.drawn ∧ s'.os = s.os
theorem Ext.of_keeps {fr : List Env} {O : Addr → Prop} {μ : Mp} {s : Shared} {h' : Heap} {tk : Nat} (k : ∀ b o, s.heap.get? b = some o → h'.get? b = some o) : Ext fr O μ μ s { s with heap := h', toks := tk } :=
 ⟨List.prefix_refl _, Kept.of_keeps k, fun i a hi ha => (by rw [List.getElem?_eq_none hi] at ha; cases ha), rfl, rfl, rfl⟩
theorem Ext.refl {fr : List Env} {O : Addr → Prop} {μ : Mp} {s : Shared} : Ext fr O μ μ s s := Ext.of_keeps (h' := s.heap) (tk := s.toks) fun _ _ e => e
theorem Ext.toks {fr : List Env} {O : Addr → Prop} {μ : Mp} {s : Shared} {tk : Nat} : Ext fr O μ μ s { s with toks := tk } := Ext.of_keeps (h' := s.heap) fun _ _ e => e
theorem mut_mono {μ μ' : Mp} (p : μ <+: μ') {b : Addr} (h : Mut μ b) : Mut μ' b := let ⟨a, ha, hb⟩ := h; ⟨a, p.subset ha, hb⟩
theorem mut_of_new {fr : List Env} {O : Addr → Prop} {μ μ' : Mp} {s s' : Shared} (x : Ext fr O μ μ' s s') {b : Addr} {o : Obj} (ho : s.heap.get? b = some o) (hm : Mut μ' b) : Mut μ b := by
 obtain ⟨a, ha, hb⟩ := hm
 obtain ⟨i, hi, e⟩ := List.getElem_of_mem ha
 by_cases hl : i < μ.length
 ·obtain ⟨t, rfl⟩ := x.pre
  rw [List.getElem_append_left hl] at e
  exact ⟨a, e ▸ List.getElem_mem hl, hb⟩
 ·have := x.new i a (Nat.le_of_not_lt hl) (by rw [List.getElem?_eq_getElem hi, e])
  rcases hb with rfl | rfl
  ·rw [this.1] at ho; cases ho
  ·rw [this.2] at ho; cases ho
theorem Ext.trans {fr : List Env} {O : Addr → Prop} {μ₁ μ₂ μ₃ : Mp} {s₁ s₂ s₃ : Shared} (x : Ext fr O μ₁ μ₂ s₁ s₂) (y : Ext fr O μ₂ μ₃ s₂ s₃) (live : ∀ b o, s₁.heap.get? b = some o → ∃ o', s₂.heap.get? b = some o') : Ext fr O μ₁ μ₃ s₁ s₃ where
 pre := x.pre.trans y.pre
 keep := fun b o e hn => by
  obtain ⟨sl, e', q⟩ := x.keep b o e hn
  obtain ⟨sl', e'', q'⟩ := y.keep b _ e' fun hm => hn (hm.imp (mut_of_new x e) id)
  exact ⟨sl', e'', fun hc => (q' hc).trans (q hc)⟩
 new := fun i a hi ha => by
  by_cases hl : i < μ₂.length
  ·refine x.new i a hi ?_
   obtain ⟨t, rfl⟩ := y.pre
   rwa [List.getElem?_append_left hl] at ha
  ·have := y.new i a (Nat.le_of_not_lt hl) ha
   constructor
   ·cases q : s₁.heap.get? a.1 with
    | none => rfl
    | some o => obtain ⟨o', e⟩ := live _ _ q; rw [this.1] at e; cases e
   ·cases q : s₁.heap.get? a.2 with
    | none => rfl
    | some o => obtain ⟨o', e⟩ := live _ _ q; rw [this.2] at e; cases e
 rest := ⟨y.rest.1.trans x.rest.1, y.rest.2.1.trans x.rest.2.1, y.rest.2.2.trans x.rest.2.2⟩
theorem Ext.weaken {fr : List Env} {O O' : Addr → Prop} {μ μ' : Mp} {s s' : Shared} (x : Ext fr O μ μ' s s') (hO : ∀ b, O b → O' b) : Ext fr O' μ μ' s s' :=
 ⟨x.pre, fun b o e hn => x.keep b o e fun h => hn (h.imp id (hO b)), x.new, x.rest⟩
structure Cx where
 w : World
 base : Heap
 mg : Str → Option Value
 mb : Str → Option Value
 X : (kFrag w.params).In base
 g : base.Ns mainGlobals mg
 b : base.Ns builtinsNs mb
 nl : base.NoLimit
 bi : ∀ x : Str, x ≠ "__name__" → mb x = bootBuiltins x
noncomputable abbrev Cx.M (c : Cx) : Model := model pg c.w
inductive Kd where
 | loc | cell | glob
noncomputable abbrev Loc := List (Str × Kd × Option V)
structure Room (A : Around) (n : Nat) : Prop where
 d : A.depth + 2 * n < 900
 u : A.units + 20 * n < 9000
 hd : n = 0 ∨ A.handled = none
theorem Room.le {A : Around} {n m : Nat} (r : Room A n) (h : m ≤ n) : Room A m := ⟨Nat.lt_of_le_of_lt (Nat.add_le_add_left (Nat.mul_le_mul_left 2 h) _) r.d, Nat.lt_of_le_of_lt (Nat.add_le_add_left (Nat.mul_le_mul_left 20 h) _) r.u, r.hd.imp (fun e : n = 0 => Nat.le_zero.mp (Nat.le_trans h (Nat.le_of_eq e))) id⟩
structure EnvOk (env : Env) (fr : List Env) : Prop where
 kind : env.scope.kind = .function
 glob : env.globals = mainGlobals
 blt : env.builtins = builtinsNs
 frame : ∃ L, env.frame = some L ∧ (fr.head?.bind (·.frame)) = some L
noncomputable def Rho (h : Heap) (μ : Mp) (env : Env) (c : Cx) (ρ : Loc) : Prop := ∃ m, h.Ns env.locals m ∧ ¬ Mut μ env.locals ∧ c.base.get? env.locals = none ∧ (ρ.map (·.1)).Nodup ∧ ∀ x k V, (x, k, V) ∈ ρ → match k with
 | .loc => env.kindOf x = some .local ∧ ∀ y, V = some y → ∃ v, m x = some v ∧ Rep h μ y v
 | .cell => env.kindOf x = some .cell ∧ ∃ ca c0, env.cells.lookup x = some ca ∧ h.IsCell ca c0 ∧ ¬ Mut μ ca ∧ ∀ y, V = some y → ∃ v, c0 = some v ∧ Rep h μ y v
 | .glob => env.kindOf x = some .globalImplicit ∧ ∀ y, V = some y → ∃ v, (c.mg x = some v ∨ (c.mg x = none ∧ c.mb x = some v)) ∧ Rep c.base [] y v
structure Sit (c : Cx) (n : Nat) (A : Around) (env : Env) (fr : List Env) (μ : Mp) (H : List AO) (ρ : Loc) (s : Shared) : Prop where
 room : Room A n
 stack : A.frames = some fr
 eok : EnvOk env fr
 st : St c.base fr μ H s.heap
 rho : Rho s.heap μ env c ρ
noncomputable def N : Addr → Prop := fun _ => False
variable {p pos px tp ap : Pos} {c : Cx} {w : World} {μ μ' μ₁ : Mp} {x y : Str} {H H' H₁ H1 : List AO} {s s' s₁ : Shared} {fr : List Env} {i k m d n pj ln : Nat} {l xs : List V} {h h' base : Heap} {r body : List Stmt} {e o : Expr} {ch : Nat} {env : Env} {E Q : Value → Shared → Prop} {A : Around} {a C : Addr} {v g : Value} {ρ ρc : Loc} {O : Addr → Prop} {as es : List Expr} {R : V → List AO → Prop} {X : Nat → List AO → Prop} {vs : List Value} {sc : Scope}
open _root_.PySem.Str renaming ofString → so
open _root_.List renaming getElem?_eq_some_iff → gsi, length_append → lAp, length_map → lMp, getElem?_append_right → gAr, getElem?_append_left → gAl, length_cons → lCo, length_nil → lNi, prefix_refl → pRe, getElem?_eq_getElem → gEg, length_range → lRa, append_assoc → aAs, getElem?_set_self → gSs, mem_of_getElem? → mOg, take_append_drop → tAd
open _root_.PySem.Heap renaming get?_push_of_some → gPs, get?_push_size → gPz, get?_update_other → gUo
theorem Ext.live (x : Ext fr N μ μ' s s') (S' : St base fr μ' H' s'.heap) (b : Addr) (o : Obj) (e : s.heap.get? b = some o) : ∃ o', s'.heap.get? b = some o' := by
 by_cases hm : Mut μ b
 ·walk_at "z"
  obtain ⟨y, hy, _⟩ := S'.live (mut_mono x.pre hm)
  walk_at "y"
  exact ⟨y, hy⟩
 ·walk_at "z"
  obtain ⟨sl, e', _⟩ := x.keep b o e fun h => h.elim hm id
  walk_at "y"
  exact ⟨_, e'⟩
theorem Ext.comp {μ₂ : Mp} {s₂ : Shared} (x : Ext fr N μ μ₁ s s₁) (S₁ : St base fr μ₁ H₁ s₁.heap) (y : Ext fr O μ₁ μ₂ s₁ s₂) : Ext fr O μ μ₂ s s₂ :=
 (x.weaken fun _ h => h.elim).trans y (x.live S₁)
theorem Ext.noTup (_x : Ext fr N μ μ' s s') (S : St base fr μ H s.heap) : NoTup s.heap (fun b => InFr fr b ∨ (Mut μ b ∨ N b)) := fun b vs n h e => S.noTup b vs n (h.imp id fun h => h.elim id fun z => z.elim) e
theorem Ext.rep (x : Ext fr N μ μ' s s') (S : St base fr μ H s.heap) {y : V} (r : Rep s.heap μ y v) : Rep s'.heap μ' y v := r.mono x.keep (x.noTup S) x.pre
theorem Ext.repL (x : Ext fr N μ μ' s s') (S : St base fr μ H s.heap) {y : List V} {v : List Value} (r : RepL s.heap μ y v) : RepL s'.heap μ' y v := r.mono x.keep (x.noTup S) x.pre
theorem Heap.Ns.kept {m : Str → Option Value} {F D : Addr → Prop} (x : h.Ns a m) (k : Kept F D h h') (hD : ¬ D a) : h'.Ns a m := by
 walk_at "z"
 obtain ⟨o, es, ep, ho, r⟩ := x
 walk_at "y"
 walk_at "z"
 obtain ⟨sl, e, _⟩ := k a o ho hD
 walk_at "y"
 exact ⟨_, es, ep, e, r⟩
theorem Heap.IsCell.kept {c0 : Option Value} {F D : Addr → Prop} (x : h.IsCell a c0) (k : Kept F D h h') (hD : ¬ D a) : h'.IsCell a c0 := by
 walk_at "z"
 obtain ⟨o, ho, r⟩ := x
 walk_at "y"
 walk_at "z"
 obtain ⟨sl, e, _⟩ := k a o ho hD
 walk_at "y"
 exact ⟨_, e, r⟩
theorem not_mut_new (x : Ext fr O μ μ' s s') {b : Addr} {o : Obj} (ho : s.heap.get? b = some o) (h : ¬ Mut μ b) : ¬ Mut μ' b := fun hm => h (mut_of_new x ho hm)
theorem Rho.next (R : Rho s.heap μ env c ρ) (S : St c.base fr μ H s.heap) (x : Ext fr N μ μ' s s') : Rho s'.heap μ' env c ρ := by
 walk_at "z"
 obtain ⟨m, hn, hm, hb, hnd, hr⟩ := R
 walk_at "y"
 have hn' : s'.heap.Ns env.locals m := Heap.Ns.kept hn x.keep fun h => h.elim hm id
 walk_at "z"
 obtain ⟨o, es, ep, ho, _⟩ := id hn
 walk_at "y"
 refine ⟨m, hn', not_mut_new x ho hm, hb, hnd, fun y k V hy => ?_⟩
 have q := hr y k V hy
 cases k with
 | loc => exact ⟨q.1, fun z hz => let ⟨v, h1, h2⟩ := q.2 z hz; ⟨v, h1, x.rep S h2⟩⟩
 | glob => exact q
 | cell =>
  walk_at "z"
  obtain ⟨q1, ca, c0, q2, q3, q4, q5⟩ := q
  walk_at "y"
  walk_at "z"
  obtain ⟨oc, hoc, _⟩ := id q3
  walk_at "y"
  exact ⟨q1, ca, c0, q2, Heap.IsCell.kept q3 x.keep fun h => h.elim q4 id, not_mut_new x hoc q4, fun z hz => let ⟨v, h1, h2⟩ := q5 z hz; ⟨v, h1, x.rep S h2⟩⟩
theorem Sit.next (S : Sit c n A env fr μ H ρ s) (x : Ext fr N μ μ' s s') (S' : St c.base fr μ' H' s'.heap) : Sit c n A env fr μ' H' ρ s' :=
 ⟨S.room, S.stack, S.eok, S', S.rho.next S.st x⟩
structure Raised (μ' : Mp) (H' : List AO) (i : Nat) (v : Value) (s s' : Shared) : Prop where
 is : ∃ a C fs vs, μ'[i]? = some a ∧ H'[i]? = some (.exc C fs) ∧ v = .ref a.1 ∧ s.heap.get? a.1 = none ∧ s'.heap.get? a.1 = some { cls := .ref C, dict := some a.2, data := .fields vs } ∧ vs.size = 6 ∧
  (vs[1]? = some .none ∨ ∃ T oT ts, vs[1]? = some (.ref T) ∧ s.heap.get? T = none ∧ ¬ Mut μ' T ∧ s'.heap.get? T = some oT ∧ oT.data = .fields ts ∧ 4 ≤ ts.size)
noncomputable def Cont (O : Addr → Prop) (c : Cx) (fr : List Env) (μ : Mp) (s : Shared) (R : V → List AO → Prop) (Q : Value → Shared → Prop) : Prop :=
 ∀ x H' μ' v s', R x H' → Ext fr O μ μ' s s' → St c.base fr μ' H' s'.heap → Rep s'.heap μ' x v → Q v s'
noncomputable def ContX (O : Addr → Prop) (c : Cx) (fr : List Env) (μ : Mp) (s : Shared) (X : Nat → List AO → Prop) (E : Value → Shared → Prop) : Prop :=
 ∀ i H' μ' v s', X i H' → Ext fr O μ μ' s s' → St c.base fr μ' H' s'.heap → Raised μ' H' i v s s' → E v s'
theorem none_back (x : Ext fr N μ μ₁ s s₁) (S₁ : St base fr μ₁ H₁ s₁.heap) {b : Addr} (e : s₁.heap.get? b = none) : s.heap.get? b = none := by
 cases q : s.heap.get? b with
 | none => rfl
 | some o => obtain ⟨o', h⟩ := x.live S₁ b o q; rw [e] at h; cases h
theorem Raised.back (x : Ext fr N μ μ₁ s s₁) (S₁ : St base fr μ₁ H₁ s₁.heap) (r : Raised μ' H' i v s₁ s') : Raised μ' H' i v s s' := by
 walk_at "z"
 obtain ⟨a, C, fs, vs, h1, h2, h3, h4, h5, h6, h7⟩ := r
 walk_at "y"
 exact ⟨a, C, fs, vs, h1, h2, h3, none_back x S₁ h4, h5, h6, h7.imp id fun ⟨T, oT, ts, f1, f2, f3⟩ => ⟨T, oT, ts, f1, none_back x S₁ f2, f3⟩⟩
theorem Cont.next (k : Cont O c fr μ s R Q) (x : Ext fr N μ μ₁ s s₁) (S₁ : St c.base fr μ₁ H₁ s₁.heap) : Cont O c fr μ₁ s₁ R Q :=
 fun y H' μ' v s' hR x' S' r => k y H' μ' v s' hR (x.comp S₁ x') S' r
theorem ContX.next (k : ContX O c fr μ s X E) (x : Ext fr N μ μ₁ s s₁) (S₁ : St c.base fr μ₁ H₁ s₁.heap) : ContX O c fr μ₁ s₁ X E :=
 fun i H' μ' v s' hX x' S' r => k i H' μ' v s' hX (x.comp S₁ x') S' (r.back x S₁)
noncomputable def TrE (c : Cx) (n : Nat) (t : Env → Sem Value) (ρ : Loc) (H : List AO) (R : V → List AO → Prop) (X : Nat → List AO → Prop) : Prop :=
 ∀ (A : Around) (env : Env) (fr : List Env) (μ : Mp) (s : Shared), Sit c n A env fr μ H ρ s → ∀ (Q E : Value → Shared → Prop), Cont N c fr μ s R Q → ContX N c fr μ s X E → wpAny c.M A (t env) Q E s
noncomputable abbrev EvE (c : Cx) (n : Nat) (e : Expr) (ρ : Loc) (H : List AO) (R : V → List AO → Prop) (X : Nat → List AO → Prop) : Prop := TrE c n (eval e) ρ H R X
theorem TrE.mono {t : Env → Sem Value} {R' : V → List AO → Prop} {X' : Nat → List AO → Prop} (h : TrE c n t ρ H R X) (hR : ∀ x H, R x H → R' x H) (hX : ∀ i H, X i H → X' i H) : TrE c n t ρ H R' X' :=
 fun A env fr μ s S Q E hQ hE => h A env fr μ s S Q E (fun x H' μ' v s' r => hQ x H' μ' v s' (hR _ _ r)) (fun i H' μ' v s' r => hE i H' μ' v s' (hX _ _ r))
theorem Cont.here (k : Cont O c fr μ s R Q) (S : St c.base fr μ H s.heap) {x : V} {tk : Nat} (hR : R x H)
  (hk : ∀ b o, s.heap.get? b = some o → h'.get? b = some o) (r : Rep h' μ x v) : Q v { s with heap := h', toks := tk } :=
 k x H μ v _ hR (Ext.of_keeps hk) (S.keeps hk) r
theorem Cont.same (k : Cont O c fr μ s R Q) (S : St c.base fr μ H s.heap) {x : V} {tk : Nat} (hR : R x H)
  (r : Rep s.heap μ x v) : Q v { s with toks := tk } := k.here (h' := s.heap) S hR (fun _ _ e => e) r
theorem Cont.now (k : Cont O c fr μ s R Q) (S : St c.base fr μ H s.heap) {x : V} (hR : R x H)
  (r : Rep s.heap μ x v) : Q v s := k x H μ v s hR Ext.refl S r
section
variable {c : Cx} {n : Nat} {ρ : Loc} {H : List AO} {R : V → List AO → Prop} {X : Nat → List AO → Prop}
theorem EvE.int {i : Int} (h : R (.int i) H) : EvE c n (.Constant (.int i) k p) ρ H R X :=
 fun _ _ _ _ _ S _ _ hQ _ => wpAny_mkInt (hQ.same S.st h ⟨_, rfl⟩)
theorem EvE.str (h : R (.str x) H) : EvE c n (.Constant (.str x) k p) ρ H R X :=
 fun _ _ _ _ _ S _ _ hQ _ => wpAny_mkText (hQ.same S.st h ⟨_, rfl⟩)
theorem EvE.none (h : R .none H) : EvE c n (.Constant .none k p) ρ H R X :=
 fun _ _ _ _ _ S _ _ hQ _ => wpAny_pure (hQ.now S.st h rfl)
theorem EvE.bool {b : Bool} (h : R (.bool b) H) : EvE c n (.Constant (.bool b) k p) ρ H R X :=
 fun _ _ _ _ _ S _ _ hQ _ => wpAny_pure (hQ.now S.st h rfl)
theorem rep_base (S : St c.base fr μ H h) {y : V} (r : Rep c.base [] y v) : Rep h μ y v :=
 r.mono (F := NoF) (D := NoF) (Kept.of_keeps S.stays) noTup_none (List.nil_prefix)
theorem loadN {k : Kd} {y : V} (hm : (x, k, some y) ∈ ρ) (h : R y H) : TrE c n (fun env => loadName env x) ρ H R X := by
 intro A env fr μ s S Q E hQ hE
 walk_at "z"
 obtain ⟨m, hn, hmu, _, _, hr⟩ := S.rho
 walk_at "y"
 have q := hr x k _ hm
 cases k with
 | loc =>
  walk_at "z"
  obtain ⟨v, h1, h2⟩ := q.2 y rfl
  walk_at "y"
  exact wpAny_loadName_local S.eok.kind q.1 hn h1 (hQ.now S.st h h2)
 | cell =>
  walk_at "z"
  obtain ⟨q1, ca, c0, q2, q3, q4, q5⟩ := q
  walk_at "y"
  walk_at "z"
  obtain ⟨v, eN1, h2⟩ := q5 y rfl
  walk_at "y"
  subst eN1
  exact wpAny_loadName_cell S.eok.kind q1 q2 q3 (hQ.now S.st h h2)
 | glob =>
  walk_at "z"
  obtain ⟨v, h1, h2⟩ := q.2 y rfl
  walk_at "y"
  have fin : Q v s := hQ.now S.st h (rep_base S.st h2)
  have hg : s.heap.Ns env.globals c.mg := S.eok.glob ▸ c.g.keeps S.st.stays
  have hl : wpAny c.M A (loadGlobal env x) Q E s := by
   rcases h1 with h1 | ⟨h1, h3⟩
   ·exact Calls.loadGlobal_global hg h1 fin
   ·exact Calls.loadGlobal_builtin hg h1 (S.eok.blt ▸ c.b.keeps S.st.stays) h3 fin
  unfold loadName
  have q1 : env.kindOf x = some .globalImplicit := q.1
  simp only [Env.blockKind, S.eok.kind, q1, ScopeKind.isAnnotationScope, Bool.false_and, Bool.false_eq_true, if_false]
  exact hl
theorem EvE.name {x : String} {k : Kd} {y : V} (hm : (so x, k, some y) ∈ ρ) (h : R y H) (hd : ((so x) == ("__debug__" : Str)) = false := by kernel_rfl) : EvE c n (.Name (so x) p) ρ H R X :=
 fun A env fr μ s S Q E hQ hE => wpAny_Name (loadN hm h A env fr μ s S Q E hQ hE) hd
noncomputable def BinA (c : Cx) (n : Nat) (t : Value → Value → Sem Value) (a b : V) (H : List AO) (R : V → List AO → Prop) : Prop :=
 ∀ (A : Around) (fr : List Env) (μ : Mp) (s : Shared) (va vb : Value), Room A n → St c.base fr μ H s.heap → Rep s.heap μ a va → Rep s.heap μ b vb → ∀ (Q E : Value → Shared → Prop), Cont N c fr μ s R Q → wpAny c.M A (t va vb) Q E s
theorem EvE.binop {l r : Expr} {op : Operator} (h : EvE c n l ρ H (fun a H1 => EvE c n r ρ H1 (fun b H2 => BinA c n (binaryOp op) a b H2 R) X) X) : EvE c n (.BinOp l op r p) ρ H R X := by
 intro A env fr μ s S Q E hQ hE
 refine wpAny_BinOp (h A env fr μ s S _ _ (fun a H1 μ1 va s1 h1 x1 S1 r1 => ?_) hE)
 refine h1 A env fr μ1 s1 (S.next x1 S1) _ _ (fun b H2 μ2 vb s2 h2 x2 S2 r2 => ?_) (hE.next x1 S1)
 exact h2 A fr μ2 s2 va vb S.room S2 (x2.rep S1 r1) r2 _ _ ((hQ.next x1 S1).next x2 S2)
end
theorem RepL.length : ∀ {l : List V} {vs : List Value}, RepL h μ l vs → vs.length = l.length
 | [], _, r => by rw [show _ = [] from r]; rfl
 | _ :: _, _, r => by obtain ⟨v, q, rfl, _, r2⟩ := r; rw [lCo, lCo, RepL.length r2]
theorem RepL.get : ∀ {l : List V} {vs : List Value}, RepL h μ l vs → ∀ (i : Nat) (x : V), l[i]? = some x → ∃ v, vs[i]? = some v ∧ Rep h μ x v
 | [], _, _, _, _, e => by cases e
 | y :: _, _, r, i, x, e => by
  obtain ⟨v, q, rfl, r1, r2⟩ := r
  cases i with
  | zero => rw [List.getElem?_cons_zero] at e; cases e; exact ⟨v, rfl, r1⟩
  | succ i => exact RepL.get r2 i x e
theorem RepL.app : ∀ {l l' : List V} {vs vs' : List Value}, RepL h μ l vs → RepL h μ l' vs' → RepL h μ (l ++ l') (vs ++ vs')
 | [], _, _, _, r, r' => by rw [show _ = [] from r]; exact r'
 | _ :: _, _, _, _, r, r' => by obtain ⟨v, q, rfl, r1, r2⟩ := r; exact ⟨v, _, rfl, r1, RepL.app r2 r'⟩
theorem RepL.one {x : V} (r : Rep h μ x v) : RepL h μ [x] [v] := ⟨v, [], rfl, r, rfl⟩
theorem RepL.set : ∀ {l : List V} {vs : List Value}, RepL h μ l vs → ∀ (i : Nat) {x : V} {v : Value}, Rep h μ x v → RepL h μ (l.set i x) (vs.set i v)
 | [], _, r, i, _, _, _ => by rw [show _ = [] from r]; rfl
 | _ :: _, _, r, i, x, v, q => by
  obtain ⟨v', t, rfl, r1, r2⟩ := r
  cases i with
  | zero => exact ⟨v, t, rfl, q, r2⟩
  | succ i => exact ⟨v', _, rfl, r1, RepL.set r2 i q⟩
noncomputable def ContB (O : Addr → Prop) (c : Cx) (fr : List Env) (μ : Mp) (s : Shared) (R : Bool → List AO → Prop) (Q : Bool → Shared → Prop) : Prop :=
 ∀ b H' μ' s', R b H' → Ext fr O μ μ' s s' → St c.base fr μ' H' s'.heap → Q b s'
theorem ContB.next {R : Bool → List AO → Prop} {Q : Bool → Shared → Prop} (k : ContB O c fr μ s R Q) (x : Ext fr N μ μ₁ s s₁) (S₁ : St c.base fr μ₁ H₁ s₁.heap) : ContB O c fr μ₁ s₁ R Q :=
 fun y H' μ' s' hR x' S' => k y H' μ' s' hR (x.comp S₁ x') S'
theorem ContB.same {R : Bool → List AO → Prop} {Q : Bool → Shared → Prop} (k : ContB O c fr μ s R Q) (S : St c.base fr μ H s.heap) {b : Bool} {tk : Nat} (hR : R b H) : Q b { s with toks := tk } :=
 k b H μ _ hR Ext.toks S
theorem ContB.now {R : Bool → List AO → Prop} {Q : Bool → Shared → Prop} (k : ContB O c fr μ s R Q) (S : St c.base fr μ H s.heap) {b : Bool} (hR : R b H) : Q b s :=
 k b H μ _ hR Ext.refl S
noncomputable def TrB (c : Cx) (n : Nat) (t : Env → Sem Bool) (ρ : Loc) (H : List AO) (R : Bool → List AO → Prop) (X : Nat → List AO → Prop) : Prop :=
 ∀ (A : Around) (env : Env) (fr : List Env) (μ : Mp) (s : Shared), Sit c n A env fr μ H ρ s → ∀ (Q : Bool → Shared → Prop) (E : Value → Shared → Prop), ContB N c fr μ s R Q → ContX N c fr μ s X E → wpAny c.M A (t env) Q E s
noncomputable abbrev BoE (c : Cx) (n : Nat) (e : Expr) (ρ : Loc) (H : List AO) (R : Bool → List AO → Prop) (X : Nat → List AO → Prop) : Prop := TrB c n (fun env => isTrue e env (eval e env)) ρ H R X
noncomputable def Tru : V → List AO → Bool → Prop
 | .none, _, b => b = false
 | .bool x, _, b => b = x
 | .int i, _, b => b = (i != 0)
 | .obj i, H, b => ∃ l, H[i]? = some (.list l) ∧ l.length < 2 ^ 62 ∧ b = !l.isEmpty
 | _, _, _ => False
theorem St.list (S : St base fr μ H h) {a : Addr × Addr} (e : H[i]? = some (.list l)) (ha : μ[i]? = some a) : ∃ vs n, h.get? a.1 = some { cls := .type "list", data := .seq (vs : List Value).toArray n } ∧ RepL h μ l vs :=
 (S.rel i _ a e ha).2
theorem St.isList (S : St base fr μ H h) {a : Addr × Addr} (e : H[i]? = some (.list l)) (ha : μ[i]? = some a) : ∃ vs : List Value, h.IsList a.1 vs.toArray ∧ RepL h μ l vs := by
 obtain ⟨vs, n, g, r⟩ := S.list e ha
 exact ⟨vs, ⟨_, g, rfl, n, rfl⟩, r⟩
theorem truthy_ok {R : Bool → List AO → Prop} {Q : Bool → Shared → Prop} {x : V} {b : Bool} (S : St c.base fr μ H s.heap) (r : Rep s.heap μ x v) (t : Tru x H b) (hR : R b H) (hQ : ContB N c fr μ s R Q) :
  wpAny c.M A (truthy v) Q E s := by
 cases x with
 | none => rw [show v = _ from r]; rw [show b = _ from t] at hR; exact truthy_none (hQ.now S hR)
 | bool y => rw [show v = _ from r]; rw [show b = _ from t] at hR; exact wpAny_truthy_bool (hQ.now S hR)
 | int i => obtain ⟨tk, rfl⟩ := r; rw [show b = _ from t] at hR; exact P.truthy_int (hQ.now S hR)
 | obj i =>
  obtain ⟨a, ha, rfl⟩ := r
  obtain ⟨l, hl, hs, rfl⟩ := t
  obtain ⟨vs, hv, rl⟩ := S.isList hl ha
  have hlen := rl.length
  refine wpAny_truthy_list hv (by simp; omega) ?_
  have e : (!vs.toArray.isEmpty) = !l.isEmpty := by cases vs <;> cases l <;> simp_all
  rw [e]
  exact hQ.same S hR
 | _ => exact t.elim
section
variable {c : Cx} {n : Nat} {ρ : Loc} {H : List AO} {R : V → List AO → Prop} {RB : Bool → List AO → Prop} {X : Nat → List AO → Prop}
theorem BoE.plain (he : ∀ env whole, isTrue e env whole = (do let v ← whole; standAt e.pos; holding [v] (truthy v))) (h : EvE c n e ρ H (fun v H1 => ∃ b, Tru v H1 b ∧ RB b H1) X) : BoE c n e ρ H RB X := by
 intro A env fr μ s S Q E hQ hE
 refine isTrue_plain (h A env fr μ s S _ _ (fun v H1 μ1 va s1 h1 x1 S1 r1 => ?_) hE) (he env _)
 obtain ⟨b, t, hb⟩ := h1
 exact truthy_ok S1 r1 t hb (hQ.next x1 S1)
theorem BoE.name {x : String} (h : EvE c n (.Name (so x) p) ρ H (fun v H1 => ∃ b, Tru v H1 b ∧ RB b H1) X) : BoE c n (.Name (so x) p) ρ H RB X := BoE.plain (fun _ _ => rfl) h
theorem BoE.call {f : Expr} {ks : List Keyword} (h : EvE c n (.Call f as ks p) ρ H (fun v H1 => ∃ b, Tru v H1 b ∧ RB b H1) X) : BoE c n (.Call f as ks p) ρ H RB X := BoE.plain (fun _ _ => rfl) h
theorem BoE.attr {f : Expr} (h : EvE c n (.Attribute f x p) ρ H (fun v H1 => ∃ b, Tru v H1 b ∧ RB b H1) X) : BoE c n (.Attribute f x p) ρ H RB X := BoE.plain (fun _ _ => rfl) h
theorem BoE.lcomp {gs : List Comprehension} (h : EvE c n (.ListComp e gs sc p) ρ H (fun v H1 => ∃ b, Tru v H1 b ∧ RB b H1) X) : BoE c n (.ListComp e gs sc p) ρ H RB X := BoE.plain (fun _ _ => rfl) h
theorem BoE.not {x : Expr} (h : BoE c n x ρ H (fun b H1 => RB (!b) H1) X) : BoE c n (.UnaryOp .Not x p) ρ H RB X :=
 fun A env fr μ s S _ E hQ hE => isTrue_not (h A env fr μ s S _ E (fun b H1 μ1 s1 hb x1 S1 => hQ (!b) H1 μ1 s1 hb x1 S1) hE)
theorem BoE.andNil (h : RB true H) : BoE c n (.BoolOp .And [] p) ρ H RB X := fun _ _ _ _ _ S _ _ hQ _ => isTrue_and_nil (hQ.now S.st h)
theorem BoE.orNil (h : RB false H) : BoE c n (.BoolOp .Or [] p) ρ H RB X := fun _ _ _ _ _ S _ _ hQ _ => isTrue_or_nil (hQ.now S.st h)
theorem BoE.and {x : Expr} {r : List Expr} (h : BoE c n x ρ H (fun b H1 => (b = false → RB false H1) ∧ (b = true → BoE c n (.BoolOp .And r p) ρ H1 RB X)) X) : BoE c n (.BoolOp .And (x :: r) p) ρ H RB X := by
 intro A env fr μ s S Q E hQ hE
 refine isTrue_and (h A env fr μ s S _ E (fun b H1 μ1 s1 hb x1 S1 => ?_) hE)
 cases b with
 | false => exact hQ false H1 μ1 s1 (hb.1 rfl) x1 S1
 | true => exact hb.2 rfl A env fr μ1 s1 (S.next x1 S1) Q E (hQ.next x1 S1) (hE.next x1 S1)
theorem BoE.or {x : Expr} {r : List Expr} (h : BoE c n x ρ H (fun b H1 => (b = true → RB true H1) ∧ (b = false → BoE c n (.BoolOp .Or r p) ρ H1 RB X)) X) : BoE c n (.BoolOp .Or (x :: r) p) ρ H RB X := by
 intro A env fr μ s S Q E hQ hE
 refine isTrue_or (h A env fr μ s S _ E (fun b H1 μ1 s1 hb x1 S1 => ?_) hE)
 cases b with
 | true => exact hQ true H1 μ1 s1 (hb.1 rfl) x1 S1
 | false => exact hb.2 rfl A env fr μ1 s1 (S.next x1 S1) Q E (hQ.next x1 S1) (hE.next x1 S1)
theorem EvE.ifexp {t a b : Expr} (h : BoE c n t ρ H (fun r H1 => (r = true → EvE c n a ρ H1 R X) ∧ (r = false → EvE c n b ρ H1 R X)) X) : EvE c n (.IfExp t a b p) ρ H R X := by
 intro A env fr μ s S Q E hQ hE
 refine wpAny_IfExp (h A env fr μ s S _ E (fun r H1 μ1 s1 hb x1 S1 => ?_) hE)
 cases r with
 | true => exact hb.1 rfl A env fr μ1 s1 (S.next x1 S1) Q E (hQ.next x1 S1) (hE.next x1 S1)
 | false => exact hb.2 rfl A env fr μ1 s1 (S.next x1 S1) Q E (hQ.next x1 S1) (hE.next x1 S1)
theorem EvE.notE {x : Expr} (h : EvE c n x ρ H (fun v H1 => ∃ b, Tru v H1 b ∧ R (.bool (!b)) H1) X) : EvE c n (.UnaryOp .Not x p) ρ H R X := by
 intro A env fr μ s S Q E hQ hE
 show wpAny _ _ (do let v ← eval x env; standAt p; holding [v] (unaryOp .Not v)) _ _ _
 refine wpAny_bind (h A env fr μ s S _ E (fun v H1 μ1 va s1 hb x1 S1 r1 => ?_) hE)
 obtain ⟨b, t, hb⟩ := hb
 refine wpAny_bind (wpAny_standAt (wpAny_holding ?_))
 unfold unaryOp
 refine wpAny_holding ?_
 show wpAny _ _ (do return Value.bool (!(← truthy va))) _ _ _
 refine wpAny_bind (truthy_ok (R := fun b' H' => b' = b ∧ H' = H1) S1 r1 t ⟨rfl, rfl⟩ (fun b' H2 μ2 s2 h2 x2 S2 => wpAny_pure ?_))
 obtain ⟨rfl, rfl⟩ := h2
 exact hQ _ _ μ2 _ s2 hb (x1.comp S1 x2) S2 rfl
theorem EvE.neg {x : Expr} (h : EvE c n x ρ H (fun v H1 => ∃ i, v = .int i ∧ R (.int (-i)) H1) X) : EvE c n (.UnaryOp .USub x p) ρ H R X := by
 intro A env fr μ s S Q E hQ hE
 show wpAny _ _ (do let v ← eval x env; standAt p; holding [v] (unaryOp .USub v)) _ _ _
 refine wpAny_bind (h A env fr μ s S _ E (fun v H1 μ1 va s1 hb x1 S1 r1 => ?_) hE)
 obtain ⟨i, rfl, hb⟩ := hb
 obtain ⟨t, rfl⟩ := r1
 exact wpAny_bind (wpAny_standAt (wpAny_holding (P.neg_int ((hQ.next x1 S1).same S1 hb ⟨_, rfl⟩))))
end
noncomputable def ContL (O : Addr → Prop) (c : Cx) (fr : List Env) (μ : Mp) (s : Shared) (R : List V → List AO → Prop) (Q : List Value → Shared → Prop) : Prop :=
 ∀ x H' μ' v s', R x H' → Ext fr O μ μ' s s' → St c.base fr μ' H' s'.heap → RepL s'.heap μ' x v → Q v s'
noncomputable def EvL (c : Cx) (n : Nat) (p : Pos) (es : List Expr) (ρ : Loc) (H : List AO) (R : List V → List AO → Prop) (X : Nat → List AO → Prop) : Prop :=
 ∀ (A : Around) (env : Env) (fr : List Env) (μ : Mp) (s : Shared), Sit c n A env fr μ H ρ s → ∀ (Q : List Value → Shared → Prop) (E : Value → Shared → Prop), ContL N c fr μ s R Q → ContX N c fr μ s X E → wpAny c.M A (spliced (backTo p (starEach es env))) Q E s
noncomputable abbrev isStar (e : Expr) : Bool := swappedStores.match_5 (fun _ => Bool) e (fun _ _ => true) (fun _ => false)
noncomputable def notStar (e : Expr) : Bool := !isStar e
theorem starEach_cons (r : List Expr) (env : Env) (h : notStar e = true) : starEach (e :: r) env = (false, eval e env) :: starEach r env := by
 cases e <;> first | rfl | cases h
section
variable {c : Cx} {n : Nat} {ρ : Loc} {H : List AO} {R : V → List AO → Prop} {RL : List V → List AO → Prop} {RB : Bool → List AO → Prop} {X : Nat → List AO → Prop}
theorem EvL.nil (h : RL [] H) : EvL c n p [] ρ H RL X := fun _ _ _ μ s S _ _ hQ _ => Calls.spliced_nil (hQ [] H μ [] s h Ext.refl S.st rfl)
theorem EvL.cons {r : List Expr} (h : EvE c n e ρ H (fun v H1 => EvL c n p r ρ H1 (fun vs H2 => RL (v :: vs) H2) X) X) (hs : notStar e = true := by rfl) : EvL c n p (e :: r) ρ H RL X := by
 intro A env fr μ s S Q E hQ hE
 rw [starEach_cons r env hs]
 refine Calls.spliced_cons (h A env fr μ s S _ E (fun v H1 μ1 va s1 h1 x1 S1 r1 => ?_) hE)
 refine h1 A env fr μ1 s1 (S.next x1 S1) _ E (fun vs H2 μ2 vvs s2 h2 x2 S2 r2 => ?_) (hE.next x1 S1)
 exact hQ _ _ _ _ _ h2 (x1.comp S1 x2) S2 ⟨_, _, rfl, x2.rep S1 r1, r2⟩
theorem none_at_size (h : Heap) : h.get? h.objs.size = none := by
 cases q : h.get? h.objs.size with
 | none => rfl
 | some o => exact absurd (Heap.lt_size q) (Nat.lt_irrefl _)
theorem base_none (k : base.StaysIn h) {b : Addr} (e : h.get? b = none) : base.get? b = none := by
 cases q : base.get? b with
 | none => rfl
 | some o => rw [k b o q] at e; cases e
theorem St.alloc (S : St base fr μ H h) {o : AO} {a : Addr × Addr} (k : ∀ b o, h.get? b = some o → h'.get? b = some o) (n1 : h.get? a.1 = none) (n2 : h.get? a.2 = none) (r : AORel h' (μ ++ [a]) o a) :
  St base fr (μ ++ [a]) (H ++ [o]) h' := by
 have S' := S.keeps k
 refine ⟨S'.stays, S'.frames, by rw [lAp, lAp, S.len]; rfl, fun i o' a' ho ha => ?_, ?_, fun L hL hm => ?_, fun b hm => ?_, S'.frd⟩
 ·by_cases hi : i < H.length
  ·rw [gAl hi] at ho
   rw [gAl (S.len ▸ hi)] at ha
   have r' := S'.rel i o' a' ho ha
   exact r'.keeps (F := NoF) (D := NoF) (Kept.refl _ _ _) noTup_none (List.prefix_append _ _) rfl rfl
  ·have e1 : i = H.length := app_case ho hi
   subst e1
   rw [gAr (Nat.le_refl _), Nat.sub_self] at ho
   rw [gAr (Nat.le_of_eq S.len), S.len, Nat.sub_self] at ha
   cases ho; cases ha
   exact r
 ·refine List.pairwise_append.mpr ⟨S.apart, List.pairwise_singleton _ _, fun x hx y hy => ?_⟩
  rw [List.mem_singleton] at hy
  subst hy
  obtain ⟨u, hu, _⟩ := S.live (b := x.1) ⟨x, hx, .inl rfl⟩
  obtain ⟨v, hv, _⟩ := S.live (b := x.2) ⟨x, hx, .inr rfl⟩
  refine ⟨fun e => ?_, fun e => ?_, fun e => ?_, fun e => ?_⟩
  ·rw [e, n1] at hu; cases hu
  ·rw [e, n2] at hu; cases hu
  ·rw [e, n1] at hv; cases hv
  ·rw [e, n2] at hv; cases hv
 ·obtain ⟨x, hx, hb⟩ := hm
  rcases List.mem_append.mp hx with hx | hx
  ·exact S.off L hL ⟨x, hx, hb⟩
  ·rw [List.mem_singleton] at hx
   subst hx
   obtain ⟨_, o, ho, _⟩ := S.frames.mem hL
   rcases hb with rfl | rfl
   ·rw [n1] at ho; cases ho
   ·rw [n2] at ho; cases ho
 ·obtain ⟨x, hx, hb⟩ := hm
  rcases List.mem_append.mp hx with hx | hx
  ·exact S.fresh b ⟨x, hx, hb⟩
  ·rw [List.mem_singleton] at hx
   subst hx
   rcases hb with rfl | rfl
   ·exact base_none S.stays n1
   ·exact base_none S.stays n2
theorem Ext.alloc {tk : Nat} {a : Addr × Addr} (k : ∀ b o, s.heap.get? b = some o → h'.get? b = some o) (n1 : s.heap.get? a.1 = none) (n2 : s.heap.get? a.2 = none) : Ext fr O μ (μ ++ [a]) s { s with heap := h', toks := tk } := by
 refine ⟨List.prefix_append _ _, Kept.of_keeps k, fun i x hi hx => ?_, rfl, rfl, rfl⟩
 have e : i = μ.length := by
  have := (gsi.mp hx).1
  rw [lAp] at this
  simp only [lCo, lNi] at this
  omega
 subst e
 rw [gAr (Nat.le_refl _), Nat.sub_self] at hx
 cases hx
 exact ⟨n1, n2⟩
theorem push_keeps {o : Obj} : ∀ b x, h.get? b = some x → (h.push o).get? b = some x := fun _ _ e => gPs o e
theorem Cont.newList (k : Cont O c fr μ s R Q) (S : St c.base fr μ H s.heap) (hR : R (.obj H.length) (H ++ [.list l])) (r : RepL s.heap μ l vs) {tk : Nat}
  (hk : ∀ b o, s.heap.get? b = some o → h'.get? b = some o) (ho : h'.get? s.heap.objs.size = some { cls := .type "list", data := .seq vs.toArray m }) : Q (.ref s.heap.objs.size) { s with heap := h', toks := tk } := by
 have n1 := none_at_size s.heap
 refine k _ _ (μ ++ [(s.heap.objs.size, s.heap.objs.size)]) _ _ hR (Ext.alloc hk n1 n1) (S.alloc hk n1 n1 ⟨rfl, vs, m, ho, r.mono (F := NoF) (D := NoF) (Kept.of_keeps hk) noTup_none (List.prefix_append _ _)⟩) ⟨(s.heap.objs.size, s.heap.objs.size), ?_, rfl⟩
 rw [← S.len, gAr (Nat.le_refl _), Nat.sub_self]; rfl
theorem newList_ok (hQ : Cont N c fr μ s R Q) (S : St c.base fr μ H s.heap) (hl : l.length ≤ sizeLine) (hR : R (.obj H.length) (H ++ [.list l])) (r : RepL s.heap μ l vs) : wpAny c.M A (newList vs) Q E s :=
 wpAny_newObj_type (hQ.newList S hR r (tk := s.toks) push_keeps (gPz _ rfl)) (by show vs.toArray.size ≤ sizeLine; rw [List.size_toArray, r.length]; exact hl)
theorem newTuple_ok (hQ : Cont N c fr μ s R Q) (S : St c.base fr μ H s.heap) (hl : l.length ≤ sizeLine) (hR : R (.tup l) H) (r : RepL s.heap μ l vs) : wpAny c.M A (newTuple vs) Q E s :=
 wpAny_newObj_type (hQ.here S hR (tk := s.toks) push_keeps ⟨_, vs, 0, rfl, gPz _ rfl, r.mono (F := NoF) (D := NoF) (Kept.of_keeps push_keeps) noTup_none (pRe _)⟩) (by show vs.toArray.size ≤ sizeLine; rw [List.size_toArray, r.length]; exact hl)
theorem EvE.tuple (h : EvL c n p es ρ H (fun xs H1 => xs.length ≤ sizeLine ∧ R (.tup xs) H1) X) : EvE c n (.Tuple es k p) ρ H R X := by
 intro A env fr μ s S Q E hQ hE
 exact Tuple_ (h A env fr μ s S _ E (fun vs H1 μ1 vvs s1 h1 x1 S1 r1 => newTuple_ok (hQ.next x1 S1) S1 h1.1 h1.2 r1) hE)
theorem EvE.list (h : EvL c n p es ρ H (fun xs H1 => xs.length ≤ sizeLine ∧ R (.obj H1.length) (H1 ++ [.list xs])) X) : EvE c n (.List es p) ρ H R X := by
 intro A env fr μ s S Q E hQ hE
 exact List_ (h A env fr μ s S _ E (fun vs H1 μ1 vvs s1 h1 x1 S1 r1 => newList_ok (hQ.next x1 S1) S1 h1.1 h1.2 r1) hE)
theorem EvE.cmp {l r : Expr} {op : CmpOp} (h : EvE c n l ρ H (fun a H1 => EvE c n r ρ H1 (fun b H2 => BinA c n (compareOp op) a b H2 R) X) X) (hm : behindInMarks op r = false := by with_unfolding_all rfl) : EvE c n (.Compare l [op] [r] p) ρ H R X := by
 intro A env fr μ s S Q E hQ hE
 refine wpAny_Compare1 (h A env fr μ s S _ _ (fun a H1 μ1 va s1 h1 x1 S1 r1 => ?_) hE) hm
 refine h1 A env fr μ1 s1 (S.next x1 S1) _ _ (fun b H2 μ2 vb s2 h2 x2 S2 r2 => ?_) (hE.next x1 S1)
 exact h2 A fr μ2 s2 va vb S.room S2 (x2.rep S1 r1) r2 _ _ ((hQ.next x1 S1).next x2 S2)
theorem BoE.cmp {l r : Expr} {op : CmpOp} (h : EvE c n l ρ H (fun a H1 => EvE c n r ρ H1 (fun b H2 => BinA c n (compareOp op) a b H2 (fun v H3 => ∃ q, v = .bool q ∧ RB q H3)) X) X) (hm : behindInMarks op r = false := by with_unfolding_all rfl) : BoE c n (.Compare l [op] [r] p) ρ H RB X := by
 intro A env fr μ s S Q E hQ hE
 refine wpAny_isTrue_Compare1 (h A env fr μ s S _ _ (fun a H1 μ1 va s1 h1 x1 S1 r1 => ?_) hE) hm
 refine h1 A env fr μ1 s1 (S.next x1 S1) _ _ (fun b H2 μ2 vb s2 h2 x2 S2 r2 => ?_) (hE.next x1 S1)
 refine h2 A fr μ2 s2 va vb S.room S2 (x2.rep S1 r1) r2 _ _ (fun v H3 μ3 vv s3 h3 x3 S3 r3 => ?_)
 obtain ⟨q, rfl, hq⟩ := h3
 rw [show vv = _ from r3]
 exact wpAny_truthy_bool (hQ q H3 μ3 s3 hq (x1.comp S1 (x2.comp S2 x3)) S3)
noncomputable def SubA (c : Cx) (n : Nat) (a b : V) (H : List AO) (R : V → List AO → Prop) : Prop :=
 ∀ (A : Around) (fr : List Env) (μ : Mp) (s : Shared) (va vb : Value), Room A n → St c.base fr μ H s.heap → Rep s.heap μ a va → Rep s.heap μ b vb →
  (∃ T id, s.TypeIs va T ∧ typeLookup (.type T) "__getitem__" = pure (some (.builtin id))) ∧ ∀ (Q E : Value → Shared → Prop), Cont N c fr μ s R Q → wpAny c.M A (getItem va vb) Q E s
theorem subscripted_or (slice : Expr) (o i : Value) : subscripted slice false o i = operate [i, o] (getItem o i) ∨ subscripted slice false o i = operate [o, i] (getItem o i) := by
 cases slice with
 | Slice _ _ c _ => cases c with
  | none => exact .inl rfl
  | some _ => exact .inr rfl
 | _ => exact .inr rfl
theorem subTail_ok {prog : Program} {value slice : Expr} {o i : Value} {T id : String} (hT : s.TypeIs o T)
  (hl : typeLookup (.type T) "__getitem__" = pure (some (.builtin id))) (h : wpAny (model prog w) A (getItem o i) Q E s) : wpAny (model prog w) A (subscriptTail value slice o i) Q E s := by
 unfold subscriptTail
 refine wpAny_bind ?_
 rw [getitemInPython_of_ne hT.not_modules]
 refine wpAny_bind (wpAny_specialOf hT hl ?_)
 have fin : wpAny (model prog w) A (subscripted slice false o i) (fun r s₃ => wpAny (model prog w) A (letTemporaryGo value o r >>= fun _ => pure r) Q E s₃) E s := by
  have k : wpAny (model prog w) A (getItem o i) (fun r s₃ => wpAny (model prog w) A (letTemporaryGo value o r >>= fun _ => pure r) Q E s₃) E s :=
   wpAny_mono h (fun r s₃ h₃ => wpAny_bind (wpAny_letTemporaryGo (wpAny_pure h₃))) fun _ _ x => x
  rcases subscripted_or slice o i with e | e
  ·exact e.symm ▸ wpAny_operating k
  ·exact e.symm ▸ wpAny_operating k
 exact wpAny_pure (a := false) (wpAny_bind fin)
theorem EvE.sub {l r : Expr} (h : EvE c n l ρ H (fun a H1 => EvE c n r ρ H1 (fun b H2 => SubA c n a b H2 R) X) X) : EvE c n (.Subscript l r p) ρ H R X := by
 intro A env fr μ s S Q E hQ hE
 refine Subscript_ (h A env fr μ s S _ _ (fun a H1 μ1 va s1 h1 x1 S1 r1 => ?_) hE)
 refine h1 A env fr μ1 s1 (S.next x1 S1) _ _ (fun b H2 μ2 vb s2 h2 x2 S2 r2 => ?_) (hE.next x1 S1)
 obtain ⟨⟨T, id, hT, hl⟩, h3⟩ := h2 A fr μ2 s2 va vb S.room S2 (x2.rep S1 r1) r2
 exact subTail_ok hT hl (h3 Q E ((hQ.next x1 S1).next x2 S2))
theorem SubA.str (hi : x.cps[i]? = some ch) (hs : x.length < 2 ^ 62) (h : R (.str ⟨#[ch]⟩) H) : SubA c n (.str x) (.int i) H R := by
 intro A fr μ s va vb _ S r1 r2
 obtain ⟨t, rfl⟩ := r1
 obtain ⟨u, rfl⟩ := r2
 have hlt : i < x.cps.size := (Array.getElem?_eq_some_iff.mp hi).1
 refine ⟨⟨"str", _, typeIs_str s x t, slot_str_getitem.lookup⟩, fun Q E hQ => getItem_str ?_ ?_ (hQ.same S h ⟨_, rfl⟩)⟩
 ·simp only [Str.length] at hs; simp; omega
 ·have e1 : seqIndex? (i : Int) x.length = some i := seqIndex_of (Int.natCast_nonneg i) (Int.ofNat_lt.mpr hlt)
  rw [e1]; exact hi
theorem SubA.list {j : Nat} {x : V} (hj : H[j]? = some (.list l)) (hi : l[i]? = some x) (hs : i < 2 ^ 62) (h : R x H) : SubA c n (.obj j) (.int i) H R := by
 intro A fr μ s va vb _ S r1 r2
 obtain ⟨a, ha, rfl⟩ := r1
 obtain ⟨u, rfl⟩ := r2
 obtain ⟨vs, hv, rl⟩ := S.isList hj ha
 obtain ⟨v, hv', rv⟩ := rl.get i x hi
 exact ⟨⟨"list", _, hv.typeIs, slot_list_getitem.lookup⟩, fun Q E hQ => wpAny_getItem_list hv (by omega) (by omega) (by simpa using hv') (hQ.now S h rv)⟩
end
theorem mut_at {a : Addr × Addr} (ha : μ[i]? = some a) : Mut μ a.1 ∧ Mut μ a.2 :=
 have hm := mOg ha
 ⟨⟨a, hm, .inl rfl⟩, a, hm, .inr rfl⟩
theorem apart_at (P : μ.Pairwise Apart) {j : Nat} {a b : Addr × Addr} (ha : μ[i]? = some a) (hb : μ[j]? = some b) (hne : i ≠ j) : b.1 ≠ a.1 ∧ b.1 ≠ a.2 ∧ b.2 ≠ a.1 ∧ b.2 ≠ a.2 := by
 obtain ⟨hi, rfl⟩ := gsi.mp ha
 obtain ⟨hj, rfl⟩ := gsi.mp hb
 rcases Nat.lt_or_gt_of_ne hne with h | h
 ·obtain ⟨h1, h2, h3, h4⟩ := List.pairwise_iff_getElem.mp P i j hi hj h
  exact ⟨Ne.symm h1, Ne.symm h3, Ne.symm h2, Ne.symm h4⟩
 ·obtain ⟨h1, h2, h3, h4⟩ := List.pairwise_iff_getElem.mp P j i hj hi h
  exact ⟨h1, h2, h3, h4⟩
theorem St.put (S : St base fr μ H h) {o' : AO} {a : Addr × Addr} (ha : μ[i]? = some a) (hs : ∀ b, b ≠ a.1 → b ≠ a.2 → h'.get? b = h.get? b) (r : AORel h' μ o' a) :
  St base fr μ (H.set i o') h' := by
 obtain ⟨m1, m2⟩ := mut_at ha
 have kb : ∀ b o, base.get? b = some o → b ≠ a.1 ∧ b ≠ a.2 := fun b o e => ⟨fun q => (by rw [q, S.fresh _ m1] at e; cases e), fun q => (by rw [q, S.fresh _ m2] at e; cases e)⟩
 have kf : ∀ L ∈ fr.filterMap (·.frame), h'.get? L = h.get? L := fun L hL => hs L (fun q => S.off L hL (q ▸ m1)) fun q => S.off L hL (q ▸ m2)
 refine ⟨fun b o e => ?_, frames_keep S.frames fun L hL o e hd => ⟨o, (kf L hL).trans e, hd⟩, by rw [List.length_set, S.len], fun j x b hx hb => ?_, S.apart, S.off, S.fresh, fun L hL => ?_⟩
 ·have := kb b o e
  rw [hs b this.1 this.2]; exact S.stays b o e
 ·by_cases hij : i = j
  ·subst hij
   rw [ha] at hb; cases hb
   rw [gSs (by have := (gsi.mp ha).1; rw [S.len] at this; exact this)] at hx
   cases hx; exact r
  ·rw [List.getElem?_set_ne hij] at hx
   have q := apart_at S.apart ha hb hij
   have rj := S.rel j x b hx hb
   refine rj.keeps (F := NoF) (D := fun b => b = a.1 ∨ b = a.2) (fun b o e hn => ⟨o.slots, ?_, fun _ => rfl⟩) (fun b vs n hd e => ?_) (pRe _) (hs _ q.1 q.2.1) (hs _ q.2.2.1 q.2.2.2)
   ·rw [hs b (fun z => hn (.inl z)) fun z => hn (.inr z)]; exact e
   ·rcases hd with hd | rfl | rfl
    ·exact hd
    ·exact S.noTup _ vs n (.inr m1) e
    ·exact S.noTup _ vs n (.inr m2) e
 ·obtain ⟨m, o, es, n, e, d⟩ := S.frd L hL
  exact ⟨m, o, es, n, (kf L hL).trans e, d⟩
theorem Ext.put {tk : Nat} {a : Addr × Addr} (ha : μ[i]? = some a) (hs : ∀ b, b ≠ a.1 → b ≠ a.2 → h'.get? b = s.heap.get? b) : Ext fr O μ μ s { s with heap := h', toks := tk } := by
 obtain ⟨m1, m2⟩ := mut_at ha
 refine ⟨pRe _, fun b o e hn => ⟨o.slots, ?_, fun _ => rfl⟩, fun i x hi hx => (by rw [List.getElem?_eq_none hi] at hx; cases hx), rfl, rfl, rfl⟩
 show h'.get? b = _
 rw [hs b (fun q => hn (.inl (q ▸ m1))) fun q => hn (.inl (q ▸ m2))]; exact e
theorem rep_put (S : St base fr μ H h) {a : Addr × Addr} (ha : μ[i]? = some a) (hs : ∀ b, b ≠ a.1 → b ≠ a.2 → h'.get? b = h.get? b) : (∀ {x : V} {v : Value}, Rep h μ x v → Rep h' μ x v) ∧ ∀ {x : List V} {v : List Value}, RepL h μ x v → RepL h' μ x v := by
 obtain ⟨m1, m2⟩ := mut_at ha
 have k : Kept NoF (fun b => b = a.1 ∨ b = a.2) h h' := fun b o e hn => ⟨o.slots, by rw [hs b (fun z => hn (.inl z)) fun z => hn (.inr z)]; exact e, fun _ => rfl⟩
 have nt : NoTup h (fun b => NoF b ∨ (b = a.1 ∨ b = a.2)) := fun b vs n hd e => by
  rcases hd with hd | rfl | rfl
  ·exact hd
  ·exact S.noTup _ vs n (.inr m1) e
  ·exact S.noTup _ vs n (.inr m2) e
 exact ⟨fun r => r.mono k nt (pRe _), fun r => r.mono k nt (pRe _)⟩
structure Noted (μ' : Mp) (H' : List AO) (i : Nat) (v : Value) (s s' : Shared) : Prop where
 is : ∃ a C fs vs, μ'[i]? = some a ∧ H'[i]? = some (.exc C fs) ∧ v = .ref a.1 ∧ s.heap.get? a.1 = none ∧ s'.heap.get? a.1 = some { cls := .ref C, dict := some a.2, data := .fields vs } ∧ vs.size = 6 ∧
  ∃ T oT ts, vs[1]? = some (.ref T) ∧ s.heap.get? T = none ∧ ¬ Mut μ' T ∧ s'.heap.get? T = some oT ∧ oT.data = .fields ts ∧ 4 ≤ ts.size
theorem Noted.raised (r : Noted μ' H' i v s s') : Raised μ' H' i v s s' := by
 obtain ⟨a, C, fs, vs, h1, h2, h3, h4, h5, h6, h7⟩ := r
 exact ⟨a, C, fs, vs, h1, h2, h3, h4, h5, h6, .inr h7⟩
theorem exc_after {tk : Nat} {a : Addr × Addr} {T : Addr} {fs : List (Str × V)} {vs vs' : Array Value}
  (hb : c.base.StaysIn s.heap) (x : Ext fr O μ μ' s s₁) (S : St c.base fr μ' H' s₁.heap) (ha : μ'[i]? = some a) (hH : H'[i]? = some (.exc C fs)) (hn : s.heap.get? a.1 = none)
  (he : s₁.heap.get? a.1 = some { cls := .ref C, dict := some a.2, data := .fields vs }) (hT : s.heap.get? T = none) (hTm : ¬ Mut μ' T) (hTf : ∀ o, s₁.heap.get? T = some o → ∃ ts, o.data = .fields ts)
  (k : Kept (InFr fr) (fun b => b = a.1 ∨ b = T) s₁.heap h') (he' : h'.get? a.1 = some { cls := .ref C, dict := some a.2, data := .fields vs' }) (hs : vs'.size = 6) :
  Ext fr O μ μ' s { s₁ with heap := h', toks := tk } ∧ St c.base fr μ' H' h' := by
 obtain ⟨m1, m2⟩ := mut_at ha
 have nt : NoTup s₁.heap (fun b => InFr fr b ∨ (b = a.1 ∨ b = T)) := fun b ws n hd e => by
  rcases hd with hd | rfl | rfl
  ·exact S.noTup b ws n (.inl hd) e
  ·exact S.noTup _ ws n (.inr m1) e
  ·obtain ⟨ts, q⟩ := hTf _ e; simp [tpO] at q
 have baseT : c.base.get? T = none := base_none hb hT
 have frT : ∀ L ∈ fr.filterMap (·.frame), L ≠ a.1 ∧ L ≠ T := fun L hL => ⟨fun q => S.off L hL (q ▸ m1), fun q => by
  obtain ⟨_, o, es, n, e, d, _⟩ := S.frd L hL
  rw [q] at e
  obtain ⟨ts, q'⟩ := hTf _ e
  rw [d] at q'; cases q'⟩
 have exact_ : ∀ b o, s₁.heap.get? b = some o → b ≠ a.1 → b ≠ T → ¬ InFr fr b → h'.get? b = some o := fun b o e h1 h2 h3 => k.get e (fun z => z.elim h1 h2) h3
 refine ⟨⟨x.pre, fun b o e hD => ?_, x.new, x.rest⟩, fun b o e => ?_, frames_keep S.frames fun L hL o e hd => ?_, S.len, fun j y b' hy hb' => ?_, S.apart, S.off, S.fresh, fun L hL => ?_⟩
 ·obtain ⟨sl, e1, q1⟩ := x.keep b o e hD
  obtain ⟨sl', e2, q2⟩ := k b _ e1 fun z => by
   rcases z with rfl | rfl
   ·rw [hn] at e; cases e
   ·rw [hT] at e; cases e
  exact ⟨sl', e2, fun h => (q2 h).trans (q1 h)⟩
 ·refine exact_ b o (S.stays b o e) (fun q => ?_) (fun q => ?_) fun q => ?_
  ·rw [q, S.fresh _ m1] at e; cases e
  ·rw [q, baseT] at e; cases e
  ·rw [(S.frames.mem q).1] at e; cases e
 ·obtain ⟨sl, e2, _⟩ := k L o e fun z => z.elim (frT L hL).1 (frT L hL).2
  exact ⟨_, e2, hd⟩
 ·by_cases hij : i = j
  ·subst hij
   rw [ha] at hb'; cases hb'
   rw [hH] at hy; cases hy
   obtain ⟨vs₀, es, n, _, g, g2, fr'⟩ := S.rel i _ a hH ha
   have ne : a.2 ≠ a.1 := fun q => by rw [q, g] at g2; cases g2
   have g2' : h'.get? a.2 = some (dictOf es n) := exact_ _ _ g2 ne (fun q => hTm (q ▸ m2)) fun q => S.off _ q m2
   exact ⟨vs', es, n, hs, he', g2', fr'.mono k nt (pRe _)⟩
  ·have q := apart_at S.apart ha hb' hij
   have rj := S.rel j y b' hy hb'
   obtain ⟨n1, n2⟩ := mut_at hb'
   obtain ⟨⟨o1, e1, _⟩, o2, e2, _⟩ := rj.live
   refine rj.keeps k nt (pRe _) ?_ ?_
   ·rw [e1]; exact exact_ _ _ e1 q.1 (fun z => hTm (z ▸ n1)) fun z => S.off _ z n1
   ·rw [e2]; exact exact_ _ _ e2 q.2.2.1 (fun z => hTm (z ▸ n2)) fun z => S.off _ z n2
 ·obtain ⟨m, y⟩ := S.frd L hL
  exact ⟨m, Heap.Ns.kept y k fun z => z.elim (frT L hL).1 (frT L hL).2⟩
theorem kept_slots {S : List Addr} {D : Addr → Prop} (x : Heap.SlotsOnly S h h') (hS : ∀ b ∈ S, InFr fr b) : Kept (InFr fr) D h h' := fun b o e _ => by
 obtain ⟨sl, e'⟩ := x.2.2 b o e
 refine ⟨sl, e', fun hn => ?_⟩
 have := x.2.1 b fun hb => hn (hS b hb)
 rw [e, e'] at this
 have q := Option.some.inj this
 exact congrArg Obj.slots q
theorem Kept.trans {F D : Addr → Prop} {h₁ h₂ h₃ : Heap} (x : Kept F D h₁ h₂) (y : Kept F D h₂ h₃) : Kept F D h₁ h₃ := fun b o e hD => by
 obtain ⟨sl, e', q⟩ := x b o e hD
 obtain ⟨sl', e'', q'⟩ := y b _ e' hD
 exact ⟨sl', e'', fun h => (q' h).trans (q h)⟩
theorem kept_update {F D : Addr → Prop} {f : Obj → Obj} (ha : D a) : Kept F D h (h.update a f) := fun b o e hD =>
 ⟨o.slots, (gUo h f fun q => hD (by rw [← q]; exact ha)).trans e, fun _ => rfl⟩
section
variable {c : Cx} {A : Around} {env : Env} {fr : List Env} {O : Addr → Prop} {μ μ' : Mp} {H' : List AO} {i : Nat} {v : Value} {s s' : Shared} {E : Value → Shared → Prop} {Q : Unit → Shared → Prop}
theorem frameOf_ok {M : Model} {L : Addr} {Q : Value → Shared → Prop} (hA : A.frames = some fr) (hf : env.frame = some L) (hh : fr.head?.bind (·.frame) = some L) (hl : s.heap.FunFrames base fr) (h : ∀ h', Heap.SlotsOnly (fr.filterMap (·.frame)) s.heap h' → Q (.ref L) { s with heap := h' }) :
  wpAny M A (PySem.frameOf env) Q E s := by
 cases fr with
 | nil => cases hh
 | cons fe outer =>
  have hfe : fe.frame = some L := hh
  unfold PySem.frameOf
  refine wpAny_bind (wpAny_frameEnvs hA ?_)
  have hdw : ((fe :: outer).dropWhile fun x => x.frame != env.frame) = fe :: outer := by simp [List.dropWhile, hf, hfe]
  rw [hdw]
  unfold frameObject
  refine wpAny_bind (wpAny_bind (wpAny_readyFrames_fun hl fun h₁ hs₁ => wpAny_pure ?_))
  rw [hfe]
  exact wpAny_pure (h h₁ hs₁)
theorem note_ok (hA : A.frames = some fr) (hf : ∃ L, env.frame = some L ∧ fr.head?.bind (·.frame) = some L) (hb : c.base.StaysIn s.heap) (x : Ext fr O μ μ' s s') (S' : St c.base fr μ' H' s'.heap) (r : Raised μ' H' i v s s')
  (live : ∀ b o, s.heap.get? b = some o → ∃ o', s'.heap.get? b = some o')
  (k : ∀ s'', Ext fr O μ μ' s s'' → St c.base fr μ' H' s''.heap → Noted μ' H' i v s s'' → (∀ b o, s.heap.get? b = some o → ∃ o', s''.heap.get? b = some o') → Q () s'') : wpAny c.M A (noteFrame v env) Q E s' := by
 obtain ⟨L, hL, hh⟩ := hf
 obtain ⟨a, C, fs, vs, ha, hH, rfl, hn, he, hsz, htb⟩ := r
 obtain ⟨m1, m2⟩ := mut_at ha
 unfold noteFrame
 simp only [hL]
 have tail : ∀ (T : Addr) (head : Value) (hd : Bool) (h₁ : Heap) (tk : Nat) (vs₁ : Array Value), s.heap.get? T = none → ¬ Mut μ' T → (∀ o, s'.heap.get? T = some o → ∃ ts, o.data = .fields ts) → Kept (InFr fr) (fun b => b = a.1 ∨ b = T) s'.heap h₁ →
   h₁.get? a.1 = some { cls := .ref C, dict := some a.2, data := .fields vs₁ } → vs₁.size = 6 → h₁.FunFrames c.base fr →
   wpAny c.M A (do let fo ← PySem.frameOf env; let pl ← entryPlaceOf L hd; let b ← EntryCells.newEntry head fo .none (rawInt L) .none pl; setField (.ref a.1) 1 b) Q E { s' with heap := h₁, toks := tk } := by
  intro T head hd h₁ tk vs₁ hT hTm hTf hk he₁ hs₁ hfr
  refine wpAny_bind (frameOf_ok hA hL hh hfr fun h₂ hsl => ?_)
  refine wpAny_bind (wpAny_entryPlaceOf fun pl hpl => ?_)
  unfold EntryCells.newEntry newFields
  refine wpAny_bind (wpAny_newObj_type ?_ (hpl.sizeOk5 _ _ _ _ _))
  have k2 : Kept (InFr fr) (fun b => b = a.1 ∨ b = T) s'.heap h₂ := hk.trans (kept_slots hsl fun b hb => hb)
  have he₂ : h₂.get? a.1 = some { cls := .ref C, dict := some a.2, data := .fields vs₁ } := (hsl.2.1 a.1 fun q => S'.off _ q m1).trans he₁
  have he₃ := gPs (h := h₂) { cls := .type "traceback", dict := none, data := .fields ([head, .ref L, .none, rawInt L, .none] ++ (if pl.isEmpty then List.replicate 6 Value.none else pl)).toArray } he₂
  refine wpAny_setField he₃ rfl (by omega) ?_
  have he₄ := Heap.get?_update_self (Obj.mapFields (·.setIfInBounds 1 (Value.ref h₂.objs.size))) he₃ rfl
  have k4 : Kept (InFr fr) (fun b => b = a.1 ∨ b = T) s'.heap ((h₂.push { cls := .type "traceback", dict := none, data := .fields ([head, .ref L, .none, rawInt L, .none] ++ (if pl.isEmpty then List.replicate 6 Value.none else pl)).toArray }).update a.1 (Obj.mapFields (·.setIfInBounds 1 (Value.ref h₂.objs.size)))) :=
   (k2.trans (Kept.of_keeps push_keeps)).trans (kept_update (.inl rfl))
  have nT : h₂.objs.size ≠ a.1 := Nat.ne_of_gt (Heap.lt_size he₂)
  have eT := (gUo (h₂.push { cls := .type "traceback", dict := none, data := .fields ([head, .ref L, .none, rawInt L, .none] ++ (if pl.isEmpty then List.replicate 6 Value.none else pl)).toArray }) (Obj.mapFields (·.setIfInBounds 1 (Value.ref h₂.objs.size))) nT.symm).trans (gPz h₂ rfl)
  obtain ⟨X', S''⟩ := exc_after (tk := tk) hb x S' ha hH hn he hT hTm hTf k4 he₄ (by simp [hs₁])
  have lv : ∀ b o, s.heap.get? b = some o → ∃ o', h₂.get? b = some o' := fun b o e => by
   obtain ⟨o', e'⟩ := live b o e
   obtain ⟨sl, e2, _⟩ := k2 b o' e' fun z => by
    rcases z with rfl | rfl
    ·rw [hn] at e; cases e
    ·rw [hT] at e; cases e
   exact ⟨_, e2⟩
  refine k _ X' S'' ⟨a, C, fs, _, ha, hH, rfl, hn, he₄, by simp [hs₁], h₂.objs.size, _, _, by simp [hs₁], ?_, fun hm => ?_, eT, rfl, by simp⟩ fun b o e => ?_
  ·cases q : s.heap.get? h₂.objs.size with
   | none => rfl
   | some o => obtain ⟨o', e⟩ := lv _ _ q; rw [none_at_size] at e; cases e
  ·obtain ⟨y, hy, _⟩ := S'.live hm
   obtain ⟨sl, e2, _⟩ := k2 _ y hy fun z => z.elim nT fun q => hTm (q ▸ hm)
   rw [none_at_size] at e2; cases e2
  ·obtain ⟨o', e'⟩ := live b o e
   obtain ⟨sl, e2, _⟩ := k4 b o' e' fun z => by
    rcases z with rfl | rfl
    ·rw [hn] at e; cases e
    ·rw [hT] at e; cases e
   exact ⟨_, e2⟩
 rcases htb with h0 | ⟨T, oT, ts, h0, hT, hTm, heT, hdT, hsT⟩
 ·refine wpAny_bind (wpAny_field he rfl h0 ?_)
  simp only [bne_self_eq_false, Bool.false_eq_true, if_false]
  have fT : ∀ o, s'.heap.get? a.1 = some o → ∃ ts, o.data = .fields ts := fun o e => by rw [he] at e; cases e; exact ⟨_, rfl⟩
  have hz : s.heap.get? s'.heap.objs.size = none := by
   cases q : s.heap.get? s'.heap.objs.size with
   | none => rfl
   | some o => obtain ⟨o', e⟩ := live _ _ q; rw [none_at_size] at e; cases e
  have fin := tail s'.heap.objs.size .none false s'.heap s'.toks vs hz (fun hm => by obtain ⟨y, hy, _⟩ := S'.live hm; rw [none_at_size] at hy; cases hy) (fun o e => by rw [none_at_size] at e; cases e) (Kept.refl _ _ _) he hsz S'.frames
  first | exact fin | exact wpAny_bind (wpAny_pure fin)
 ·refine wpAny_bind (wpAny_field he rfl h0 ?_)
  have hne : ((Value.ref T) != Value.none) = true := by simp
  simp only [hne, if_true]
  obtain ⟨t3, ht3⟩ : ∃ t3, ts[3]? = some t3 := ⟨ts[3], Array.getElem?_eq_getElem (by omega)⟩
  refine wpAny_bind (wpAny_field heT hdT ht3 ?_)
  by_cases hq : (t3 == rawInt L) = true
  ·rw [if_pos hq]
   exact wpAny_pure (k _ x S' ⟨a, C, fs, vs, ha, hH, rfl, hn, he, hsz, T, oT, ts, h0, hT, hTm, heT, hdT, hsT⟩ live)
  ·rw [if_neg hq]
   refine wpAny_bind (wpAny_setField heT hdT (by omega) ?_)
   have nTa : a.1 ≠ T := fun q => hTm (q ▸ m1)
   have he' := (gUo s'.heap (Obj.mapFields (·.setIfInBounds 3 Value.none)) nTa.symm).trans he
   refine tail T (.ref T) true _ s'.toks vs hT hTm (fun o e => by rw [heT] at e; cases e; exact ⟨_, hdT⟩) (kept_update (.inr rfl)) he' hsz (frames_keep S'.frames fun L' hL' o e hd => ⟨o, ?_, hd⟩)
   rw [gUo _ _ fun q => ?_]
   ·exact e
   ·rw [← q, heT] at e; cases e; exact hd _ hdT
end
section
variable {c : Cx} {A : Around} {env : Env} {fr : List Env} {O : Addr → Prop} {μ μ' : Mp} {H' : List AO} {i : Nat} {v : Value} {s s' : Shared} {E : Value → Shared → Prop} {Q : Unit → Shared → Prop}
theorem flight_ok {f : Option Addr} (hb : c.base.StaysIn s.heap) (x : Ext fr O μ μ' s s') (S' : St c.base fr μ' H' s'.heap) (r : Noted μ' H' i v s s') (live : ∀ b o, s.heap.get? b = some o → ∃ o', s'.heap.get? b = some o')
  (k : ∀ s'', Ext fr O μ μ' s s'' → St c.base fr μ' H' s''.heap → Noted μ' H' i v s s'' → (∀ b o, s.heap.get? b = some o → ∃ o', s''.heap.get? b = some o') → Q () s'') : wpAny c.M A (setFlight v f) Q E s' := by
 walk_at "z"
 obtain ⟨a, C, fs, vs, ha, hH, eN1, hn, he, hsz, T, oT, ts, h0, hT, hTm, heT, hdT, hsT⟩ := r
 walk_at "y"
 subst eN1
 obtain ⟨m1, m2⟩ := mut_at ha
 unfold setFlight
 refine wpAny_bind (wpAny_field he rfl h0 ?_)
 have hne : ((Value.ref T) != Value.none) = true := by simp
 simp only [hne, if_true]
 refine wpAny_setField heT hdT (by omega) ?_
 have nTa : a.1 ≠ T := fun q => hTm (q ▸ m1)
 have hk : Kept (InFr fr) (fun b => b = a.1 ∨ b = T) s'.heap (s'.heap.update T (Obj.mapFields (·.setIfInBounds 3 (f.elim Value.none fun f => rawInt f)))) := kept_update (.inr rfl)
 have he' := (gUo s'.heap (Obj.mapFields (·.setIfInBounds 3 (f.elim Value.none fun f => rawInt f))) nTa.symm).trans he
 obtain ⟨X', S''⟩ := exc_after (tk := s'.toks) hb x S' ha hH hn he hT hTm (fun o e => by rw [heT] at e; cases e; exact ⟨_, hdT⟩) hk he' hsz
 have hd' := Obj.data_mapFields hdT (·.setIfInBounds 3 (f.elim Value.none fun f => rawInt f))
 refine k _ X' S'' ⟨a, C, fs, vs, ha, hH, rfl, hn, he', hsz, T, _, _, h0, hT, hTm, Heap.get?_update_self _ heT (Obj.isFreed_of_fields hd'), hd', by simpa using hsT⟩ fun b o e => ?_
 obtain ⟨o', e'⟩ := live b o e
 obtain ⟨sl, e2, _⟩ := hk b o' e' fun z => by
  rcases z with rfl | rfl
  ·rw [hn] at e; cases e
  ·rw [hT] at e; cases e
 exact ⟨_, e2⟩
theorem leaving_ok (hA : A.frames = some fr) (hf : ∃ L, env.frame = some L ∧ fr.head?.bind (·.frame) = some L) (hb : c.base.StaysIn s.heap) (x : Ext fr O μ μ' s s') (S' : St c.base fr μ' H' s'.heap) (r : Raised μ' H' i v s s')
  (live : ∀ b o, s.heap.get? b = some o → ∃ o', s'.heap.get? b = some o')
  (k : ∀ s'', Ext fr O μ μ' s s'' → St c.base fr μ' H' s''.heap → Noted μ' H' i v s s'' → Q () s'') : wpAny c.M A (leaving env v) Q E s' := by
 unfold leaving
 exact wpAny_bind (note_ok hA hf hb x S' r live fun s₂ x₂ S₂ r₂ l₂ => flight_ok hb x₂ S₂ r₂ l₂ fun s₃ x₃ S₃ r₃ _ => k s₃ x₃ S₃ r₃)
theorem cameBack_ok {E' : Value → Shared → Prop} (hb : c.base.StaysIn s.heap) (x : Ext fr O μ μ' s s') (S' : St c.base fr μ' H' s'.heap) (r : Noted μ' H' i v s s') (live : ∀ b o, s.heap.get? b = some o → ∃ o', s'.heap.get? b = some o')
  (k : ∀ s'', Ext fr O μ μ' s s'' → St c.base fr μ' H' s''.heap → Noted μ' H' i v s s'' → E' v s'') : cameBackBy c.M A env E' v s' := by
 have r' := r
 walk_at "z"
 obtain ⟨a, C, fs, vs, ha, hH, eN2, hn, he, hsz, T, oT, ts, h0, _⟩ := r'
 walk_at "y"
 subst eN2
 unfold cameBackBy
 refine wpAny_bind (wpAny_field he rfl h0 ?_)
 have hne : ((Value.ref T) == Value.none) = false := by simp
 rw [hne]
 have fin : wpAny c.M A (setFlight (.ref a.1) env.frame) (fun _ s'' => E' (.ref a.1) s'') E' s' := flight_ok hb x S' r live fun s₃ x₃ S₃ r₃ _ => k s₃ x₃ S₃ r₃
 first | exact fin | exact wpAny_bind (wpAny_pure fin)
end
inductive Fl where
 | next (ρ : Loc)
 | ret (v : V)
 | brk (ρ : Loc)
 | cont (ρ : Loc)
noncomputable def FlRel (c : Cx) (h : Heap) (μ : Mp) (env : Env) : Fl → Flow → Prop
 | .next ρ, f => f = .next ∧ Rho h μ env c ρ
 | .ret x, f => ∃ v, f = .ret v ∧ Rep h μ x v
 | .brk ρ, f => f = .brk ∧ Rho h μ env c ρ
 | .cont ρ, f => f = .cont ∧ Rho h μ env c ρ
noncomputable def Own (env : Env) (b : Addr) : Prop := b = env.locals
noncomputable def ContS (c : Cx) (env : Env) (fr : List Env) (μ : Mp) (s : Shared) (P : Fl → List AO → Prop) (Q : Flow → Shared → Prop) : Prop :=
 ∀ fl H' μ' f s', P fl H' → Ext fr (Own env) μ μ' s s' → St c.base fr μ' H' s'.heap → FlRel c s'.heap μ' env fl f → Q f s'
noncomputable def TrS (c : Cx) (n : Nat) (t : Env → Sem Flow) (ρ : Loc) (H : List AO) (P : Fl → List AO → Prop) (X : Nat → List AO → Prop) : Prop :=
 ∀ (A : Around) (env : Env) (fr : List Env) (μ : Mp) (s : Shared), Sit c n A env fr μ H ρ s → InFr fr env.locals → ∀ (Q : Flow → Shared → Prop) (E : Value → Shared → Prop), ContS c env fr μ s P Q → ContX (Own env) c fr μ s X E → wpAny c.M A (t env) Q E s
noncomputable def TrSq (c : Cx) (n m : Nat) (t : Env → Sem Flow) (ρ : Loc) (H : List AO) (P : Fl → List AO → Prop) (X : Nat → List AO → Prop) : Prop :=
 ∀ (A : Around) (env : Env) (fr : List Env) (μ : Mp) (s : Shared), m ≤ s.toks → Sit c n A env fr μ H ρ s → InFr fr env.locals → ∀ (Q : Flow → Shared → Prop) (E : Value → Shared → Prop), ContS c env fr μ s P Q → ContX (Own env) c fr μ s X E → wpAny c.M A (t env) Q E s
theorem TrS.q {t : Env → Sem Flow} {P : Fl → List AO → Prop} (h : TrS c n t ρ H P X) : TrSq c n m t ρ H P X := fun A env fr μ s _ S => h A env fr μ s S
noncomputable abbrev ExS (c : Cx) (n : Nat) (b : List Stmt) (ρ : Loc) (H : List AO) (P : Fl → List AO → Prop) (X : Nat → List AO → Prop) : Prop := TrS c n (execs b) ρ H P X
noncomputable abbrev Ex1 (c : Cx) (n : Nat) (b : Stmt) (ρ : Loc) (H : List AO) (P : Fl → List AO → Prop) (X : Nat → List AO → Prop) : Prop := TrS c n (exec b) ρ H P X
theorem live_own (x : Ext fr (Own env) μ μ' s s') (S' : St base fr μ' H' s'.heap) (r : Rho s'.heap μ' env c ρ) (b : Addr) (o : Obj) (e : s.heap.get? b = some o) : ∃ o', s'.heap.get? b = some o' := by
 by_cases hm : Mut μ b
 ·walk_at "z"
  obtain ⟨y, hy, _⟩ := S'.live (mut_mono x.pre hm)
  walk_at "y"
  exact ⟨y, hy⟩
 ·by_cases ho : b = env.locals
  ·subst ho
   walk_at "z"
   obtain ⟨m, ⟨o', _, _, h, _⟩, _⟩ := r
   walk_at "y"
   exact ⟨o', h⟩
  ·walk_at "z"
   obtain ⟨sl, e', _⟩ := x.keep b o e fun h => h.elim hm ho
   walk_at "y"
   exact ⟨_, e'⟩
theorem ContS.next {P : Fl → List AO → Prop} {Q : Flow → Shared → Prop} (k : ContS c env fr μ s P Q) (x : Ext fr (Own env) μ μ₁ s s₁) (S₁ : St c.base fr μ₁ H₁ s₁.heap) (r : Rho s₁.heap μ₁ env c ρ) : ContS c env fr μ₁ s₁ P Q :=
 fun fl H' μ' f s' hP x' S' hf => k fl H' μ' f s' hP (x.trans x' (live_own x S₁ r)) S' hf
theorem ContX.nextO (k : ContX (Own env) c fr μ s X E) (x : Ext fr (Own env) μ μ₁ s s₁) (S₁ : St c.base fr μ₁ H₁ s₁.heap) (r : Rho s₁.heap μ₁ env c ρ) : ContX (Own env) c fr μ₁ s₁ X E :=
 fun i H' μ' v s' hX x' S' hr => k i H' μ' v s' hX (x.trans x' (live_own x S₁ r)) S' (by
  walk_at "z"
  obtain ⟨a, C, fs, vs, h1, h2, h3, h4, h5, h6, h7⟩ := hr
  walk_at "y"
  have nb : ∀ b, s₁.heap.get? b = none → s.heap.get? b = none := fun b e => by
   cases q : s.heap.get? b with
   | none => rfl
   | some o => obtain ⟨o', h⟩ := live_own x S₁ r b o q; rw [e] at h; cases h
  exact ⟨a, C, fs, vs, h1, h2, h3, nb _ h4, h5, h6, h7.imp id fun ⟨T, oT, ts, f1, f2, f3⟩ => ⟨T, oT, ts, f1, nb _ f2, f3⟩⟩)
theorem ContX.own (k : ContX O c fr μ s X E) : ContX N c fr μ s X E :=
 fun i H' μ' v s' hX x' S' hr => k i H' μ' v s' hX (x'.weaken fun _ h => h.elim) S' hr
section
variable {c : Cx} {n : Nat} {ρ : Loc} {H : List AO} {P : Fl → List AO → Prop} {X : Nat → List AO → Prop}
theorem ExS.nil (h : P (.next ρ) H) : ExS c n [] ρ H P X := fun _ _ _ μ s S _ _ _ hQ _ => wpAny_execs_nil (hQ _ H μ _ s h Ext.refl S.st ⟨rfl, S.rho⟩)
theorem ExS.cons {st : Stmt} {P' : Fl → List AO → Prop} (h : Ex1 c n st ρ H P' X) (hn : ∀ fl H1, P' fl H1 → match fl with | .next ρ1 => ExS c n r ρ1 H1 P X | fl => P fl H1) : ExS c n (st :: r) ρ H P X := by
 intro A env fr μ s S ow Q E hQ hE
 refine wpAny_execs_cons (h A env fr μ s S ow _ E (fun fl H1 μ1 f s1 h1 x1 S1 hf => ?_) hE)
 have h2 := hn fl H1 h1
 cases fl with
 | next ρ1 =>
  obtain ⟨rfl, hr⟩ := hf
  exact h2 A env fr μ1 s1 ⟨S.room, S.stack, S.eok, S1, hr⟩ ow Q E (hQ.next x1 S1 hr) (hE.nextO x1 S1 hr)
 | ret v => obtain ⟨w, rfl, hw⟩ := id hf; exact hQ _ _ _ _ _ h2 x1 S1 hf
 | brk ρ1 => obtain ⟨rfl, hw⟩ := id hf; exact hQ _ _ _ _ _ h2 x1 S1 hf
 | cont ρ1 => obtain ⟨rfl, hw⟩ := id hf; exact hQ _ _ _ _ _ h2 x1 S1 hf
theorem ExS.ret (h : EvE c n e ρ H (fun v H1 => P (.ret v) H1) X) : ExS c n (.Return (some e) p :: r) ρ H P X := by
 refine ExS.cons (P' := fun fl H1 => ∃ v, fl = .ret v ∧ P (.ret v) H1) (fun A env fr μ s S ow Q E hQ hE => ?_) fun fl H1 h1 => by obtain ⟨v, rfl, h⟩ := h1; exact h
 exact wpAny_Return_some (h A env fr μ s S _ E (fun v H1 μ1 va s1 h1 x1 S1 r1 => hQ (.ret v) H1 μ1 _ s1 ⟨v, rfl, h1⟩ (x1.weaken fun _ h => h.elim) S1 ⟨va, rfl, r1⟩) hE.own)
theorem ExS.cont (h : P (.cont ρ) H) : ExS c n (.Continue p :: r) ρ H P X := by
 refine ExS.cons (P' := fun fl H1 => fl = .cont ρ ∧ P (.cont ρ) H1) (fun A env fr μ s S ow Q E hQ hE => ?_) fun fl H1 h1 => by obtain ⟨rfl, h⟩ := h1; exact h
 exact fun _ _ _ => hQ (.cont ρ) H μ _ s ⟨rfl, h⟩ Ext.refl S.st ⟨rfl, S.rho⟩
theorem execs_append (env : Env) (b : List Stmt) : ∀ a : List Stmt, execs (a ++ b) env = (execs a env >>= fun f => match f with | .next => execs b env | f => pure f)
 | [] => by rw [List.nil_append, execs_nil, pure_bind]
 | st :: a => by
  rw [List.cons_append, execs_cons, execs_cons, bind_assoc]
  congr 1
  funext f
  cases f <;> first | exact execs_append env b a | rw [pure_bind]
theorem ExS.ifS {t : Expr} {a b : List Stmt} (h : BoE c n t ρ H (fun q H1 => (q = true → ExS c n (a ++ r) ρ H1 P X) ∧ (q = false → ExS c n (b ++ r) ρ H1 P X)) X) : ExS c n (.If t a b p :: r) ρ H P X := by
 intro A env fr μ s S ow Q E hQ hE
 have e : execs (.If t a b p :: r) env = (do standAt p; if ← isTrue t env (eval t env) then execs (a ++ r) env else execs (b ++ r) env) := by
  rw [execs_cons, exec_If, bind_assoc]
  congr 1; funext _
  rw [bind_assoc]
  congr 1; funext q
  cases q
  ·exact (execs_append env r b).symm
  ·exact (execs_append env r a).symm
 rw [e]
 refine wpAny_bind (wpAny_standAt (wpAny_bind (h A env fr μ s S _ E (fun q H1 μ1 s1 h1 x1 S1 => ?_) hE.own)))
 have S1' := S.next x1 S1
 have xo : Ext fr (Own env) μ μ1 s s1 := x1.weaken fun _ h => h.elim
 cases q with
 | true => exact h1.1 rfl A env fr μ1 s1 S1' ow Q E (hQ.next xo S1 S1'.rho) (hE.nextO xo S1 S1'.rho)
 | false => exact h1.2 rfl A env fr μ1 s1 S1' ow Q E (hQ.next xo S1 S1'.rho) (hE.nextO xo S1 S1'.rho)
end
inductive Put : Loc → Str → V → Loc → Prop where
 | here {x : Str} {o : Option V} {v : V} {r : Loc} : Put ((x, .loc, o) :: r) x v ((x, .loc, some v) :: r)
 | there {e : Str × Kd × Option V} {x : Str} {v : V} {r r' : Loc} : Put r x v r' → Put (e :: r) x v (e :: r')
theorem Put.names {ρ' : Loc} {v : V} (p : Put ρ x v ρ') : ρ'.map (·.1) = ρ.map (·.1) := by
 induction p with
 | here => rfl
 | there _ ih => rw [List.map_cons, List.map_cons, ih]
theorem Put.mem {ρ' : Loc} {v : V} (p : Put ρ x v ρ') : (∃ o, (x, Kd.loc, o) ∈ ρ) ∧ ((ρ.map (·.1)).Nodup → ∀ e ∈ ρ', e = (x, .loc, some v) ∨ (e ∈ ρ ∧ e.1 ≠ x)) := by
 induction p with
 | here =>
  refine ⟨⟨_, .head _⟩, fun nd e he => ?_⟩
  rcases List.mem_cons.mp he with rfl | he
  ·exact .inl rfl
  ·refine .inr ⟨.tail _ he, fun q => ?_⟩
   rw [List.map_cons, List.nodup_cons] at nd
   exact nd.1 (List.mem_map.mpr ⟨e, he, q⟩)
 | there p ih =>
  walk_at "z"
  obtain ⟨⟨o, ho⟩, h2⟩ := ih
  walk_at "y"
  refine ⟨⟨o, .tail _ ho⟩, fun nd e he => ?_⟩
  rw [List.map_cons, List.nodup_cons] at nd
  rcases List.mem_cons.mp he with rfl | he
  ·exact .inr ⟨.head _, fun q => nd.1 (List.mem_map.mpr ⟨_, ho, q.symm⟩)⟩
  ·rcases h2 nd.2 e he with q | q
   ·exact .inl q
   ·exact .inr ⟨.tail _ q.1, q.2⟩
set_option backward.match.sparseCases false in
noncomputable def notComp : Expr → Bool
 | .ListComp .. | .SetComp .. | .DictComp .. => false
 | _ => true
theorem swaps_no (h : notComp e = true) (t : Option Expr) (l : Nat) (env : Env) : swapsWith e t l env = pure false := by
 cases e <;> first | rfl | cases h
theorem store_ok {ρ' : Loc} {Q : Unit → Shared → Prop} {y : V} (S : Sit c n A env fr μ H ρ s) (r : Rep s.heap μ y v) (p : Put ρ x y ρ')
  (k : ∀ s', Ext fr (Own env) μ μ s s' → St c.base fr μ H s'.heap → Rho s'.heap μ env c ρ' → Q () s') : wpAny c.M A (storeName env x v) Q E s := by
 walk_at "z"
 obtain ⟨m, hn, hm, hb, hnd, hr⟩ := S.rho
 walk_at "y"
 walk_at "z"
 obtain ⟨⟨o, ho⟩, hp⟩ := p.mem
 walk_at "y"
 have hk : env.kindOf x = some .local := (hr x .loc o ho).1
 have hp' : (env.scope.kind == .class || (env.scope.kind == .module && env.locals != env.globals)) = false := by rw [S.eok.kind]; rfl
 refine wpAny_storeName_local hk hn (fun h' hn' hs => ?_) hp'
 have other : ∀ b, b ≠ env.locals → h'.get? b = s.heap.get? b := fun b hne => hs.2 b hne
 have kept : Kept NoF (fun b => b = env.locals) s.heap h' := fun b o e hne => ⟨o.slots, (other b hne).trans e, fun _ => rfl⟩
 have nt : NoTup s.heap (fun b => NoF b ∨ b = env.locals) := fun b vs n hd e => by
  rcases hd with hd | rfl
  ·exact hd
  ·walk_at "z"
   obtain ⟨o, es, ep, h1, h2, _⟩ := hn
   walk_at "y"
   rw [e] at h1; cases h1; simp [tpO] at h2
 have S' : St c.base fr μ H h' := by
  refine ⟨fun b o e => ?_, frames_keep S.st.frames fun L hL o e hd => ?_, S.st.len, fun i o a hi ha => ?_, S.st.apart, S.st.off, S.st.fresh, fun L hL => ?_⟩
  ·rw [other b fun q => by rw [q, hb] at e; cases e]; exact S.st.stays b o e
  ·by_cases hq : L = env.locals
   ·subst hq
    walk_at "z"
    obtain ⟨o', es, ep, h1, h2, _⟩ := hn'
    walk_at "y"
    exact ⟨o', h1, fun vs q => by rw [h2] at q; cases q⟩
   ·exact ⟨o, (other L hq).trans e, hd⟩
  ·have rj := S.st.rel i o a hi ha
   obtain ⟨n1, n2⟩ := mut_at ha
   exact rj.keeps kept nt (pRe _) (other _ fun q => hm (q ▸ n1)) (other _ fun q => hm (q ▸ n2))
  ·by_cases hq : L = env.locals
   ·subst hq; exact ⟨_, hn'⟩
   ·walk_at "z"
    obtain ⟨m', o, es, ep, h1, h2⟩ := S.st.frd L hL
    walk_at "y"
    exact ⟨m', o, es, ep, (other L hq).trans h1, h2⟩
 refine k _ ⟨pRe _, fun b o e hne => ⟨o.slots, (other b fun q => hne (.inr q)).trans e, fun _ => rfl⟩, fun i a hi ha => (by rw [List.getElem?_eq_none hi] at ha; cases ha), rfl, rfl, rfl⟩ S' ⟨_, hn', hm, hb, p.names ▸ hnd, fun y' k' V' hy => ?_⟩
 rcases hp hnd _ hy with q | ⟨q1, q2⟩
 ·cases q
  exact ⟨hk, fun z hz => by cases hz; exact ⟨v, if_pos rfl, r.mono kept nt (pRe _)⟩⟩
 ·have q := hr y' k' V' q1
  cases k' with
  | loc => exact ⟨q.1, fun z hz => let ⟨w, h1, h2⟩ := q.2 z hz; ⟨w, by rw [if_neg q2]; exact h1, h2.mono kept nt (pRe _)⟩⟩
  | glob => exact q
  | cell =>
   walk_at "z"
   obtain ⟨q1', ca, c0, q2', q3, q4, q5⟩ := q
   walk_at "y"
   have hne : ca ≠ env.locals := fun e => by
    subst e
    walk_at "z"
    obtain ⟨o1, h1, h2⟩ := q3
    walk_at "y"
    walk_at "z"
    obtain ⟨o2, es, ep, h3, h4, _⟩ := hn
    walk_at "y"
    rw [h1] at h3; cases h3; rw [h4] at h2; cases h2
   exact ⟨q1', ca, c0, q2', Heap.IsCell.kept q3 kept hne, q4, fun z hz => let ⟨w, h1, h2⟩ := q5 z hz; ⟨w, h1, h2.mono kept nt (pRe _)⟩⟩
section
variable {c : Cx} {n : Nat} {ρ : Loc} {H : List AO} {P : Fl → List AO → Prop} {R : V → List AO → Prop} {X : Nat → List AO → Prop}
theorem ExS.assign {x : String} {q : Pos} (h : EvE c n e ρ H (fun v H1 => ∃ ρ1, Put ρ (so x) v ρ1 ∧ ExS c n r ρ1 H1 P X) X) (hc : notComp e = true := by rfl) : ExS c n (.Assign [.Name (so x) q] e p :: r) ρ H P X := by
 refine ExS.cons (P' := fun fl H1 => ∃ ρ1, fl = .next ρ1 ∧ ExS c n r ρ1 H1 P X) (fun A env fr μ s S ow Q E hQ hE => ?_) fun fl H1 h1 => by obtain ⟨ρ1, rfl, h⟩ := h1; exact h
 refine wpAny_Assign_Name (h A env fr μ s S _ E (fun v H1 μ1 va s1 h1 x1 S1 r1 => ?_) hE.own) (swaps_no hc _ _ _)
 walk_at "z"
 obtain ⟨ρ1, hp, h2⟩ := h1
 walk_at "y"
 refine store_ok (S.next x1 S1) r1 hp fun s2 x2 S2 hr => ?_
 exact hQ (.next ρ1) H1 μ1 _ s2 ⟨ρ1, rfl, h2⟩ (x1.comp S1 x2) S2 ⟨rfl, hr⟩
theorem interactive_no (h : env.scope.kind = .function) : interactive env = false := by unfold interactive; rw [h]; rfl
noncomputable def CallJ (c : Cx) (n : Nat) (g : Value) (xs : List V) (H : List AO) (R : V → List AO → Prop) (X : Nat → List AO → Prop) : Prop :=
 ∀ (A : Around) (fr : List Env) (μ : Mp) (s : Shared) (vs : List Value), Room A n → A.frames = some fr → St c.base fr μ H s.heap → RepL s.heap μ xs vs → ∀ (Q E : Value → Shared → Prop), Cont N c fr μ s R Q → ContX N c fr μ s X E → wpAny c.M A (call g vs) Q E s
noncomputable def KeepG (g : Value) : Prop := match g with
 | .ref _ => ∀ P, keepIn (kFrag P) g = true
 | .builtin _ | .type _ => True
 | _ => False
theorem backTo_plain (p : Pos) (env : Env) : ∀ as : List Expr, as.all notStar = true → ((backTo p (starEach as env)).any (·.1)) = false
 | [], _ => rfl
 | e :: r, h => by
  have h := Bool.and_eq_true_iff.mp h
  rw [starEach_cons r env h.1]
  show (false || (backTo p (starEach r env)).any (·.1)) = false
  rw [backTo_plain p env r h.2]; rfl
theorem evalArgs_ok {M : Model} {f : Value} {Q : Args → Shared → Prop} (hs : as.all notStar = true) (h : wpAny M A (spliced (backTo p (starEach as env))) (fun vs s' => Q ⟨vs, []⟩ s') E s) :
  wpAny M A (evalArgs f true (backTo p (starEach as env)) []) Q E s := by
 cases as with
 | nil =>
  exact fun Γ p' hΓ => evalArgs_nil3 (show Q {} s from h Γ p' hΓ) Γ p' hΓ
 | cons a r =>
  have h' := Bool.and_eq_true_iff.mp hs
  rw [starEach_cons r env h'.1] at h ⊢
  exact Calls.evalArgs_plain h
end
theorem St.pop (S : St base (env :: fr) μ H h) : St base fr μ H h :=
 ⟨S.stays, S.frames.2.2, S.len, S.rel, S.apart, fun L hL => S.off L (by rw [List.filterMap_cons]; split; exact hL; exact .tail _ hL), S.fresh, fun L hL => S.frd L (by rw [List.filterMap_cons]; split; exact hL; exact .tail _ hL)⟩
theorem St.enter {h₁ : Heap} {m : Str → Option Value} (S : St base fr μ H h) (hk : ∀ b o, h.get? b = some o → h₁.get? b = some o) (hkd : env.scope.kind = .function) (hf : env.frame = some h.objs.size) (hn : h₁.Ns h.objs.size m) : St base (env :: fr) μ H h₁ := by
 have S' := S.keeps hk
 have hb : base.get? h.objs.size = none := base_none S.stays (none_at_size h)
 refine ⟨S'.stays, ⟨by rw [hkd]; decide, ?_, S'.frames⟩, S'.len, S'.rel, S'.apart, fun L hL hm => ?_, S'.fresh, fun L hL => ?_⟩
 ·walk_at "z"
  obtain ⟨o, es, ep, h1, h2, _⟩ := hn
  walk_at "y"
  exact ⟨_, o, hf, hb, h1, fun vs q => by rw [h2] at q; cases q⟩
 ·rw [List.filterMap_cons, hf] at hL
  rcases List.mem_cons.mp hL with rfl | hL
  ·obtain ⟨y, hy, _⟩ := S.live hm; rw [none_at_size] at hy; cases hy
  ·exact S'.off L hL hm
 ·rw [List.filterMap_cons, hf] at hL
  rcases List.mem_cons.mp hL with rfl | hL
  ·exact ⟨m, hn⟩
  ·exact S'.frd L hL
theorem Ext.leave {h₁ : Heap} {tk : Nat} (hk : ∀ b o, s.heap.get? b = some o → h₁.get? b = some o) (hf : env.frame = some s.heap.objs.size) (hl : env.locals = s.heap.objs.size) (x : Ext (env :: fr) (Own env) μ μ' { s with heap := h₁, toks := tk } s') : Ext fr N μ μ' s s' := by
 refine ⟨x.pre, fun b o e hn => ?_, fun i a hi ha => ?_, x.rest⟩
 ·have hne : b ≠ s.heap.objs.size := fun q => by rw [q, none_at_size] at e; cases e
  walk_at "z"
  obtain ⟨sl, e', q⟩ := x.keep b o (hk b o e) fun z => z.elim (fun z => hn (.inl z)) fun z => hne (z.trans hl)
  walk_at "y"
  refine ⟨sl, e', fun h => q fun z => ?_⟩
  unfold InFr at z h
  rw [List.filterMap_cons, hf] at z
  rcases List.mem_cons.mp z with z | z
  ·exact hne z
  ·exact h z
 ·have := x.new i a hi ha
  constructor
  ·cases q : s.heap.get? a.1 with
   | none => rfl
   | some o => have := this.1; rw [show ({ s with heap := h₁, toks := tk } : Shared).heap.get? a.1 = _ from hk _ _ q] at this; cases this
  ·cases q : s.heap.get? a.2 with
   | none => rfl
   | some o => have := this.2; rw [show ({ s with heap := h₁, toks := tk } : Shared).heap.get? a.2 = _ from hk _ _ q] at this; cases this
theorem live_fr (x : Ext fr (Own env) μ μ' s s') (S' : St base fr μ' H' s'.heap) (hl : InFr fr env.locals) (b : Addr) (o : Obj) (e : s.heap.get? b = some o) : ∃ o', s'.heap.get? b = some o' := by
 by_cases hm : Mut μ b
 ·walk_at "z"
  obtain ⟨y, hy, _⟩ := S'.live (mut_mono x.pre hm)
  walk_at "y"
  exact ⟨y, hy⟩
 ·by_cases ho : b = env.locals
  ·subst ho
   walk_at "z"
   obtain ⟨m, o', _, _, h, _⟩ := S'.frd _ hl
   walk_at "y"
   exact ⟨o', h⟩
  ·walk_at "z"
   obtain ⟨sl, e', _⟩ := x.keep b o e fun h => h.elim hm ho
   walk_at "y"
   exact ⟨_, e'⟩
noncomputable def GOk (c : Cx) (x : Str) (y : V) : Prop := ∃ v, (c.mg x = some v ∨ (c.mg x = none ∧ c.mb x = some v)) ∧ Rep c.base [] y v
noncomputable def RetP (R : V → List AO → Prop) : Fl → List AO → Prop
 | .ret v, H => R v H
 | .next _, H => R .none H
 | _, _ => False
noncomputable def params (names : List Str) (xs : List V) : Loc := (names.zip xs).map fun p => (p.1, Kd.loc, some p.2)
noncomputable def kdIs : Kd → NameKind
 | .loc => .local
 | .cell => .cell
 | .glob => .globalImplicit
noncomputable def fnOk (fd : FuncData) (names : List Str) (more : List (Str × Kd)) : Bool :=
 decide ((names ++ more.map (·.1)).Nodup) && (names.all fun x => fd.scope.names.lookup x == some .local) && (more.all fun e => fd.scope.names.lookup e.1 == some (kdIs e.2)) && (fd.scope.names.all fun e => e.2 != .cell) &&
  !fd.scope.isCoroutine && !fd.scope.isGenerator && fd.scope.kind == .function && fd.globals == mainGlobals && fd.builtins == builtinsNs
theorem zip_rep : ∀ {names : List Str} {xs : List V} {vs : List Value}, RepL h μ xs vs → ∀ x k V, (x, k, V) ∈ params names xs → k = .loc ∧ ∃ y v, V = some y ∧ (x, v) ∈ names.zip vs ∧ Rep h μ y v
 | [], _, _, _, _, _, _, hm => by cases hm
 | _ :: _, [], _, _, _, _, _, hm => by cases hm
 | a :: names, y :: xs, vs, r, x, k, V, hm => by
  walk_at "z"
  obtain ⟨v, q, eN1, r1, r2⟩ := r
  walk_at "y"
  subst eN1
  rcases List.mem_cons.mp (show (x, k, V) ∈ (a, Kd.loc, some y) :: params names xs from hm) with hm | hm
  ·cases hm; exact ⟨rfl, y, v, rfl, .head _, r1⟩
  ·walk_at "z"
   obtain ⟨h1, y', v', h2, h3, h4⟩ := zip_rep r2 x k V hm
   walk_at "y"
   exact ⟨h1, y', v', h2, .tail _ h3, h4⟩
theorem params_names : ∀ {names : List Str} {xs : List V}, names.length = xs.length → (params names xs).map (·.1) = names
 | [], _, _ => rfl
 | _ :: _, [], h => by cases h
 | a :: names, y :: xs, h => by
  show a :: (params names xs).map (·.1) = a :: names
  rw [params_names (Nat.succ.inj h)]
theorem zip_names : ∀ {names : List Str} {xs : List Value}, names.length = xs.length → (names.zip xs).map (·.1) = names
 | [], _, _ => rfl
 | _ :: _, [], h => by cases h
 | a :: names, y :: xs, h => by
  show a :: (names.zip xs).map (·.1) = a :: names
  rw [zip_names (Nat.succ.inj h)]
theorem lookup_of_mem' {l : List (Str × Value)} (nd : (l.map (·.1)).Nodup) (hm : (x, v) ∈ l) : l.lookup x = some v := by
 induction l with
 | nil => cases hm
 | cons e r ih =>
  rw [List.map_cons, List.nodup_cons] at nd
  rw [List.lookup_cons]
  rcases List.mem_cons.mp hm with hm | hm
  ·subst hm; rw [beq_self_eq_true]
  ·rw [show (x == e.1) = false from beq_eq_false_iff_ne.mpr fun q => nd.1 (List.mem_map.mpr ⟨_, hm, q⟩)]
   exact ih nd.2 hm
noncomputable def CodeJ (c : Cx) (n : Nat) (g : Value) (xs : List V) (H : List AO) (R : V → List AO → Prop) (X : Nat → List AO → Prop) : Prop :=
 ∀ (A : Around) (fr : List Env) (μ : Mp) (s : Shared) (vs : List Value), Room A n → A.frames = some fr → St c.base fr μ H s.heap → RepL s.heap μ xs vs → ∀ (RR : Result → Shared → Prop), Cont N c fr μ s R (fun v s' => RR (.ok (.ret v)) s') → ContX N c fr μ s X (fun v s' => RR (.error v) s') → codeAny c.M A (.call g ⟨vs, []⟩) RR s
theorem CodeJ.call (h : CodeJ c n g xs H R X) : CallJ c n g xs H R X :=
 fun A fr μ s vs room hA S rv Q E hQ hE => wpAny_call (h A fr μ s vs room hA S rv _ hQ hE)
theorem fnSit {fd : FuncData} {names : List Str} {dxs : List V} {more : Loc}
  (hstat : fnOk fd names (more.map fun e => (e.1, e.2.1)) = true) (hlen : names.length = xs.length + dxs.length)
  (hmore : ∀ x k V, (x, k, V) ∈ more → (k = .loc ∧ V = none) ∨ (k = .glob ∧ ∀ y, V = some y → GOk c x y))
  {ds : List Value} (room : Room A (n + 1)) (hA : A.frames = some fr) (S : St c.base fr μ H s.heap) (rv : RepL s.heap μ xs vs) (rds : RepL c.base [] dxs ds)
  {h₀ : Heap} (hns : h₀.Ns s.heap.objs.size (fun x => (names.zip (vs ++ ds)).reverse.lookup x)) (hk : ∀ b o, s.heap.get? b = some o → h₀.get? b = some o) {tk : Nat} :
  Sit c n (A.deeper (callEnv fd s.heap.objs.size a)) (callEnv fd s.heap.objs.size a) (callEnv fd s.heap.objs.size a :: fr) μ H (params names (xs ++ dxs) ++ more) { s with heap := h₀, toks := tk } ∧ InFr (callEnv fd s.heap.objs.size a :: fr) (callEnv fd s.heap.objs.size a).locals := by
 unfold fnOk at hstat
 simp only [Bool.and_eq_true, decide_eq_true_eq, List.all_eq_true, beq_iff_eq, bne_iff_ne, Bool.not_eq_true'] at hstat
 walk_at "z"
 obtain ⟨⟨⟨⟨⟨⟨⟨⟨h1, h2⟩, h3⟩, h4⟩, h5⟩, h6⟩, h7⟩, h8⟩, h9⟩ := hstat
 walk_at "y"
 have rall : RepL s.heap μ (xs ++ dxs) (vs ++ ds) := rv.app (rds.mono (F := NoF) (D := NoF) (Kept.of_keeps S.stays) noTup_none List.nil_prefix)
 have lall : names.length = (vs ++ ds).length := by rw [rall.length, lAp, hlen]
 have lall' : names.length = (xs ++ dxs).length := by rw [lAp, hlen]
 have hf : (callEnv fd s.heap.objs.size a).frame = some s.heap.objs.size := rfl
 have hl : (callEnv fd s.heap.objs.size a).locals = s.heap.objs.size := rfl
 have S₁ : St c.base (callEnv fd s.heap.objs.size a :: fr) μ H h₀ := S.enter hk h7 hf hns
 have hinfr : InFr (callEnv fd s.heap.objs.size a :: fr) (callEnv fd s.heap.objs.size a).locals := by unfold InFr; rw [List.filterMap_cons, hf, hl]; exact .head _
 refine ⟨?_, hinfr⟩
 refine ⟨⟨?_, ?_, ?_⟩, ?_, ⟨h7, h8, h9, ⟨_, hf, by rw [List.head?_cons, Option.bind_some]; exact hf⟩⟩, S₁, _, hns, fun hm => ?_, base_none S.stays (by rw [hl]; exact none_at_size _), ?_, fun x k V hm => ?_⟩
 ·exact rd1 room.d
 ·exact ru3 room.u
 ·exact .inr (room.hd.resolve_left (Nat.succ_ne_zero _))
 ·show A.frames.map _ = _; rw [hA]; rfl
 ·obtain ⟨y, hy, _⟩ := S.live hm; rw [hl, none_at_size] at hy; cases hy
 ·rw [List.map_append, params_names lall', show more.map (·.1) = (more.map fun e => (e.1, e.2.1)).map (·.1) by rw [List.map_map]; rfl]; exact h1
 ·rcases List.mem_append.mp hm with hm | hm
  ·walk_at "z"
   obtain ⟨eN2, y, v, eN3, hz, ry⟩ := zip_rep rall x k V hm
   walk_at "y"
   subst eN2 eN3
   refine ⟨h2 x (List.of_mem_zip hz).1, fun z hz' => ?_⟩
   cases hz'
   have nd : ((names.zip (vs ++ ds)).map (·.1)).Nodup := by rw [zip_names lall]; exact (List.nodup_append.mp h1).1
   exact ⟨v, by rw [PySem.lookup_reverse_of_nodup _ nd]; exact lookup_of_mem' nd hz, ry.mono (F := NoF) (D := NoF) (Kept.of_keeps hk) noTup_none (pRe _)⟩
  ·have hk' := h3 (x, k) (List.mem_map.mpr ⟨_, hm, rfl⟩)
   rcases hmore x k V hm with ⟨rfl, rfl⟩ | ⟨rfl, hg⟩
   ·exact ⟨hk', fun y hy => by cases hy⟩
   ·exact ⟨hk', fun y hy => hg y hy⟩
theorem CodeJ.fnQ {fd : FuncData} {names : List Str} {dxs : List V} {more : Loc}
  (hK : ∀ P, (kFrag P).lookup a = some { cls := .type "function", data := .func fd }) (hbody : fd.body = .stmts body) (hcode : ∀ P, codeIn (kFrag P) fd.code fd.qualname = true) (hstat : fnOk fd names (more.map fun e => (e.1, e.2.1)) = true)
  (hbind : ∀ (s : Shared) (vs : List Value), (kFrag c.w.params).In s.heap → vs.length = xs.length → ∃ ds, BindsTo s fd ⟨vs, []⟩ (names.zip (vs ++ ds)) ∧ RepL c.base [] dxs ds) (hlen : names.length = xs.length + dxs.length)
  (hmore : ∀ x k V, (x, k, V) ∈ more → (k = .loc ∧ V = none) ∨ (k = .glob ∧ ∀ y, V = some y → GOk c x y))
  (h : TrSq c n names.length (execs body) (params names (xs ++ dxs) ++ more) H (RetP R) X) : CodeJ c (n + 1) (.ref a) xs H R X := by
 intro A fr μ s vs room hA S rv RR hQ hE
 have hstat0 := hstat
 unfold fnOk at hstat
 simp only [Bool.and_eq_true, decide_eq_true_eq, List.all_eq_true, beq_iff_eq, bne_iff_ne, Bool.not_eq_true'] at hstat
 walk_at "z"
 obtain ⟨⟨⟨⟨⟨⟨⟨⟨h1, h2⟩, h3⟩, h4⟩, h5⟩, h6⟩, h7⟩, h8⟩, h9⟩ := hstat
 walk_at "y"
 have X0 : (kFrag c.w.params).In s.heap := c.X.keeps S.stays
 walk_at "z"
 obtain ⟨ds, hbd, rds⟩ := hbind s vs X0 rv.length
 walk_at "y"
 have rall : RepL s.heap μ (xs ++ dxs) (vs ++ ds) := rv.app (rds.mono (F := NoF) (D := NoF) (Kept.of_keeps S.stays) noTup_none List.nil_prefix)
 have lall : names.length = (vs ++ ds).length := by rw [rall.length, lAp, hlen]
 have lall' : names.length = (xs ++ dxs).length := by rw [lAp, hlen]
 refine (codeAny_call_def (fd := fd) (body := body) (binds := names.zip (vs ++ ds)) (rdK room.d) (X0 a _ (hK _)) rfl (c.nl.keeps S.stays) (codeRec_of X0 (hcode _)) hbody hbd h4 (fun y hy => h2 y.1 (List.of_mem_zip hy).1) (fun h₀ hns hk => ?_) h5 h6 h7)
 have hf : (callEnv fd s.heap.objs.size a).frame = some s.heap.objs.size := rfl
 have hl : (callEnv fd s.heap.objs.size a).locals = s.heap.objs.size := rfl
 have back : ∀ b, h₀.get? b = none → s.heap.get? b = none := fun b e => by
  cases q : s.heap.get? b with
  | none => rfl
  | some o => rw [hk b o q] at e; cases e
 obtain ⟨sit, hinfr⟩ := fnSit (c := c) (n := n) (a := a) (fd := fd) hstat0 hlen hmore room hA S rv rds hns hk (tk := s.toks + (names.zip (vs ++ ds)).length)
 refine wpAny_mono (h _ _ _ μ _ (by show names.length ≤ s.toks + (names.zip (vs ++ ds)).length; rw [List.length_zip]; omega) sit hinfr _ (fun e s' => wpAny c.M (A.deeper (callEnv fd s.heap.objs.size a)) (leaving (callEnv fd s.heap.objs.size a) e) (fun _ s'' => RR (.error e) s'') (fun e' s'' => RR (.error e') s'') s') (fun fl H' μ' f s' hP x' S' hf' => ?_) (fun i H' μ' v s' hX x' S' hr => ?_)) (fun _ _ q => q) fun _ _ q => q
 ·have x₂ := x'.leave hk hf hl
  cases fl with
  | ret v =>
   walk_at "z"
   obtain ⟨w, eN4, rw'⟩ := hf'
   walk_at "y"
   subst eN4
   exact hQ v H' μ' w s' hP x₂ S'.pop rw'
  | next ρ =>
   obtain ⟨rfl, _⟩ := hf'
   exact hQ .none H' μ' .none s' hP x₂ S'.pop rfl
  | brk ρ => exact hP.elim
  | cont ρ => exact hP.elim
 ·refine leaving_ok (by show A.frames.map _ = _; rw [hA]; rfl) ⟨_, hf, by rw [List.head?_cons, Option.bind_some]; exact hf⟩ (fun b o e => hk b o (S.stays b o e)) x' S' hr (live_fr x' S' hinfr) fun s'' x'' S'' r'' => ?_
  refine hE i H' μ' v s'' hX (x''.leave hk hf hl) S''.pop ?_
  walk_at "z"
  obtain ⟨a', C, fs, vs', g1, g2, g3, g4, g5, g6, g7⟩ := r''.raised
  walk_at "y"
  exact ⟨a', C, fs, vs', g1, g2, g3, back _ g4, g5, g6, g7.imp id fun ⟨T, oT, ts, f1, f2, f3⟩ => ⟨T, oT, ts, f1, back _ f2, f3⟩⟩
section
variable {c : Cx} {n : Nat} {ρ : Loc} {H : List AO} {R : V → List AO → Prop} {X : Nat → List AO → Prop}
theorem EvE.call {f : String} {k : Kd} {fp : Pos} (hm : (so f, k, some (.val g)) ∈ ρ) (hg : KeepG g) (h : EvL c n p as ρ H (fun xs H1 => CallJ c n g xs H1 R X) X) (hs : as.all notStar = true := by rfl) (hd : ((so f) == ("__debug__" : Str)) = false := by kernel_rfl) :
  EvE c n (.Call (.Name (so f) fp) as [] p) ρ H R X := by
 intro A env fr μ s S Q E hQ hE
 show wpAny _ _ (do callWith p (← eval (.Name (so f) fp) env) [] (backTo p (starEach as env)) []) _ _ _
 refine wpAny_bind (EvE.name (R := fun y H' => y = .val g ∧ H' = H) hm ⟨rfl, rfl⟩ hd A env fr μ s S _ _ (fun y H1 μ1 v s1 h1 x1 S1 r1 => ?_) hE)
 obtain ⟨rfl, rfl⟩ := h1
 rw [show v = g from r1]
 have fin : ∀ {P : Heap → Prop}, (∀ h, c.base.StaysIn h → P h) → wpAny c.M A (evalArgs g true (backTo p (starEach as env)) []) (fun a s₁ => P s₁.heap ∧ wpAny c.M A (call g ([] ++ a.pos) a.kw) Q E s₁) E s1 := fun hP => by
  refine evalArgs_ok hs (h A env fr μ1 s1 (S.next x1 S1) _ E (fun xs H2 μ2 vs s2 h2 x2 S2 r2 => ?_) (hE.next x1 S1))
  exact ⟨hP _ S2.stays, h2 A fr μ2 s2 vs S.room S.stack S2 r2 Q E ((hQ.next x1 S1).next x2 S2) ((hE.next x1 S1).next x2 S2)⟩
 cases g with
 | builtin id => exact Calls.callWith_builtin (backTo_plain _ _ _ hs) (wpAny_mono (fin (P := fun _ => True) fun _ _ => trivial) (fun _ _ z => z.2) fun _ _ z => z)
 | type T => exact PySem.callWith_type (backTo_plain _ _ _ hs) (wpAny_mono (fin (P := fun _ => True) fun _ _ => trivial) (fun _ _ z => z.2) fun _ _ z => z)
 | ref a => exact callWith_of (P := (kFrag c.w.params).In) (by rw [backTo_plain _ _ _ hs]; rfl) (keeps_K (hg _)) (fin fun _ k => c.X.keeps k)
 | _ => exact hg.elim
end
noncomputable def fput : List (Str × V) → Str → V → List (Str × V)
 | [], x, v => [(x, v)]
 | (y, w) :: r, x, v => if y == x then (y, v) :: r else (y, w) :: fput r x v
theorem FRel.noRef : ∀ {fs : List (Str × V)} {es : List DictEntry}, FRel h μ fs es → es.any (·.refKey) = false
 | [], _, r => by rw [show _ = [] from r]; rfl
 | (n, x) :: l, _, r => by
  walk_at "z"
  obtain ⟨e, t, eN1, ⟨k, hk⟩, _, r'⟩ := r
  walk_at "y"
  subst eN1
  rw [List.any_cons, FRel.noRef r']
  unfold DictEntry.refKey
  rw [hk]; rfl
theorem isStr_key {e : DictEntry} {n : Str} {t : Tok} (hk : e.key = .str n t) : e.key.isStr x = (n == x) := by rw [hk]; rfl
theorem FRel.get : ∀ {fs : List (Str × V)} {es : List DictEntry} {y : V}, FRel h μ fs es → fs.lookup x = some y → ∃ v, getL x es = some (some v) ∧ Rep h μ y v
 | [], _, _, _, q => by cases q
 | (n, z) :: l, _, y, r, q => by
  walk_at "z"
  obtain ⟨e, t, eN2, ⟨k, hk⟩, rv, r'⟩ := r
  walk_at "y"
  subst eN2
  rw [List.lookup_cons] at q
  by_cases hx : n = x
  ·subst hx
   rw [beq_self_eq_true] at q
   cases q
   refine ⟨e.val, ?_, rv⟩
   unfold getL
   rw [List.find?_cons, isStr_key hk, beq_self_eq_true]
  ·have h1 : (x == n) = false := by simpa using fun q => hx q.symm
   have h2 : (n == x) = false := by simpa using hx
   rw [h1] at q
   walk_at "z"
   obtain ⟨v, hv, rv'⟩ := FRel.get r' q
   walk_at "y"
   refine ⟨v, ?_, rv'⟩
   unfold getL at hv ⊢
   rw [List.find?_cons, isStr_key hk, h2]
   cases hf : List.find? (fun x_1 => x_1.key.isStr x) t with
   | some e' => rw [hf] at hv; exact hv
   | none => rw [hf] at hv; dsimp only at hv; cases hq : t.any (fun x => x.refKey) <;> rw [hq] at hv <;> simp at hv
theorem FRel.find_none : ∀ {fs : List (Str × V)} {es : List DictEntry}, FRel h μ fs es → fs.lookup x = none → es.find? (·.key.isStr x) = none
 | [], _, r, _ => by rw [show _ = [] from r]; rfl
 | (n, z) :: l, _, r, q => by
  walk_at "z"
  obtain ⟨e, t, eN3, ⟨k, hk⟩, rv, r'⟩ := r
  walk_at "y"
  subst eN3
  rw [List.lookup_cons] at q
  cases hx : x == n with
  | true => rw [hx] at q; cases q
  | false =>
   rw [hx] at q
   have h2 : (n == x) = false := by
    have : x ≠ n := by simpa using hx
    simpa using fun q => this q.symm
   rw [List.find?_cons, isStr_key hk, h2]
   exact FRel.find_none r' q
theorem FRel.no {fs : List (Str × V)} {es : List DictEntry} (r : FRel h μ fs es) (q : fs.lookup x = none) : getL x es = some none := by
 unfold getL
 rw [r.find_none q, r.noRef]; rfl
theorem FRel.put {y : V} {hsh : Int} {tk : Tok} (rv : Rep h μ y v) : ∀ {fs : List (Str × V)} {es : List DictEntry}, FRel h μ fs es → FRel h μ (fput fs x y) (putL x hsh (.str x tk) v es)
 | [], _, r => by rw [show _ = [] from r]; exact ⟨_, _, rfl, ⟨_, rfl⟩, rv, rfl⟩
 | (n, z) :: l, _, r => by
  walk_at "z"
  obtain ⟨e, t, eN4, ⟨k, hk⟩, rz, r'⟩ := r
  walk_at "y"
  subst eN4
  unfold fput putL
  rw [isStr_key hk]
  cases hx : n == x with
  | true => exact ⟨_, _, rfl, ⟨k, hk⟩, rv, r'⟩
  | false => exact ⟨_, _, rfl, ⟨k, hk⟩, rz, FRel.put rv r'⟩
theorem FRel.len : ∀ {fs : List (Str × V)} {es : List DictEntry}, FRel h μ fs es → es.length = fs.length
 | [], _, r => by rw [show _ = [] from r]; rfl
 | (n, z) :: l, _, r => by obtain ⟨e, t, rfl, _, _, r'⟩ := r; rw [lCo, lCo, FRel.len r']
theorem FRel.of_put {fs : List (Str × V)} {es : List DictEntry} (r : FRel h μ fs es) (S : St base fr μ H h) {a : Addr × Addr} (ha : μ[i]? = Option.some a) (hs : ∀ b, b ≠ a.1 → b ≠ a.2 → h'.get? b = h.get? b) : FRel h' μ fs es := by
 obtain ⟨m1, m2⟩ := mut_at ha
 have k : Kept NoF (fun b => b = a.1 ∨ b = a.2) h h' := fun b o e hn => ⟨o.slots, by rw [hs b (fun z => hn (.inl z)) fun z => hn (.inr z)]; exact e, fun _ => rfl⟩
 have nt : NoTup h (fun b => NoF b ∨ (b = a.1 ∨ b = a.2)) := fun b vs n hd e => by
  rcases hd with hd | rfl | rfl
  ·exact hd
  ·exact S.noTup _ vs n (.inr m1) e
  ·exact S.noTup _ vs n (.inr m2) e
 exact r.mono k nt (pRe _)
noncomputable def refV : Value → Bool
 | .ref _ => true
 | _ => false
noncomputable def tyV (n : String) : Value → Bool
 | .type a => a == n
 | _ => false
theorem refV_eq (h : refV v = true) : ∃ c, v = .ref c := by cases v <;> first | exact ⟨_, rfl⟩ | cases h
theorem tyV_eq {n : String} (h : tyV n v = true) : v = .type n := by cases v <;> first | (exact congrArg _ (beq_iff_eq.mp h)) | cases h
noncomputable def excTail : List Value → Bool
 | b :: l => tyV "BaseException" b && (match l with | d :: m => tyV "object" d && m.isEmpty | [] => false)
 | [] => false
noncomputable def excMro : List Value → Bool
 | v :: r => (refV v && excMro r) || (tyV "Exception" v && excTail r)
 | [] => false
theorem excTail_eq {l : List Value} (h : excTail l = true) : l = [.type "BaseException", .type "object"] := by
 cases l with
 | nil => cases h
 | cons b l =>
  have h1 := Bool.and_eq_true_iff.mp h
  cases l with
  | nil => cases h1.2
  | cons d m =>
   have h2 := Bool.and_eq_true_iff.mp h1.2
   rw [tyV_eq h1.1, tyV_eq h2.1, List.isEmpty_iff.mp h2.2]
theorem excMro_ind {P : List Value → Prop} (h0 : P [.type "Exception", .type "BaseException", .type "object"]) (h1 : ∀ c l, P l → P (.ref c :: l)) : ∀ {l : List Value}, excMro l = true → P l := by
 intro l
 induction l with
 | nil => intro h; cases h
 | cons v r ih =>
  intro h
  refine (Bool.or_eq_true_iff.mp h).elim (fun a => ?_) fun a => ?_
  ·have a := Bool.and_eq_true_iff.mp a
   refine (refV_eq a.1).elim fun c e => ?_
   rw [e]
   exact h1 _ _ (ih a.2)
  ·have a := Bool.and_eq_true_iff.mp a
   rw [tyV_eq a.1, excTail_eq a.2]
   exact h0
theorem refuse_exc (self : Value) {l : List Value} (h : excMro l = true) : refuseLoop self "__setattr__" l = pure () :=
 excMro_ind (P := fun l => refuseLoop self "__setattr__" l = pure ()) (by kernel_rfl) (fun c l h => by rw [refuseLoop_ref]; exact h) h
theorem exc_has {l : List Value} (h : excMro l = true) : l.contains (.type "object") = true :=
 excMro_ind (P := fun l => l.contains (.type "object") = true) (by decide) (fun c l h => by rw [List.contains_cons, h, Bool.or_true]) h
noncomputable def passMro (l : List Value) : Bool := onlyObject l || excMro l
theorem refuse_pass (self : Value) {l : List Value} (h : passMro l = true) : refuseLoop self "__setattr__" l = pure () := (Bool.or_eq_true_iff.mp h).elim (refuse_only self) (refuse_exc self)
theorem pass_has {l : List Value} (h : passMro l = true) : l.contains (.type "object") = true := (Bool.or_eq_true_iff.mp h).elim only_has exc_has
noncomputable def passOver (K : Frag) (C : Addr) : Bool := (clsIn K C).any fun cd => passMro cd.mro
section
variable {prog : Program} {w : World} {A : Around} {s : Shared} {K : Frag} {x C : Addr} {R : Result → Shared → Prop}
open Builtin Builtin.ObjectAttr in
theorem osa_openX {ox : Obj} {od : Option Obj} {name : Str} {tk : Tok} {r : Option Value} (X : K.In s.heap) (I : InstAt s.heap x ox C od) (hp : passOver K C = true) (ht : takerIn K C name = some r)
  (h : ∀ b, wpAny (model prog w) A.in1 (match r with | some a => setByDescriptor a (.ref x) v | none => storeInOwnDict (.ref x) (.ref C) (.str name tk) name v b)
   (fun fin s' => match fin with | .done f => R (.ok f) s' | .again c' => c'.quiet = true ∧ codeAny (model prog w) A c' R s') (fun e s' => R (.error e) s') s) :
  codeAny (model prog w) A (.call (.builtin "object.__setattr__") ⟨[.ref x, .str name tk, v], []⟩) R s := by
 have SF := PySem.F.store_object
 walk_at "z"
 obtain ⟨cd, hc, ho⟩ := any_some hp
 walk_at "y"
 have hh := pass_has ho
 have ne : cd.mro.isEmpty = false := by cases q : cd.mro with | nil => rw [q] at hh; cases hh | cons _ _ => rfl
 have sub : Looks (model prog w) s.heap (isInstance (.ref x) (.type "object")) true := I.type.andThen (looks_mroIn X (by unfold mroIn; rw [hc, Option.bind_some, if_neg (by rw [ne]; decide), hh]))
 refine codeAny_call_builtin SF.slot.plain SF.entry (@check_slot (model prog w) _ _ s "object.__setattr__" "object" "__setattr__" (.ref x) [.str name tk, v] [] _ SF.kind SF.split sub (SF.args (.ref x) (.str name tk) v) ?_)
 walk_at "z"
 obtain ⟨attr, ha, hr⟩ := Option.bind_eq_some_iff.mp ht
 walk_at "y"
 have hm : Looks (model prog w) s.heap (mroOf (.ref C)) cd.mro := (looks_clsIn X hc).andThen .now
 have L3 : Looks (model prog w) s.heap (storeTaker? attr) r := by
  cases attr with
  | none => cases hr; exact .now
  | some a =>
   walk_at "z"
   obtain ⟨b, hb, eN5⟩ := Option.map_eq_some_iff.mp hr
   walk_at "y"
   subst eN5
   refine (looks_takesIn X hb).andThen ?_
   cases b <;> exact .now
 rw [osa_eq, refuse_eq]
 refine wpAny_bind (wpAny_bind (I.type.here (wpAny_bind (hm.here ?_))))
 rw [refuse_pass _ ho]
 refine wpAny_pure (wpAny_bind (I.type.here (wpAny_bind ((looks_findIn X ha).here (wpAny_bind (L3.here ?_))))))
 exact h _
end
noncomputable def attrOk (K : Frag) (C : Addr) (x : Str) : Bool := (findIn K (.ref C) "__getattribute__" == some (some (.builtin "object.__getattribute__"))) && hasDictIn K C && (match findIn K (.ref C) x with | some attr => noGet K attr | none => false)
noncomputable def setOk (K : Frag) (C : Addr) (x : Str) : Bool := (findIn K (.ref C) "__setattr__" == some (some (.builtin "object.__setattr__"))) && passOver K C && (takerIn K C x == some none) && hasDictIn K C
noncomputable def isHanded (x : V) : Bool := match x with | .val v => handedIn v | .any => false | _ => true
theorem handed_rep : ∀ {x : V} {v : Value}, Rep h μ x v → isHanded x = true → handedIn v = true
 | .none, v, r, _ => by rw [show v = _ from r]; rfl
 | .bool b, v, r, _ => by rw [show v = _ from r]; rfl
 | .int i, v, r, _ => by obtain ⟨t, rfl⟩ := r; rfl
 | .str i, v, r, _ => by obtain ⟨t, rfl⟩ := r; rfl
 | .bytes i, v, r, _ => by obtain ⟨t, rfl⟩ := r; rfl
 | .tup l, v, r, _ => by obtain ⟨a, vs, n, rfl, _⟩ := r; rfl
 | .obj i, v, r, _ => by obtain ⟨a, _, rfl⟩ := r; rfl
 | .val c, v, r, q => by rw [show v = _ from r]; exact q
 | .any, _, _, q => by cases q
theorem get_inst {fs : List (Str × V)} {y : V} {b : Bool} (S : St c.base fr μ H s.heap) (r : Rep s.heap μ (.obj i) v)
  (hH : H[i]? = some (.inst C fs) ∨ H[i]? = some (.exc C fs)) (hf : fs.lookup x = some y) (hy : isHanded y = true) (hk : ∀ P, attrOk (kFrag P) C x = true) (hR : R y H) (hQ : Cont N c fr μ s R Q) : wpAny c.M A (getAttr v x b) Q E s := by
 walk_at "z"
 obtain ⟨a, ha, eN6⟩ := r
 walk_at "y"
 subst eN6
 have hk := hk c.w.params
 unfold attrOk at hk
 obtain ⟨h12, h3⟩ := Bool.and_eq_true_iff.mp hk
 obtain ⟨h1, h2⟩ := Bool.and_eq_true_iff.mp h12
 have X := c.X.keeps S.stays
 cases hat : findIn (kFrag c.w.params) (.ref C) x with
 | none => rw [hat] at h3; cases h3
 | some attr =>
  rw [hat] at h3
  have fin : ∀ {o : Obj} {es : List DictEntry} {n : Nat}, InstAt s.heap a.1 o C (some (dictOf es n)) → FRel s.heap μ fs es → wpAny c.M A (getAttr (.ref a.1) x b) Q E s := fun I fr => by
   walk_at "z"
   obtain ⟨v, hv, rv⟩ := fr.get hf
   walk_at "y"
   exact get_value X I (beq_iff_eq.mp h1) (findObj_own h2 hat h3 hv) (handed_rep rv hy) (hQ.same S hR rv)
  rcases hH with hH | hH
  ·walk_at "z"
   obtain ⟨es, n, g1, g2, g3⟩ := S.rel i _ a hH ha
   walk_at "y"
   exact fin ⟨g1, rfl, rfl, g2⟩ g3
  ·walk_at "z"
   obtain ⟨vs, es, n, _, g1, g2, g3⟩ := S.rel i _ a hH ha
   walk_at "y"
   exact fin ⟨g1, rfl, rfl, g2⟩ g3
section
variable {c : Cx} {n : Nat} {ρ : Loc} {H : List AO} {P : Fl → List AO → Prop} {R : V → List AO → Prop} {X : Nat → List AO → Prop}
theorem EvE.attr (h : EvE c n o ρ H (fun v H1 => ∃ i C fs y, v = .obj i ∧ (H1[i]? = some (.inst C fs) ∨ H1[i]? = some (.exc C fs)) ∧ fs.lookup x = some y ∧ isHanded y = true ∧ (∀ P, attrOk (kFrag P) C x = true) ∧ R y H1) X)
  (hb : ∀ env whole, attributeBase o x env whole = whole := by intros; rfl) : EvE c n (.Attribute o x p) ρ H R X := by
 intro A env fr μ s S Q E hQ hE
 show wpAny _ _ (do
  let o' ← attributeBase o x env (eval o env)
  standAt p.atName
  let r ← holding [o'] (getAttr o' x true)
  letTemporaryGo o o' r
  pure r) _ _ _
 rw [hb]
 refine wpAny_bind (h A env fr μ s S _ E (fun v H1 μ1 va s1 h1 x1 S1 r1 => ?_) hE)
 walk_at "z"
 obtain ⟨i, C, fs, y, eN7, hH, hf, hy, hk, hR⟩ := h1
 walk_at "y"
 subst eN7
 refine wpAny_bind (wpAny_standAt (wpAny_bind (wpAny_holding (get_inst (R := R) S1 r1 hH hf hy hk hR fun y' H2 μ2 v2 s2 h2 x2 S2 r2 => ?_))))
 exact wpAny_bind (wpAny_letTemporaryGo (wpAny_pure (hQ _ _ _ _ _ h2 (x1.comp S1 x2) S2 r2)))
theorem set_inst {Q : Unit → Shared → Prop} {fs : List (Str × V)} {y : V} {vy : Value} {e : AO} (S : St c.base fr μ H s.heap) (r : Rep s.heap μ (.obj i) v) (ry : Rep s.heap μ y vy)
  (hH : (H[i]? = some (.inst C fs) ∧ e = .inst C (fput fs x y)) ∨ (H[i]? = some (.exc C fs) ∧ e = .exc C (fput fs x y)) ∨ (H[i]? = some (.new C fs) ∧ e = .new C (fput fs x y))) (hz : fs.length < 100) (hk : ∀ P, setOk (kFrag P) C x = true)
  (hQ : ∀ s', Ext fr O μ μ s s' → St c.base fr μ (H.set i e) s'.heap → Q () s') : wpAny c.M A (setAttr v x vy) Q E s := by
 walk_at "z"
 obtain ⟨a, ha, eN8⟩ := r
 walk_at "y"
 subst eN8
 have hk := hk c.w.params
 unfold setOk at hk
 obtain ⟨h123, h4⟩ := Bool.and_eq_true_iff.mp hk
 obtain ⟨h12, h3⟩ := Bool.and_eq_true_iff.mp h123
 obtain ⟨h1, h2⟩ := Bool.and_eq_true_iff.mp h12
 have XX := c.X.keeps S.stays
 have fin : ∀ {o : Obj} {es : List DictEntry} {m : Nat}, InstAt s.heap a.1 o C (some (dictOf es m)) → o.dict = some a.2 → FRel s.heap μ fs es → s.heap.get? a.2 = some (dictOf es m) → (∀ h', (∀ b, b ≠ a.2 → h'.get? b = s.heap.get? b) → ∀ es' m', h'.get? a.2 = some (dictOf es' m') → FRel h' μ (fput fs x y) es' → AORel h' μ e a) →
   wpAny c.M A (setAttr (.ref a.1) x vy) Q E s := fun {o es m} I hd g D k => by
  refine set_plain XX I (beq_iff_eq.mp h1) ?_
  refine osa_openX (s := { s with toks := s.toks + 1 }) XX I h2 (beq_iff_eq.mp h3) fun b => ?_
  walk_at "z"
  obtain ⟨cd, hc, hd'⟩ := any_some h4
  walk_at "y"
  walk_at "z"
  obtain ⟨hx, hcl, hn, -⟩ := I
  walk_at "y"
  walk_at "z"
  obtain ⟨oc, odi, oda, osl⟩ := o
  walk_at "y"
  dsimp only at hcl hd
  subst hcl hd
  refine wpAny_bind (wpAny_pure (wpAny_bind (wpAny_bind (wpAny_loadPart hx (wpAny_bind (looks_clsIn XX hc _ _ _ _ (fun _ _ e => e) ?_))))))
  rw [hd']
  refine wpAny_pure (a := some a.2) (wpAny_bind (wpAny_pure (wpAny_bind ?_)))
  unfold nsSet
  refine wpAny_bind (wpAny_bind (wpAny_askSetting (wpAny_pure (wpAny_bind (wpAny_mkText (wpAny_bind (wpAny_loadPart D ?_)))))))
  have cc : (!es.toArray.any (·.key.isStr x) && es.toArray.any (·.refKey)) = false := by
   rw [← Array.any_toList, ← Array.any_toList]
   show (_ && es.any (·.refKey)) = false
   rw [g.noRef, Bool.and_false]
  dsimp only
  rw [aRefKeyMayBeTheName_at, cc]
  refine wpAny_updatePart D ?_
  have ge : ∀ tk, (Obj.putName x (PyData.keyHash c.w.params x) (.str x tk) vy (dictOf es m)) = dictOf (putL x (PyData.keyHash c.w.params x) (.str x tk) vy es) (putN x es m) := fun tk => putName_dict _ _ _ _ _ _
  have glen : ∀ tk, (putL x (PyData.keyHash c.w.params x) (.str x tk) vy es).length ≤ 1000 := fun tk => by
   have r0 := (FRel.put (x := x) (hsh := PyData.keyHash c.w.params x) (tk := tk) ry g).len
   rw [r0]
   have : (fput fs x y).length ≤ fs.length + 1 := by
    clear r0 k hz g hH
    induction fs with
    | nil => simp [fput]
    | cons e r ih => obtain ⟨z, u⟩ := e; unfold fput; split <;> simp; exact ih
   omega
  have hU := Heap.get?_update_self (f := Obj.putName x (PyData.keyHash c.w.params x) (.str x (s.toks + 1)) vy) D (by rw [ge]; rfl)
  rw [ge] at hU
  have hs : ∀ b, b ≠ a.2 → (s.heap.update a.2 (Obj.putName x (PyData.keyHash c.w.params x) (.str x (s.toks + 1)) vy)).get? b = s.heap.get? b := fun b hne => gUo s.heap _ (Ne.symm hne)
  refine wpAny_bind (wpAny_lookBehind hU (pastItsLine_dict (by have := glen (s.toks + 1); rw [List.size_toArray, sizeLine_eq]; omega)) ?_)
  refine wpAny_pure ?_
  show Q () _
  refine hQ _ (Ext.put (tk := _) ha fun b h1 h2 => hs b h2) (S.put ha (fun b h1 h2 => hs b h2) (k _ hs _ _ hU ?_))
  have r0 := FRel.put (x := x) (hsh := PyData.keyHash c.w.params x) (tk := s.toks + 1) ry g
  exact r0.of_put S ha fun b h1 h2 => hs b h2
 rcases hH with ⟨hH, rfl⟩ | ⟨hH, rfl⟩ | ⟨hH, rfl⟩
 ·walk_at "z"
  obtain ⟨es, m, g1, g2, g3⟩ := S.rel i _ a hH ha
  walk_at "y"
  refine fin ⟨g1, rfl, rfl, g2⟩ rfl g3 g2 fun h' hs es' m' D' g' => ⟨es', m', ?_, D', g'⟩
  rw [hs _ fun q => by rw [q, g2] at g1; cases g1]; exact g1
 ·walk_at "z"
  obtain ⟨vs, es, m, hv, g1, g2, g3⟩ := S.rel i _ a hH ha
  walk_at "y"
  refine fin ⟨g1, rfl, rfl, g2⟩ rfl g3 g2 fun h' hs es' m' D' g' => ⟨vs, es', m', hv, ?_, D', g'⟩
  rw [hs _ fun q => by rw [q, g2] at g1; cases g1]; exact g1
 ·walk_at "z"
  obtain ⟨vs, es, m, hv, hv1, g1, g2, g3⟩ := S.rel i _ a hH ha
  walk_at "y"
  refine fin ⟨g1, rfl, rfl, g2⟩ rfl g3 g2 fun h' hs es' m' D' g' => ⟨vs, es', m', hv, hv1, ?_, D', g'⟩
  rw [hs _ fun q => by rw [q, g2] at g1; cases g1]; exact g1
end
noncomputable def methOk (K : Frag) (C : Addr) (x : Str) (f : Addr) : Bool := plainGet K C x && (findIn K (.ref C) x == some (some (.ref f))) && isFn K (.ref f) && keepIn K (.ref f)
section
variable {c : Cx} {n : Nat} {ρ : Loc} {H : List AO} {P : Fl → List AO → Prop} {R : V → List AO → Prop} {X : Nat → List AO → Prop}
theorem args_call {first : List Value} {fv : List V} (hs : as.all notStar = true) (hg : KeepG g) (S : Sit c n A env fr μ H ρ s) (rf : RepL s.heap μ fv first)
  (h : EvL c n p as ρ H (fun xs H1 => CallJ c n g (fv ++ xs) H1 R X) X) (hQ : Cont N c fr μ s R Q) (hE : ContX N c fr μ s X E) : wpAny c.M A (callWith p g first (backTo p (starEach as env)) []) Q E s := by
 have fin : ∀ {P : Heap → Prop}, (∀ h, c.base.StaysIn h → P h) → wpAny c.M A (evalArgs g true (backTo p (starEach as env)) []) (fun a s₁ => P s₁.heap ∧ wpAny c.M A (call g (first ++ a.pos) a.kw) Q E s₁) E s := fun hP => by
  refine evalArgs_ok hs (h A env fr μ s S _ E (fun xs H2 μ2 vs s2 h2 x2 S2 r2 => ?_) hE)
  exact ⟨hP _ S2.stays, h2 A fr μ2 s2 (first ++ vs) S.room S.stack S2 ((x2.repL S.st rf).app r2) Q E (hQ.next x2 S2) (hE.next x2 S2)⟩
 cases g with
 | builtin id => exact Calls.callWith_builtin (backTo_plain _ _ _ hs) (wpAny_mono (fin (P := fun _ => True) fun _ _ => trivial) (fun _ _ z => z.2) fun _ _ z => z)
 | ref a => exact callWith_of (P := (kFrag c.w.params).In) (by rw [backTo_plain _ _ _ hs]; rfl) (keeps_K (hg _)) (fin fun _ k => c.X.keeps k)
 | type T => exact PySem.callWith_type (backTo_plain _ _ _ hs) (wpAny_mono (fin (P := fun _ => True) fun _ _ => trivial) (fun _ _ z => z.2) fun _ _ z => z)
 | _ => exact hg.elim
noncomputable def fewOk (as : List Expr) : Bool := as.all notStar && decide (as.length < 30)
theorem form_ok (h : fewOk as = true) (p : Pos) (env : Env) : methodCallForm (as.length + ([] : List Keyword).length) (backTo p (starEach as env)) (backToKw p (keywordEach [] env)) = true := by
 obtain ⟨h1, h2⟩ := Bool.and_eq_true_iff.mp h
 have q := backTo_plain p env as h1
 unfold methodCallForm
 have e1 : (backTo p (starEach as env)).all (fun x => !x.1) = true := by
  rw [List.any_eq_false] at q
  rw [List.all_eq_true]
  intro x hx
  have := q x hx
  simpa using this
 have e2 : (backToKw p (keywordEach [] env)) = [] := rfl
 rw [e1, e2]
 have : as.length < 30 := of_decide_eq_true h2
 simp; omega
theorem EvE.meth (h : EvE c n o ρ H (fun v H1 => ∃ i C fs f, v = .obj i ∧ H1[i]? = Option.some (.inst C fs) ∧ fs.lookup x = Option.none ∧ (∀ P, methOk (kFrag P) C x f = true) ∧ EvL c n p as ρ H1 (fun xs H2 => CallJ c n (.ref f) (.obj i :: xs) H2 R X) X) X)
  (hb : ∀ env whole, attributeBase o x env whole = whole := by intros; rfl) (hf : fewOk as = true := by rfl) (hl : (ap.endLine == p.line) = true := by rfl) : EvE c n (.Call (.Attribute o x ap) as [] p) ρ H R X := by
 intro A env fr μ s S Q E hQ hE
 rw [arm_eval_Call, hb]
 refine wpAny_bind (h A env fr μ s S _ E (fun v H1 μ1 va s1 h1 x1 S1 r1 => ?_) hE)
 walk_at "z"
 obtain ⟨i, C, fs, f, eN1, hH, hfs, hm, h2⟩ := h1
 walk_at "y"
 subst eN1
 have r1' := r1
 walk_at "z"
 obtain ⟨a, ha, eN2⟩ := r1'
 walk_at "y"
 subst eN2
 walk_at "z"
 obtain ⟨es, m, g1, g2, g3⟩ := S1.rel i _ a hH ha
 walk_at "y"
 have hm' := hm c.w.params
 unfold methOk at hm'
 obtain ⟨hm123, hm4⟩ := Bool.and_eq_true_iff.mp hm'
 obtain ⟨hm12, hm3⟩ := Bool.and_eq_true_iff.mp hm123
 obtain ⟨hm1, hm2⟩ := Bool.and_eq_true_iff.mp hm12
 have hs : as.all notStar = true := (Bool.and_eq_true_iff.mp hf).1
 refine wpAny_bind (wpAny_standAt ?_)
 unfold methodCall
 rw [form_ok hf]
 refine wpAny_bind (wpAny_holding (method_fn (ox := instObj C a.2) (od := some (dictOf es m)) (c.X.keeps S1.stays) ⟨g1, rfl, rfl, g2⟩ (plainGet_of hm1).1 (plainGet_of hm1).2 (beq_iff_eq.mp hm2) (beq_iff_eq.mp hm3) (by show (lookIn x (dictOf es m)).map _ = _; rw [lookIn_dict, g3.no hfs]; exact rfl) ?_))
 have hp : methodCallPos true o env ap p = pure p := by unfold methodCallPos; simp [hl]
 rw [hp]
 refine wpAny_bind (wpAny_pure ?_)
 exact args_call (fv := [.obj i]) hs (fun P => (Bool.and_eq_true_iff.mp (hm P)).2) (S.next x1 S1) (RepL.one r1) h2 (hQ.next x1 S1) (hE.next x1 S1)
theorem EvE.methB {T id : String} (pa : PlainAttrs T) (sl : Slot T x id) (ty : typeOf (.builtin id) = pure (.type "method_descriptor"))
  (h : EvE c n o ρ H (fun v H1 => ((∃ y, v = .str y) ∧ T = "str" ∨ (∃ i l, v = .obj i ∧ H1[i]? = Option.some (.list l)) ∧ T = "list") ∧ EvL c n p as ρ H1 (fun xs H2 => CallJ c n (.builtin id) (v :: xs) H2 R X) X) X)
  (hb : ∀ env whole, attributeBase o x env whole = whole := by intros; rfl) (hf : fewOk as = true := by rfl) (hl : (ap.endLine == p.line) = true := by rfl) : EvE c n (.Call (.Attribute o x ap) as [] p) ρ H R X := by
 intro A env fr μ s S Q E hQ hE
 rw [arm_eval_Call, hb]
 refine wpAny_bind (h A env fr μ s S _ E (fun v H1 μ1 va s1 h1 x1 S1 r1 => ?_) hE)
 obtain ⟨hT, h2⟩ := h1
 have hs : as.all notStar = true := (Bool.and_eq_true_iff.mp hf).1
 refine wpAny_bind (wpAny_standAt ?_)
 unfold methodCall
 rw [form_ok hf]
 have hp : methodCallPos true o env ap p = pure p := by unfold methodCallPos; simp [hl]
 have fin : wpAny c.M A (callWith p (.builtin id) [va] (backTo p (starEach as env)) []) Q E s1 := args_call (fv := [v]) hs (g := .builtin id) trivial (S.next x1 S1) (RepL.one r1) h2 (hQ.next x1 S1) (hE.next x1 S1)
 have go : s1.TypeIs va T ∧ ∀ a, va = .ref a → ∃ o, s1.heap.get? a = Option.some o ∧ o.dict = Option.none := by
  rcases hT with ⟨⟨y, rfl⟩, rfl⟩ | ⟨⟨i, l, rfl, hH⟩, rfl⟩
  ·obtain ⟨t, rfl⟩ := r1
   exact ⟨typeIs_str _ _ _, fun _ e => nomatch e⟩
  ·walk_at "z"
   obtain ⟨a, ha, eN3⟩ := r1
   walk_at "y"
   subst eN3
   walk_at "z"
   obtain ⟨vs, m, g, _⟩ := S1.list hH ha
   walk_at "y"
   exact ⟨(show s1.heap.IsList a.1 vs.toArray from ⟨_, g, rfl, m, rfl⟩).typeIs, fun _ e => by cases e; exact ⟨_, g, rfl⟩⟩
 refine wpAny_bind (wpAny_holding (getMethod_builtin go.1 pa sl ty go.2 ?_))
 rw [hp]
 exact wpAny_bind (wpAny_pure fin)
theorem ExS.setAttr {q : Pos} (h : EvE c n e ρ H (fun y H1 => EvE c n o ρ H1 (fun v H2 => ∃ i C fs, v = .obj i ∧ fs.length < 100 ∧ (∀ P, setOk (kFrag P) C x = true) ∧ ((H2[i]? = some (.inst C fs) ∧ ExS c n r ρ (H2.set i (.inst C (fput fs x y))) P X) ∨ (H2[i]? = some (.exc C fs) ∧ ExS c n r ρ (H2.set i (.exc C (fput fs x y))) P X) ∨ (H2[i]? = some (.new C fs) ∧ ExS c n r ρ (H2.set i (.new C (fput fs x y))) P X))) X) X)
  (hc : notComp e = true := by rfl) : ExS c n (.Assign [.Attribute o x q] e p :: r) ρ H P X := by
 refine ExS.cons (P' := fun fl H1 => fl = .next ρ ∧ ExS c n r ρ H1 P X) (fun A env fr μ s S ow Q E hQ hE => ?_) fun fl H1 h1 => by obtain ⟨rfl, h⟩ := h1; exact h
 refine plainObj_wpAny_Assign_Attribute (h A env fr μ s S _ E (fun y H1 μ1 vy s1 h1 x1 S1 r1 => ?_) hE.own) (swaps_no hc _ _ _)
 refine h1 A env fr μ1 s1 (S.next x1 S1) _ E (fun v H2 μ2 va s2 h2 x2 S2 r2 => ?_) (hE.own.next x1 S1)
 walk_at "z"
 obtain ⟨i, C, fs, eN4, hz, hk, h3⟩ := h2
 walk_at "y"
 subst eN4
 have x12 := x1.comp S1 x2
 have S12 := (S.next x1 S1).next x2 S2
 have go : ∀ {e' : AO}, ExS c n r ρ (H2.set i e') P X → ∀ s', Ext fr N μ2 μ2 s2 s' → St c.base fr μ2 (H2.set i e') s'.heap → Q .next s' := fun {e'} hx s' x3 S3 => hQ (.next ρ) _ _ _ _ ⟨rfl, hx⟩ ((x12.comp S2 x3).weaken fun _ z => z.elim) S3 ⟨rfl, (S12.next x3 S3).rho⟩
 rcases h3 with ⟨hH, hx⟩ | ⟨hH, hx⟩ | ⟨hH, hx⟩
 ·exact set_inst (O := N) S2 r2 (x2.rep S1 r1) (.inl ⟨hH, rfl⟩) hz hk (go hx)
 ·exact set_inst (O := N) S2 r2 (x2.rep S1 r1) (.inr (.inl ⟨hH, rfl⟩)) hz hk (go hx)
 ·exact set_inst (O := N) S2 r2 (x2.rep S1 r1) (.inr (.inr ⟨hH, rfl⟩)) hz hk (go hx)
theorem ExS.exprAny (h : EvE c n e ρ H (fun _ H1 => ExS c n r ρ H1 P X) X) (hc : notComp e = true := by rfl) : ExS c n (.Expr e p :: r) ρ H P X := by
 refine ExS.cons (P' := fun fl H1 => fl = .next ρ ∧ ExS c n r ρ H1 P X) (fun A env fr μ s S ow Q E hQ hE => ?_) fun fl H1 h1 => by obtain ⟨rfl, h⟩ := h1; exact h
 exact wpAny_Expr_any (h A env fr μ s S _ E (fun v H1 μ1 va s1 h1 x1 S1 r1 => hQ (.next ρ) H1 μ1 _ s1 ⟨rfl, h1⟩ (x1.weaken fun _ h => h.elim) S1 ⟨rfl, (S.next x1 S1).rho⟩) hE.own) (interactive_no S.eok.kind) (swaps_no hc _ _ _)
end
theorem Room.in1 (r : Room A (n + 1)) : Room A.in1 n := ⟨rd0 r.d, ru1 r.u, .inr (r.hd.resolve_left (Nat.succ_ne_zero _))⟩
theorem Room.made {kw : List (Str × Value)} (r : Room A (n + 1)) : Room (A.under (.builtin "type.__call__" ⟨.ref C :: vs, kw⟩)) n := ⟨rd1 r.d, ru1 r.u, .inr (r.hd.resolve_left (Nat.succ_ne_zero _))⟩
theorem CallJ.make {fI : Addr} (hm : ∀ P, makesIn (kFrag P) C = true) (hi : ∀ P, findIn (kFrag P) (.ref C) "__init__" = some (some (.ref fI))) (hf : ∀ P, typeIn (kFrag P) (.ref fI) = some (.type "function"))
  (h : CodeJ c n (.ref fI) (.obj H.length :: xs) (H ++ [.inst C []]) (fun v H' => v = .none ∧ R (.obj H.length) H') X) : CallJ c (n + 1) (.ref C) xs H R X := by
 intro A fr μ s vs room hA S rv Q E hQ hE
 have XX := c.X.keeps S.stays
 obtain ⟨hh, g, d, t, os⟩ := s
 refine wpAny_call (make_core (fun self => bind_fn XX self (hf _)) (Y := makes_of XX (hm _)) (hi := looks_findIn XX (hi _)) (hne := .inl rfl) (hq := ?_))
 have k : ∀ b o, hh.get? b = some o → ((hh.push emptyDict).push (instObj C hh.objs.size)).get? b = some o := fun b o e => gPs _ (gPs _ e)
 have n2 : hh.get? hh.objs.size = none := none_at_size hh
 have n1 : hh.get? (hh.objs.size + 1) = none := by
  cases q : hh.get? (hh.objs.size + 1) with
  | none => rfl
  | some o => exact absurd (Heap.lt_size q) (Nat.not_lt.mpr (Nat.le_succ _))
 have g1 : ((hh.push emptyDict).push (instObj C hh.objs.size)).get? (hh.objs.size + 1) = some (instObj C hh.objs.size) := by heap_get
 have g2 : ((hh.push emptyDict).push (instObj C hh.objs.size)).get? hh.objs.size = some emptyDict := by heap_get
 have S' := S.alloc (o := .inst C []) (a := (hh.objs.size + 1, hh.objs.size)) k n1 n2 ⟨[], 0, g1, g2, rfl⟩
 have X' : Ext fr N μ (μ ++ [(hh.objs.size + 1, hh.objs.size)]) ⟨hh, g, d, t, os⟩ ⟨(hh.push emptyDict).push (instObj C hh.objs.size), g, d, t, os⟩ := Ext.alloc (s := ⟨hh, g, d, t, os⟩) k n1 n2
 have ro : (μ ++ [(hh.objs.size + 1, hh.objs.size)])[H.length]? = some (hh.objs.size + 1, hh.objs.size) := by
  rw [← S.len, gAr (Nat.le_refl _), Nat.sub_self]; rfl
 refine h _ fr _ _ (.ref (hh.objs.size + 1) :: vs) room.made hA S' ⟨_, _, rfl, ⟨_, ro, rfl⟩, X'.repL S rv⟩ _ (fun v H' μ' w s' hR x' S'' r' => ?_) fun i H' μ' v s' hX x' S'' hr => ?_
 ·obtain ⟨rfl, hR⟩ := hR
  refine ⟨r', hQ _ _ μ' _ s' hR (X'.comp S' x') S'' ⟨(hh.objs.size + 1, hh.objs.size), ?_, rfl⟩⟩
  obtain ⟨t', q⟩ := x'.pre
  rw [← q, gAl (gsi.mp ro).1, ro]
 ·exact hE i H' μ' v s' hX (X'.comp S' x') S'' (hr.back X' S')
section
variable {c : Cx} {n : Nat} {H : List AO} {R : V → List AO → Prop}
theorem BinA.intAdd {i j : Int}  (h : R (.int (i + j)) H) : BinA c n (binaryOp .Add) (.int i) (.int j) H R := by
 intro A fr μ s va vb _ S ra rb Q E hQ
 obtain ⟨t, rfl⟩ := ra; obtain ⟨u, rfl⟩ := rb
 exact P.add_int (hQ.same S h ⟨_, rfl⟩)
theorem BinA.intSub {i j : Int}  (h : R (.int (i - j)) H) : BinA c n (binaryOp .Sub) (.int i) (.int j) H R := by
 intro A fr μ s va vb _ S ra rb Q E hQ
 obtain ⟨t, rfl⟩ := ra; obtain ⟨u, rfl⟩ := rb
 exact P.sub_int (hQ.same S h ⟨_, rfl⟩)
theorem BinA.intMult {i j : Int} (hm : IntMulOk i j) (h : R (.int (i * j)) H) : BinA c n (binaryOp .Mult) (.int i) (.int j) H R := by
 intro A fr μ s va vb _ S ra rb Q E hQ
 obtain ⟨t, rfl⟩ := ra; obtain ⟨u, rfl⟩ := rb
 exact P.mul_int (hQ.same S h ⟨_, rfl⟩) hm
theorem BinA.intMod {i j : Int} (hj : j ≠ 0) (h : R (.int (i.fmod j)) H) : BinA c n (binaryOp .Mod) (.int i) (.int j) H R := by
 intro A fr μ s va vb _ S ra rb Q E hQ
 obtain ⟨t, rfl⟩ := ra; obtain ⟨u, rfl⟩ := rb
 exact mod_int' hj (hQ.same S h ⟨_, rfl⟩)
theorem BinA.intDiv {i j : Int} (hj : j ≠ 0) (hf : Builtin.divisionGoesByPylong i j = false) (h : R (.int (i.fdiv j)) H) : BinA c n (binaryOp .FloorDiv) (.int i) (.int j) H R := by
 intro A fr μ s va vb _ S ra rb Q E hQ
 obtain ⟨t, rfl⟩ := ra; obtain ⟨u, rfl⟩ := rb
 exact floordiv_int hj (hQ.same S h ⟨_, rfl⟩) (.inl hf)
theorem BinA.intPow {i j : Int} (hj : 0 ≤ j) (hf : (Builtin.Int.intBits i : Int) * j ≤ 2 ^ 27) (h : R (.int (i ^ j.toNat)) H) : BinA c n (binaryOp .Pow) (.int i) (.int j) H R := by
 intro A fr μ s va vb _ S ra rb Q E hQ
 obtain ⟨t, rfl⟩ := ra; obtain ⟨u, rfl⟩ := rb
 exact pow_int hj hf (hQ.same S h ⟨_, rfl⟩)
theorem BinA.strAdd (hf : x.length + y.length ≤ sizeLine) (h : R (.str (x ++ y)) H) : BinA c n (binaryOp .Add) (.str x) (.str y) H R := by
 intro A fr μ s va vb _ S ra rb Q E hQ
 obtain ⟨t, rfl⟩ := ra; obtain ⟨u, rfl⟩ := rb
 exact add_str (fun t' tk => hQ.same S h ⟨_, rfl⟩) hf
theorem BinA.intEq {i j : Int} (h : R (.bool (i == j)) H) : BinA c n (compareOp .Eq) (.int i) (.int j) H R := by
 intro A fr μ s va vb _ S ra rb Q E hQ
 obtain ⟨t, rfl⟩ := ra; obtain ⟨u, rfl⟩ := rb
 exact P.eq_int (hQ.now S h rfl)
theorem BinA.intNotEq {i j : Int} (h : R (.bool (i != j)) H) : BinA c n (compareOp .NotEq) (.int i) (.int j) H R := by
 intro A fr μ s va vb _ S ra rb Q E hQ
 obtain ⟨t, rfl⟩ := ra; obtain ⟨u, rfl⟩ := rb
 exact P.ne_int (hQ.now S h rfl)
theorem BinA.intLt {i j : Int} (h : R (.bool (decide (i < j))) H) : BinA c n (compareOp .Lt) (.int i) (.int j) H R := by
 intro A fr μ s va vb _ S ra rb Q E hQ
 obtain ⟨t, rfl⟩ := ra; obtain ⟨u, rfl⟩ := rb
 exact P.lt_int (hQ.now S h rfl)
theorem BinA.intLtE {i j : Int} (h : R (.bool (decide (i ≤ j))) H) : BinA c n (compareOp .LtE) (.int i) (.int j) H R := by
 intro A fr μ s va vb _ S ra rb Q E hQ
 obtain ⟨t, rfl⟩ := ra; obtain ⟨u, rfl⟩ := rb
 exact P.le_int (hQ.now S h rfl)
theorem BinA.intGt {i j : Int} (h : R (.bool (decide (i > j))) H) : BinA c n (compareOp .Gt) (.int i) (.int j) H R := by
 intro A fr μ s va vb _ S ra rb Q E hQ
 obtain ⟨t, rfl⟩ := ra; obtain ⟨u, rfl⟩ := rb
 exact P.gt_int (hQ.now S h rfl)
theorem BinA.intGtE {i j : Int} (h : R (.bool (decide (i ≥ j))) H) : BinA c n (compareOp .GtE) (.int i) (.int j) H R := by
 intro A fr μ s va vb _ S ra rb Q E hQ
 obtain ⟨t, rfl⟩ := ra; obtain ⟨u, rfl⟩ := rb
 exact P.ge_int (hQ.now S h rfl)
theorem BinA.strEq (h : R (.bool (x == y)) H) : BinA c n (compareOp .Eq) (.str x) (.str y) H R := by
 intro A fr μ s va vb _ S ra rb Q E hQ
 obtain ⟨t, rfl⟩ := ra; obtain ⟨u, rfl⟩ := rb
 exact PyProof.Rows.eq_str (hQ.now S h rfl)
theorem BinA.strNotEq (h : R (.bool (x != y)) H) : BinA c n (compareOp .NotEq) (.str x) (.str y) H R := by
 intro A fr μ s va vb _ S ra rb Q E hQ
 obtain ⟨t, rfl⟩ := ra; obtain ⟨u, rfl⟩ := rb
 exact PyProof.Rows.ne_str (hQ.now S h rfl)
theorem BinA.strLtE (h : R (.bool (!(decide (y.cps.toList < x.cps.toList)))) H) : BinA c n (compareOp .LtE) (.str x) (.str y) H R := by
 intro A fr μ s va vb _ S ra rb Q E hQ
 obtain ⟨t, rfl⟩ := ra; obtain ⟨u, rfl⟩ := rb
 exact P.le_str (hQ.now S h rfl)
theorem BinA.strIn (h : R (.bool (!(Builtin.Str.occurrences y x 0 y.length 1).isEmpty)) H) : BinA c n (compareOp .In) (.str x) (.str y) H R := by
 intro A fr μ s va vb _ S ra rb Q E hQ
 obtain ⟨t, rfl⟩ := ra; obtain ⟨u, rfl⟩ := rb
 exact PyProof.Rows.in_str (hQ.now S h rfl)
theorem BinA.strNotIn (h : R (.bool (!(!(Builtin.Str.occurrences y x 0 y.length 1).isEmpty))) H) : BinA c n (compareOp .NotIn) (.str x) (.str y) H R := by
 intro A fr μ s va vb _ S ra rb Q E hQ
 obtain ⟨t, rfl⟩ := ra; obtain ⟨u, rfl⟩ := rb
 exact PyProof.Rows.notIn_str (hQ.now S h rfl)
noncomputable def notAny : V → Bool
 | .any | .val _ => false
 | _ => true
noncomputable def isNoneV : V → Bool
 | .none => true
 | _ => false
theorem isNone_rep {x : V} (r : Rep h μ x v) (hn : notAny x = true) : (v == Value.none) = isNoneV x := by
 cases x
 case none => rw [show v = _ from r]; rfl
 case bool => rw [show v = _ from r]; rfl
 case int => obtain ⟨t, rfl⟩ := r; rfl
 case str => obtain ⟨t, rfl⟩ := r; rfl
 case bytes => obtain ⟨t, rfl⟩ := r; rfl
 case tup => obtain ⟨a, vs, n, rfl, _⟩ := r; rfl
 case obj => obtain ⟨a, _, rfl⟩ := r; rfl
 all_goals cases hn
theorem BinA.isNone {x : V} (hx : notAny x = true) (h : R (.bool (isNoneV x)) H) : BinA c n (compareOp .Is) x .none H R := by
 intro A fr μ s va vb _ S ra rb Q E hQ
 rw [show vb = _ from rb]
 exact is_none (hQ.now S h (isNone_rep ra hx ▸ rfl))
theorem BinA.isNotNone {x : V} (hx : notAny x = true) (h : R (.bool (!isNoneV x)) H) : BinA c n (compareOp .IsNot) x .none H R := by
 intro A fr μ s va vb _ S ra rb Q E hQ
 rw [show vb = _ from rb]
 exact isNot_none (hQ.now S h (isNone_rep ra hx ▸ rfl))
end
theorem owner_bytes : Manifest.owners.lookup (String.ofList ['s', 'e', 't', 'y', 'b'].reverse) = some Manifest.sig_bytes := by kernel_rfl
theorem slot_bytes_eq : Slot "bytes" (cmpInfo .Eq).2.1 "bytes.__eq__" :=
 .of (owner := "bytes") (n := "__eq__") (by rw [typeLookup_type, builtinLookup_eq_fast]; kernel_rfl) (by decide +kernel) (by decide +kernel) (by decide +kernel)
  (by first | exact .inl (by decide +kernel) | exact .inr (by decide +kernel)) (by rw [isSubtype_type]; kernel_rfl)
theorem entry_bytes_eq : entryFor table "bytes.__eq__" = some Builtin.«bytes.__eq__» := entryFor_of_tree (by kernel_rfl)
theorem args_bytes_eq_2 (a b : Value) : argsOk "bytes.__eq__" ⟨[a, b], []⟩ := by
 unfold argsOk; rw [signature?_of (id := "bytes.__eq__") (n := ['_', '_', 'q', 'e', '_', '_']) (o := ['s', 'e', 't', 'y', 'b']) (by kernel_rfl) owner_bytes]; kernel_rfl
theorem order_refl : ∀ l : List UInt8, Builtin.Bytes.order l l = .eq
 | [] => rfl
 | x :: l => by
  unfold Builtin.Bytes.order
  have h : ¬ x < x := fun h => absurd h (by simp)
  rw [if_neg h, if_neg h]; exact order_refl l
theorem gives_bytes_eq (x : Array UInt8) (t u : Tok) : Gives (Builtin.«bytes.__eq__» ⟨[.bytes x t, .bytes x u], []⟩) (.val (.bool true)) := by
 have h : (Builtin.Bytes.holds "__eq__" (Builtin.Bytes.order x.toList x.toList)) = true := by rw [order_refl]; rfl
 have e : Gives (Builtin.«bytes.__eq__» ⟨[.bytes x t, .bytes x u], []⟩) (.val (.bool (Builtin.Bytes.holds "__eq__" (Builtin.Bytes.order x.toList x.toList)))) := .of_eq rfl
 rw [h] at e; exact e
theorem eqAt_bytes (x : Array UInt8) (t u : Tok) : EqAt A s (.bytes x t) (.bytes x u) true := by
 intro prog w E Q hq
 unfold eqBool
 show wpAny _ _ (if (Value.bytes x t == Value.bytes x u) = true then _ else _) Q E s
 by_cases hab : (Value.bytes x t == Value.bytes x u) = true
 ·rw [if_pos hab]
  exact wpAny_bind (wpAny_rule (wpAny_pure hq))
 ·rw [if_neg hab]
  exact wpAny_bind (richCompare_gives (op := .Eq) (T := "bytes") rfl rfl slot_bytes_eq entry_bytes_eq (args_bytes_eq_2 _ _) (gives_bytes_eq x t u) (fun x => nomatch x) (wpAny_truthy_bool hq))
mutual
noncomputable def dep : V → Option Nat
 | .none => some 0
 | .bool _ => some 0
 | .int _ => some 0
 | .str _ => some 0
 | .bytes _ => some 0
 | .tup l => (depL l).map (· + 1)
 | _ => none
noncomputable def depL : List V → Option Nat
 | [] => some 0
 | x :: l => match dep x, depL l with
  | some a, some b => some (max a b)
  | _, _ => none
end
theorem range_all_true (n : Nat) : (List.range n).all (fun _ => true) = true := by rw [List.all_eq_true]; intros; rfl
mutual
theorem eqSame {h : Heap} {μ : Mp} : ∀ (x : V) {v v' : Value} {A : Around} {s : Shared} {d : Nat}, s.heap = h → dep x = some d → A.units + d < cLine → Rep h μ x v → Rep h μ x v' → EqAt A s v v' true
 | .none, v, v', A, s, d, _, _, _, r, r' => by rw [show v = _ from r, show v' = _ from r']; exact EqAt.same _
 | .bool b, v, v', A, s, d, _, _, _, r, r' => by rw [show v = _ from r, show v' = _ from r']; exact EqAt.same _
 | .int i, v, v', A, s, d, _, _, _, r, r' => by
  obtain ⟨t, rfl⟩ := r; obtain ⟨u, rfl⟩ := r'
  have := (MeetsSeq.EqGives.int i i t u).at A s
  simpa using this
 | .str i, v, v', A, s, d, _, _, _, r, r' => by
  obtain ⟨t, rfl⟩ := r; obtain ⟨u, rfl⟩ := r'
  have := (eqGives_str i i t u).at A s
  simpa using this
 | .bytes i, v, v', A, s, d, _, _, _, r, r' => by
  obtain ⟨t, rfl⟩ := r; obtain ⟨u, rfl⟩ := r'
  exact eqAt_bytes i t u
 | .tup l, v, v', A, s, d, hs, hd, hu, r, r' => by
  obtain ⟨a, vs, n, rfl, g, rl⟩ := r
  obtain ⟨a', vs', n', rfl, g', rl'⟩ := r'
  obtain ⟨d', hd', rfl⟩ := Option.map_eq_some_iff.mp (show (depL l).map (· + 1) = some d from hd)
  subst hs
  by_cases e : a = a'
  ·subst e; exact EqAt.same _
  ·have q := RcAt.tuples (A := A) (s := s) (l := a) (b := a') (items := vs.toArray) (items2 := vs'.toArray) (e := fun _ => true) ⟨_, g, rfl, n, rfl⟩ ⟨_, g', rfl, n', rfl⟩ (Nat.lt_of_le_of_lt (Nat.le_add_right _ _) hu) fun j h1 h2 => by
    have := eqSameL l (A := A.in1) (s := s) rfl hd' (uq1 hu) rl rl' j h1 h2
    exact this
   rw [range_all_true] at q
   have e2 : (vs.toArray.size == vs'.toArray.size) = true := by rw [List.size_toArray, List.size_toArray, rl.length, rl'.length]; exact beq_self_eq_true _
   rw [e2] at q
   exact EqAt.of_refs e q
 | .obj _, _, _, _, _, _, _, hd, _, _, _ => by cases hd
 | .val _, _, _, _, _, _, _, hd, _, _, _ => by cases hd
 | .any, _, _, _, _, _, _, hd, _, _, _ => by cases hd
theorem eqSameL {h : Heap} {μ : Mp} : ∀ (l : List V) {vs vs' : List Value} {A : Around} {s : Shared} {d : Nat}, s.heap = h → depL l = some d → A.units + d < cLine → RepL h μ l vs → RepL h μ l vs' → ∀ j (h1 : j < vs.length) (h2 : j < vs'.length), EqAt A s vs[j] vs'[j] true
 | [], vs, vs', A, s, d, _, _, _, r, _, j, h1, _ => by rw [show vs = [] from r] at h1; cases h1
 | x :: l, vs, vs', A, s, d, hs, hd, hu, r, r', j, h1, h2 => by
  obtain ⟨v, q, rfl, r1, r2⟩ := r
  obtain ⟨v', q', rfl, r1', r2'⟩ := r'
  have hd : (match dep x, depL l with | some a, some b => some (max a b) | _, _ => none) = some d := hd
  cases ha : dep x with
  | none => rw [ha] at hd; cases hd
  | some da =>
   cases hb : depL l with
   | none => rw [ha, hb] at hd; cases hd
   | some db =>
    rw [ha, hb] at hd
    have hd : max da db = d := by injection hd
    cases j with
    | zero => exact eqSame x hs ha (Nat.lt_of_le_of_lt (Nat.add_le_add_left (hd ▸ Nat.le_max_left _ _) _) hu) r1 r1'
    | succ j => exact eqSameL l hs hb (Nat.lt_of_le_of_lt (Nat.add_le_add_left (hd ▸ Nat.le_max_right _ _) _) hu) r2 r2' j (Nat.lt_of_succ_lt_succ h1) (Nat.lt_of_succ_lt_succ h2)
end
section
variable {c : Cx} {n : Nat} {H : List AO} {R : V → List AO → Prop}
theorem tupSame {b : Addr} {vs' : List Value} {m' : Nat} (hs : s.heap = h) (g : h.get? a = some (tpO vs m)) (g' : h.get? b = some (tpO vs' m')) (hd : depL l = some d) (hu : A.units + d + 1 < cLine) (rl : RepL h μ l vs) (rl' : RepL h μ l vs') :
  RcAt A s (.ref a) (.ref b) true ∧ RcNeAt A s (.ref a) (.ref b) false := by
 subst hs
 have he : ∀ j (h1 : j < vs.toArray.size) (h2 : j < vs'.toArray.size), EqAt A.in1 s vs.toArray[j] vs'.toArray[j] true := fun j h1 h2 => eqSameL l (A := A.in1) (s := s) rfl hd (uq3 hu) rl rl' j h1 h2
 have e2 : (vs.toArray.size == vs'.toArray.size) = true := by rw [List.size_toArray, List.size_toArray, rl.length, rl'.length]; exact beq_self_eq_true _
 have q := RcAt.tuples (A := A) (s := s) (l := a) (b := b) (items := vs.toArray) (items2 := vs'.toArray) (e := fun _ => true) ⟨_, g, rfl, m, rfl⟩ ⟨_, g', rfl, m', rfl⟩ (Nat.lt_of_le_of_lt (Nat.le_trans (Nat.le_add_right _ _) (Nat.le_add_right _ _)) hu) he
 have q' := RcNeAt.tuples (A := A) (s := s) (l := a) (b := b) (items := vs.toArray) (items2 := vs'.toArray) (e := fun _ => true) ⟨_, g, rfl, m, rfl⟩ ⟨_, g', rfl, m', rfl⟩ (Nat.lt_of_le_of_lt (Nat.le_trans (Nat.le_add_right _ _) (Nat.le_add_right _ _)) hu) he
 rw [range_all_true, e2] at q q'
 exact ⟨q, q'⟩
theorem BinA.tupEq (hd : depL l = some d) (hn : d < 100) (h : R (.bool true) H) : BinA c n (compareOp .Eq) (.tup l) (.tup l) H R := by
 intro A fr μ s va vb room S ra rb Q E hQ
 obtain ⟨a, vs, m, rfl, g, rl⟩ := ra; obtain ⟨b, vs', m', rfl, g', rl'⟩ := rb
 exact (tupSame rfl g g' hd (ruD room.u hn) rl rl').1 _ _ _ _ (hQ.now S h rfl)
theorem BinA.tupNe (hd : depL l = some d) (hn : d < 100) (h : R (.bool false) H) : BinA c n (compareOp .NotEq) (.tup l) (.tup l) H R := by
 intro A fr μ s va vb room S ra rb Q E hQ
 obtain ⟨a, vs, m, rfl, g, rl⟩ := ra; obtain ⟨b, vs', m', rfl, g', rl'⟩ := rb
 exact (tupSame rfl g g' hd (ruD room.u hn) rl rl').2 _ _ _ _ (hQ.now S h rfl)
theorem BinA.tupNeNil (h : R (.bool (!l.isEmpty)) H) : BinA c n (compareOp .NotEq) (.tup l) (.tup []) H R := by
 intro A fr μ s va vb room S ra rb Q E hQ
 obtain ⟨a, vs, m, rfl, g, rl⟩ := ra; obtain ⟨b, vs', m', rfl, g', rl'⟩ := rb
 have q' := RcNeAt.tuples (A := A) (s := s) (l := a) (b := b) (items := vs.toArray) (items2 := vs'.toArray) (e := fun _ => true) ⟨_, g, rfl, m, rfl⟩ ⟨_, g', rfl, m', rfl⟩ (ru2 room.u) fun j h1 h2 => by rw [show vs' = [] from rl'] at h2; cases h2
 rw [range_all_true] at q'
 have e2 : (!(true && vs.toArray.size == vs'.toArray.size)) = !l.isEmpty := by rw [List.size_toArray, List.size_toArray, rl.length, rl'.length]; cases l <;> rfl
 rw [e2] at q'
 exact q' _ _ _ _ (hQ.now S h rfl)
theorem BinA.listEqNil {j : Nat} (hi : H[i]? = some (.list l)) (hj : H[j]? = some (.list [])) (h : R (.bool l.isEmpty) H) : BinA c n (compareOp .Eq) (.obj i) (.obj j) H R := by
 intro A fr μ s va vb room S ra rb Q E hQ
 obtain ⟨a, ha, rfl⟩ := ra; obtain ⟨b, hb, rfl⟩ := rb
 obtain ⟨vs, hv, rl⟩ := S.isList hi ha
 obtain ⟨vs', hv', rl'⟩ := S.isList hj hb
 rw [show vs' = [] from rl'] at hv'
 cases l with
 | nil =>
  rw [show vs = [] from rl] at hv
  exact eq_listAt (e := fun _ => true) hv hv' rfl (ru2 room.u) (fun j h1 => nomatch h1) (hQ.now S h rfl)
 | cons x l =>
  have hl := rl.length
  exact eq_list_lengthsAt hv hv' (by rw [List.size_toArray, hl]; rfl) (ru2 room.u) (hQ.now S h rfl)
theorem BinA.listNeNil {j : Nat} (hi : H[i]? = some (.list l)) (hj : H[j]? = some (.list [])) (h : R (.bool (!l.isEmpty)) H) : BinA c n (compareOp .NotEq) (.obj i) (.obj j) H R := by
 intro A fr μ s va vb room S ra rb Q E hQ
 obtain ⟨a, ha, rfl⟩ := ra; obtain ⟨b, hb, rfl⟩ := rb
 obtain ⟨vs, hv, rl⟩ := S.isList hi ha
 obtain ⟨vs', hv', rl'⟩ := S.isList hj hb
 rw [show vs' = [] from rl'] at hv'
 cases l with
 | nil =>
  rw [show vs = [] from rl] at hv
  exact RcNeAt.lists (e := fun _ => true) hv hv' rfl (ru2 room.u) (fun j h1 => nomatch h1) _ _ _ _ (hQ.now S h rfl)
 | cons x l =>
  have hl := rl.length
  exact RcNeAt.lists_lengths hv hv' (by rw [List.size_toArray, hl]; rfl) (ru2 room.u) _ _ _ _ (hQ.now S h rfl)
end
noncomputable def pick {α : Type} (l : List α) (lo hi : Option Int) : List α := (l.drop (lo.elim 0 (clipAt l.length))).take (hi.elim l.length (clipAt l.length) - lo.elim 0 (clipAt l.length))
noncomputable def spick (x : Str) (lo hi : Option Int) : Str := ⟨(pick x.cps.toList lo hi).toArray⟩
theorem clip_le (n : Nat) (i : Int) : clipAt n i ≤ n := Int.toNat_le.mpr (Int.max_le.mpr ⟨Int.natCast_nonneg n, Int.min_le_right _ _⟩)
theorem txt_slice (x : Str) (lo hi : Option Int) : Txt.slice x lo hi = spick x lo hi := by
 have e : Builtin.Str.strSliceIndices lo hi 1 x.length = (List.range (hi.elim x.length (clipAt x.length) - lo.elim 0 (clipAt x.length))).map (lo.elim 0 (clipAt x.length) + ·) := by
  have := sliceBounds_plain lo hi x.length
  have e2 : Builtin.Str.strSliceIndices lo hi 1 x.length = sliceRange (sliceBounds lo hi none x.length).1 (sliceBounds lo hi none x.length).2.1 1 := rfl
  rw [e2, this, sliceRange_one]
 have hb : hi.elim x.length (clipAt x.length) ≤ x.length := by cases hi with | none => exact Nat.le_refl _ | some i => exact clip_le _ _
 unfold Txt.slice spick pick
 rw [e, pick_run]
 have hlen : x.length = x.cps.toList.length := by simp [Str.length]
 split
 ·rename_i h
  have h' : ((List.range (hi.elim x.length (clipAt x.length) - lo.elim 0 (clipAt x.length))).map (lo.elim 0 (clipAt x.length) + ·)).length = x.length := by simpa using h
  rw [lMp, lRa] at h'
  rw [← hlen]
  have h1 := sub_full h' hb
  rcases h1 with h1 | h1
  ·rw [h1] at h' ⊢
   rw [h', List.drop_zero, hlen, List.take_length]
  ·have : x.cps = #[] := by
    have := hlen ▸ h1
    exact Array.eq_empty_of_size_eq_zero (by simpa using this)
   cases x; simp only at this; subst this; simp
 ·rw [← hlen]
theorem RepL.drop : ∀ {l : List V} {vs : List Value} (k : Nat), RepL h μ l vs → RepL h μ (l.drop k) (vs.drop k)
 | _, _, 0, r => r
 | [], _, k + 1, r => by rw [show _ = [] from r]; rfl
 | _ :: _, _, k + 1, r => by obtain ⟨v, q, rfl, _, r2⟩ := r; exact RepL.drop k r2
theorem RepL.take : ∀ {l : List V} {vs : List Value} (k : Nat), RepL h μ l vs → RepL h μ (l.take k) (vs.take k)
 | _, _, 0, r => by rw [List.take_zero, List.take_zero]; rfl
 | [], _, k + 1, r => by rw [show _ = [] from r]; rfl
 | _ :: _, _, k + 1, r => by obtain ⟨v, q, rfl, r1, r2⟩ := r; exact ⟨v, _, rfl, r1, RepL.take k r2⟩
theorem RepL.pick (r : RepL h μ l vs) (lo hi : Option Int) : RepL h μ (pick l lo hi) (pick vs lo hi) := by
 unfold Mine.pick
 rw [r.length]
 exact (r.drop _).take _
section
variable {c : Cx} {n : Nat} {ρ : Loc} {H : List AO} {R : V → List AO → Prop} {X : Nat → List AO → Prop}
noncomputable def PaE (c : Cx) (n : Nat) (e : Option Expr) (ρ : Loc) (H : List AO) (R : Option Int → List AO → Prop) (X : Nat → List AO → Prop) : Prop := match e with
 | none => R none H
 | some e => EvE c n e ρ H (fun v H1 => ∃ i, v = .int i ∧ R (some i) H1) X
theorem pa_ok {e : Option Expr} {RP : Option Int → List AO → Prop} (h : PaE c n e ρ H RP X) (S : Sit c n A env fr μ H ρ s) (hE : ContX N c fr μ s X E)
  (k : ∀ (o : Option (Int × Tok)) H' μ' s', RP (o.map (·.1)) H' → Ext fr N μ μ' s s' → St c.base fr μ' H' s'.heap → Q (partValue o) s') : wpAny c.M A (evalPart e env) Q E s := by
 cases e with
 | none => exact wpAny_evalPart_none (k none H μ s h Ext.refl S.st)
 | some e =>
  refine evalPart_some_step (h A env fr μ s S _ E (fun v H1 μ1 va s1 h1 x1 S1 r1 => ?_) hE)
  walk_at "z"
  obtain ⟨i, eN1, hR⟩ := h1
  walk_at "y"
  subst eN1
  obtain ⟨t, rfl⟩ := r1
  exact k (some (i, t)) H1 μ1 s1 hR x1 S1
theorem go_parts {lo hi : Option Expr} {F : Option Int → Option Int → List AO → Prop} {o : V} {va : Value} {μ1 : Mp} {s1 : Shared} {QQ : Value → Value → Shared → Prop} (S : Sit c n A env fr μ H ρ s) (hE : ContX N c fr μ s X E)
  (h1 : PaE c n lo ρ H1 (fun a H2 => PaE c n hi ρ H2 (fun b H3 => F a b H3) X) X) (x1 : Ext fr N μ μ1 s s1) (S1 : St c.base fr μ1 H1 s1.heap) (r1 : Rep s1.heap μ1 o va)
  (k : ∀ (a b : Option (Int × Tok)) H3 μ3 s3, F (a.map (·.1)) (b.map (·.1)) H3 → Ext fr N μ μ3 s s3 → St c.base fr μ3 H3 s3.heap → Rep s3.heap μ3 o va → QQ (partValue a) (partValue b) s3) :
  wpAny c.M A (evalPart lo env) (fun vl s₂ => wpAny c.M A (evalPart hi env) (fun vu s₃ => QQ vl vu s₃) E s₂) E s1 := by
 refine pa_ok h1 (S.next x1 S1) (hE.next x1 S1) fun a H2 μ2 s2 h2 x2 S2 => ?_
 refine pa_ok h2 ((S.next x1 S1).next x2 S2) ((hE.next x1 S1).next x2 S2) fun b H3 μ3 s3 h3 x3 S3 => ?_
 exact k a b H3 μ3 s3 h3 ((x1.comp S1 x2).comp S2 x3) S3 (x3.rep S2 (x2.rep S1 r1))
section
variable {prog : Program} {w : World} {A : Around} {E : Value → Shared → Prop} {s : Shared} {env : Env}
theorem subX {value : Expr} {lower upper : Option Expr} {T id : String}
  (hl : typeLookup (.type T) "__getitem__" = pure (some (.builtin id)))
  (h : wpAny (model prog w) A (eval value env) (fun o s₁ => wpAny (model prog w) A (eval (.Slice lower upper none p) env) (fun i s₂ => s₂.TypeIs o T ∧ wpAny (model prog w) A (getItem o i) Q E s₂) E s₁) E s) :
  wpAny (model prog w) A (eval (.Subscript value (.Slice lower upper none p) pos) env) Q E s := by
 rw [eval_Subscript]
 refine wpAny_bind (wpAny_mono h (fun o s₁ h₁ => wpAny_bind (wpAny_holding (wpAny_mono h₁ (fun i s₂ h₂ => wpAny_bind (wpAny_standAt ?_)) fun _ _ x => x)))
  fun _ _ x => x)
 have fin : wpAny (model prog w) A (operate [i, o] (getItem o i)) (fun r s₃ => wpAny (model prog w) A (letTemporaryGo value o r >>= fun _ => pure r) Q E s₃) E s₂ :=
  wpAny_operating (wpAny_mono h₂.2 (fun r s₃ h₃ => wpAny_bind (wpAny_letTemporaryGo (wpAny_pure h₃))) fun _ _ x => x)
 first
  | (refine wpAny_bind ?_; rw [getitemInPython_of_ne h₂.1.not_modules]; refine wpAny_bind (wpAny_specialOf h₂.1 hl ?_); first | exact wpAny_pure (wpAny_bind fin) | exact wpAny_bind (wpAny_pure (wpAny_bind fin)) | exact wpAny_bind fin)
  | (refine wpAny_bind (wpAny_specialOf h₂.1 hl ?_); first | exact wpAny_pure (wpAny_bind fin) | exact wpAny_bind (wpAny_pure (wpAny_bind fin)) | exact wpAny_bind fin)
theorem strSliceX {value : Expr} {lower upper : Option Expr}
  (h : wpAny (model prog w) A (eval value env) (fun o s₁ => wpAny (model prog w) A (evalPart lower env) (fun vl s₂ => wpAny (model prog w) A (evalPart upper env) (fun vu s₃ =>
   ∃ x t l u, o = .str x t ∧ vl = partValue l ∧ vu = partValue u ∧
    (sliceMade x t l u none).post Q { s₃ with heap := s₃.heap.push { cls := .type "slice", data := .fields #[vl, vu, .none] } }) E s₂) E s₁) E s) :
  wpAny (model prog w) A (eval (.Subscript value (.Slice lower upper none p) pos) env) Q E s := by
 refine subX (T := "str") PySem.F.slot_str_getitem.lookup (wpAny_mono h (fun o s₁ h₁ => wpAny_Slice (wpAny_mono h₁ (fun vl s₂ h₂ => wpAny_mono h₂ (fun vu s₃ h₃ => ?_) fun _ _ e => e) fun _ _ e => e)) fun _ _ e => e)
 walk_at "z"
 obtain ⟨x, t, l, u, eN2, eN3, eN4, hQ⟩ := h₃
 walk_at "y"
 subst eN2 eN3 eN4
 rw [evalPart_none]
 exact wpAny_pure ⟨typeIs_str _ x t, wpAny_getItem_str_slice (l := l) (u := u) (st := none) ⟨_, gPz _ rfl, rfl, rfl⟩ rfl hQ⟩
theorem listSliceX {value : Expr} {lower upper : Option Expr}
  (h : wpAny (model prog w) A (eval value env) (fun o s₁ => wpAny (model prog w) A (evalPart lower env) (fun vl s₂ => wpAny (model prog w) A (evalPart upper env) (fun vu s₃ =>
   ∃ l items lo hi, o = .ref l ∧ s₃.heap.IsList l items ∧ items.size ≤ sizeLine ∧ IsPart vl lo ∧ IsPart vu hi ∧
    Q (.ref (s₃.heap.objs.size + 1)) { s₃ with heap := (s₃.heap.push { cls := .type "slice", data := .fields #[vl, vu, .none] }).push { cls := .type "list", data := .seq (slicePick items lo hi none) } }) E s₂) E s₁) E s) :
  wpAny (model prog w) A (eval (.Subscript value (.Slice lower upper none p) pos) env) Q E s := by
 refine subX (T := "list") list_getitem_lookup (wpAny_mono h (fun o s₁ h₁ => wpAny_Slice (wpAny_mono h₁ (fun vl s₂ h₂ => wpAny_mono h₂ (fun vu s₃ h₃ => ?_) fun _ _ e => e) fun _ _ e => e)) fun _ _ e => e)
 walk_at "z"
 obtain ⟨l, items, lo, hi, eN5, hl, hsz, pl, pu, hQ⟩ := h₃
 walk_at "y"
 subst eN5
 rw [evalPart_none]
 refine wpAny_pure ⟨(hl.push _).typeIs, wpAny_getItem_list_slice (hl.push _) (Heap.IsSliceOf.new ..) pl pu .none (by simp) ?_ hsz⟩
 rw [Heap.size_push]
 exact hQ
end
theorem ev_sliceS {v : Expr} {lo hi : Option Expr} (h : EvE c n v ρ H (fun o H1 => ∃ x, o = .str x ∧ PaE c n lo ρ H1 (fun a H2 => PaE c n hi ρ H2 (fun b H3 => x.length ≤ sizeLine ∧ R (.str (spick x a b)) H3) X) X) X) : EvE c n (.Subscript v (.Slice lo hi none p) pos) ρ H R X := by
 intro A env fr μ s S Q E hQ hE
 refine strSliceX (h A env fr μ s S _ E (fun o H1 μ1 va s1 h1 x1 S1 r1 => ?_) hE)
 walk_at "z"
 obtain ⟨x, eN6, h1⟩ := h1
 walk_at "y"
 subst eN6
 obtain ⟨t, rfl⟩ := r1
 refine go_parts (o := .str x) (va := .str x t) S hE h1 x1 S1 ⟨t, rfl⟩ fun a b H3 μ3 s3 h3 x3 S3 r3 => ⟨x, t, a, b, rfl, rfl, rfl, ?_⟩
 obtain ⟨hs, hR⟩ := h3
 refine post_val_or_str ⟨Nat.le_trans (Txt.slice_le x _ _) hs, fun t' k => ?_⟩
 show Q (.str (Txt.slice x (a.map (·.1)) (b.map (·.1))) t') _
 rw [txt_slice]
 exact (hQ.next x3 S3).here (h' := s3.heap.push _) (tk := k) S3 hR push_keeps ⟨t', rfl⟩
theorem ev_sliceL {v : Expr} {lo hi : Option Expr} (h : EvE c n v ρ H (fun o H1 => ∃ i, o = .obj i ∧ PaE c n lo ρ H1 (fun a H2 => PaE c n hi ρ H2 (fun b H3 => ∃ l, H3[i]? = some (.list l) ∧ l.length ≤ sizeLine ∧ R (.obj H3.length) (H3 ++ [.list (pick l a b)])) X) X) X) : EvE c n (.Subscript v (.Slice lo hi none p) pos) ρ H R X := by
 intro A env fr μ s S Q E hQ hE
 refine listSliceX (h A env fr μ s S _ E (fun o H1 μ1 va s1 h1 x1 S1 r1 => ?_) hE)
 walk_at "z"
 obtain ⟨i, eN7, h1⟩ := h1
 walk_at "y"
 subst eN7
 refine go_parts (o := .obj i) (va := va) S hE h1 x1 S1 r1 fun a b H3 μ3 s3 h3 x3 S3 r3 => ?_
 walk_at "z"
 obtain ⟨l, hl, hs, hR⟩ := h3
 walk_at "y"
 walk_at "z"
 obtain ⟨ad', ha', eN8⟩ := r3
 walk_at "y"
 subst eN8
 walk_at "z"
 obtain ⟨vs, hv, rl⟩ := S3.isList hl ha'
 walk_at "y"
 have pp : ∀ o : Option (Int × Tok), IsPart (partValue o) (o.map (·.1)) := fun o => by cases o with | none => exact .none | some z => exact .int z.1 z.2
 refine ⟨ad'.1, vs.toArray, a.map (·.1), b.map (·.1), rfl, hv, by rw [List.size_toArray, rl.length]; exact hs, pp a, pp b, ?_⟩
 have hsp : (s3.heap.push { cls := .type "slice", data := .fields #[partValue a, partValue b, .none] }).objs.size = s3.heap.objs.size + 1 := Heap.size_push _ _
 have n1' : s3.heap.get? (s3.heap.objs.size + 1) = none := by
  cases q : s3.heap.get? (s3.heap.objs.size + 1) with
  | none => rfl
  | some o => exact absurd (Heap.lt_size q) (Nat.not_lt.mpr (Nat.le_succ _))
 have hk : ∀ b' o, s3.heap.get? b' = some o → ((s3.heap.push { cls := .type "slice", data := .fields #[partValue a, partValue b, .none] }).push { cls := .type "list", data := .seq (slicePick vs.toArray (a.map (·.1)) (b.map (·.1)) none) }).get? b' = some o := fun _ _ q => gPs _ (gPs _ q)
 have ho : ((s3.heap.push { cls := .type "slice", data := .fields #[partValue a, partValue b, .none] }).push { cls := .type "list", data := .seq (slicePick vs.toArray (a.map (·.1)) (b.map (·.1)) none) }).get? (s3.heap.objs.size + 1) = some { cls := .type "list", data := .seq (pick vs (a.map (·.1)) (b.map (·.1))).toArray } := by
  rw [← hsp, gPz _ rfl, slicePick_plain]
  simp only [pick, List.size_toArray]
 refine (hQ.next x3 S3) (.obj H3.length) (H3 ++ [.list (pick l (a.map (·.1)) (b.map (·.1)))]) (μ3 ++ [(s3.heap.objs.size + 1, s3.heap.objs.size + 1)]) _ _ hR (Ext.alloc (tk := s3.toks) hk n1' n1') (S3.alloc (o := .list (pick l (a.map (·.1)) (b.map (·.1)))) hk n1' n1' ⟨rfl, _, 0, ho, (rl.pick _ _).mono (F := NoF) (D := NoF) (Kept.of_keeps hk) noTup_none (List.prefix_append _ _)⟩) ⟨(s3.heap.objs.size + 1, s3.heap.objs.size + 1), ?_, rfl⟩
 rw [← S3.len, gAr (Nat.le_refl _), Nat.sub_self]; rfl
end
section
variable {c : Cx} {n : Nat} {H : List AO} {R : V → List AO → Prop}
theorem RepL.strs : ∀ {ys : List Str} {vs : List Value}, RepL h μ (ys.map V.str) vs → ∀ (x : Str) (t : Tok) (A : Around) (s : Shared), (∀ v ∈ vs, EqAt A s v (.str x t) (v.isStr x)) ∧ vs.any (fun v => v.isStr x) = ys.any (· == x)
 | [], _, r, x, t, A, s => by rw [show _ = [] from r]; exact ⟨fun _ h => (nomatch h), rfl⟩
 | y :: ys, _, r, x, t, A, s => by
  walk_at "z"
  obtain ⟨v, q, eN1, ⟨u, eN2⟩, r2⟩ := r
  walk_at "y"
  subst eN1 eN2
  have ih := RepL.strs r2 x t A s
  refine ⟨fun v hv => ?_, ?_⟩
  ·rcases List.mem_cons.mp hv with rfl | hv
   ·exact (eqGives_str y x u t).at A s
   ·exact ih.1 v hv
  ·rw [List.any_cons, List.any_cons, ih.2]; rfl
theorem BinA.inTup {ys : List Str} (h : R (.bool (ys.any (· == x))) H) : BinA c n (compareOp .In) (.str x) (.tup (ys.map V.str)) H R := by
 intro A fr μ s va vb _ S ra rb Q E hQ
 obtain ⟨t, rfl⟩ := ra; obtain ⟨a, vs, m, rfl, g, rl⟩ := rb
 have q := RepL.strs rl x t A.in1 s
 refine in_tupleAt (items := vs.toArray) (fun v => v.isStr x) ⟨_, g, rfl, m, rfl⟩ (fun y hy => q.1 y (by simpa using hy)) (hQ.now S h ?_)
 show _ = _
 rw [← q.2, List.any_toArray]
theorem BinA.inList {ys : List Str} (hi : H[i]? = some (.list (ys.map V.str))) (h : R (.bool (ys.any (· == x))) H) : BinA c n (compareOp .In) (.str x) (.obj i) H R := by
 intro A fr μ s va vb _ S ra rb Q E hQ
 obtain ⟨t, rfl⟩ := ra; obtain ⟨a, ha, rfl⟩ := rb
 walk_at "z"
 obtain ⟨vs, hv, rl⟩ := S.isList hi ha
 walk_at "y"
 have q := RepL.strs rl x t A.in1 s
 refine in_listAt (items := vs.toArray) (fun v => v.isStr x) hv (fun y hy => q.1 y (by simpa using hy)) (hQ.now S h ?_)
 show _ = _
 rw [← q.2, List.any_toArray]
theorem dict_contains {prog : Program} {d : Addr} {K : Type} [DecidableEq K] {knd : KeyKind prog w K} {k : K} {key : Value} {f : K → Option Value} {Q : Bool → Shared → Prop} (hkey : knd.is k key = true) (hd : (d == sysModules) = false) (hm : s.heap.MapOf knd d f)
  (h : Q (f k).isSome { s with toks := s.toks + 1 }) : wpAny (model prog w) A (contains (.ref d) key) Q E s := by
 unfold contains
 try with_reducible refine wpAny_holding ?_
 refine wpAny_bind (wpAny_specialOf hm.typeIs slot_dict_contains.lookup ?_)
 show wpAny _ _ (if (some (Value.builtin "dict.__contains__") == some Value.none) = true then _ else _) _ E s
 rw [if_neg (by rw [beq_builtin_none]; exact Bool.false_ne_true)]
 refine wpAny_bind (wpAny_callSpecialUnlessNone?_slot (name := so "__contains__") hm.typeIs slot_dict_contains
  (wpAny_call_entry slot_dict_contains hm.typeIs entry_dict_contains ?_ (args_dict_contains _ _)))
 show wpAny _ _ (dictGet d key >>= _) _ _ s
 refine wpAny_bind (wpAny_dictGet_of hkey hm ?_)
 cases hf : f k with
 | some v =>
  rw [hf] at h
  show wpAny _ _ (ret (.bool true)) _ _ _
  exact wpAny_pure ⟨_, rfl, wpAny_truthy_bool h⟩
 | none =>
  rw [hf] at h
  show wpAny _ _ (Builtin.Dict.pendingKey? d key >>= _) _ _ _
  exact wpAny_bind (wpAny_pendingKey_other hd (wpAny_pure ⟨_, rfl, wpAny_truthy_bool h⟩))
noncomputable def DictAt (w : World) (a : Addr) (es : List DictEntry) : Prop := ∃ ep, (kFrag w.params).lookup a = some (dictOf' es ep) ∧ ∀ e ∈ es, ∃ k t, e.key = .str k t ∧ e.hash = PyData.keyHash w.params k
theorem DictAt.map {es : List DictEntry} (D : DictAt w a es) (X : (kFrag w.params).In h) : h.MapOf (strKind pg w) a (fun k => findBy Value.isStrOf es.toArray k) := by
 walk_at "z"
 obtain ⟨ep, e, hk⟩ := D
 walk_at "y"
 refine ⟨_, es.toArray, ep, X _ _ e, ⟨rfl, rfl, rfl⟩, rfl, fun x hx => ?_, fun _ => rfl⟩
 walk_at "z"
 obtain ⟨k, t, h1, h2⟩ := hk x (by simpa using hx)
 walk_at "y"
 exact ⟨k, by rw [h1]; exact beq_self_eq_true _, h2⟩
theorem SubA.tup {x : V} (hi : l[i]? = some x) (hs : i < 2 ^ 62) (h : R x H) : SubA c n (.tup l) (.int i) H R := by
 intro A fr μ s va vb _ S r1 r2
 walk_at "z"
 obtain ⟨a, vs, m, eN3, g, rl⟩ := r1
 walk_at "y"
 subst eN3
 obtain ⟨u, rfl⟩ := r2
 walk_at "z"
 obtain ⟨v, hv, rv⟩ := rl.get i x hi
 walk_at "y"
 have hlt : i < vs.length := (gsi.mp hv).1
 refine ⟨⟨"tuple", _, ⟨_, g, rfl⟩, F.slot_tuple_getitem.lookup⟩, fun Q E hQ => P.getItem_tuple (items := vs.toArray) (n := m) (k := i) g (by omega) (by omega) ?_ (by simpa using hv) (hQ.now S h rv)⟩
 unfold seqIndex?
 simp only [if_neg (show ¬ ((i : Int) < 0) by omega), List.size_toArray]
 simp [hlt]
theorem neg1_le (h : 0 < n) : -(n : Int) ≤ -1 := by omega
theorem neg1_at : ∀ {n : Nat}, 0 < n → ((-1 : Int) + (n : Int)).toNat = n - 1
 | n + 1, _ => by rw [Int.natCast_succ, Int.add_comm, Int.add_neg_cancel_right]; rfl
theorem SubA.listLast {j : Nat} {x : V} (hj : H[j]? = some (.list l)) (hi : l.getLast? = some x) (hs : l.length < 2 ^ 62) (h : R x H) : SubA c n (.obj j) (.int (-1)) H R := by
 intro A fr μ s va vb _ S r1 r2
 walk_at "z"
 obtain ⟨a, ha, eN4⟩ := r1
 walk_at "y"
 subst eN4
 obtain ⟨u, rfl⟩ := r2
 walk_at "z"
 obtain ⟨vs, hv, rl⟩ := S.isList hj ha
 walk_at "y"
 have hlen := rl.length
 rw [List.getLast?_eq_getElem?] at hi
 walk_at "z"
 obtain ⟨v, hv', rv⟩ := rl.get _ x hi
 walk_at "y"
 have hpos : 0 < l.length := Nat.zero_lt_of_lt (gsi.mp hi).1
 rw [← hlen] at hpos hv'
 refine ⟨⟨"list", _, hv.typeIs, slot_list_getitem.lookup⟩, fun Q E hQ => wpAny_getItem_list_neg hv (by decide) (neg1_le hpos) (by decide) ?_ (hQ.now S h rv)⟩
 exact (congrArg (fun z => vs.toArray[z]?) (neg1_at hpos)).trans (by simpa using hv')
theorem SubA.strLast (hi : x.cps.toList.getLast? = some ch) (hs : x.length < 2 ^ 62) (h : R (.str ⟨#[ch]⟩) H) : SubA c n (.str x) (.int (-1)) H R := by
 intro A fr μ s va vb _ S r1 r2
 obtain ⟨t, rfl⟩ := r1
 obtain ⟨u, rfl⟩ := r2
 rw [List.getLast?_eq_getElem?] at hi
 have hpos : 0 < x.cps.size := Nat.zero_lt_of_lt (gsi.mp hi).1
 refine ⟨⟨"str", _, typeIs_str s x t, slot_str_getitem.lookup⟩, fun Q E hQ => getItem_str (by decide) ?_ (hQ.same S h ⟨_, rfl⟩)⟩
 have e1 : seqIndex? (-1 : Int) x.length = some (x.cps.size - 1) := seqIndex?_neg_one hpos
 rw [e1]
 simpa using hi
end
section
open PySem PySem.W PyProof.Rows PySem.SeqAt Builtin Builtin.Str
section
variable {c : Cx} {n : Nat} {H : List AO} {R : V → List AO → Prop} {X : Nat → List AO → Prop}
theorem CallJ.lenStr (hs : x.length < 2 ^ 62) (h : R (.int x.length) H) : CallJ c n (.builtin "len") [.str x] H R X := by
 intro A fr μ s vs _ _ S rv Q E hQ _
 walk_at "z"
 obtain ⟨_, _, eN1, ⟨t, eN2⟩, eN3⟩ := rv
 walk_at "y"
 subst eN1 eN2 eN3
 exact PyProof.Rows.len_str (by omega) (hQ.same S h ⟨_, rfl⟩)
theorem CallJ.lenList (hi : H[i]? = some (.list l)) (hs : l.length < 2 ^ 62) (h : R (.int l.length) H) : CallJ c n (.builtin "len") [.obj i] H R X := by
 intro A fr μ s vs _ _ S rv Q E hQ _
 walk_at "z"
 obtain ⟨_, _, eN4, ⟨a, ha, eN5⟩, eN6⟩ := rv
 walk_at "y"
 subst eN4 eN5 eN6
 walk_at "z"
 obtain ⟨ws, hv, rl⟩ := S.isList hi ha
 walk_at "y"
 have hl := rl.length
 refine PyProof.Rows.len_list hv (by simp; omega) ?_
 have e : (ws.toArray.size : Int) = l.length := by simp [hl]
 rw [e]
 exact hQ.same S h ⟨_, rfl⟩
theorem CallJ.ord (h : R (.int ch) H) : CallJ c n (.builtin "ord") [.str ⟨#[ch]⟩] H R X := by
 intro A fr μ s vs _ _ S rv Q E hQ _
 walk_at "z"
 obtain ⟨_, _, eN7, ⟨t, eN8⟩, eN9⟩ := rv
 walk_at "y"
 subst eN7 eN8 eN9
 exact P.ord_of_char (hQ.same S h ⟨_, rfl⟩)
theorem CallJ.chr {i : Int} (h0 : 0 ≤ i) (h1 : i ≤ 1114111) (h : R (.str ⟨#[i.toNat]⟩) H) : CallJ c n (.builtin "chr") [.int i] H R X := by
 intro A fr μ s vs _ _ S rv Q E hQ _
 walk_at "z"
 obtain ⟨_, _, eN10, ⟨t, eN11⟩, eN12⟩ := rv
 walk_at "y"
 subst eN10 eN11 eN12
 exact chr_of_range h0 h1 (hQ.same S h ⟨_, rfl⟩)
theorem CallJ.abs {i : Int} (h : R (.int (if i < 0 then -i else i)) H) : CallJ c n (.builtin "abs") [.int i] H R X := by
 intro A fr μ s vs _ _ S rv Q E hQ _
 walk_at "z"
 obtain ⟨_, _, eN13, ⟨t, eN14⟩, eN15⟩ := rv
 walk_at "y"
 subst eN13 eN14 eN15
 exact call_abs_int fun u tk => hQ.same S h ⟨_, rfl⟩
theorem CallJ.strInt {i : Int} (hi : i.natAbs.log2 < 1920) (h : R (.str (so (toString i))) H) : CallJ c n (.type "str") [.int i] H R X := by
 intro A fr μ s vs _ _ S rv Q E hQ _
 walk_at "z"
 obtain ⟨_, _, eN16, ⟨t, eN17⟩, eN18⟩ := rv
 walk_at "y"
 subst eN16 eN17 eN18
 exact P.str_of_int hi (hQ.same S h ⟨_, rfl⟩)
theorem CallJ.tupList (hi : H[i]? = some (.list l)) (hs : l.length ≤ sizeLine) (h : R (.tup l) H) : CallJ c n (.type "tuple") [.obj i] H R X := by
 intro A fr μ s vs _ _ S rv Q E hQ _
 walk_at "z"
 obtain ⟨_, _, eN19, ⟨a, ha, eN20⟩, eN21⟩ := rv
 walk_at "y"
 subst eN19 eN20 eN21
 walk_at "z"
 obtain ⟨ws, hv, rl⟩ := S.isList hi ha
 walk_at "y"
 refine call_tuple_list hv (fun h' hk => ?_) (by rw [List.size_toArray, rl.length]; exact hs)
 have hk' : ∀ b o, s.heap.get? b = some o → (h'.push { cls := .type "tuple", data := .seq ws.toArray }).get? b = some o := fun b o e => gPs _ (hk b o e)
 exact hQ.here (tk := s.toks) S h hk' ⟨_, ws, 0, rfl, gPz _ rfl, rl.mono (F := NoF) (D := NoF) (Kept.of_keeps hk') noTup_none (pRe _)⟩
theorem CallJ.listTup (hs : l.length ≤ sizeLine) (h : R (.obj H.length) (H ++ [.list l])) : CallJ c n (.type "list") [.tup l] H R X := by
 intro A fr μ s vs _ _ S rv Q E hQ _
 walk_at "z"
 obtain ⟨_, _, eN22, ⟨a, ws, m, eN23, g, rl⟩, eN24⟩ := rv
 walk_at "y"
 subst eN22 eN23 eN24
 exact call_list_seq a (.inr rfl) g rfl rfl (fun h' c' hk ho => hQ.newList (tk := s.toks) S h rl hk ho) (by rw [List.size_toArray, rl.length]; exact hs)
theorem CallJ.listList (hi : H[i]? = some (.list l)) (hs : l.length ≤ sizeLine) (h : R (.obj H.length) (H ++ [.list l])) : CallJ c n (.type "list") [.obj i] H R X := by
 intro A fr μ s vs _ _ S rv Q E hQ _
 walk_at "z"
 obtain ⟨_, _, eN25, ⟨a, ha, eN26⟩, eN27⟩ := rv
 walk_at "y"
 subst eN25 eN26 eN27
 walk_at "z"
 obtain ⟨ws, m, g, rl⟩ := S.list hi ha
 walk_at "y"
 exact call_list_seq a.1 (.inl rfl) g rfl rfl (fun h' c' hk ho => hQ.newList (tk := s.toks) S h rl hk ho) (by rw [List.size_toArray, rl.length]; exact hs)
theorem CallJ.append {x : V} (hi : H[i]? = some (.list l)) (hs : l.length ≤ sizeLine) (h : R .none (H.set i (.list (l ++ [x])))) : CallJ c n (.builtin "list.append") [.obj i, x] H R X := by
 intro A fr μ s vs _ _ S rv Q E hQ _
 walk_at "z"
 obtain ⟨_, _, eN28, ⟨a, ha, eN29⟩, v, _, eN30, rx, eN31⟩ := rv
 walk_at "y"
 subst eN28 eN29 eN30 eN31
 walk_at "z"
 obtain ⟨e12, ws, m, g, rl⟩ := S.rel i _ a hi ha
 walk_at "y"
 have hv : s.heap.IsList a.1 ws.toArray := ⟨_, g, rfl, m, rfl⟩
 refine wpAny_call_entry slot_list_append hv.typeIs entry_list_append ?_ (args_list_append _ _)
 show wpAny _ _ (updateSeq a.1 (·.push v) >>= fun _ => ret .none) _ _ s
 have z1 : ws.toArray.size ≤ sizeLine := by rw [List.size_toArray, rl.length]; exact hs
 have z2 : (ws.toArray.push v).size ≤ sizeLine + 1 := by rw [Array.size_push]; omega
 refine wpAny_bind (wpAny_updateSeq (hz := z1) (_hz' := z2) g rfl (wpAny_pure ⟨.none, rfl, ?_⟩))
 obtain ⟨m', hd'⟩ := Obj.data_mapSeq (o := { cls := .type "list", data := .seq ws.toArray m }) rfl (·.push v)
 have hU := Heap.get?_update_self (Obj.mapSeq (·.push v)) g (Obj.isFreed_of_seq hd')
 have he : Obj.mapSeq (·.push v) { cls := .type "list", data := .seq ws.toArray m } = { cls := .type "list", data := .seq (ws ++ [v]).toArray m' } := by
  have e1 : Obj.mapSeq (·.push v) { cls := .type "list", data := .seq ws.toArray m } = { cls := .type "list", data := (Obj.mapSeq (·.push v) { cls := .type "list", data := .seq ws.toArray m }).data } := rfl
  rw [e1, hd']; simp
 rw [he] at hU
 have hs' : ∀ b, b ≠ a.1 → b ≠ a.2 → (s.heap.update a.1 (Obj.mapSeq (·.push v))).get? b = s.heap.get? b := fun b h1 _ => gUo s.heap _ (Ne.symm h1)
 have rp := rep_put S ha hs'
 exact hQ .none _ μ _ _ h (Ext.put (tk := s.toks) ha hs') (S.put ha hs' ⟨e12, ws ++ [v], m', hU, (rp.2 rl).app (RepL.one (rp.1 rx))⟩) rfl
theorem CallJ.index {r : List Nat} (ho : occurrences x y 0 x.length 1 = i :: r) (h : R (.int i) H) : CallJ c n (.builtin "str.index") [.str x, .str y] H R X := by
 intro A fr μ s vs _ _ S rv Q E hQ _
 walk_at "z"
 obtain ⟨_, _, eN32, ⟨t, eN33⟩, _, _, eN34, ⟨u, eN35⟩, eN36⟩ := rv
 walk_at "y"
 subst eN32 eN33 eN34 eN35 eN36
 exact SC.index ho (hQ.same S h ⟨_, rfl⟩)
theorem RepL.strL : ∀ {ys : List Str} {vs : List Value}, RepL h μ (ys.map V.str) vs → ∃ l : List (Str × Tok), vs = strValues l ∧ l.map (·.1) = ys
 | [], _, r => ⟨[], r, rfl⟩
 | y :: ys, _, r => by
  walk_at "z"
  obtain ⟨v, q, eN37, ⟨t, eN38⟩, r2⟩ := r
  walk_at "y"
  subst eN37 eN38
  walk_at "z"
  obtain ⟨l, eN39, eN40⟩ := RepL.strL r2
  walk_at "y"
  subst eN39 eN40
  exact ⟨(y, t) :: l, rfl, rfl⟩
theorem RepL.ofStrs : ∀ (l : List (Str × Tok)), RepL h μ ((l.map (·.1)).map V.str) (strValues l)
 | [] => rfl
 | (y, t) :: l => ⟨_, _, rfl, ⟨t, rfl⟩, RepL.ofStrs l⟩
theorem CallJ.join {ys : List Str} (hi : H[i]? = some (.list (ys.map V.str))) (hok : JoinOk x ys = true) (h : R (.str (Txt.join x ys)) H) : CallJ c n (.builtin "str.join") [.str x, .obj i] H R X := by
 intro A fr μ s vs _ _ S rv Q E hQ _
 walk_at "z"
 obtain ⟨_, _, eN41, ⟨t, eN42⟩, _, _, eN43, ⟨a, ha, eN44⟩, eN45⟩ := rv
 walk_at "y"
 subst eN41 eN42 eN43 eN44 eN45
 walk_at "z"
 obtain ⟨ws, hv, rl⟩ := S.isList hi ha
 walk_at "y"
 walk_at "z"
 obtain ⟨l, eN46, hl⟩ := RepL.strL rl
 walk_at "y"
 subst eN46
 exact SC.join hv hl hok fun t' k => hQ.same S h ⟨_, rfl⟩
theorem CallJ.split (hy : (y.length == 0) = false) (hsz : x.length ≤ sizeLine) (hsz2 : (partsBetween x (occurrences x y 0 x.length (x.length + 1)) y.length).length ≤ sizeLine) (h : R (.obj H.length) (H ++ [.list ((Txt.split x y).map V.str)])) : CallJ c n (.builtin "str.split") [.str x, .str y] H R X := by
 intro A fr μ s vs _ _ S rv Q E hQ _
 walk_at "z"
 obtain ⟨_, _, eN47, ⟨t, eN48⟩, _, _, eN49, ⟨u, eN50⟩, eN51⟩ := rv
 walk_at "y"
 subst eN47 eN48 eN49 eN50 eN51
 have fin : ∀ (l : List (Str × Tok)) (m tk : Nat), l.map (·.1) = Txt.split x y → Q (.ref s.heap.objs.size) { s with toks := tk, heap := s.heap.push { cls := .type "list", data := .seq (strValues l).toArray m } } := fun l m tk e =>
  hQ.newList (tk := tk) S h (e ▸ RepL.ofStrs l) push_keeps (gPz _ rfl)
 cases h1 : (decide (x.length < y.length) || decide (strKind x < strKind y))
 ·cases hf : (occurrences x y 0 x.length (x.length + 1)).isEmpty
  ·refine call_meets F.slot_str_split (typeIs_str _ _ _) F.entry_str_split (F.args_str_split_2 _ _) (meets_str_split_sep x y t u h1 hy hf hsz hsz2) ?_
   show wants Q E _ { s with toks := _, heap := s.heap.push { cls := .type "list", data := .seq (strsFrom s.toks (partsBetween x (occurrences x y 0 x.length (x.length + 1)) y.length)).toArray } }
   rw [strsFrom_eq]
   exact fin (numbered s.toks _) _ _ ((numbered_texts _ _).trans ((if_neg (ne_true_of_eq_false h1)).trans (if_neg (ne_true_of_eq_false hf))).symm)
  ·exact call_meets F.slot_str_split (typeIs_str _ _ _) F.entry_str_split (F.args_str_split_2 _ _) (meets_str_split_not_found x y t u h1 hy hf)
    (fin [(x, t)] _ _ ((if_neg (ne_true_of_eq_false h1)).trans (if_pos hf)).symm)
 ·exact call_meets F.slot_str_split (typeIs_str _ _ _) F.entry_str_split (F.args_str_split_2 _ _) (meets_str_split_cannot_occur x y t u h1)
   (fin [(x, t)] _ _ (if_pos h1).symm)
end
end
theorem noted_back (hA : A.frames = some fr) (eok : EnvOk env fr) (ow : InFr fr env.locals) (hb : c.base.StaysIn s.heap)
  (hE : ContX (Own env) c fr μ s X E) (hX : X i H') (x : Ext fr (Own env) μ μ' s s') (S' : St c.base fr μ' H' s'.heap) (r : Raised μ' H' i v s s') : notedBy c.M A env (fun e s' => cameBackBy c.M A env E e s') v s' := by
 unfold notedBy
 refine note_ok hA eok.frame hb x S' r (live_fr x S' ow) fun s₂ x₂ S₂ r₂ l₂ => ?_
 exact cameBack_ok hb x₂ S₂ r₂ l₂ fun s₃ x₃ S₃ r₃ => hE i H' μ' v s₃ hX x₃ S₃ r₃.raised
section
variable {c : Cx} {n : Nat} {ρ : Loc} {H : List AO} {P : Fl → List AO → Prop} {X : Nat → List AO → Prop}
noncomputable def PW (J : Nat → Loc → List AO → Prop) (k : Nat) (P : Fl → List AO → Prop) (fl : Fl) (H : List AO) : Prop := match fl with
 | .next ρ | .cont ρ => ∃ m, m < k ∧ J m ρ H
 | .brk _ => False
 | .ret v => P (.ret v) H
theorem ExS.while {t : Expr} (J : Nat → Loc → List AO → Prop) (k : Nat) (init : J k ρ H)
  (turn : ∀ k ρ1 H1, J k ρ1 H1 → BoE c n t ρ1 H1 (fun q H2 => (q = true → ExS c n body ρ1 H2 (PW J k P) X) ∧ (q = false → ExS c n r ρ1 H2 P X)) X) : ExS c n (.While t body [] p :: r) ρ H P X := by
 refine ExS.cons (P' := fun fl H1 => (∃ ρ1, fl = .next ρ1 ∧ ExS c n r ρ1 H1 P X) ∨ ∃ v, fl = .ret v ∧ P fl H1) (fun A env fr μ s S ow Q E hQ hE => ?_) fun fl H1 h1 => by
  rcases h1 with ⟨ρ1, rfl, h⟩ | ⟨v, rfl, h⟩ <;> exact h
 have hb := S.st.stays
 refine wpAny_While (codeAny_whileLoop (fun k s' => ∃ ρ1 H1 μ1, J k ρ1 H1 ∧ Ext fr (Own env) μ μ1 s s' ∧ St c.base fr μ1 H1 s'.heap ∧ Rho s'.heap μ1 env c ρ1) (fun k s1 hI => ?_) k ⟨ρ, H, μ, init, Ext.refl, S.st, S.rho⟩)
 walk_at "z"
 obtain ⟨ρ1, H1, μ1, hJ, x1, S1, R1⟩ := hI
 walk_at "y"
 have nb : ∀ {μ' : Mp} {H' : List AO} {s2 s' : Shared} {i : Nat} {v : Value} {ρ2 : Loc} {μ2 : Mp} {H2 : List AO}, X i H' → Ext fr (Own env) μ μ2 s s2 → St c.base fr μ2 H2 s2.heap → Rho s2.heap μ2 env c ρ2 → Ext fr (Own env) μ2 μ' s2 s' → St c.base fr μ' H' s'.heap → Raised μ' H' i v s2 s' →
   notedBy c.M A env (fun e s' => cameBackBy c.M A env E e s') v s' := fun {μ' H' s2 s' i v ρ2 μ2 H2} hX x2 S2 R2 x3 S3 r => by
  refine ContX.nextO (E := notedBy c.M A env (fun e s' => cameBackBy c.M A env E e s')) (fun i H' μ' v s' hX x' S' r => noted_back S.stack S.eok ow hb hE hX x' S' r) x2 S2 R2 i H' μ' v s' hX x3 S3 r
 refine turn k ρ1 H1 hJ A env fr μ1 s1 ⟨S.room, S.stack, S.eok, S1, R1⟩ _ _ (fun q H2 μ2 s2 h2 x2 S2 => ?_) (fun i H' μ' v s' hX x' S' r => nb hX x1 S1 R1 (x'.weaken fun _ z => z.elim) S' r)
 have Sit2 : Sit c n A env fr μ2 H2 ρ1 s2 := (Sit.mk S.room S.stack S.eok S1 R1).next x2 S2
 have x12 : Ext fr (Own env) μ μ2 s s2 := x1.trans (x2.weaken fun _ z => z.elim) (live_own x1 S1 R1)
 cases q with
 | true =>
  refine h2.1 rfl A env fr μ2 s2 Sit2 ow _ _ (fun fl H3 μ3 f s3 h3 x3 S3 hf => ?_) (fun i H' μ' v s' hX x' S' r => nb hX x12 S2 Sit2.rho x' S' r)
  have x13 := x12.trans x3 (live_own x12 S2 Sit2.rho)
  cases fl with
  | next ρ3 => obtain ⟨rfl, R3⟩ := hf; obtain ⟨m, hm, hJ'⟩ := h3; exact ⟨m, hm, ρ3, H3, μ3, hJ', x13, S3, R3⟩
  | cont ρ3 => obtain ⟨rfl, R3⟩ := hf; obtain ⟨m, hm, hJ'⟩ := h3; exact ⟨m, hm, ρ3, H3, μ3, hJ', x13, S3, R3⟩
  | brk ρ3 => exact h3.elim
  | ret v => obtain ⟨w, rfl, hw⟩ := id hf; exact hQ (.ret v) H3 μ3 _ s3 (.inr ⟨v, rfl, h3⟩) x13 S3 hf
 | false =>
  exact wpAny_execs_nil (hQ (.next ρ1) H2 μ2 _ s2 (.inl ⟨ρ1, rfl, h2.2 rfl⟩) x12 S2 ⟨rfl, Sit2.rho⟩)
end
structure Lone (c : Cx) (fr : List Env) (μ : Mp) (h : Heap) (a : Addr) : Prop where
 new : c.base.get? a = none
 nm : ¬ Mut μ a
 fr : ¬ InFr fr a
 obj : ∃ o, h.get? a = some o ∧ (∀ vs n, o ≠ tpO vs n) ∧ ∀ v, o.data ≠ .cell v
theorem fields_obj (x : ∃ o fs, h.get? a = some o ∧ o.data = .fields fs) : ∃ o, h.get? a = some o ∧ (∀ vs n, o ≠ tpO vs n) ∧ ∀ v, o.data ≠ .cell v := by
 walk_at "z"
 obtain ⟨o, fs, h1, h2⟩ := x
 walk_at "y"
 exact ⟨o, h1, fun vs n q => by rw [q] at h2; simp [tpO] at h2, fun v q => by rw [q] at h2; cases h2⟩
section
variable {c : Cx} {n : Nat} {A : Around} {env : Env} {fr : List Env} {ρ : Loc} {H : List AO} {μ : Mp} {s : Shared} {h' : Heap} {a : Addr} {tk : Nat}
theorem Lone.kept (l : Lone c fr μ s.heap a) (hs : ∀ b o, b ≠ a → s.heap.get? b = some o → h'.get? b = some o) : Kept NoF (fun b => b = a) s.heap h' := fun b o e hne => ⟨o.slots, hs b o hne e, fun _ => rfl⟩
theorem Lone.noTup (l : Lone c fr μ s.heap a) : NoTup s.heap (fun b => NoF b ∨ b = a) := fun b vs n hd e => by
 rcases hd with hd | rfl
 ·exact hd
 ·walk_at "z"
  obtain ⟨o, h1, h2, _⟩ := l.obj
  walk_at "y"
  rw [e] at h1; cases h1; exact h2 vs n rfl
theorem Lone.st (l : Lone c fr μ s.heap a) (S : St c.base fr μ H s.heap) (hs : ∀ b o, b ≠ a → s.heap.get? b = some o → h'.get? b = some o) : St c.base fr μ H h' := by
 refine ⟨fun b o e => hs b o (fun q => by rw [q, l.new] at e; cases e) (S.stays b o e), frames_keep S.frames fun L hL o e hd => ⟨o, hs L o (fun q => l.fr (q ▸ hL)) e, hd⟩, S.len, fun i o b hi hb => ?_, S.apart, S.off, S.fresh, fun L hL => ?_⟩
 ·have rj := S.rel i o b hi hb
  obtain ⟨n1, n2⟩ := mut_at hb
  walk_at "z"
  obtain ⟨⟨o1, e1, _⟩, o2, e2, _⟩ := rj.live
  walk_at "y"
  exact rj.keeps (l.kept hs) l.noTup (pRe _) ((hs _ _ (fun q => l.nm (q ▸ n1)) e1).trans e1.symm) ((hs _ _ (fun q => l.nm (q ▸ n2)) e2).trans e2.symm)
 ·obtain ⟨m, hm⟩ := S.frd L hL
  exact ⟨m, Heap.Ns.kept hm (l.kept hs) fun q => l.fr (q ▸ hL)⟩
theorem Lone.rep (l : Lone c fr μ s.heap a) (hs : ∀ b o, b ≠ a → s.heap.get? b = some o → h'.get? b = some o) {x : V} (r : Rep s.heap μ x v) : Rep h' μ x v := r.mono (l.kept hs) l.noTup (pRe _)
theorem Lone.repL (l : Lone c fr μ s.heap a) (hs : ∀ b o, b ≠ a → s.heap.get? b = some o → h'.get? b = some o) {x : List V} {v : List Value} (r : RepL s.heap μ x v) : RepL h' μ x v := r.mono (l.kept hs) l.noTup (pRe _)
theorem Lone.rho (l : Lone c fr μ s.heap a) (ow : env.locals ≠ a) (hs : ∀ b o, b ≠ a → s.heap.get? b = some o → h'.get? b = some o) (R : Rho s.heap μ env c ρ) : Rho h' μ env c ρ := by
 walk_at "z"
 obtain ⟨m, hn, hm, hb, hnd, hr⟩ := R
 walk_at "y"
 refine ⟨m, Heap.Ns.kept hn (l.kept hs) fun q => ow q, hm, hb, hnd, fun y k V hy => ?_⟩
 have q := hr y k V hy
 cases k with
 | loc => exact ⟨q.1, fun z hz => let ⟨v, h1, h2⟩ := q.2 z hz; ⟨v, h1, l.rep hs h2⟩⟩
 | glob => exact q
 | cell =>
  walk_at "z"
  obtain ⟨q1, ca, c0, q2, q3, q4, q5⟩ := q
  walk_at "y"
  refine ⟨q1, ca, c0, q2, Heap.IsCell.kept q3 (l.kept hs) fun e => ?_, q4, fun z hz => let ⟨v, h1, h2⟩ := q5 z hz; ⟨v, h1, l.rep hs h2⟩⟩
  subst e
  walk_at "z"
  obtain ⟨o1, h1, h2⟩ := q3
  walk_at "y"
  walk_at "z"
  obtain ⟨o2, h3, _, h4⟩ := l.obj
  walk_at "y"
  rw [h1] at h3; cases h3; exact h4 _ h2
theorem Lone.sit (l : Lone c fr μ s.heap a) (ow : env.locals ≠ a) (S : Sit c n A env fr μ H ρ s) (hs : ∀ b o, b ≠ a → s.heap.get? b = some o → h'.get? b = some o) : Sit c n A env fr μ H ρ { s with heap := h', toks := tk } :=
 ⟨S.room, S.stack, S.eok, l.st S.st hs, l.rho ow hs S.rho⟩
theorem Ext.lone {μ₀ : Mp} {s₀ : Shared} (x : Ext fr O μ₀ μ s₀ s) (hn : s₀.heap.get? a = none) (hs : ∀ b o, b ≠ a → s.heap.get? b = some o → h'.get? b = some o) : Ext fr O μ₀ μ s₀ { s with heap := h', toks := tk } := by
 refine ⟨x.pre, fun b o e hD => ?_, x.new, x.rest⟩
 walk_at "z"
 obtain ⟨sl, e1, q1⟩ := x.keep b o e hD
 walk_at "y"
 exact ⟨sl, hs b _ (fun q => by rw [q, hn] at e; cases e) e1, q1⟩
theorem Lone.next (l : Lone c fr μ s.heap a) (x : Ext fr O μ μ' s s') (hO : ¬ O a) : Lone c fr μ' s'.heap a ∧ s'.heap.get? a = s.heap.get? a := by
 walk_at "z"
 obtain ⟨o, h1, h2⟩ := l.obj
 walk_at "y"
 walk_at "z"
 obtain ⟨sl, e1, q1⟩ := x.keep a o h1 fun z => z.elim l.nm hO
 walk_at "y"
 rw [q1 l.fr] at e1
 exact ⟨⟨l.new, not_mut_new x h1 l.nm, l.fr, o, e1, h2⟩, e1.trans h1.symm⟩
inductive Wk where
 | list (j : Nat)
 | tup (t : Addr)
 | str (x : Str) (t : Tok)
 | rng (lo : Int) (cnt : Nat)
 | byt (b : Array UInt8) (t : Tok)
noncomputable def ItStr (x : Str) (t : Tok) (a : Addr) (i : Nat) (h : Heap) : Prop := if x.cps.all (· < 128) = true then h.IsStrIter a "str_ascii_iterator" x t i else h.IsStrIter a "str_iterator" x t i
noncomputable def ItAt (μ : Mp) : Wk → Addr → Nat → Heap → Prop
 | .list j, a, i, h => ∃ l, μ[j]? = some l ∧ h.IsListIter a l.1 i
 | .tup t, a, i, h => h.IsTupleIter a t i
 | .str x t, a, i, h => ItStr x t a i h
 | .rng lo cnt, a, i, h => IsRangeIter h a (lo + i) ((cnt : Int) - i) 1
 | .byt b t, a, i, h => KBw.IsBytesIter h a b t i
noncomputable def Src (μ : Mp) (H : List AO) (h : Heap) : Wk → List V → Prop
 | .list j, l => H[j]? = some (.list l)
 | .tup t, l => Rep h μ (.tup l) (.ref t)
 | .str x _, l => l = x.cps.toList.map fun ch => .str ⟨#[ch]⟩
 | .rng lo cnt, l => l = (List.range cnt).map fun k : Nat => V.int (lo + (k : Int))
 | .byt b _, l => l = b.toList.map fun ch => .int (ch.toNat : Int)
theorem ItAt.keep {k : Wk} (p : μ <+: μ') (e : h'.get? a = h.get? a) (x : ItAt μ k a i h) : ItAt μ' k a i h' := by
 cases k with
 | list j =>
  walk_at "z"
  obtain ⟨l, hl, o, ho, r⟩ := x
  walk_at "y"
  refine ⟨l, ?_, o, e.trans ho, r⟩
  obtain ⟨t, rfl⟩ := p
  rw [gAl (gsi.mp hl).1, hl]
 | tup t => obtain ⟨o, ho, r⟩ := x; exact ⟨o, e.trans ho, r⟩
 | str y t =>
  have x : ItStr y t a i h := x
  show ItStr y t a i h'
  unfold ItStr at x ⊢
  split at x
  ·rename_i q; rw [if_pos q]; obtain ⟨o, ho, r⟩ := x; exact ⟨o, e.trans ho, r⟩
  ·rename_i q; rw [if_neg q]; obtain ⟨o, ho, r⟩ := x; exact ⟨o, e.trans ho, r⟩
 | rng lo cnt => exact e.trans x
 | byt b t => obtain ⟨o, ho, r⟩ := x; exact ⟨o, e.trans ho, r⟩
theorem next_item {Q : Option Value → Shared → Prop} {k : Wk} {y : V} (S : St c.base fr μ H s.heap) (it : ItAt μ k a i s.heap) (sr : Src μ H s.heap k l) (hy : l[i]? = some y) (ln : Lone c fr μ s.heap a)
  (hQ : ∀ v h' tk, Rep h' μ y v → ItAt μ k a (i + 1) h' → (∀ b o, b ≠ a → s.heap.get? b = some o → h'.get? b = some o) → (∃ o, h'.get? a = some o ∧ (∀ vs n, o ≠ tpO vs n) ∧ ∀ v, o.data ≠ .cell v) → Q (some v) { s with heap := h', toks := tk }) : wpAny c.M A (pyNext (.ref a)) Q E s := by
 have sb : ∀ {h' : Heap}, Heap.SameBut a s.heap h' → ∀ b o, b ≠ a → s.heap.get? b = some o → h'.get? b = some o := fun hs b o hne e => (hs.2 b hne).trans e
 cases k with
 | list j =>
  walk_at "z"
  obtain ⟨ad, had, hi⟩ := it
  walk_at "y"
  walk_at "z"
  obtain ⟨ws, hv, rl⟩ := S.isList sr had
  walk_at "y"
  walk_at "z"
  obtain ⟨v, hv', rv⟩ := rl.get i y hy
  walk_at "y"
  refine wpAny_pyNext_list_item hi hv (by simpa using hv') fun h' hi' hs => ?_
  walk_at "z"
  obtain ⟨o, ho, _, hd⟩ := id hi'
  walk_at "y"
  exact hQ v h' s.toks (ln.rep (sb hs) rv) ⟨ad, had, hi'⟩ (sb hs) (fields_obj ⟨o, _, ho, hd⟩)
 | tup t =>
  walk_at "z"
  obtain ⟨t', ws, m, e, g, rl⟩ := sr
  walk_at "y"
  cases e
  walk_at "z"
  obtain ⟨v, hv', rv⟩ := rl.get i y hy
  walk_at "y"
  refine wpAny_pyNext_tuple_item (items := ws.toArray) it ⟨_, g, rfl, m, rfl⟩ (by simpa using hv') fun h' hi' hs => ?_
  walk_at "z"
  obtain ⟨o, ho, _, hd⟩ := id hi'
  walk_at "y"
  exact hQ v h' s.toks (ln.rep (sb hs) rv) hi' (sb hs) (fields_obj ⟨o, _, ho, hd⟩)
 | str x t =>
  have sr : l = x.cps.toList.map fun ch => V.str ⟨#[ch]⟩ := sr
  subst sr
  rw [List.getElem?_map] at hy
  walk_at "z"
  obtain ⟨ch, hch, eN1⟩ := Option.map_eq_some_iff.mp hy
  walk_at "y"
  subst eN1
  have it : ItStr x t a i s.heap := it
  unfold ItStr at it
  split at it
  ·rename_i q
   refine wpAny_pyNext_ascii_item it (c := ch) (by simpa using hch) fun h' hi' hs => ?_
   walk_at "z"
   obtain ⟨o, ho, _, hd⟩ := id hi'
   walk_at "y"
   exact hQ _ h' _ ⟨_, rfl⟩ (show ItStr x t a (i + 1) h' by unfold ItStr; rw [if_pos q]; exact hi') (sb hs) (fields_obj ⟨o, _, ho, hd⟩)
  ·rename_i q
   refine wpAny_pyNext_wide_item it (c := ch) (by simpa using hch) fun h' hi' hs => ?_
   walk_at "z"
   obtain ⟨o, ho, _, hd⟩ := id hi'
   walk_at "y"
   exact hQ _ h' _ ⟨_, rfl⟩ (show ItStr x t a (i + 1) h' by unfold ItStr; rw [if_neg q]; exact hi') (sb hs) (fields_obj ⟨o, _, ho, hd⟩)
 | rng lo cnt =>
  have sr : l = (List.range cnt).map fun k : Nat => V.int (lo + (k : Int)) := sr
  subst sr
  rw [List.getElem?_map] at hy
  walk_at "z"
  obtain ⟨k', hk', eN2⟩ := Option.map_eq_some_iff.mp hy
  walk_at "y"
  subst eN2
  obtain ⟨hlt, e⟩ := gsi.mp hk'
  rw [List.getElem_range] at e
  subst e
  rw [lRa] at hlt
  refine wpAny_pyNext_range_item it (by omega) fun h' hi' hs => ?_
  refine hQ _ h' _ ⟨_, rfl⟩ ?_ (sb hs) (fields_obj ⟨_, _, hi', rfl⟩)
  show IsRangeIter h' a (lo + ((i + 1 : Nat) : Int)) ((cnt : Int) - ((i + 1 : Nat) : Int)) 1
  have e1 : lo + ((i + 1 : Nat) : Int) = lo + i + 1 := by omega
  have e2 : (cnt : Int) - ((i + 1 : Nat) : Int) = cnt - i - 1 := by omega
  rw [e1, e2]; exact hi'
 | byt b t =>
  have sr : l = b.toList.map fun ch => V.int (ch.toNat : Int) := sr
  subst sr
  rw [List.getElem?_map] at hy
  walk_at "z"
  obtain ⟨ch, hch, eN3⟩ := Option.map_eq_some_iff.mp hy
  walk_at "y"
  subst eN3
  refine KBw.next_item it (c := ch) (by simpa using hch) fun h' hi' hs => ?_
  walk_at "z"
  obtain ⟨o, ho, _, hd⟩ := id hi'
  walk_at "y"
  exact hQ _ h' _ ⟨_, rfl⟩ hi' (sb hs) (fields_obj ⟨o, _, ho, hd⟩)
theorem next_end {Q : Option Value → Shared → Prop} {k : Wk} (hh : A.handled = none) (S : St c.base fr μ H s.heap) (it : ItAt μ k a i s.heap) (sr : Src μ H s.heap k l) (hy : l.length ≤ i)
  (hQ : ∀ h', (∀ b o, b ≠ a → s.heap.get? b = some o → h'.get? b = some o) → Q none { s with heap := h' }) : wpAny c.M A (pyNext (.ref a)) Q E s := by
 have eb : ∀ {h' : Heap}, Heap.ExtBut a s.heap h' → ∀ b o, b ≠ a → s.heap.get? b = some o → h'.get? b = some o := fun hs b o hne e => hs b o hne e
 cases k with
 | list j =>
  walk_at "z"
  obtain ⟨ad, had, hi⟩ := it
  walk_at "y"
  walk_at "z"
  obtain ⟨ws, hv, rl⟩ := S.isList sr had
  walk_at "y"
  have hl := rl.length
  exact wpAny_pyNext_list_end hh hi hv (by simp; omega) fun h' hs => hQ h' (eb hs)
 | tup t =>
  walk_at "z"
  obtain ⟨t', ws, m, e, g, rl⟩ := sr
  walk_at "y"
  cases e
  have hl := rl.length
  exact wpAny_pyNext_tuple_end (items := ws.toArray) hh it ⟨_, g, rfl, m, rfl⟩ (by simp; omega) fun h' hs => hQ h' (eb hs)
 | str x t =>
  have sr : l = x.cps.toList.map fun ch => V.str ⟨#[ch]⟩ := sr
  subst sr
  rw [lMp] at hy
  have it : ItStr x t a i s.heap := it
  unfold ItStr at it
  split at it
  ·exact wpAny_pyNext_ascii_end hh it (by simpa using hy) fun h' hs => hQ h' (eb hs)
  ·exact wpAny_pyNext_wide_end hh it (by simpa using hy) fun h' hs => hQ h' (eb hs)
 | rng lo cnt =>
  have sr : l = (List.range cnt).map fun k : Nat => V.int (lo + (k : Int)) := sr
  subst sr
  rw [lMp, lRa] at hy
  exact wpAny_pyNext_range_end hh it (by omega) fun h' hs => hQ h' (eb hs)
 | byt b t =>
  have sr : l = b.toList.map fun ch => V.int (ch.toNat : Int) := sr
  subst sr
  rw [lMp] at hy
  exact KBw.next_end hh it (by simpa using hy) fun h' hs => hQ h' (eb hs)
end
noncomputable def Wk.li : Wk → Option Nat
 | .list j => some j
 | _ => none
noncomputable def LiOk (li : Option Nat) (l : List V) (H : List AO) : Prop := ∀ j, li = some j → H[j]? = some (.list l)
theorem Ext.repO (x : Ext fr (Own env) μ μ' s s') (S : St c.base fr μ H s.heap) (ow : InFr fr env.locals) {y : V} (r : Rep s.heap μ y v) : Rep s'.heap μ' y v :=
 r.mono x.keep (fun b vs n hd e => S.noTup b vs n (by
  rcases hd with h | h | h
  ·exact .inl h
  ·exact .inr h
  ·exact .inl (show InFr fr b from (show b = env.locals from h) ▸ ow)) e) x.pre
noncomputable def IterE (c : Cx) (n : Nat) (e : Expr) (ρ : Loc) (H : List AO) (K : Option Nat → List V → List AO → Prop) (X : Nat → List AO → Prop) : Prop :=
 ∀ (A : Around) (env : Env) (fr : List Env) (μ : Mp) (s : Shared), Sit c n A env fr μ H ρ s → ∀ (Q E : Value → Shared → Prop), (∀ k l H' μ' a s', K (Wk.li k) l H' → LiOk (Wk.li k) l H' → Ext fr N μ μ' s s' → St c.base fr μ' H' s'.heap → Src μ' H' s'.heap k l → ItAt μ' k a 0 s'.heap → Lone c fr μ' s'.heap a → s.heap.get? a = none → Q (.ref a) s') →
  ContX N c fr μ s X E → wpAny c.M A (eval e env) (fun x s₁ => wpAny c.M A (pyIter x) Q E s₁) E s
theorem Src.next {k : Wk} (x : Ext fr (Own env) μ μ' s s') (S : St c.base fr μ H s.heap) (ow : InFr fr env.locals) (r : Src μ H s.heap k l) (hl : LiOk k.li l H') : Src μ' H' s'.heap k l := by
 cases k with
 | list j => exact hl j rfl
 | tup t => exact x.repO S ow (y := .tup l) r
 | str y t => exact r
 | rng lo cnt => exact r
 | byt b t => exact r
theorem Src.lone {k : Wk} (ln : Lone c fr μ s.heap a) (hs : ∀ b o, b ≠ a → s.heap.get? b = some o → h'.get? b = some o) (r : Src μ H s.heap k l) : Src μ H h' k l := by
 cases k with
 | list j => exact r
 | tup t => exact ln.rep hs (x := .tup l) r
 | str y t => exact r
 | rng lo cnt => exact r
 | byt b t => exact r
section
variable {c : Cx} {n : Nat} {ρ : Loc} {H : List AO} {P : Fl → List AO → Prop} {X : Nat → List AO → Prop}
noncomputable def PF (J : Nat → Loc → List AO → Prop) (i : Nat) (li : Option Nat) (l : List V) (P : Fl → List AO → Prop) (fl : Fl) (H : List AO) : Prop := match fl with
 | .next ρ | .cont ρ => J i ρ H ∧ LiOk li l H
 | .brk _ => False
 | .ret v => P (.ret v) H
theorem ExS.for {x : String} (h : IterE c n e ρ H (fun li l H1 => ∃ J : Nat → Loc → List AO → Prop, J 0 ρ H1 ∧
   (∀ i y ρ1 H2, l[i]? = some y → J i ρ1 H2 → LiOk li l H2 → ∃ ρ2, Put ρ1 (so x) y ρ2 ∧ ExS c n body ρ2 H2 (PF J (i + 1) li l P) X) ∧ (∀ ρ1 H2, J l.length ρ1 H2 → ExS c n r ρ1 H2 P X)) X)
  (hn : 0 < n) (hs : ∀ env x, foldedSetIterable e env x = pure x := by intro _ _; rfl) : ExS c n (.For (.Name (so x) px) e body [] p :: r) ρ H P X := by
 refine ExS.cons (P' := fun fl H1 => (∃ ρ1, fl = .next ρ1 ∧ ExS c n r ρ1 H1 P X) ∨ ∃ v, fl = .ret v ∧ P fl H1) (fun A env fr μ s S ow Q E hQ hE => ?_) fun fl H1 h1 => by
  rcases h1 with ⟨ρ1, rfl, h⟩ | ⟨v, rfl, h⟩ <;> exact h
 have hb := S.st.stays
 have hh : A.handled = none := S.room.hd.resolve_left (Nat.ne_of_gt hn)
 refine wpAny_For (h A env fr μ s S _ _ (fun k l H0 μ0 a s0 hK hli x0 S0 sr0 it0 ln0 hna => ?_) hE.own) (hs env)
 walk_at "z"
 obtain ⟨J, j0, turn, fin⟩ := hK
 walk_at "y"
 have R0 := (S.next x0 S0).rho
 have nb : ∀ {μ' : Mp} {H' : List AO} {s2 s' : Shared} {i : Nat} {v : Value} {ρ2 : Loc} {μ2 : Mp} {H2 : List AO}, X i H' → Ext fr (Own env) μ μ2 s s2 → St c.base fr μ2 H2 s2.heap → Rho s2.heap μ2 env c ρ2 → Ext fr (Own env) μ2 μ' s2 s' → St c.base fr μ' H' s'.heap → Raised μ' H' i v s2 s' →
   notedBy c.M A env (fun e s' => cameBackBy c.M A env E e s') v s' := fun {μ' H' s2 s' i v ρ2 μ2 H2} hX x2 S2 R2 x3 S3 r =>
  ContX.nextO (E := notedBy c.M A env (fun e s' => cameBackBy c.M A env E e s')) (fun i H' μ' v s' hX x' S' r => noted_back S.stack S.eok ow hb hE hX x' S' r) x2 S2 R2 i H' μ' v s' hX x3 S3 r
 refine codeAny_forLoop (fun m s' => ∃ i ρ1 H1 μ1, m = l.length + 1 - i ∧ i ≤ l.length ∧ J i ρ1 H1 ∧ LiOk k.li l H1 ∧ Ext fr (Own env) μ μ1 s s' ∧ St c.base fr μ1 H1 s'.heap ∧ Rho s'.heap μ1 env c ρ1 ∧ Src μ1 H1 s'.heap k l ∧ ItAt μ1 k a i s'.heap ∧ Lone c fr μ1 s'.heap a)
  (fun m s1 hI => ?_) (l.length + 1) ⟨0, ρ, H0, μ0, rfl, Nat.zero_le _, j0, hli, x0.weaken fun _ z => z.elim, S0, R0, sr0, it0, ln0⟩
 walk_at "z"
 obtain ⟨i, ρ1, H1, μ1, eN1, hi, hJ, hl1, x1, S1, R1, sr1, it1, ln1⟩ := hI
 walk_at "y"
 subst eN1
 by_cases hlt : i < l.length
 ·have hy : l[i]? = some l[i] := gEg hlt
  refine next_item S1 it1 sr1 hy ln1 fun v h' tk rv it2 hsb ho => ?_
  have Sit1 : Sit c n A env fr μ1 H1 ρ1 s1 := ⟨S.room, S.stack, S.eok, S1, R1⟩
  have Sit2 := ln1.sit (tk := tk) (fun q => ln1.fr (q ▸ ow)) Sit1 hsb
  have x2 : Ext fr (Own env) μ μ1 s { s1 with heap := h', toks := tk } := x1.lone hna hsb
  have ln2 : Lone c fr μ1 h' a := ⟨ln1.new, ln1.nm, ln1.fr, ho⟩
  walk_at "z"
  obtain ⟨ρ2, hp, hx⟩ := turn i l[i] ρ1 H1 hy hJ hl1
  walk_at "y"
  refine wpAny_assign_Name (store_ok Sit2 rv hp fun s3 x3 S3 R3 => ?_)
  have x13 := x2.trans x3 (live_own x2 Sit2.st Sit2.rho)
  have aO : ¬ Own env a := fun q => ln1.fr ((show a = env.locals from q) ▸ ow)
  have l3 := ln2.next (s := { s1 with heap := h', toks := tk }) x3 aO
  refine hx A env fr μ1 s3 ⟨S.room, S.stack, S.eok, S3, R3⟩ ow _ _ (fun fl H4 μ4 f s4 h4 x4 S4 hf => ?_) (fun i H' μ' v s' hX x' S' r => nb hX x13 S3 R3 x' S' r)
  have x14 := x13.trans x4 (live_own x13 S3 R3)
  have l4 := l3.1.next x4 aO
  have it4 : ItAt μ4 k a (i + 1) s4.heap := it2.keep x4.pre (l4.2.trans l3.2)
  have sr3 : Src μ1 H1 s3.heap k l := Src.next x3 Sit2.st ow (sr1.lone ln1 hsb) hl1
  cases fl with
  | next ρ4 =>
   obtain ⟨rfl, R4⟩ := hf
   exact ⟨_, turn_lt hlt, i + 1, ρ4, H4, μ4, rfl, hlt, h4.1, h4.2, x14, S4, R4, Src.next x4 S3 ow sr3 h4.2, it4, l4.1⟩
  | cont ρ4 =>
   obtain ⟨rfl, R4⟩ := hf
   exact ⟨_, turn_lt hlt, i + 1, ρ4, H4, μ4, rfl, hlt, h4.1, h4.2, x14, S4, R4, Src.next x4 S3 ow sr3 h4.2, it4, l4.1⟩
  | brk ρ4 => exact h4.elim
  | ret v => obtain ⟨w, rfl, hw⟩ := id hf; exact hQ (.ret v) H4 μ4 _ s4 (.inr ⟨v, rfl, h4⟩) x14 S4 hf
 ·have e : i = l.length := by omega
  subst e
  refine next_end hh S1 it1 sr1 (Nat.le_refl _) fun h' hsb => ?_
  have Sit1 : Sit c n A env fr μ1 H1 ρ1 s1 := ⟨S.room, S.stack, S.eok, S1, R1⟩
  have Sit2 := ln1.sit (tk := s1.toks) (fun q => ln1.fr (q ▸ ow)) Sit1 hsb
  have x2 : Ext fr (Own env) μ μ1 s { s1 with heap := h' } := x1.lone (tk := s1.toks) hna hsb
  exact wpAny_execs_nil (hQ (.next ρ1) H1 μ1 _ _ (.inl ⟨ρ1, rfl, fin ρ1 H1 hJ⟩) x2 Sit2.st ⟨rfl, Sit2.rho⟩)
end
theorem ns_obj {m : Str → Option Value} (x : h.Ns a m) : ∃ o, h.get? a = some o ∧ (∀ vs n, o ≠ tpO vs n) ∧ ∀ v, o.data ≠ .cell v := by
 walk_at "z"
 obtain ⟨o, es, ep, h1, h2, _⟩ := x
 walk_at "y"
 exact ⟨o, h1, fun vs n q => by rw [q] at h2; simp [tpO] at h2, fun v q => by rw [q] at h2; cases h2⟩
theorem list_obj (x : h.get? a = some { cls := .type "list", data := .seq vs.toArray m }) : ∃ o, h.get? a = some o ∧ (∀ vs n, o ≠ tpO vs n) ∧ ∀ v, o.data ≠ .cell v :=
 ⟨_, x, fun vs n q => by simp [tpO] at q, fun v q => by cases q⟩
theorem St.adopt (S : St c.base fr μ H h) (ln : Lone c fr μ h a) (g : h.get? a = some { cls := .type "list", data := .seq vs.toArray m }) (r : RepL h μ l vs) :
  St c.base fr (μ ++ [(a, a)]) (H ++ [.list l]) h := by
 refine ⟨S.stays, S.frames, by rw [lAp, lAp, S.len]; rfl, fun i o' a' ho ha => ?_, ?_, fun L hL hm => ?_, fun b hm => ?_, S.frd⟩
 ·by_cases hi : i < H.length
  ·rw [gAl hi] at ho
   rw [gAl (S.len ▸ hi)] at ha
   exact (S.rel i o' a' ho ha).keeps (F := NoF) (D := NoF) (Kept.refl _ _ _) noTup_none (List.prefix_append _ _) rfl rfl
  ·have e1 : i = H.length := by
    have := (gsi.mp ho).1
    rw [lAp] at this
    simp only [lCo, lNi] at this
    omega
   subst e1
   rw [gAr (Nat.le_refl _), Nat.sub_self] at ho
   rw [gAr (Nat.le_of_eq S.len), S.len, Nat.sub_self] at ha
   cases ho; cases ha
   exact ⟨rfl, vs, m, g, r.mono (F := NoF) (D := NoF) (Kept.refl _ _ _) noTup_none (List.prefix_append _ _)⟩
 ·refine List.pairwise_append.mpr ⟨S.apart, List.pairwise_singleton _ _, fun x hx y hy => ?_⟩
  rw [List.mem_singleton] at hy
  subst hy
  have n1 : x.1 ≠ a := fun e => ln.nm ⟨x, hx, .inl e.symm⟩
  have n2 : x.2 ≠ a := fun e => ln.nm ⟨x, hx, .inr e.symm⟩
  exact ⟨n1, n1, n2, n2⟩
 ·walk_at "z"
  obtain ⟨x, hx, hb⟩ := hm
  walk_at "y"
  rcases List.mem_append.mp hx with hx | hx
  ·exact S.off L hL ⟨x, hx, hb⟩
  ·rw [List.mem_singleton] at hx
   subst hx
   have e : L = a := hb.elim id id
   exact ln.fr (e ▸ hL)
 ·walk_at "z"
  obtain ⟨x, hx, hb⟩ := hm
  walk_at "y"
  rcases List.mem_append.mp hx with hx | hx
  ·exact S.fresh b ⟨x, hx, hb⟩
  ·rw [List.mem_singleton] at hx
   subst hx
   have e : b = a := hb.elim id id
   rw [e]; exact ln.new
theorem Ext.adopt (x : Ext fr O μ μ' s s') (hn : s.heap.get? a = none) : Ext fr O μ (μ' ++ [(a, a)]) s s' := by
 refine ⟨x.pre.trans (List.prefix_append _ _), x.keep, fun i y hi hy => ?_, x.rest⟩
 by_cases hl : i < μ'.length
 ·rw [gAl hl] at hy; exact x.new i y hi hy
 ·have e : i = μ'.length := by
   have := (gsi.mp hy).1
   rw [lAp] at this
   simp only [lCo, lNi] at this
   omega
  subst e
  rw [gAr (Nat.le_refl _), Nat.sub_self] at hy
  cases hy
  exact ⟨hn, hn⟩
structure CompOk (c : Cx) (sc : Scope) (x : Str) (ρ ρc : Loc) : Prop where
 kind : sc.kind = .function
 cell : ∀ y ∈ sc.names, y.2 ≠ .cell
 loc : ∀ y ∈ sc.names, y.2 = .local → sc.names.lookup y.1 = some .local
 own : sc.names.lookup x = some .local
 nd : ((x :: ρc.map (·.1))).Nodup
 sub : ∀ e ∈ ρc, (e.2.1 = .glob ∧ sc.names.lookup e.1 = some .globalImplicit ∧ ∀ y, e.2.2 = some y → GOk c e.1 y) ∨ (e ∈ ρ ∧ e.2.1 = .cell ∧ sc.names.lookup e.1 = some .free)
 free : ∀ y ∈ sc.names, y.2 = .free → ∃ V, (y.1, Kd.cell, V) ∈ ρ
theorem closure_go (names : List (Str × NameKind)) : ∀ (cs : List (Str × Addr)), (∀ y ∈ names, y.2 = .free → ∃ ca, env.cells.lookup y.1 = some ca) → (∀ y ∈ cs, env.cells.lookup y.1 = some y.2) →
  ∃ cl : List (Str × Addr), (forIn names cs (fun x r => match x with | (name, kind) => if (kind == NameKind.free) = true then do let a ← cellOf env name; pure (ForInStep.yield ((name, a) :: r)) else pure (ForInStep.yield r)) : Sem (List (Str × Addr))) = pure cl ∧
   (∀ y ∈ cl, env.cells.lookup y.1 = some y.2) ∧ (∀ y ∈ names, y.2 = .free → ∃ a, (y.1, a) ∈ cl) ∧ ∀ y ∈ cs, y ∈ cl := by
 induction names with
 | nil => exact fun cs _ hc => ⟨cs, rfl, hc, fun _ h => (nomatch h), fun _ h => h⟩
 | cons e r ih =>
  intro cs hf hc
  obtain ⟨n, k⟩ := e
  rw [List.forIn_cons]
  by_cases hk : k = .free
  ·subst hk
   obtain ⟨ca, hca⟩ := hf (n, .free) (.head _) rfl
   have e : cellOf env n = pure ca := by unfold cellOf; rw [hca]
   obtain ⟨cl, h1, h2, h3, h4⟩ := ih ((n, ca) :: cs) (fun y hy => hf y (.tail _ hy)) (fun y hy => by
    rcases List.mem_cons.mp hy with rfl | hy
    ·exact hca
    ·exact hc y hy)
   refine ⟨cl, ?_, h2, fun y hy hyf => ?_, fun y hy => h4 y (.tail _ hy)⟩
   ·simp only [beq_self_eq_true, if_true, e, pure_bind]; exact h1
   ·rcases List.mem_cons.mp hy with rfl | hy
    ·exact ⟨ca, h4 _ (.head _)⟩
    ·exact h3 y hy hyf
  ·walk_at "z"
   obtain ⟨cl, h1, h2, h3, h4⟩ := ih cs (fun y hy => hf y (.tail _ hy)) hc
   walk_at "y"
   refine ⟨cl, ?_, h2, fun y hy hyf => ?_, h4⟩
   ·have : (k == NameKind.free) = false := by simpa using hk
    simp only [this, Bool.false_eq_true, if_false, pure_bind]; exact h1
   ·rcases List.mem_cons.mp hy with rfl | hy
    ·exact absurd hyf hk
    ·exact h3 y hy hyf
theorem lookup_same {cl : List (Str × Addr)} {cells : List (Str × Addr)} (h : ∀ y ∈ cl, cells.lookup y.1 = some y.2) {n : Str} (hm : (n, a) ∈ cl) : cl.lookup n = cells.lookup n := by
 induction cl with
 | nil => cases hm
 | cons e r ih =>
  obtain ⟨n', a'⟩ := e
  rw [List.lookup_cons]
  cases hx : n == n' with
  | true =>
   have : n = n' := by simpa using hx
   subst this
   exact (h (n, a') (.head _)).symm
  | false =>
   rcases List.mem_cons.mp hm with hm | hm
   ·cases hm; simp at hx
   ·exact ih (fun y hy => h y (.tail _ hy)) hm
theorem mem_of_lk {α β : Type} [BEq α] [LawfulBEq α] {a : α} {b : β} {l : List (α × β)} (h : l.lookup a = some b) : (a, b) ∈ l := by
 induction l with
 | nil => cases h
 | cons e t ih =>
  rw [List.lookup_cons] at h
  cases hx : a == e.1 with
  | true => rw [hx] at h; cases h; rw [eq_of_beq hx]; exact .head _
  | false => rw [hx] at h; exact .tail _ (ih h)
theorem lookup_map {α β : Type} [BEq α] [LawfulBEq α] (g : α → β → β) {x : α} {k : β} {l : List (α × β)} (h : l.lookup x = some k) : (l.map fun e => (e.1, g e.1 e.2)).lookup x = some (g x k) := by
 induction l with
 | nil => cases h
 | cons e t ih =>
  rw [List.lookup_cons] at h
  rw [List.map_cons, List.lookup_cons]
  cases hx : x == e.1 with
  | true => rw [hx] at h; cases h; rw [eq_of_beq hx]
  | false => rw [hx] at h; exact ih h
theorem relabel_lookup {names : List (Str × NameKind)} {k : NameKind} (h : names.lookup x = some k) :
  (names.map fun (n, k) => if (k == NameKind.free && env.scope.kind == .function && env.kindOf n == some .cell) then (n, NameKind.cell) else (n, k)).lookup x = some (if (k == NameKind.free && env.scope.kind == .function && env.kindOf x == some .cell) = true then .cell else k) := by
 have q := lookup_map (fun n k => if (k == NameKind.free && env.scope.kind == .function && env.kindOf n == some .cell) = true then .cell else k) h
 refine (congrArg (fun f => List.lookup x (List.map f names)) (funext fun e => ?_)).trans q
 by_cases hc : (e.2 == NameKind.free && env.scope.kind == .function && env.kindOf e.1 == some .cell) = true
 ·exact (if_pos hc).trans (congrArg _ (if_pos hc).symm)
 ·exact (if_neg hc).trans (congrArg _ (if_neg hc).symm)
theorem iter_self {k : Wk} (it : ItAt μ k a i s.heap) (h : Q (.ref a) s) : wpAny c.M A (pyIter (.ref a)) Q E s := by
 cases k with
 | list j => obtain ⟨l, _, hi⟩ := it; exact wpAny_pyIter_listiter hi h
 | tup t => exact wpAny_pyIter_tupleiter it h
 | str x t =>
  have it : ItStr x t a i s.heap := it
  unfold ItStr at it
  split at it
  ·exact wpAny_pyIter_striter_ascii it h
  ·exact wpAny_pyIter_striter_wide it h
 | rng lo cnt => exact wpAny_pyIter_rangeiter it h
 | byt b t => exact KBw.pyIter_self it h
noncomputable def NoX : Nat → List AO → Prop := fun _ _ => False
noncomputable def TestE (c : Cx) (n : Nat) (ifs : List Expr) (ρ : Loc) (H : List AO) (R : Bool → List AO → Prop) : Prop := match ifs with
 | [] => R true H
 | [t] => BoE c n t ρ H R NoX
 | _ => False
section
variable {c : Cx} {n : Nat} {ρ : Loc} {H : List AO}
theorem comp_rho {y : V} {m : Str → Option Value} {cl : List (Str × Addr)} (S : Sit c n A env fr μ H ρ s) (ok : CompOk c sc x ρ ρc) (hcl : ∀ y ∈ sc.names, y.2 = .free → ∃ a, (y.1, a) ∈ cl) (hce : ∀ y ∈ cl, env.cells.lookup y.1 = some y.2)
  (hn : s.heap.Ns C m) (hx : m x = some v) (ry : Rep s.heap μ y v) (ln : Lone c fr μ s.heap C) : Sit c n A (compEnvC sc cl C env) fr μ H ((x, .loc, some y) :: ρc) s := by
 walk_at "z"
 obtain ⟨m₀, hn₀, hm₀, hb₀, hnd₀, hr₀⟩ := S.rho
 walk_at "y"
 refine ⟨S.room, S.stack, ⟨?_, S.eok.glob, S.eok.blt, S.eok.frame⟩, S.st, m, hn, ln.nm, ln.new, ok.nd, fun z k V hz => ?_⟩
 ·show (relabel sc env).kind = .function
  exact ok.kind
 ·rcases List.mem_cons.mp hz with hz | hz
  ·cases hz
   exact ⟨lookup_relabel_local ok.own, fun w hw => by cases hw; exact ⟨v, hx, ry⟩⟩
  ·rcases ok.sub _ hz with ⟨hk, hl, hg⟩ | ⟨h1, hk, hl⟩
   ·have hk : k = .glob := hk
    subst hk
    refine ⟨?_, hg⟩
    have := relabel_lookup (env := env) hl
    exact this
   ·have hk : k = .cell := hk
    subst hk
    have q := hr₀ z .cell V h1
    walk_at "z"
    obtain ⟨q1, ca, c0, q2, q3, q4, q5⟩ := q
    walk_at "y"
    refine ⟨?_, ca, c0, ?_, q3, q4, q5⟩
    ·have r := relabel_lookup (env := env) hl
     have e : (NameKind.free == NameKind.free && env.scope.kind == .function && env.kindOf z == some .cell) = true := by rw [S.eok.kind, q1]; rfl
     rw [if_pos e] at r
     exact r
    ·have hmem : (z, NameKind.free) ∈ sc.names := mem_of_lk hl
     obtain ⟨a, ha⟩ := hcl _ hmem rfl
     show cl.lookup z = some ca
     rw [lookup_same hce ha]; exact q2
end
section
variable {c : Cx} {n : Nat} {ρ : Loc} {H : List AO} {A : Around} {fr : List Env}
theorem lone_new (S : St c.base fr μ H h) (e : h.get? a = none) (ho : ∃ o, h'.get? a = some o ∧ (∀ vs n, o ≠ tpO vs n) ∧ ∀ v, o.data ≠ .cell v) : Lone c fr μ h' a := by
 refine ⟨base_none S.stays e, fun hm => ?_, fun hf => ?_, ho⟩
 ·obtain ⟨o, h1, _⟩ := S.live hm; rw [e] at h1; cases h1
 ·obtain ⟨m, o, es, ep, h1, _⟩ := S.frd a hf; rw [e] at h1; cases h1
theorem tests_ok {ifs : List Expr} {Q : Bool → Shared → Prop} {R : Bool → List AO → Prop} (h : TestE c n ifs ρ H R) (S : Sit c n A env fr μ H ρ s) (hQ : ContB N c fr μ s R Q) :
  wpAny c.M A (forIn ifs true fun c r => if r = true then do let ok ← isTrue c env (eval c env); pure (ForInStep.yield ok) else pure (ForInStep.yield r)) Q E s := by
 match ifs, h with
 | [], h => exact wpAny_tests_nil (hQ.now S.st h)
 | [t], h => exact wpAny_tests_one (h A env fr μ s S _ _ hQ fun _ _ _ _ _ hX => hX.elim)
 | _ :: _ :: _, h => exact h.elim
structure CEnd (c : Cx) (fr : List Env) (μ : Mp) (s : Shared) (acc : List V) (D C : Addr) (He : List AO) (μe : Mp) (se : Shared) : Prop where
 x : Ext fr N μ μe s se
 st : St c.base fr μe He se.heap
 lD : Lone c fr μe se.heap D
 lC : Lone c fr μe se.heap C
 nD : s.heap.get? D = none
 nC : s.heap.get? C = none
 ne : D ≠ C
 ls : ∃ vs m, se.heap.get? D = some { cls := .type "list", data := .seq (vs : List Value).toArray m } ∧ RepL se.heap μe acc vs
 ns : ∃ m, se.heap.Ns C m
theorem lone_append {D : Addr} {ws : List Value} (g : s.heap.get? D = some { cls := .type "list", data := .seq ws.toArray m }) (hs : ws.length ≤ sizeLine)
  (hQ : ∀ h' m', h'.get? D = some { cls := .type "list", data := .seq (ws ++ [v]).toArray m' } → (∀ b, b ≠ D → h'.get? b = s.heap.get? b) → Q .none { s with heap := h' }) : wpAny c.M A (call (.builtin "list.append") [.ref D, v]) Q E s := by
 have hv : s.heap.IsList D ws.toArray := ⟨_, g, rfl, m, rfl⟩
 refine wpAny_call_entry slot_list_append hv.typeIs entry_list_append ?_ (args_list_append _ _)
 show wpAny _ _ (updateSeq D (·.push v) >>= fun _ => ret .none) _ _ s
 have z1 : ws.toArray.size ≤ sizeLine := by rw [List.size_toArray]; exact hs
 have z2 : (ws.toArray.push v).size ≤ sizeLine + 1 := by rw [Array.size_push]; omega
 refine wpAny_bind (wpAny_updateSeq (hz := z1) (_hz' := z2) g rfl (wpAny_pure ⟨.none, rfl, ?_⟩))
 obtain ⟨m', hd'⟩ := Obj.data_mapSeq (o := { cls := .type "list", data := .seq ws.toArray m }) rfl (·.push v)
 have hU := Heap.get?_update_self (Obj.mapSeq (·.push v)) g (Obj.isFreed_of_seq hd')
 have he : Obj.mapSeq (·.push v) { cls := .type "list", data := .seq ws.toArray m } = { cls := .type "list", data := .seq (ws ++ [v]).toArray m' } := by
  have e1 : Obj.mapSeq (·.push v) { cls := .type "list", data := .seq ws.toArray m } = { cls := .type "list", data := (Obj.mapSeq (·.push v) { cls := .type "list", data := .seq ws.toArray m }).data } := rfl
  rw [e1, hd']; simp
 rw [he] at hU
 exact hQ _ m' hU fun b hne => gUo s.heap _ (Ne.symm hne)
theorem comp_loop {μ1 : Mp} {s1 : Shared} {RR : Result → Shared → Prop} {x : String} {elt iter : Expr} {ifs : List Expr} {cl : List (Str × Addr)} {k : Wk} {it D : Addr}
  (J : Nat → List V → List AO → Prop) (S : Sit c n A env fr μ H ρ s) (hn : 0 < n) (ok : CompOk c sc (so x) ρ ρc) (hcl : ∀ y ∈ sc.names, y.2 = .free → ∃ a, (y.1, a) ∈ cl) (hce : ∀ y ∈ cl, env.cells.lookup y.1 = some y.2) (hl : l.length ≤ sizeLine)
  (turn : ∀ i y acc H2, l[i]? = some y → J i acc H2 → LiOk k.li l H2 → TestE c n ifs ((so x, .loc, some y) :: ρc) H2 (fun b H3 => LiOk k.li l H3 ∧ (b = false → J (i + 1) acc H3) ∧ (b = true → EvE c n elt ((so x, .loc, some y) :: ρc) H3 (fun v H4 => J (i + 1) (acc ++ [v]) H4 ∧ LiOk k.li l H4) NoX)))
  (j0 : J 0 [] H1) (hli : LiOk k.li l H1) (sr : Src μ1 H1 s1.heap k l) (i0 : ItAt μ1 k it 0 s1.heap) (lI : Lone c fr μ1 s1.heap it) (nI : s.heap.get? it = none) (e1 : CEnd c fr μ s [] D C H1 μ1 s1) (dI : it ≠ D) (dC : it ≠ C)
  (fin : ∀ acc He μe se, J l.length acc He → acc.length ≤ l.length → CEnd c fr μ s acc D C He μe se → RR (.ok .next) se) :
  codeAny c.M A (.compLoop (.ListComp elt [⟨.Name (so x) px, iter, ifs, 0⟩] sc pos) 0 (.ref it) (.ref D) (compEnvC sc cl C env)) RR s1 := by
 have hh : A.handled = none := S.room.hd.resolve_left (Nat.ne_of_gt hn)
 refine codeAny_compLoop_tests (fun m s' => ∃ i acc H2 μ2, m = l.length + 1 - i ∧ i ≤ l.length ∧ acc.length ≤ i ∧ J i acc H2 ∧ LiOk k.li l H2 ∧ Src μ2 H2 s'.heap k l ∧ ItAt μ2 k it i s'.heap ∧ Lone c fr μ2 s'.heap it ∧ CEnd c fr μ s acc D C H2 μ2 s') (fun m s' hI => ?_) (l.length + 1)
  ⟨0, [], H1, μ1, rfl, Nat.zero_le _, Nat.le_refl _, j0, hli, sr, i0, lI, e1⟩
 walk_at "z"
 obtain ⟨i, acc, H2, μ2, eN1, hi, ha, hJ, hl2, sr2, it2, ln2, ce⟩ := hI
 walk_at "y"
 subst eN1
 walk_at "z"
 obtain ⟨x2, S2, lD, lC, nD, nC, ne, ⟨vs, mm, gD, rl⟩, mC, hC⟩ := ce
 walk_at "y"
 by_cases hlt : i < l.length
 ·have hy : l[i]? = some l[i] := gEg hlt
  refine next_item S2 it2 sr2 hy ln2 fun v h' tk rv it3 hsb ho => ?_
  have S3 := ln2.st S2 hsb
  have x3 : Ext fr N μ μ2 s { s' with heap := h', toks := tk } := x2.lone nI hsb
  have lI3 : Lone c fr μ2 h' it := ⟨ln2.new, ln2.nm, ln2.fr, ho⟩
  have kI : ∀ {a : Addr}, a ≠ it → Lone c fr μ2 s'.heap a → Lone c fr μ2 h' a := fun hne l => ⟨l.new, l.nm, l.fr, let ⟨o, h1, h2⟩ := l.obj; ⟨o, hsb _ o hne h1, h2⟩⟩
  have lD3 := kI (Ne.symm dI) lD
  have lC3 := kI (Ne.symm dC) lC
  have gD3 : h'.get? D = _ := hsb _ _ (Ne.symm dI) gD
  have hC3 : h'.Ns C mC := by obtain ⟨o, es, ep, g1, g2⟩ := hC; exact ⟨o, es, ep, hsb _ _ (Ne.symm dC) g1, g2⟩
  have rl3 := ln2.repL hsb rl
  have sr3 := sr2.lone ln2 hsb
  refine wpAny_assign_Name (wpAny_storeName_local (env := compEnvC sc cl C env) (lookup_relabel_local ok.own) hC3 (fun h4 hC4 hs4 => ?_) (by
   show ((relabel sc env).kind == .class || ((relabel sc env).kind == .module && _)) = false
   rw [show (relabel sc env).kind = .function from ok.kind]; rfl))
  have hs4' : ∀ b o, b ≠ C → h'.get? b = some o → h4.get? b = some o := fun b o hne e => (hs4.2 b hne).trans e
  have L3 : Lone c fr μ2 ({ s' with heap := h', toks := tk } : Shared).heap C := lC3
  have S4 := L3.st S3 hs4'
  have x4 : Ext fr N μ μ2 s { s' with heap := h4, toks := tk + 1 } := x3.lone (tk := tk + 1) nC hs4'
  have lC4 : Lone c fr μ2 h4 C := ⟨lC3.new, lC3.nm, lC3.fr, ns_obj hC4⟩
  have kC : ∀ {a : Addr}, a ≠ C → Lone c fr μ2 h' a → Lone c fr μ2 h4 a := fun hne l => ⟨l.new, l.nm, l.fr, let ⟨o, h1, h2⟩ := l.obj; ⟨o, hs4' _ o hne h1, h2⟩⟩
  have lD4 := kC ne lD3
  have lI4 := kC dC lI3
  have gD4 : h4.get? D = _ := hs4' _ _ ne gD3
  have rl4 := L3.repL hs4' rl3
  have sr4 := sr3.lone L3 hs4'
  have it4 : ItAt μ2 k it (i + 1) h4 := it3.keep (pRe _) (hs4.2 it dC)
  have rv4 := L3.rep hs4' rv
  have Sit4 : Sit c n A env fr μ2 H2 ρ { s' with heap := h4, toks := tk + 1 } := S.next x4 S4
  have SitC : Sit c n A (compEnvC sc cl C env) fr μ2 H2 ((so x, .loc, some l[i]) :: ρc) { s' with heap := h4, toks := tk + 1 } := comp_rho Sit4 ok hcl hce hC4 (if_pos rfl) rv4 lC4
  refine tests_ok (turn i l[i] acc H2 hy hJ hl2) SitC (fun b H5 μ5 s5 h5 x5 S5 => ?_)
  have nN : ∀ a, ¬ N a := fun _ z => z
  have D5 := lD4.next (s := { s' with heap := h4, toks := tk + 1 }) x5 (nN _)
  have C5 := lC4.next (s := { s' with heap := h4, toks := tk + 1 }) x5 (nN _)
  have I5 := lI4.next (s := { s' with heap := h4, toks := tk + 1 }) x5 (nN _)
  have x05 := x4.comp S4 x5
  obtain ⟨m5, ns5⟩ : ∃ m, s5.heap.Ns C m := by obtain ⟨o, es, ep, g1, g2⟩ := hC4; exact ⟨_, o, es, ep, C5.2.trans g1, g2⟩
  have rl5 := x5.repL S4 rl4
  have srN : ∀ {μ' : Mp} {H' : List AO} {s0 s' : Shared} {H0 : List AO} {μ0 : Mp}, Ext fr N μ0 μ' s0 s' → St c.base fr μ0 H0 s0.heap → Src μ0 H0 s0.heap k l → LiOk k.li l H' → Src μ' H' s'.heap k l := fun {μ' H' s0 s' H0 μ0} x S r hl => by
   cases k with
   | list j => exact hl j rfl
   | tup t => exact x.rep S (y := .tup l) r
   | str y t => exact r
   | rng lo cnt => exact r
   | byt b t => exact r
  cases b with
  | false =>
   have hJ5 := h5.2.1 rfl
   have hl5 := h5.1
   exact ⟨_, turn_lt hlt, i + 1, acc, H5, μ5, rfl, hlt, by omega, hJ5, hl5, srN x5 S4 sr4 hl5, it4.keep x5.pre I5.2, I5.1, x05, S5, D5.1, C5.1, nD, nC, ne, ⟨vs, mm, D5.2.trans gD4, rl5⟩, m5, ns5⟩
  | true =>
   refine h5.2.2 rfl A (compEnvC sc cl C env) fr μ5 s5 (SitC.next x5 S5) _ _ (fun y H6 μ6 w s6 h6 x6 S6 r6 => ?_) fun _ _ _ _ _ hX => hX.elim
   obtain ⟨hJ6, hl6⟩ := h6
   have D6 := D5.1.next x6 (nN _)
   have C6 := C5.1.next x6 (nN _)
   have I6 := I5.1.next x6 (nN _)
   have g6 : s6.heap.get? D = _ := D6.2.trans (D5.2.trans gD4)
   have rl6 := x6.repL S5 rl5
   refine lone_append g6 (by rw [rl6.length]; omega) fun h7 m7 g7 hs7 => ?_
   have hs7' : ∀ b o, b ≠ D → s6.heap.get? b = some o → h7.get? b = some o := fun b o hne e => (hs7 b hne).trans e
   have x06 := x05.comp S5 x6
   refine ⟨_, turn_lt hlt, i + 1, acc ++ [y], H6, μ6, rfl, hlt, by rw [lAp]; simp only [lCo, lNi]; omega, hJ6, hl6, (srN x6 S5 (srN x5 S4 sr4 h5.1) hl6).lone D6.1 hs7', (it4.keep x5.pre I5.2).keep x6.pre ((hs7 it dI).trans I6.2), ⟨I6.1.new, I6.1.nm, I6.1.fr, let ⟨o, h1, h2⟩ := I6.1.obj; ⟨o, hs7' _ o dI h1, h2⟩⟩, x06.lone (tk := s6.toks) nD hs7', D6.1.st S6 hs7', ⟨D6.1.new, D6.1.nm, D6.1.fr, list_obj g7⟩, ⟨C6.1.new, C6.1.nm, C6.1.fr, let ⟨o, h1, h2⟩ := C6.1.obj; ⟨o, hs7' _ o (Ne.symm ne) h1, h2⟩⟩, nD, nC, ne, ⟨vs ++ [w], m7, g7, (D6.1.repL hs7' rl6).app (RepL.one (D6.1.rep hs7' r6))⟩, m5, ?_⟩
   walk_at "z"
   obtain ⟨o, es, ep, g1, g2⟩ := ns5
   walk_at "y"
   exact ⟨o, es, ep, hs7' _ _ (Ne.symm ne) (C6.2.trans g1), g2⟩
 ·have e : i = l.length := by omega
  subst e
  refine next_end hh S2 it2 sr2 (Nat.le_refl _) fun h' hsb => ?_
  have kI : ∀ {a : Addr}, a ≠ it → Lone c fr μ2 s'.heap a → Lone c fr μ2 h' a := fun hne l => ⟨l.new, l.nm, l.fr, let ⟨o, h1, h2⟩ := l.obj; ⟨o, hsb _ o hne h1, h2⟩⟩
  exact fin acc H2 μ2 _ hJ ha ⟨x2.lone (tk := s'.toks) nI hsb, ln2.st S2 hsb, kI (Ne.symm dI) lD, kI (Ne.symm dC) lC, nD, nC, ne, ⟨vs, mm, hsb _ _ (Ne.symm dI) gD, ln2.repL hsb rl⟩, mC, by obtain ⟨o, es, ep, g1, g2⟩ := hC; exact ⟨o, es, ep, hsb _ _ (Ne.symm dC) g1, g2⟩⟩
end
theorem closure_ok (h : ∀ y ∈ sc.names, y.2 = .free → ∃ ca, env.cells.lookup y.1 = some ca) : ∃ cl : List (Str × Addr), closureFor sc env = pure cl ∧ (∀ y ∈ cl, env.cells.lookup y.1 = some y.2) ∧ (∀ y ∈ sc.names, y.2 = .free → ∃ a, (y.1, a) ∈ cl) := by
 walk_at "z"
 obtain ⟨cl, h1, h2, h3, _⟩ := closure_go (env := env) sc.names [] h (fun _ hy => nomatch hy)
 walk_at "y"
 refine ⟨cl, ?_, h2, h3⟩
 unfold closureFor
 simp only [bind_pure]
 rw [← h1]
section
variable {c : Cx} {n : Nat} {ρ : Loc} {H : List AO} {R : V → List AO → Prop} {P : Fl → List AO → Prop} {X : Nat → List AO → Prop}
noncomputable def CompT (c : Cx) (n : Nat) (x : String) (ifs : List Expr) (elt : Expr) (ρc : Loc) (li : Option Nat) (l : List V) (J : Nat → List V → List AO → Prop) : Prop :=
 ∀ i y acc H2, l[i]? = some y → J i acc H2 → LiOk li l H2 → TestE c n ifs ((so x, .loc, some y) :: ρc) H2 (fun b H3 => LiOk li l H3 ∧ (b = false → J (i + 1) acc H3) ∧ (b = true → EvE c n elt ((so x, .loc, some y) :: ρc) H3 (fun v H4 => J (i + 1) (acc ++ [v]) H4 ∧ LiOk li l H4) NoX))
theorem comp_go {μ1 : Mp} {s1 : Shared} {RR : Value → Addr → Result → Shared → Prop} {x : String} {elt iter : Expr} {ifs : List Expr} {cl : List (Str × Addr)} {k : Wk} {it : Addr}
  (J : Nat → List V → List AO → Prop) (S : Sit c n A env fr μ H ρ s) (hn : 0 < n) (ok : CompOk c sc (so x) ρ ρc) (hcl : ∀ y ∈ sc.names, y.2 = .free → ∃ a, (y.1, a) ∈ cl) (hce : ∀ y ∈ cl, env.cells.lookup y.1 = some y.2) (hl : l.length ≤ sizeLine) (turn : CompT c n x ifs elt ρc k.li l J)
  (j0 : J 0 [] H1) (hli : LiOk k.li l H1) (x1 : Ext fr N μ μ1 s s1) (S1 : St c.base fr μ1 H1 s1.heap) (sr : Src μ1 H1 s1.heap k l) (i0 : ItAt μ1 k it 0 s1.heap) (lI : Lone c fr μ1 s1.heap it) (nI : s.heap.get? it = none)
  (fin : ∀ D C acc He μe se, J l.length acc He → acc.length ≤ l.length → CEnd c fr μ s acc D C He μe se → RR (.ref D) C (.ok .next) se) :
  wpAny c.M A (newList []) (fun acc s₃ => wpAny c.M A (newFunctionEnv sc env.globals cl [] env.qual none .none (some env)) (fun cenv s₄ =>
   codeAny c.M A (.compStart (.ListComp elt [⟨.Name (so x) px, iter, ifs, 0⟩] sc pos) 0 (.ref it) acc { cenv with scope := relabel sc env }) (RR acc cenv.locals) s₄) E s₃) E s1 := by
 refine wpAny_newObj_type (wpAny_newFunctionEnv ok.cell (by intro y hy; simp at hy) (fun h₁ hns₁ hsb₁ => ?_) ok.kind)
 dsimp only at hns₁ hsb₁ ⊢
 generalize hH2 : s1.heap.push { cls := .type "list", dict := none, data := .seq ([] : List Value).toArray } = H2' at hns₁ hsb₁ ⊢
 have hC : H2'.objs.size = s1.heap.objs.size + 1 := by rw [← hH2, Heap.size_push]
 have hDC : s1.heap.objs.size ≠ H2'.objs.size := by rw [hC]; exact Nat.ne_of_lt (Nat.lt_succ_self _)
 have fresh : ∀ a, s1.heap.objs.size ≤ a → s1.heap.get? a = none := fun a ha => by
  cases e : s1.heap.get? a with
  | none => rfl
  | some o' => exact absurd (Heap.lt_size e) (Nat.not_lt.mpr ha)
 have nD1 := fresh _ (Nat.le_refl _)
 have nC1 : s1.heap.get? H2'.objs.size = none := fresh _ (by rw [hC]; exact Nat.le_succ _)
 have old : ∀ b o, s1.heap.get? b = some o → h₁.get? b = some o := fun b o e => hsb₁.extBut b o (fun q => by rw [q, nC1] at e; cases e) (gPs _ (hH2 ▸ gPs _ e))
 have gD : h₁.get? s1.heap.objs.size = some { cls := .type "list", data := .seq ([] : List Value).toArray 0 } := hsb₁.extBut _ _ hDC (gPs _ (hH2 ▸ gPz _ rfl))
 have xk : ∀ tk, Ext fr N μ1 μ1 s1 { s1 with heap := h₁, toks := tk } := fun tk => Ext.of_keeps old
 walk_at "z"
 obtain ⟨oi, hoi, _⟩ := lI.obj
 walk_at "y"
 have loop : ∀ s₃ : Shared, s₃ = { s1 with heap := h₁, toks := s1.toks + ([] : List (Str × Value)).length } →
   codeAny c.M A (.compLoop (.ListComp elt [⟨.Name (so x) px, iter, ifs, 0⟩] sc pos) 0 (.ref it) (.ref s1.heap.objs.size) (compEnvC sc cl H2'.objs.size env)) (RR (.ref s1.heap.objs.size) H2'.objs.size) s₃ := by
  rintro s₃ rfl
  have lI' := lI.next (xk (s1.toks + ([] : List (Str × Value)).length)) (fun z => z)
  refine comp_loop J S hn ok hcl hce hl turn j0 hli ?_ (i0.keep (pRe _) (hoi.symm ▸ old _ _ hoi)) lI'.1 nI ⟨x1.comp S1 (xk _), S1.keeps old, lone_new S1 nD1 (list_obj gD), lone_new S1 nC1 (ns_obj hns₁), ?_, ?_, hDC, ⟨[], 0, gD, rfl⟩, _, hns₁⟩ (fun q => by rw [q, nD1] at hoi; cases hoi) (fun q => by rw [q, nC1] at hoi; cases hoi) (fun acc He μe se h1 h2 h3 => fin _ _ acc He μe se h1 h2 h3)
  ·cases k with
   | list j => exact sr
   | tup t => exact (xk 0).rep S1 (y := .tup l) sr
   | str y t => exact sr
   | rng lo cnt => exact sr
   | byt b t => exact sr
  ·exact none_back x1 S1 nD1
  ·exact none_back x1 S1 nC1
 exact codeAny_compStart_list (loop _ rfl) (iter_self (μ := μ1) (k := k) (i := 0) (i0.keep (pRe _) (hoi.symm ▸ old _ _ hoi)) (loop _ rfl))
theorem ev_comp {x : String} {elt iter : Expr} {ifs : List Expr}
  (h : IterE c n iter ρ H (fun li l H1 => l.length ≤ sizeLine ∧ ∃ J : Nat → List V → List AO → Prop, J 0 [] H1 ∧ CompT c n x ifs elt ρc li l J ∧ (∀ acc H2, J l.length acc H2 → acc.length ≤ l.length → R (.obj H2.length) (H2 ++ [.list acc]))) X)
  (ok : CompOk c sc (so x) ρ ρc) (hn : 0 < n) (hs : ∀ env x, foldedSetIterable iter env x = pure x := by intro _ _; rfl) : EvE c n (.ListComp elt [⟨.Name (so x) px, iter, ifs, 0⟩] sc pos) ρ H R X := by
 intro A env fr μ s S Q E hQ hE
 show wpAny _ _ (eval _ env) _ _ _
 rw [eval_ListComp]
 walk_at "z"
 obtain ⟨m₀, hn₀, hm₀, hb₀, hnd₀, hr₀⟩ := S.rho
 walk_at "y"
 obtain ⟨cl, h1, h2, h3⟩ := closure_ok (sc := sc) (env := env) fun y hy hf => by
  obtain ⟨V, hV⟩ := ok.free y hy hf
  walk_at "z"
  obtain ⟨_, ca, c0, q, _⟩ := hr₀ _ _ _ hV
  walk_at "y"
  exact ⟨ca, q⟩
 refine wpAny_comprehension_free (use := none) rfl (hs env) h1 ok.kind ok.loc (h A env fr μ s S _ E (fun k l H1 μ1 it s1 hK hli x1 S1 sr i0 lI nI => ?_) hE)
 walk_at "z"
 obtain ⟨hl, J, j0, turn, fin⟩ := hK
 walk_at "y"
 refine comp_go J S hn ok h3 h2 hl turn j0 hli x1 S1 sr i0 lI nI (RR := fun acc C => compPost c.M A E none Q acc C) fun D C acc He μe se hJ ha ce => ?_
 obtain ⟨m, hm⟩ := ce.ns
 walk_at "z"
 obtain ⟨vs, mm, g, rl⟩ := ce.ls
 walk_at "y"
 refine ⟨m, hm, fun h' hs' => ?_⟩
 have hs2 : ∀ b o, b ≠ C → se.heap.get? b = some o → h'.get? b = some o := fun b o hne e => hs'.extBut b o hne e
 have S' := ce.lC.st ce.st hs2
 have g' := hs2 _ _ ce.ne g
 have lD' : Lone c fr μe h' D := ⟨ce.lD.new, ce.lD.nm, ce.lD.fr, list_obj g'⟩
 have x' : Ext fr N μ μe s { se with heap := h' } := ce.x.lone (tk := se.toks) ce.nC hs2
 refine hQ (.obj He.length) _ (μe ++ [(D, D)]) _ _ (fin acc He hJ ha) (x'.adopt ce.nD) (S'.adopt lD' g' (ce.lC.repL hs2 rl)) ⟨(D, D), ?_, rfl⟩
 rw [← S'.len, gAr (Nat.le_refl _), Nat.sub_self]; rfl
end
section
variable {c : Cx} {n : Nat} {ρ : Loc} {H : List AO} {R : V → List AO → Prop} {P : Fl → List AO → Prop} {X : Nat → List AO → Prop} {K : Option Nat → List V → List AO → Prop}
theorem fresh_at {μ1 : Mp} {s1 : Shared} (x1 : Ext fr N μ μ1 s s1) (S1 : St c.base fr μ1 H1 s1.heap) : s.heap.get? s1.heap.objs.size = none := none_back x1 S1 (none_at_size _)
theorem it_new {μ1 : Mp} {s1 : Shared} {k : Wk} {o : Obj} {fs : Array Value} (x1 : Ext fr N μ μ1 s s1) (S1 : St c.base fr μ1 H1 s1.heap) (sr : Src μ1 H1 s1.heap k l) (hK : K (Wk.li k) l H1) (hl : LiOk (Wk.li k) l H1)
  (hf : o.data = .fields fs) (it : ItAt μ1 k s1.heap.objs.size 0 (s1.heap.push o))
  (hQ : ∀ k l H' μ' a s', K (Wk.li k) l H' → LiOk (Wk.li k) l H' → Ext fr N μ μ' s s' → St c.base fr μ' H' s'.heap → Src μ' H' s'.heap k l → ItAt μ' k a 0 s'.heap → Lone c fr μ' s'.heap a → s.heap.get? a = none → Q (.ref a) s') : Q (.ref s1.heap.objs.size) { s1 with heap := s1.heap.push o } := by
 have old : ∀ b o', s1.heap.get? b = some o' → (s1.heap.push o).get? b = some o' := push_keeps
 have xk : Ext fr N μ1 μ1 s1 { s1 with heap := s1.heap.push o } := Ext.of_keeps (tk := s1.toks) old
 refine hQ k l H1 μ1 _ _ hK hl (x1.comp S1 xk) (S1.keeps old) ?_ it (lone_new S1 (none_at_size _) (fields_obj ⟨o, fs, gPz _ (Obj.isFreed_of_fields hf), hf⟩)) (fresh_at x1 S1)
 cases k with
 | list j => exact sr
 | tup t => exact xk.rep S1 (y := .tup l) sr
 | str y t => exact sr
 | rng lo cnt => exact sr
 | byt b t => exact sr
theorem IterE.list (h : EvE c n e ρ H (fun v H1 => ∃ j l, v = .obj j ∧ H1[j]? = some (.list l) ∧ K (some j) l H1) X) : IterE c n e ρ H K X := by
 intro A env fr μ s S Q E hQ hE
 refine h A env fr μ s S _ E (fun v H1 μ1 va s1 h1 x1 S1 r1 => ?_) hE
 walk_at "z"
 obtain ⟨j, l, eN1, hj, hK⟩ := h1
 walk_at "y"
 subst eN1
 walk_at "z"
 obtain ⟨a, ha, eN2⟩ := r1
 walk_at "y"
 subst eN2
 walk_at "z"
 obtain ⟨vs, hv, rl⟩ := S1.isList hj ha
 walk_at "y"
 exact wpAny_pyIter_list hv (it_new (k := .list j) x1 S1 hj hK (fun j' e => by cases e; exact hj) rfl ⟨a, ha, _, gPz _ rfl, rfl, rfl⟩ hQ)
theorem IterE.tup (h : EvE c n e ρ H (fun v H1 => ∃ l, v = .tup l ∧ K none l H1) X) : IterE c n e ρ H K X := by
 intro A env fr μ s S Q E hQ hE
 refine h A env fr μ s S _ E (fun v H1 μ1 va s1 h1 x1 S1 r1 => ?_) hE
 walk_at "z"
 obtain ⟨l, eN3, hK⟩ := h1
 walk_at "y"
 subst eN3
 walk_at "z"
 obtain ⟨a, vs, m, eN4, g, rl⟩ := id r1
 walk_at "y"
 subst eN4
 exact wpAny_pyIter_tuple (items := vs.toArray) ⟨_, g, rfl, m, rfl⟩ (it_new (k := .tup a) x1 S1 r1 hK (fun _ e => nomatch e) rfl ⟨_, gPz _ rfl, rfl, rfl⟩ hQ)
theorem IterE.str (h : EvE c n e ρ H (fun v H1 => ∃ x, v = .str x ∧ K none (x.cps.toList.map fun ch => .str ⟨#[ch]⟩) H1) X) : IterE c n e ρ H K X := by
 intro A env fr μ s S Q E hQ hE
 refine h A env fr μ s S _ E (fun v H1 μ1 va s1 h1 x1 S1 r1 => ?_) hE
 walk_at "z"
 obtain ⟨x, eN5, hK⟩ := h1
 walk_at "y"
 subst eN5
 obtain ⟨t, rfl⟩ := r1
 cases ha : x.cps.all (· < 128) with
 | true => exact wpAny_pyIter_ascii ha (it_new (k := .str x t) x1 S1 rfl hK (fun _ e => nomatch e) rfl (show ItStr _ _ _ _ _ by unfold ItStr; rw [if_pos ha]; exact ⟨_, gPz _ rfl, rfl, rfl⟩) hQ)
 | false => exact wpAny_pyIter_wide ha (it_new (k := .str x t) x1 S1 rfl hK (fun _ e => nomatch e) rfl (show ItStr _ _ _ _ _ by unfold ItStr; rw [if_neg (by rw [ha]; decide)]; exact ⟨_, gPz _ rfl, rfl, rfl⟩) hQ)
theorem IterE.bytes (h : EvE c n e ρ H (fun v H1 => ∃ x, v = .bytes x ∧ K none (x.toList.map fun ch => .int (ch.toNat : Int)) H1) X) : IterE c n e ρ H K X := by
 intro A env fr μ s S Q E hQ hE
 refine h A env fr μ s S _ E (fun v H1 μ1 va s1 h1 x1 S1 r1 => ?_) hE
 walk_at "z"
 obtain ⟨x, eN6, hK⟩ := h1
 walk_at "y"
 subst eN6
 obtain ⟨t, rfl⟩ := r1
 exact KBw.pyIter_bytes (it_new (k := .byt x t) x1 S1 rfl hK (fun _ e => nomatch e) rfl ⟨_, gPz _ rfl, rfl, rfl⟩ hQ)
noncomputable def rangeL (lo hi : Int) : List V := (List.range (hi - lo).toNat).map fun k : Nat => V.int (lo + (k : Int))
theorem range_it {μ1 : Mp} {s1 : Shared} {r : Addr} {lo hi : Int} {t u v : Tok} (x1 : Ext fr N μ μ1 s s1) (S1 : St c.base fr μ1 H1 s1.heap) (hr : IsRange s1.heap r lo hi 1 t u v) (h1 : -(2 ^ 62) ≤ lo) (h2 : lo < 2 ^ 62) (h3 : -(2 ^ 62) ≤ hi) (h4 : hi < 2 ^ 62) (hK : K none (rangeL lo hi) H1)
  (hQ : ∀ k l H' μ' a s', K (Wk.li k) l H' → LiOk (Wk.li k) l H' → Ext fr N μ μ' s s' → St c.base fr μ' H' s'.heap → Src μ' H' s'.heap k l → ItAt μ' k a 0 s'.heap → Lone c fr μ' s'.heap a → s.heap.get? a = none → Q (.ref a) s') : wpAny c.M A (pyIter (.ref r)) Q E s1 := by
 refine wpAny_pyIter_range hr (small_one h1 h2 h3 h4) (it_new (k := .rng lo (hi - lo).toNat) x1 S1 rfl hK (fun _ e => nomatch e) rfl ?_ hQ)
 show IsRangeIter _ _ (lo + ((0 : Nat) : Int)) (((hi - lo).toNat : Int) - ((0 : Nat) : Int)) 1
 rw [rangeSize_nat]
 simp only [Int.natCast_zero, Int.add_zero, Int.sub_zero]
 exact gPz _ rfl
theorem IterE.range {fp : Pos} (hm : (so "range", Kd.glob, some (.val (.type "range"))) ∈ ρ) (hs : as.all notStar = true)
  (h : EvL c n p as ρ H (fun vs H1 => ∃ lo hi, ((vs = [.int hi] ∧ lo = 0) ∨ vs = [.int lo, .int hi]) ∧ -(2 ^ 62) ≤ lo ∧ lo < 2 ^ 62 ∧ -(2 ^ 62) ≤ hi ∧ hi < 2 ^ 62 ∧ K none (rangeL lo hi) H1) X) : IterE c n (.Call (.Name (so "range") fp) as [] p) ρ H K X := by
 intro A env fr μ s S Q E hQ hE
 show wpAny _ _ (do callWith p (← eval (.Name (so "range") fp) env) [] (backTo p (starEach as env)) []) _ _ _
 refine wpAny_bind (EvE.name (R := fun y H' => y = .val (.type "range") ∧ H' = H) hm ⟨rfl, rfl⟩ (by kernel_rfl) A env fr μ s S _ _ (fun y H1 μ1 v s1 h1 x1 S1 r1 => ?_) hE)
 obtain ⟨rfl, rfl⟩ := h1
 rw [show v = .type "range" from r1]
 refine PySem.callWith_type (backTo_plain _ _ _ hs) (evalArgs_ok hs (h A env fr μ1 s1 (S.next x1 S1) _ E (fun xs H2 μ2 vs s2 h2 x2 S2 r2 => ?_) (hE.next x1 S1)))
 walk_at "z"
 obtain ⟨lo, hi, hv, b1, b2, b3, b4, hK⟩ := h2
 walk_at "y"
 have x12 := x1.comp S1 x2
 rcases hv with ⟨rfl, rfl⟩ | rfl
 ·walk_at "z"
  obtain ⟨_, _, eN7, ⟨t, eN8⟩, eN9⟩ := r2
  walk_at "y"
  subst eN7 eN8 eN9
  refine call_range_1 ?_
  have old : ∀ b o', s2.heap.get? b = some o' → (s2.heap.push { cls := .type "range", data := .fields #[.int 0 s2.toks, .int hi t, .int 1 (s2.toks + 1)] }).get? b = some o' := push_keeps
  exact range_it (s1 := { s2 with heap := s2.heap.push _, toks := s2.toks + 1 + 1 }) (x12.comp S2 (Ext.of_keeps old)) (S2.keeps old) (gPz _ rfl) b1 b2 b3 b4 hK hQ
 ·walk_at "z"
  obtain ⟨_, _, eN10, ⟨t, eN11⟩, _, _, eN12, ⟨u, eN13⟩, eN14⟩ := r2
  walk_at "y"
  subst eN10 eN11 eN12 eN13 eN14
  refine call_range_2 ?_
  have old : ∀ b o', s2.heap.get? b = some o' → (s2.heap.push { cls := .type "range", data := .fields #[.int lo t, .int hi u, .int 1 s2.toks] }).get? b = some o' := push_keeps
  exact range_it (s1 := { s2 with heap := s2.heap.push _, toks := s2.toks + 1 }) (x12.comp S2 (Ext.of_keeps old)) (S2.keeps old) (gPz _ rfl) b1 b2 b3 b4 hK hQ
end
noncomputable def PutL : Loc → List Str → List V → Loc → Prop
 | ρ, [], [], ρ' => ρ' = ρ
 | ρ, x :: xs, v :: vs, ρ' => ∃ ρ1, Put ρ x v ρ1 ∧ PutL ρ1 xs vs ρ'
 | _, _, _, _ => False
inductive StL (c : Cx) (env : Env) : List (Value → Sem Unit) → List Str → Prop where
 | nil : StL c env [] []
 | cons {t : Value → Sem Unit} {ts : List (Value → Sem Unit)} {x : Str} {xs : List Str} (h : ∀ (A : Around) (v : Value) (Q : Unit → Shared → Prop) (E : Value → Shared → Prop) (s : Shared), wpAny c.M A (storeName env x v) Q E s → wpAny c.M A (t v) Q E s) (r : StL c env ts xs) : StL c env (t :: ts) (x :: xs)
theorem StL.bind : ∀ xs : List Str, StL c env (xs.map fun n => bindName env n) xs
 | [] => .nil
 | x :: xs => .cons (fun _ _ _ _ _ h => bindName_ h) (StL.bind xs)
section
variable {c : Cx} {n : Nat} {A : Around} {env : Env} {fr : List Env}
theorem inOrder_ok : ∀ {ts : List (Value → Sem Unit)} {xs : List Str} {l : List V} {vs : List Value} {ρ ρ' : Loc} {H : List AO} {μ : Mp} {s : Shared} {Q : Unit → Shared → Prop} {E : Value → Shared → Prop}, StL c env ts xs → PutL ρ xs l ρ' → Sit c n A env fr μ H ρ s → InFr fr env.locals → RepL s.heap μ l vs →
  (∀ s', Ext fr (Own env) μ μ s s' → St c.base fr μ H s'.heap → Rho s'.heap μ env c ρ' → Q () s') → wpAny c.M A (assignInOrder ts vs) Q E s
 | _, _, l, vs, ρ, ρ', H, μ, s, Q, E, .nil, hp, S, ow, r, k => by
  cases l with
  | nil =>
   rw [show ρ' = ρ from hp] at k
   rw [show vs = [] from r]
   exact wpAny_pure (k s Ext.refl S.st S.rho)
  | cons => exact hp.elim
 | _, _, l, vs, ρ, ρ', H, μ, s, Q, E, .cons h rr, hp, S, ow, r, k => by
  cases l with
  | nil => exact hp.elim
  | cons y l =>
   walk_at "z"
   obtain ⟨v, q, eN1, r1, r2⟩ := r
   walk_at "y"
   subst eN1
   walk_at "z"
   obtain ⟨ρ1, p1, p2⟩ := hp
   walk_at "y"
   refine wpAny_bind (wpAny_holding (h A v _ _ s (store_ok S r1 p1 fun s' x S' R' => ?_)))
   have r2' : RepL s'.heap μ l q := r2.mono x.keep (fun b vs n hd e => S.st.noTup b vs n (by
    rcases hd with h | h | h
    ·exact .inl h
    ·exact .inr h
    ·exact .inl (show InFr fr b from (show b = env.locals from h) ▸ ow)) e) x.pre
   exact inOrder_ok rr p2 ⟨S.room, S.stack, S.eok, S', R'⟩ ow r2' fun s'' x' S'' R'' => k s'' (x.trans x' (live_own x S' R')) S'' R''
end
section
variable {c : Cx} {n : Nat} {ρ : Loc} {H : List AO} {P : Fl → List AO → Prop} {X : Nat → List AO → Prop}
inductive NamesOf : List Expr → List Str → Prop where
 | nil : NamesOf [] []
 | cons {x : Str} {p : Pos} {r : List Expr} {ys : List Str} : NamesOf r ys → NamesOf (.Name x p :: r) (x :: ys)
theorem each_ok {xs : List Str} (h : NamesOf es xs) : StL c env ((assignEach es env).map (·.2)) xs ∧ (assignEach es env).length = xs.length ∧ (assignEach es env).findIdx? (·.1) = none := by
 induction h with
 | nil => exact ⟨.nil, rfl, rfl⟩
 | @cons x p r ys _ ih =>
  have e1 : assignEach (.Name x p :: r) env = (false, assign (.Name x p) env) :: assignEach r env := rfl
  rw [e1]
  refine ⟨.cons (fun _ _ _ _ _ h => assign_Name h) ih.1, congrArg Nat.succ ih.2.1, ?_⟩
  rw [List.findIdx?_cons, ih.2.2]; rfl
theorem ExS.assignTup {xs : List Str} (hx : NamesOf es xs) (h : EvE c n e ρ H (fun v H1 => ∃ l ρ1, v = .tup l ∧ l.length = xs.length ∧ PutL ρ xs l ρ1 ∧ ExS c n r ρ1 H1 P X) X) (hn : 0 < n)
  (hs : ∀ env, swapsWithSole [.Tuple es k tp] e p.line env = pure false := by intro _; rfl) (hw : ∀ env, swappedStores [.Tuple es k tp] e env = pure none := by intro _; rfl) : ExS c n (.Assign [.Tuple es k tp] e p :: r) ρ H P X := by
 refine ExS.cons (P' := fun fl H1 => ∃ ρ1, fl = .next ρ1 ∧ ExS c n r ρ1 H1 P X) (fun A env fr μ s S ow Q E hQ hE => ?_) fun fl H1 h1 => by obtain ⟨ρ1, rfl, h⟩ := h1; exact h
 have hh : A.handled = none := S.room.hd.resolve_left (by omega)
 refine Assign_Tuple (h A env fr μ s S _ E (fun v H1 μ1 va s1 h1 x1 S1 r1 => ?_) hE.own) (hs env) (hw env)
 walk_at "z"
 obtain ⟨l, ρ1, eN3, hl, hp, hr⟩ := h1
 walk_at "y"
 subst eN3
 walk_at "z"
 obtain ⟨a, vs, m, eN4, g, rl⟩ := r1
 walk_at "y"
 subst eN4
 walk_at "z"
 obtain ⟨q1, q2, q3⟩ := each_ok (c := c) (env := env) hx
 walk_at "y"
 refine assign_Tuple_tuple (items := vs.toArray) hh ⟨_, g, rfl, m, rfl⟩ (by rw [q2, List.size_toArray, rl.length, hl]) q3 fun h' hb => ?_
 have old : ∀ b o, s1.heap.get? b = some o → h'.get? b = some o := fun b o e => hb b o (fun q => by rw [q, none_at_size] at e; cases e) e
 have xk : Ext fr N μ1 μ1 s1 { s1 with heap := h' } := Ext.of_keeps (tk := s1.toks) old
 have S2 := (S.next x1 S1).next xk (S1.keeps old)
 refine inOrder_ok q1 hp S2 ow (xk.repL S1 rl) fun s2 x2 S2' R2 => ?_
 exact hQ (.next ρ1) H1 μ1 _ s2 ⟨ρ1, rfl, hr⟩ (((x1.comp S1 xk).weaken fun _ z => z.elim).trans x2 (live_own ((x1.comp S1 xk).weaken fun _ z => z.elim) S2.st S2.rho)) S2' ⟨rfl, R2⟩
end
section
variable {c : Cx} {n : Nat} {ρ : Loc} {H : List AO} {P : Fl → List AO → Prop} {X : Nat → List AO → Prop}
theorem ex_assignComp {x t : String} {q : Pos} {elt iter : Expr} {ifs : List Expr}
  (h : IterE c n iter ρ H (fun li l H1 => l.length ≤ sizeLine ∧ ∃ J : Nat → List V → List AO → Prop, J 0 [] H1 ∧ CompT c n x ifs elt ρc li l J ∧ (∀ acc H2, J l.length acc H2 → acc.length ≤ l.length → ∃ ρ1, Put ρ (so t) (.obj H2.length) ρ1 ∧ ExS c n r ρ1 (H2 ++ [.list acc]) P X)) X)
  (ok : CompOk c sc (so x) ρ ρc) (hn : 0 < n) (hs : ∀ env x, foldedSetIterable iter env x = pure x := by intro _ _; rfl)
  (hl : (q.line == pos.line) = true := by rfl) (hx : (sc.names.any fun (n, k) => n == so t && (k == .local || k == .cell)) = false := by kernel_rfl) (ht : ∃ o, (so t, Kd.loc, o) ∈ ρ) :
  ExS c n (.Assign [.Name (so t) q] (.ListComp elt [⟨.Name (so x) px, iter, ifs, 0⟩] sc pos) p :: r) ρ H P X := by
 refine ExS.cons (P' := fun fl H1 => ∃ ρ1, fl = .next ρ1 ∧ ExS c n r ρ1 H1 P X) (fun A env fr μ s S ow Q E hQ hE => ?_) fun fl H1 h1 => by obtain ⟨ρ1, rfl, h⟩ := h1; exact h
 have RR := S.rho
 walk_at "z"
 obtain ⟨m₀, hn₀, hm₀, hb₀, hnd₀, hr₀⟩ := id RR
 walk_at "y"
 obtain ⟨o, ho⟩ := ht
 have hk : env.kindOf (so t) = some .local := (hr₀ _ .loc o ho).1
 obtain ⟨cl, h1, h2, h3⟩ := closure_ok (sc := sc) (env := env) fun y hy hf => by
  obtain ⟨V, hV⟩ := ok.free y hy hf
  walk_at "z"
  obtain ⟨_, ca, c0, q, _⟩ := hr₀ _ _ _ hV
  walk_at "y"
  exact ⟨ca, q⟩
 have sw : swapsWithSole [.Name (so t) q] (.ListComp elt [⟨.Name (so x) px, iter, ifs, 0⟩] sc pos) p.line env = pure true := by
  show (pure (env.blockKind == .function && env.kindOf (so t) == some .local && q.line == pos.line && !(sc.names.any fun (n, k) => n == so t && (k == .local || k == .cell))) : Sem Bool) = _
  rw [hk, hx, hl]
  unfold Env.blockKind
  rw [S.eok.kind]; rfl
 rw [PyProof.Rows.exec_Assign]
 refine wpAny_bind (wpAny_standAt ?_)
 rw [sw]
 refine wpAny_bind (wpAny_pure ?_)
 rw [if_pos rfl]
 refine wpAny_bind (m := evalThenUse (Expr.ListComp elt [⟨Expr.Name (so x) px, iter, ifs, 0⟩] sc pos) env (fun v => assignAll v [assign (Expr.Name (so t) q) env])) ?_
 refine wpAny_bind (m := comprehension (Expr.ListComp elt [⟨Expr.Name (so x) px, iter, ifs, 0⟩] sc pos) sc env (firstIterPos [⟨Expr.Name (so x) px, iter, ifs, 0⟩] pos) (newList []) false (eval iter env) (some fun v => assignAll v [assign (Expr.Name (so t) q) env])) ?_
 refine wpAny_mono (Q := fun _ s' => Q Flow.next s') (wpAny_comprehension_free (Q := fun _ s' => Q Flow.next s') rfl (hs env) h1 ok.kind ok.loc (h A env fr μ s S _ E (fun k l H1 μ1 it s1 hK hli x1 S1 sr i0 lI nI => ?_) hE.own)) (fun _ _ y => wpAny_pure (wpAny_pure y)) fun _ _ y => y
 walk_at "z"
 obtain ⟨hl, J, j0, turn, fin⟩ := hK
 walk_at "y"
 refine comp_go J S hn ok h3 h2 hl turn j0 hli x1 S1 sr i0 lI nI (RR := fun acc C => compPost c.M A E _ _ acc C) fun D C acc He μe se hJ ha ce => ?_
 walk_at "z"
 obtain ⟨vs, mm, g, rl⟩ := ce.ls
 walk_at "y"
 walk_at "z"
 obtain ⟨ρ1, hp, hr⟩ := fin acc He hJ ha
 walk_at "y"
 have S' := ce.st.adopt ce.lD g rl
 have x' := ce.x.adopt ce.nD
 have hob : Rep se.heap (μe ++ [(D, D)]) (.obj He.length) (.ref D) := ⟨(D, D), by rw [← ce.st.len, gAr (Nat.le_refl _), Nat.sub_self]; rfl, rfl⟩
 have Sit' : Sit c n A env fr (μe ++ [(D, D)]) (He ++ [.list acc]) ρ se := S.next x' S'
 show wpAny _ _ (assignAll (.ref D) [assign (.Name (so t) q) env]) _ _ _
 refine PyProof.Rows.assign_Name (store_ok Sit' hob hp fun s2 x2 S2 R2 => ?_)
 have lC' : Lone c fr (μe ++ [(D, D)]) se.heap C := ⟨ce.lC.new, fun hm => by
  walk_at "z"
  obtain ⟨y, hy, hb⟩ := hm
  walk_at "y"
  rcases List.mem_append.mp hy with hy | hy
  ·exact ce.lC.nm ⟨y, hy, hb⟩
  ·rw [List.mem_singleton] at hy
   subst hy
   exact ce.ne (hb.elim Eq.symm Eq.symm), ce.lC.fr, ce.lC.obj⟩
 have cO : ¬ Own env C := fun z => ce.lC.fr ((show C = env.locals from z) ▸ ow)
 have l2 := lC'.next x2 cO
 obtain ⟨m, hm⟩ := ce.ns
 refine ⟨m, by obtain ⟨o, es, ep, g1, g2⟩ := hm; exact ⟨o, es, ep, l2.2.trans g1, g2⟩, fun h' hs' => ?_⟩
 have hs2 : ∀ b o, b ≠ C → s2.heap.get? b = some o → h'.get? b = some o := fun b o hne e => hs'.extBut b o hne e
 have x3 : Ext fr (Own env) μ (μe ++ [(D, D)]) s s2 := (x'.weaken fun _ z => z.elim).trans x2 (live_own (x'.weaken fun _ z => z.elim) S' Sit'.rho)
 exact hQ (.next ρ1) _ _ _ _ ⟨ρ1, rfl, hr⟩ (x3.lone (tk := s2.toks) ce.nC hs2) (l2.1.st S2 hs2) ⟨rfl, l2.1.rho (fun z => l2.1.fr (z ▸ ow)) hs2 R2⟩
end
section
variable {c : Cx} {n : Nat} {ρ : Loc} {H : List AO} {P : Fl → List AO → Prop} {X : Nat → List AO → Prop}
theorem lone_setItem {prog : Program} {Q : Unit → Shared → Prop} {D : Addr} {ws : List Value} {j : Nat} {k : Int} {t : Tok} (hk : k = (j : Int)) (g : s.heap.get? D = some { cls := .type "list", data := .seq ws.toArray m }) (hj : j < ws.length) (hfit : (j : Int) < 2 ^ 63)
  (hQ : ∀ h' m', h'.get? D = some { cls := .type "list", data := .seq (ws.set j v).toArray m' } → (∀ b, b ≠ D → h'.get? b = s.heap.get? b) → Q () { s with heap := h' }) : wpAny (model prog w) A (setItem (.ref D) (.int k t) v) Q E s := by
 have hl : s.heap.IsList D ws.toArray := ⟨_, g, rfl, m, rfl⟩
 unfold setItem
 try with_reducible refine wpAny_holding ?_
 first | refine wpAny_bind (wpAny_pure ?_) | skip
 refine wpAny_bind (wpAny_sequenceKey hl.typeIs (by decide) ?_)
 refine wpAny_bind (wpAny_callSpecial?_slot (name := so "__setitem__") hl.typeIs slot_list_setitem
  (wpAny_call_entry slot_list_setitem hl.typeIs entry_list_setitem ?_ (args_list_setitem _ _ _)))
 show wpAny _ _ (Builtin.List.listSubscript? (.int k t) >>= _) _ _ s
 refine wpAny_bind (wpAny_listSubscript_int (fitsIndex_of (by omega) (by omega)) ?_)
 subst hk
 have hj' : j < ws.toArray.size := by simpa using hj
 have hx' : ws.toArray[j]? = some ws.toArray[j] := Array.getElem?_eq_getElem hj'
 show wpAny _ _ ((seqItemAt D j >>= fun r => pure (r.map (j, ·))) >>= _) _ _ s
 refine wpAny_bind (wpAny_bind (wpAny_seqItemAt g rfl (wpAny_pure ?_)))
 rw [hx']
 show wpAny _ _ (setSeqItemAt D j v >>= _) _ _ s
 obtain ⟨m', hd'⟩ := Obj.data_mapSeq (o := { cls := .type "list", data := .seq ws.toArray m }) rfl (·.setIfInBounds j v)
 have hU := Heap.get?_update_self (Obj.mapSeq (·.setIfInBounds j v)) g (Obj.isFreed_of_seq hd')
 have he : Obj.mapSeq (·.setIfInBounds j v) { cls := .type "list", data := .seq ws.toArray m } = { cls := .type "list", data := .seq (ws.set j v).toArray m' } := by
  have e1 : Obj.mapSeq (·.setIfInBounds j v) { cls := .type "list", data := .seq ws.toArray m } = { cls := .type "list", data := (Obj.mapSeq (·.setIfInBounds j v) { cls := .type "list", data := .seq ws.toArray m }).data } := rfl
  rw [e1, hd']; simp
 rw [he] at hU
 have hfin := hQ _ m' hU fun b hne => gUo s.heap _ (Ne.symm hne)
 refine wpAny_bind (wpAny_setSeqItemAt g rfl ?_)
 first
  | exact wpAny_bind (wpAny_pure (wpAny_pure ⟨.none, rfl, wpAny_pure hfin⟩))
  | exact wpAny_pure ⟨.none, rfl, wpAny_pure hfin⟩
theorem ex_assignSub {i : Expr} {q : Pos} (h : EvE c n e ρ H (fun y H1 => EvE c n o ρ H1 (fun v H2 => ∃ j, v = .obj j ∧ EvE c n i ρ H2 (fun k H3 => ∃ (m : Nat) (l : List V), k = .int m ∧ H3[j]? = some (.list l) ∧ m < l.length ∧ (m : Int) < 2 ^ 63 ∧ ExS c n r ρ (H3.set j (.list (l.set m y))) P X) X) X) X)
  (hc : notComp e = true := by rfl) : ExS c n (.Assign [.Subscript o i q] e p :: r) ρ H P X := by
 refine ExS.cons (P' := fun fl H1 => fl = .next ρ ∧ ExS c n r ρ H1 P X) (fun A env fr μ s S ow Q E hQ hE => ?_) fun fl H1 h1 => by obtain ⟨rfl, h⟩ := h1; exact h
 refine wpAny_Assign_Subscript (h A env fr μ s S _ E (fun y H1 μ1 vy s1 h1 x1 S1 r1 => ?_) hE.own) (swaps_no hc _ _ _)
 refine h1 A env fr μ1 s1 (S.next x1 S1) _ E (fun v H2 μ2 va s2 h2 x2 S2 r2 => ?_) (hE.own.next x1 S1)
 walk_at "z"
 obtain ⟨j, eN1, h2⟩ := h2
 walk_at "y"
 subst eN1
 have x12 := x1.comp S1 x2
 refine h2 A env fr μ2 s2 ((S.next x1 S1).next x2 S2) _ E (fun k H3 μ3 vk s3 h3 x3 S3 r3 => ?_) (hE.own.next x12 S2)
 walk_at "z"
 obtain ⟨m, l, eN2, hj, hm, hfit, hx⟩ := h3
 walk_at "y"
 subst eN2
 obtain ⟨t, rfl⟩ := r3
 have r2' := x3.rep S2 r2
 walk_at "z"
 obtain ⟨a, ha, eN3⟩ := r2'
 walk_at "y"
 subst eN3
 walk_at "z"
 obtain ⟨e12, ws, mm, g, rl⟩ := S3.rel j _ a hj ha
 walk_at "y"
 have x13 := x12.comp S2 x3
 have ry : Rep s3.heap μ3 y vy := x3.rep S2 (x2.rep S1 r1)
 refine lone_setItem rfl g (by rw [rl.length]; exact hm) hfit fun h' m' g' hs => ?_
 have hs' : ∀ b, b ≠ a.1 → b ≠ a.2 → h'.get? b = s3.heap.get? b := fun b h1 _ => hs b h1
 have rp := rep_put S3 ha hs'
 have S4 := S3.put ha hs' (o' := .list (l.set m y)) ⟨e12, ws.set m vy, m', g', (rp.2 rl).set m (rp.1 ry)⟩
 have x4 : Ext fr N μ3 μ3 s3 { s3 with heap := h' } := Ext.put (tk := s3.toks) ha hs'
 have Sf := (S.next x13 S3).next x4 S4
 exact hQ (.next ρ) _ μ3 _ _ ⟨rfl, hx⟩ ((x13.comp S3 x4).weaken fun _ z => z.elim) S4 ⟨rfl, Sf.rho⟩
theorem ex_assignSwap {x y : String} {qx qy : Pos} (h : EvE c n e ρ H (fun v H1 => ∃ a b ρ1, v = .tup [a, b] ∧ PutL ρ [so y, so x] [b, a] ρ1 ∧ ExS c n r ρ1 H1 P X) X) (hn : 0 < n) (hx : ∃ o, (so x, Kd.loc, o) ∈ ρ) (hy : ∃ o, (so y, Kd.loc, o) ∈ ρ)
  (hs : ∀ env, swapsWithSole [.Tuple [.Name (so x) qx, .Name (so y) qy] k tp] e p.line env = pure false := by intro _; rfl)
  (hw : ∀ env : Env, env.blockKind = .function → env.kindOf (so x) = some .local → env.kindOf (so y) = some .local → swappedStores [.Tuple [.Name (so x) qx, .Name (so y) qy] k tp] e env = pure (some [so x, so y])) :
  ExS c n (.Assign [.Tuple [.Name (so x) qx, .Name (so y) qy] k tp] e p :: r) ρ H P X := by
 refine ExS.cons (P' := fun fl H1 => ∃ ρ1, fl = .next ρ1 ∧ ExS c n r ρ1 H1 P X) (fun A env fr μ s S ow Q E hQ hE => ?_) fun fl H1 h1 => by obtain ⟨ρ1, rfl, h⟩ := h1; exact h
 have hh : A.handled = none := S.room.hd.resolve_left (by omega)
 have RR := S.rho
 walk_at "z"
 obtain ⟨m₀, hn₀, hm₀, hb₀, hnd₀, hr₀⟩ := id RR
 walk_at "y"
 obtain ⟨ox, hox⟩ := hx
 obtain ⟨oy, hoy⟩ := hy
 refine Assign_Tuple_swapped (h A env fr μ s S _ E (fun v H1 μ1 va s1 h1 x1 S1 r1 => ?_) hE.own) (hs env) (hw env (by unfold Env.blockKind; rw [S.eok.kind]; rfl) (hr₀ _ .loc ox hox).1 (hr₀ _ .loc oy hoy).1)
 walk_at "z"
 obtain ⟨a, b, ρ1, eN4, hp, hr⟩ := h1
 walk_at "y"
 subst eN4
 walk_at "z"
 obtain ⟨t, vs, m, eN5, g, rl⟩ := r1
 walk_at "y"
 subst eN5
 walk_at "z"
 obtain ⟨va, _, eN6, ra, vb, _, eN7, rb, eN8⟩ := rl
 walk_at "y"
 subst eN6 eN7 eN8
 refine unpackItems_tuple (items := #[va, vb]) hh ⟨_, g, rfl, m, rfl⟩ fun h' hb => ?_
 have old : ∀ b o, s1.heap.get? b = some o → h'.get? b = some o := fun b o e => hb b o (fun q => by rw [q, none_at_size] at e; cases e) e
 have xk : Ext fr N μ1 μ1 s1 { s1 with heap := h' } := Ext.of_keeps (tk := s1.toks) old
 have S2 := (S.next x1 S1).next xk (S1.keeps old)
 refine inOrder_ok (l := [b, a]) (StL.bind [so y, so x]) hp S2 ow (xk.repL S1 ⟨vb, _, rfl, rb, va, _, rfl, ra, rfl⟩) fun s2 x2 S2' R2 => ?_
 exact hQ (.next ρ1) H1 μ1 _ s2 ⟨ρ1, rfl, hr⟩ (((x1.comp S1 xk).weaken fun _ z => z.elim).trans x2 (live_own ((x1.comp S1 xk).weaken fun _ z => z.elim) S2.st S2.rho)) S2' ⟨rfl, R2⟩
end
section
variable {c : Cx} {n : Nat} {H : List AO} {R : V → List AO → Prop} {X : Nat → List AO → Prop}
theorem CallJ.min {i j : Int} (hn : 0 < n) (h : R (.int (if j < i then j else i)) H) : CallJ c n (.builtin "min") [.int i, .int j] H R X := by
 intro A fr μ s vs room _ S rv Q E hQ _
 obtain ⟨_, _, rfl, ⟨t, rfl⟩, _, _, rfl, ⟨u, rfl⟩, rfl⟩ := rv
 refine min_two_ints (room.hd.resolve_left (by omega)) fun h' tk hk => ?_
 by_cases hb : j < i
 ·rw [if_pos hb] at h ⊢
  exact hQ.here (tk := tk) S h hk ⟨u, rfl⟩
 ·rw [if_neg hb] at h ⊢
  exact hQ.here (tk := tk) S h hk ⟨t, rfl⟩
end
section
variable {M : Model} {A : Around} {E : Value → Shared → Prop} {s : Shared} {env : Env}
theorem test2 {l m r : Expr} {o1 o2 : CmpOp} {whole : Sem Value} {Q : Bool → Shared → Prop}
  (h : wpAny M A (eval l env) (fun a s₁ => wpAny M A (eval m env) (fun b s₂ => wpAny M A (compareOp o1 a b) (fun k s₃ => wpAny M A (truthy k) (fun t s₄ => if t = true then wpAny M A (eval r env) (fun d s₅ => wpAny M A (compareOp o2 b d) (fun k s₆ => wpAny M A (truthy k) Q E s₆) E s₅) E s₄ else Q false s₄) E s₃) E s₂) E s₁) E s)
  (hm : behindInMarks o2 r = false := by with_unfolding_all rfl) : wpAny M A (isTrue (.Compare l [o1, o2] [m, r] pos) env whole) Q E s := by
 show wpAny M A (do testChain pos (← eval l env) [o1, o2] [eval m env, markedBehindIn o2 r (eval r env)]) Q E s
 rw [markedBehindIn_of_false hm]
 refine wpAny_bind (wpAny_mono h (fun a s₁ h₁ => ?_) fun _ _ x => x)
 refine wpAny_bind (wpAny_holding (wpAny_mono h₁ (fun b s₂ h₂ => ?_) fun _ _ x => x))
 refine wpAny_bind (wpAny_standAt (wpAny_bind (wpAny_holding (wpAny_mono h₂ (fun k s₃ h₃ => ?_) fun _ _ x => x))))
 refine wpAny_bind (wpAny_release (wpAny_bind (wpAny_holding (wpAny_mono h₃ (fun t s₄ h₄ => ?_) fun _ _ x => x))))
 cases t with
 | false => exact wpAny_pure h₄
 | true =>
  refine wpAny_bind (wpAny_holding (wpAny_mono (show wpAny M A (eval r env) _ E s₄ from h₄) (fun d s₅ h₅ => ?_) fun _ _ x => x))
  refine wpAny_bind (wpAny_standAt (wpAny_bind (wpAny_operating (wpAny_mono h₅ (fun k s₆ h₆ => wpAny_holding h₆) fun _ _ x => x))))
theorem comp2 {l m r : Expr} {o1 o2 : CmpOp}
  (h : wpAny M A (eval l env) (fun a s₁ => wpAny M A (eval m env) (fun b s₂ => wpAny M A (compareOp o1 a b) (fun k s₃ => wpAny M A (truthy k) (fun t s₄ => if t = true then wpAny M A (eval r env) (fun d s₅ => wpAny M A (compareOp o2 b d) Q E s₅) E s₄ else Q k s₄) E s₃) E s₂) E s₁) E s)
  (hm : behindInMarks o2 r = false := by with_unfolding_all rfl) : wpAny M A (eval (.Compare l [o1, o2] [m, r] pos) env) Q E s := by
 show wpAny M A (do compareChain pos (← eval l env) [o1, o2] [eval m env, markedBehindIn o2 r (eval r env)]) Q E s
 rw [markedBehindIn_of_false hm]
 refine wpAny_bind (wpAny_mono h (fun a s₁ h₁ => ?_) fun _ _ x => x)
 refine wpAny_bind (wpAny_holding (wpAny_mono h₁ (fun b s₂ h₂ => ?_) fun _ _ x => x))
 refine wpAny_bind (wpAny_standAt (wpAny_bind (wpAny_holding (wpAny_mono h₂ (fun k s₃ h₃ => ?_) fun _ _ x => x))))
 refine wpAny_bind (wpAny_release (wpAny_bind (wpAny_holding (wpAny_mono h₃ (fun t s₄ h₄ => ?_) fun _ _ x => x))))
 cases t with
 | false => exact wpAny_pure h₄
 | true =>
  refine wpAny_bind (wpAny_holding (wpAny_mono (show wpAny M A (eval r env) _ E s₄ from h₄) (fun d s₅ h₅ => ?_) fun _ _ x => x))
  exact wpAny_bind (wpAny_standAt (wpAny_operating h₅))
end
section
variable {c : Cx} {n : Nat} {ρ : Loc} {H : List AO} {R : V → List AO → Prop} {RB : Bool → List AO → Prop} {X : Nat → List AO → Prop}
theorem bo_cmp2 {l m r : Expr} {o1 o2 : CmpOp} (h : EvE c n l ρ H (fun a H1 => EvE c n m ρ H1 (fun b H2 => BinA c n (compareOp o1) a b H2 (fun v H3 => ∃ q, v = .bool q ∧ (q = false → RB false H3) ∧ (q = true → EvE c n r ρ H3 (fun d H4 => BinA c n (compareOp o2) b d H4 (fun v H5 => ∃ q, v = .bool q ∧ RB q H5)) X))) X) X)
  (hm : behindInMarks o2 r = false := by with_unfolding_all rfl) : BoE c n (.Compare l [o1, o2] [m, r] p) ρ H RB X := by
 intro A env fr μ s S Q E hQ hE
 refine test2 (h A env fr μ s S _ _ (fun a H1 μ1 va s1 h1 x1 S1 r1 => ?_) hE) hm
 refine h1 A env fr μ1 s1 (S.next x1 S1) _ _ (fun b H2 μ2 vb s2 h2 x2 S2 r2 => ?_) (hE.next x1 S1)
 refine h2 A fr μ2 s2 va vb S.room S2 (x2.rep S1 r1) r2 _ _ (fun v H3 μ3 vv s3 h3 x3 S3 r3 => ?_)
 obtain ⟨q, rfl, hf, ht⟩ := h3
 rw [show vv = _ from r3]
 refine wpAny_truthy_bool ?_
 have x13 := x1.comp S1 (x2.comp S2 x3)
 cases q with
 | false => exact hQ false H3 μ3 s3 (hf rfl) x13 S3
 | true =>
  refine ht rfl A env fr μ3 s3 (S.next x13 S3) _ _ (fun d H4 μ4 vd s4 h4 x4 S4 r4 => ?_) (hE.next x13 S3)
  refine h4 A fr μ4 s4 vb vd S.room S4 (x4.rep S3 (x3.rep S2 r2)) r4 _ _ (fun v H5 μ5 vv s5 h5 x5 S5 r5 => ?_)
  obtain ⟨q, rfl, hq⟩ := h5
  rw [show vv = _ from r5]
  exact wpAny_truthy_bool (hQ q H5 μ5 s5 hq (x13.comp S3 (x4.comp S4 x5)) S5)
theorem ev_cmp2 {l m r : Expr} {o1 o2 : CmpOp} (h : EvE c n l ρ H (fun a H1 => EvE c n m ρ H1 (fun b H2 => BinA c n (compareOp o1) a b H2 (fun v H3 => ∃ q, v = .bool q ∧ (q = false → R (.bool false) H3) ∧ (q = true → EvE c n r ρ H3 (fun d H4 => BinA c n (compareOp o2) b d H4 R) X))) X) X)
  (hm : behindInMarks o2 r = false := by with_unfolding_all rfl) : EvE c n (.Compare l [o1, o2] [m, r] p) ρ H R X := by
 intro A env fr μ s S Q E hQ hE
 refine comp2 (h A env fr μ s S _ _ (fun a H1 μ1 va s1 h1 x1 S1 r1 => ?_) hE) hm
 refine h1 A env fr μ1 s1 (S.next x1 S1) _ _ (fun b H2 μ2 vb s2 h2 x2 S2 r2 => ?_) (hE.next x1 S1)
 refine h2 A fr μ2 s2 va vb S.room S2 (x2.rep S1 r1) r2 _ _ (fun v H3 μ3 vv s3 h3 x3 S3 r3 => ?_)
 obtain ⟨q, rfl, hf, ht⟩ := h3
 rw [show vv = _ from r3]
 refine wpAny_truthy_bool ?_
 have x13 := x1.comp S1 (x2.comp S2 x3)
 cases q with
 | false => exact hQ _ H3 μ3 _ s3 (hf rfl) x13 S3 rfl
 | true =>
  refine ht rfl A env fr μ3 s3 (S.next x13 S3) _ _ (fun d H4 μ4 vd s4 h4 x4 S4 r4 => ?_) (hE.next x13 S3)
  exact h4 A fr μ4 s4 vb vd S.room S4 (x4.rep S3 (x3.rep S2 r2)) r4 _ _ ((hQ.next x13 S3).next x4 S4)
end
theorem St.flew {fs : List (Str × V)} {a : Addr × Addr} (S : St base fr μ H h) (hH : H[i]? = some (.new C fs)) (ha : μ[i]? = some a) : St base fr μ (H.set i (.exc C fs)) h := by
 obtain ⟨vs, es, m, hv, hv1, g1, g2, g3⟩ := S.rel i _ a hH ha
 exact S.put ha (fun _ _ _ => rfl) ⟨vs, es, m, hv, g1, g2, g3⟩
noncomputable def excOk (K : Frag) (C : Addr) : Bool := (mroIn K C (.type "BaseException") == some true) && (typeIn K (.ref C) == some (.type "type"))
section
variable {c : Cx} {n : Nat} {ρ : Loc} {H : List AO} {P : Fl → List AO → Prop} {X : Nat → List AO → Prop}
theorem ex_raise (h : EvE c n e ρ H (fun v H1 => ∃ i C fs, v = .obj i ∧ H.length ≤ i ∧ H1[i]? = some (.new C fs) ∧ (∀ P, excOk (kFrag P) C = true) ∧ X i (H1.set i (.exc C fs))) X) (hn : 0 < n) : ExS c n (.Raise (some e) none p :: r) ρ H P X := by
 refine ExS.cons (P' := fun _ _ => False) (fun A env fr μ s S ow Q E hQ hE => ?_) fun fl H1 h1 => h1.elim
 have hh : A.handled = none := S.room.hd.resolve_left (by omega)
 show wpAny c.M A (do standAt p; raiseStmt env (some (do let v ← eval e env; standAt p; pure v)) none) Q E s
 refine wpAny_bind (wpAny_standAt ?_)
 unfold raiseStmt
 refine wpAny_bind (wpAny_bind (wpAny_mono (h A env fr μ s S (fun v s' => ∃ H1 μ1 i C fs, ∃ a : Addr × Addr, H.length ≤ i ∧ H1[i]? = some (.new C fs) ∧ (∀ P, excOk (kFrag P) C = true) ∧ X i (H1.set i (.exc C fs)) ∧ Ext fr N μ μ1 s s' ∧ St c.base fr μ1 H1 s'.heap ∧ μ1[i]? = some a ∧ v = .ref a.1) E (fun v H1 μ1 va s1 h1 x1 S1 r1 => ?_) hE.own) (fun v s1 h1 => wpAny_bind (wpAny_standAt (wpAny_pure ?_))) fun _ _ z => z))
 ·walk_at "z"
  obtain ⟨i, C, fs, eN1, hi, hH, hk, hX⟩ := h1
  walk_at "y"
  subst eN1
  walk_at "z"
  obtain ⟨a, ha, eN2⟩ := r1
  walk_at "y"
  subst eN2
  exact ⟨H1, μ1, i, C, fs, a, hi, hH, hk, hX, x1, S1, ha, rfl⟩
 ·walk_at "z"
  obtain ⟨H1, μ1, i, C, fs, a, hi, hH, hk, hX, x1, S1, ha, eN3⟩ := h1
  walk_at "y"
  subst eN3
  walk_at "z"
  obtain ⟨vs, es, m, hv, hv1, g1, g2, g3⟩ := S1.rel i _ a hH ha
  walk_at "y"
  have XX := c.X.keeps S1.stays
  obtain ⟨k1, k2⟩ := Bool.and_eq_true_iff.mp (hk c.w.params)
  have fin : E (.ref a.1) s1 := by
   have S2 := S1.flew hH ha
   refine hE i _ μ1 _ s1 hX (x1.weaken fun _ z => z.elim) S2 ⟨a, C, fs, vs, ha, ?_, rfl, (x1.new i a (by rw [S.st.len]; exact hi) ha).1, g1, hv, .inl hv1⟩
   rw [gSs (gsi.mp hH).1]
  walk_at "z"
  obtain ⟨hp, gg, dd, tk, os⟩ := s1
  walk_at "y"
  have g1 : hp.get? a.1 = _ := g1
  have L2 : Looks c.M hp (typeOf (.ref a.1)) (.ref C) := (Looks.ld (part := none) g1).andThen .now
  have L1 : Looks c.M hp (isSubtype (.ref C) (.type "BaseException")) true := looks_mroIn XX (beq_iff_eq.mp k1)
  have L3 : Looks c.M hp (typeOf (.ref C)) (.type "type") := looks_typeIn XX (beq_iff_eq.mp k2)
  have f1 := looks_field (M := c.M) g1 1 hv1
  unfold excFromValue isExcClass isType isInstance raisedInstance setFlight raiseNew
  repeat (first | lk | (refine wpAny_loadPart g1 ?_) | wp_step)
  refine wpAny_handled ?_
  rw [hh]
  first
   | exact wpAny_throw fin
   | exact wpAny_bind (wpAny_pure (wpAny_throw fin))
end
noncomputable def bodyOf : Stmt → List Stmt
 | .FunctionDef _ _ b _ _ _ _ _ _ _ => b
 | _ => []
section
variable {c : Cx}
theorem gok_b (e : ∀ P, nsIn (kFrag P) mainGlobals x = some none) (hn : x ≠ "__name__") (hv : bootBuiltins x = some v) : GOk c x (.val v) :=
 ⟨v, .inr ⟨mg_none_of c.X c.g (e _), (c.bi x hn).trans hv⟩, rfl⟩
theorem gok_g (e : ∀ P, nsIn (kFrag P) mainGlobals x = some (some v)) : GOk c x (.val v) := ⟨v, .inl (mg_of c.X c.g (e _)), rfl⟩
theorem gok_s {t : Tok} (e : ∀ P, nsIn (kFrag P) mainGlobals x = some (some (.str y t))) : GOk c x (.str y) := ⟨_, .inl (mg_of c.X c.g (e _)), t, rfl⟩
theorem gok_i {i : Int} {t : Tok} (e : ∀ P, nsIn (kFrag P) mainGlobals x = some (some (.int i t))) : GOk c x (.int i) := ⟨_, .inl (mg_of c.X c.g (e _)), t, rfl⟩
end
theorem bindL_other {kd : Str → Option NameKind} : ∀ {bs : List (Str × Value)} {m : Str → Option Value}, (∀ v, (x, v) ∉ bs) → bindL kd bs m x = m x
 | [], _, _ => rfl
 | (y, w) :: r, m, h => by
  unfold bindL
  rw [bindL_other fun v hv => h v (.tail _ hv)]
  split
  ·have : x ≠ y := fun q => h w (by rw [q]; exact .head _)
   simp [this]
  ·rfl
theorem bindL_mem {kd : Str → Option NameKind} (hk : kd x = some .local) : ∀ {bs : List (Str × Value)} {m : Str → Option Value}, (bs.map (·.1)).Nodup → (x, v) ∈ bs → bindL kd bs m x = some v
 | (y, w) :: r, m, nd, hm => by
  rw [List.map_cons, List.nodup_cons] at nd
  unfold bindL
  rcases List.mem_cons.mp hm with hm | hm
  ·cases hm
   rw [bindL_other fun v hv => nd.1 (List.mem_map.mpr ⟨_, hv, rfl⟩), if_pos hk]; simp
  ·exact bindL_mem hk nd.2 hm
theorem bindC_other {kd : Str → Option NameKind} : ∀ {bs : List (Str × Value)} {m : Str → Option Value}, (∀ v, (x, v) ∉ bs) → bindC kd bs m x = m x
 | [], _, _ => rfl
 | (y, w) :: r, m, h => by
  unfold bindC
  rw [bindC_other fun v hv => h v (.tail _ hv)]
  split
  ·rfl
  ·have : x ≠ y := fun q => h w (by rw [q]; exact .head _)
   simp [this]
theorem bindC_mem {kd : Str → Option NameKind} (hk : kd x = some .cell) : ∀ {bs : List (Str × Value)} {m : Str → Option Value}, (bs.map (·.1)).Nodup → (x, v) ∈ bs → bindC kd bs m x = some v
 | (y, w) :: r, m, nd, hm => by
  rw [List.map_cons, List.nodup_cons] at nd
  unfold bindC
  rcases List.mem_cons.mp hm with hm | hm
  ·cases hm
   rw [bindC_other fun v hv => nd.1 (List.mem_map.mpr ⟨_, hv, rfl⟩), if_neg (by rw [hk]; decide)]; simp
  ·exact bindC_mem hk nd.2 hm
noncomputable def paramsC (names : List (Str × Kd)) (xs : List V) : Loc := (names.zip xs).map fun p => (p.1.1, p.1.2, some p.2)
noncomputable def fnOkC (fd : FuncData) (names : List (Str × Kd)) (more : List (Str × Kd)) : Bool :=
 decide ((names.map (·.1) ++ more.map (·.1)).Nodup) && (names.all fun e => fd.scope.names.lookup e.1 == some (kdIs e.2) && (kdIs e.2 != .globalImplicit)) && (more.all fun e => fd.scope.names.lookup e.1 == some (kdIs e.2)) &&
  !fd.scope.isCoroutine && !fd.scope.isGenerator && fd.scope.kind == .function && fd.globals == mainGlobals && fd.builtins == builtinsNs
theorem zip_repC : ∀ {names : List (Str × Kd)} {xs : List V} {vs : List Value}, RepL h μ xs vs → ∀ x k V, (x, k, V) ∈ paramsC names xs → (x, k) ∈ names ∧ ∃ y v, V = some y ∧ (x, v) ∈ (names.map (·.1)).zip vs ∧ Rep h μ y v
 | [], _, _, _, _, _, _, hm => by cases hm
 | _ :: _, [], _, _, _, _, _, hm => by cases hm
 | (a, ka) :: names, y :: xs, vs, r, x, k, V, hm => by
  walk_at "z"
  obtain ⟨v, q, eN1, r1, r2⟩ := r
  walk_at "y"
  subst eN1
  rcases List.mem_cons.mp (show (x, k, V) ∈ (a, ka, some y) :: paramsC names xs from hm) with hm | hm
  ·cases hm; exact ⟨.head _, y, v, rfl, .head _, r1⟩
  ·walk_at "z"
   obtain ⟨h1, y', v', h2, h3, h4⟩ := zip_repC r2 x k V hm
   walk_at "y"
   exact ⟨.tail _ h1, y', v', h2, .tail _ h3, h4⟩
theorem paramsC_names : ∀ {names : List (Str × Kd)} {xs : List V}, names.length = xs.length → (paramsC names xs).map (·.1) = names.map (·.1)
 | [], _, _ => rfl
 | _ :: _, [], h => by cases h
 | a :: names, y :: xs, h => by
  show a.1 :: (paramsC names xs).map (·.1) = a.1 :: names.map (·.1)
  rw [paramsC_names (Nat.succ.inj h)]
theorem CallJ.fnC {fd : FuncData} {names : List (Str × Kd)} {more : Loc}
  (hK : ∀ P, (kFrag P).lookup a = some { cls := .type "function", data := .func fd }) (hbody : fd.body = .stmts body) (hcode : ∀ P, codeIn (kFrag P) fd.code fd.qualname = true) (hstat : fnOkC fd names (more.map fun e => (e.1, e.2.1)) = true)
  (hbind : ∀ (vs : List Value), vs.length = xs.length → bindArgs fd ⟨vs, []⟩ = pure ((names.map (·.1)).zip vs)) (hlen : names.length = xs.length) (hclo : fd.closure = [])
  (hcell : ∀ L, (names.all fun e => kdIs e.2 == .local || ((cellsFrom L fd.scope.names []).lookup e.1).isSome) = true)
  (hmore : ∀ x k V, (x, k, V) ∈ more → (k = .loc ∧ V = none) ∨ (k = .glob ∧ ∀ y, V = some y → GOk c x y))
  (h : ExS c n body (paramsC names xs ++ more) H (RetP R) X) : CallJ c (n + 1) (.ref a) xs H R X := by
 refine CodeJ.call fun A fr μ s vs room hA S rv RR hQ hE => ?_
 unfold fnOkC at hstat
 simp only [Bool.and_eq_true, decide_eq_true_eq, List.all_eq_true, beq_iff_eq, bne_iff_ne, Bool.not_eq_true'] at hstat
 walk_at "z"
 obtain ⟨⟨⟨⟨⟨⟨⟨h1, h2⟩, h3⟩, h5⟩, h6⟩, h7⟩, h8⟩, h9⟩ := hstat
 walk_at "y"
 have X0 : (kFrag c.w.params).In s.heap := c.X.keeps S.stays
 have lall : names.length = vs.length := by rw [rv.length, hlen]
 have hce := hcell (s.heap.objs.size + 1)
 rw [List.all_eq_true] at hce
 have hkd : ∀ e ∈ names, fd.scope.names.lookup e.1 = some .local ∨ (fd.scope.names.lookup e.1 = some .cell ∧ ((cellsFrom (s.heap.objs.size + 1) fd.scope.names []).lookup e.1).isSome = true) := fun e he => by
  obtain ⟨q1, q2⟩ := h2 e he
  have q3 := hce e he
  rw [q1]
  cases hk : e.2 with
  | loc => exact .inl rfl
  | cell => rw [hk] at q3; exact .inr ⟨rfl, by simpa [kdIs] using q3⟩
  | glob => rw [hk] at q2; exact absurd rfl q2
 refine codeAny_call_cells (fd := fd) (body := body) (binds := (names.map (·.1)).zip vs) (rdK room.d) (X0 a _ (hK _)) rfl (c.nl.keeps S.stays) (codeRec_of X0 (hcode _)) hbody (hbind vs rv.length) hclo (fun y hy => ?_) (fun s₁ x => ?_) h5 h6 h7
 ·walk_at "z"
  obtain ⟨e, he, q⟩ := List.mem_map.mp (List.of_mem_zip hy).1
  walk_at "y"
  rw [← q]; exact hkd e he
 walk_at "z"
 obtain ⟨h₀, tk, eN2⟩ := x.toInCall.same
 walk_at "y"
 subst eN2
 have hk := x.toInCall.keep
 have hns := x.toInCall.ns
 have hf : (callEnvC fd s.heap.objs.size a).frame = some s.heap.objs.size := rfl
 have hl : (callEnvC fd s.heap.objs.size a).locals = s.heap.objs.size := rfl
 have S₁ : St c.base (callEnvC fd s.heap.objs.size a :: fr) μ H h₀ := S.enter hk h7 hf hns
 have hinfr : InFr (callEnvC fd s.heap.objs.size a :: fr) (callEnvC fd s.heap.objs.size a).locals := by unfold InFr; rw [List.filterMap_cons, hf, hl]; exact .head _
 have back : ∀ b, h₀.get? b = none → s.heap.get? b = none := fun b e => by
  cases q : s.heap.get? b with
  | none => rfl
  | some o => rw [hk b o q] at e; cases e
 have nm : ∀ b, s.heap.objs.size ≤ b → ¬ Mut μ b := fun b hb hm => by
  walk_at "z"
  obtain ⟨y, hy, _⟩ := S.live hm
  walk_at "y"
  exact absurd (Heap.lt_size hy) (Nat.not_lt.mpr hb)
 have ndz : (((names.map (·.1)).zip vs).map (·.1)).Nodup := by
  rw [zip_names (by rw [lMp, lall])]; exact (List.nodup_append.mp h1).1
 have sit : Sit c n (A.deeper (callEnvC fd s.heap.objs.size a)) (callEnvC fd s.heap.objs.size a) (callEnvC fd s.heap.objs.size a :: fr) μ H (paramsC names xs ++ more) { s with heap := h₀, toks := tk } := by
  refine ⟨⟨?_, ?_, ?_⟩, ?_, ⟨h7, h8, h9, ⟨_, hf, by rw [List.head?_cons, Option.bind_some]; exact hf⟩⟩, S₁, _, hns, nm _ (Nat.le_refl _), base_none S.stays (by rw [hl]; exact none_at_size _), ?_, fun x' k V hm => ?_⟩
  ·exact rd1 room.d
  ·exact ru3 room.u
  ·exact .inr (room.hd.resolve_left (Nat.succ_ne_zero _))
  ·show A.frames.map _ = _; rw [hA]; rfl
  ·rw [List.map_append, paramsC_names hlen, show more.map (·.1) = (more.map fun e => (e.1, e.2.1)).map (·.1) by rw [List.map_map]; rfl]; exact h1
  ·rcases List.mem_append.mp hm with hm | hm
   ·walk_at "z"
    obtain ⟨hin, y, v, eN3, hz, ry⟩ := zip_repC rv x' k V hm
    walk_at "y"
    subst eN3
    have ry' := ry.mono (F := NoF) (D := NoF) (Kept.of_keeps hk) noTup_none (pRe _)
    have q1 := (h2 _ hin).1
    have q2 := hce _ hin
    cases k with
    | loc => exact ⟨q1, fun z hz' => by cases hz'; exact ⟨v, bindL_mem q1 ndz hz, ry'⟩⟩
    | cell =>
     have q3 : ((cellsFrom (s.heap.objs.size + 1) fd.scope.names []).lookup x').isSome = true := by simpa [kdIs] using q2
     obtain ⟨ca, hca⟩ := Option.isSome_iff_exists.mp q3
     refine ⟨q1, ca, some v, hca, ?_, nm _ (Nat.le_of_lt (x.above x' ca (PySem.mem_of_lookup hca))), fun z hz' => by cases hz'; exact ⟨v, rfl, ry'⟩⟩
     have := x.cell x' ca hca
     rwa [bindC_mem q1 ndz hz] at this
    | glob => exact absurd rfl (h2 _ hin).2
   ·have hk' := h3 (x', k) (List.mem_map.mpr ⟨_, hm, rfl⟩)
    rcases hmore x' k V hm with ⟨rfl, rfl⟩ | ⟨rfl, hg⟩
    ·exact ⟨hk', fun y hy => by cases hy⟩
    ·exact ⟨hk', fun y hy => hg y hy⟩
 refine wpAny_mono (h _ _ _ μ _ sit hinfr _ (fun e s' => wpAny c.M (A.deeper (callEnvC fd s.heap.objs.size a)) (leaving (callEnvC fd s.heap.objs.size a) e) (fun _ s'' => RR (.error e) s'') (fun e' s'' => RR (.error e') s'') s') (fun fl H' μ' f s' hP x' S' hf' => ?_) (fun i H' μ' v s' hX x' S' hr => ?_)) (fun _ _ q => q) fun _ _ q => q
 ·have x₂ := x'.leave hk hf hl
  cases fl with
  | ret v =>
   walk_at "z"
   obtain ⟨w, eN4, rw'⟩ := hf'
   walk_at "y"
   subst eN4
   exact hQ v H' μ' w s' hP x₂ S'.pop rw'
  | next ρ =>
   obtain ⟨rfl, _⟩ := hf'
   exact hQ .none H' μ' .none s' hP x₂ S'.pop rfl
  | brk ρ => exact hP.elim
  | cont ρ => exact hP.elim
 ·refine leaving_ok (by show A.frames.map _ = _; rw [hA]; rfl) ⟨_, hf, by rw [List.head?_cons, Option.bind_some]; exact hf⟩ (fun b o e => hk b o (S.stays b o e)) x' S' hr (live_fr x' S' hinfr) fun s'' x'' S'' r'' => ?_
  refine hE i H' μ' v s'' hX (x''.leave hk hf hl) S''.pop ?_
  walk_at "z"
  obtain ⟨a', C, fs, vs', g1, g2, g3, g4, g5, g6, g7⟩ := r''.raised
  walk_at "y"
  exact ⟨a', C, fs, vs', g1, g2, g3, back _ g4, g5, g6, g7.imp id fun ⟨T, oT, ts, f1, f2, f3⟩ => ⟨T, oT, ts, f1, back _ f2, f3⟩⟩
section
variable {prog : Program} {w : World} {A : Around} {E : Value → Shared → Prop} {s : Shared}
theorem pick_to (x y : Value) : ∀ (b : Nat) (_ : b < 2), ((List.range b).filterMap fun (k : Nat) => (#[x, y] : Array Value)[((0 : Int) + (k : Int) * 1).toNat]?).toArray = ([x, y].take b).toArray
 | 0, _ => rfl
 | 1, _ => rfl
 | _ + 2, h => absurd h (Nat.not_lt.mpr (Nat.le_add_left 2 _))
theorem le2 {p : Nat → Prop} (h0 : p 0) (h1 : p 1) (h2 : p 2) : ∀ b ≤ 2, p b
 | 0, _ => h0
 | 1, _ => h1
 | 2, _ => h2
 | _ + 3, h => absurd h (Nat.not_le.mpr (Nat.le_add_left 3 _))
theorem adjust_to (b : Nat) (hb : b ≤ 2) : Builtin.Slice.sliceAdjust none (some (b : Int)) 1 ((2 : Nat) : Int) = (0, (b : Int)) := by
 revert b
 exact le2 (by decide) (by decide) (by decide)
theorem places_to (b : Nat) (hb : b ≤ 2) : Builtin.Slice.slicePlaces 0 (b : Int) 1 = b := by
 revert b
 exact le2 (by decide) (by decide) (by decide)
theorem sliceApplied_to {sl : Addr} {b : Nat} {u : Tok} {Q : Int × Int × Nat → Shared → Prop} (hs : s.heap.IsSliceOf sl .none (.int b u) .none) (hb : b ≤ 2) (h : Q (0, 1, b) s) :
  wpAny (model prog w) A (Builtin.Slice.sliceApplied (.ref sl) (pure ((2 : Nat) : Int))) Q E s := by
 walk_at "z"
 obtain ⟨os, hos, hcs, hds⟩ := id hs
 walk_at "y"
 unfold Builtin.Slice.sliceApplied Builtin.Slice.sliceFields
 refine wpAny_bind (wpAny_bind (wpAny_field hos hds (x := .none) rfl (wpAny_bind (wpAny_field hos hds (x := .int b u) rfl (wpAny_bind (wpAny_field hos hds (x := .none) rfl (wpAny_pure ?_)))))))
 refine wpAny_bind (slicePart_none ?_)
 show wpAny _ _ (if ((1 : Int) == 0) = true then _ else _) _ _ s
 rw [if_neg (by decide)]
 refine wpAny_bind (slicePart_none (wpAny_bind (slicePart_int (wpAny_bind (wpAny_pure ?_)))))
 have e := And.intro (adjust_to b hb) (places_to b hb)
 show wpAny _ _ (match Builtin.Slice.sliceAdjust none (some (b : Int)) 1 ((2 : Nat) : Int) with | (lo, hi) => pure (lo, (1 : Int), Builtin.Slice.slicePlaces lo hi 1)) _ _ s
 rw [e.1]
 show wpAny _ _ (pure ((0 : Int), (1 : Int), Builtin.Slice.slicePlaces 0 (b : Int) 1)) _ _ s
 rw [e.2]
 exact wpAny_pure h
theorem getItem_tuple_to {t sl : Addr} {x y : Value} {b : Nat} {u : Tok} (ht : IsTup s.heap t #[x, y]) (hs : s.heap.IsSliceOf sl .none (.int b u) .none) (hb : b ≤ 2)
  (h : (b = 2 ∧ Q (.ref t) s) ∨ (b < 2 ∧ Q (.ref s.heap.objs.size) { s with heap := s.heap.push { cls := .type "tuple", data := .seq ([x, y].take b).toArray } })) : wpAny (model prog w) A (getItem (.ref t) (.ref sl)) Q E s := by
 have hz : sizeOk (.seq ([x, y].take b).toArray) := by
  exact Nat.le_trans (List.length_take_le' b [x, y]) (show 2 ≤ sizeLine by decide)
 walk_at "z"
 obtain ⟨os, hos, hcs, hds⟩ := id hs
 walk_at "y"
 have hTs : s.TypeIs (.ref sl) "slice" := ⟨os, hos, hcs⟩
 unfold getItem
 try with_reducible refine wpAny_holding ?_
 first | refine wpAny_bind (wpAny_pure ?_) | skip
 refine wpAny_bind (wpAny_sequenceKey ht.typeIs (by decide) ?_)
 refine wpAny_bind (wpAny_callSpecial?_slot (name := so "__getitem__") ht.typeIs slot_tuple_getitem
  (wpAny_call_entry slot_tuple_getitem ht.typeIs entry_tuple_getitem ?_ (args_tuple_getitem _ _)))
 show wpAny _ _ (Builtin.Tuple.tupleItemsOf (.ref t) >>= _) _ _ s
 refine wpAny_bind (tupleItemsOf_ ht ?_)
 refine wpAny_bind (wpAny_typeOf hTs ?_)
 rw [if_pos (by decide)]
 refine wpAny_bind (sliceApplied_to hs hb ?_)
 rcases h with ⟨rfl, h⟩ | ⟨hb2, h⟩
 ·show wpAny _ _ (if ((0 : Int) == 0 && (1 : Int) == 1 && (2 : Nat) == 2) = true then _ else _) _ _ s
  rw [if_pos (by decide)]
  refine wpAny_bind (m := Builtin.Tuple.tupleIsExact _) ?_
  unfold Builtin.Tuple.tupleIsExact
  refine wpAny_bind (wpAny_typeOf ht.typeIs (wpAny_pure ?_))
  rw [if_pos (by decide)]
  exact wpAny_bind (fun _ _ _ => wpAny_pure ⟨_, rfl, wpAny_pure h⟩)
 ·have hno : ¬ (((0 : Int) == 0 && (1 : Int) == 1 && b == 2) = true) := by simp; omega
  show wpAny _ _ (if ((0 : Int) == 0 && (1 : Int) == 1 && b == 2) = true then _ else _) _ _ s
  rw [if_neg hno]
  have e := pick_to x y b hb2
  rw [e]
  first
   | exact wpAny_bind (m := Builtin.Tuple.tupleExact _) (wpAny_newObj_type (wpAny_pure ⟨_, rfl, wpAny_pure h⟩) hz)
   | exact wpAny_bind (m := Builtin.Tuple.tupleExact _) (wpAny_newObj_type (wpAny_bind (wpAny_pure (wpAny_pure ⟨_, rfl, wpAny_pure h⟩))) hz)
   | exact wpAny_bind (wpAny_bind (m := Builtin.Tuple.tupleExact _) (wpAny_newObj_type (wpAny_pure (wpAny_pure ⟨_, rfl, wpAny_pure h⟩)) hz))
   | exact wpAny_bind (wpAny_bind (m := Builtin.Tuple.tupleExact _) (wpAny_newObj_type (wpAny_pure ⟨_, rfl, wpAny_pure h⟩) hz))
end
section
variable {c : Cx} {n : Nat} {ρ : Loc} {H : List AO} {R : V → List AO → Prop} {X : Nat → List AO → Prop}
theorem ev_sliceT {v hi : Expr} (h : EvE c n v ρ H (fun o H1 => ∃ x y, o = .tup [x, y] ∧ EvE c n hi ρ H1 (fun k H2 => ∃ b : Nat, k = .int b ∧ b ≤ 2 ∧ R (.tup ([x, y].take b)) H2) X) X) : EvE c n (.Subscript v (.Slice none (some hi) none p) pos) ρ H R X := by
 intro A env fr μ s S Q E hQ hE
 refine subX (T := "tuple") slot_tuple_getitem.lookup (h A env fr μ s S _ E (fun o H1 μ1 va s1 h1 x1 S1 r1 => ?_) hE)
 walk_at "z"
 obtain ⟨x, y, eN1, h1⟩ := h1
 walk_at "y"
 subst eN1
 refine wpAny_Slice (wpAny_evalPart_none ?_)
 refine evalPart_some_step (h1 A env fr μ1 s1 (S.next x1 S1) _ E (fun k H2 μ2 vb s2 h2 x2 S2 r2 => ?_) (hE.next x1 S1))
 walk_at "z"
 obtain ⟨b, eN2, hb, hR⟩ := h2
 walk_at "y"
 subst eN2
 obtain ⟨u, rfl⟩ := r2
 rw [evalPart_none]
 walk_at "z"
 obtain ⟨t, vs, m, eN3, g, rl⟩ := x2.rep S1 r1
 walk_at "y"
 subst eN3
 walk_at "z"
 obtain ⟨vx, q1, eN4, rx, vy, q2, eN5, ry, hnil⟩ := rl
 walk_at "y"
 subst eN4 eN5
 obtain rfl : q2 = [] := hnil
 have gk : ∀ b' o, s2.heap.get? b' = some o → (s2.heap.push { cls := .type "slice", data := .fields #[.none, .int b u, .none] }).get? b' = some o := push_keeps
 have ht' : IsTup (s2.heap.push { cls := .type "slice", data := .fields #[.none, .int b u, .none] }) t #[vx, vy] := ⟨_, gk _ _ g, rfl, m, rfl⟩
 have hQ2 := (hQ.next x1 S1).next x2 S2
 refine wpAny_pure ⟨ht'.typeIs, getItem_tuple_to ht' (Heap.IsSliceOf.new ..) hb ?_⟩
 rcases Nat.lt_or_ge b 2 with hb2 | hb2
 ·refine .inr ⟨hb2, ?_⟩
  have kk : ∀ b' o, s2.heap.get? b' = some o → ((s2.heap.push { cls := .type "slice", data := .fields #[.none, .int b u, .none] }).push { cls := .type "tuple", data := .seq ([vx, vy].take b).toArray }).get? b' = some o := fun _ _ q => push_keeps _ _ (gk _ _ q)
  have rl : RepL s2.heap μ2 [x, y] [vx, vy] := ⟨vx, _, rfl, rx, vy, _, rfl, ry, rfl⟩
  exact hQ2.here (tk := s2.toks) S2 hR kk ⟨_, [vx, vy].take b, 0, rfl, gPz _ rfl, (rl.take b).mono (F := NoF) (D := NoF) (Kept.of_keeps kk) noTup_none (pRe _)⟩
 ·obtain rfl : b = 2 := by omega
  refine .inl ⟨rfl, ?_⟩
  have rl : RepL s2.heap μ2 [x, y] [vx, vy] := ⟨vx, _, rfl, rx, vy, _, rfl, ry, rfl⟩
  exact hQ2.here (tk := s2.toks) S2 hR gk ⟨t, [vx, vy], m, rfl, gk _ _ g, rl.mono (F := NoF) (D := NoF) (Kept.of_keeps gk) noTup_none (pRe _)⟩
end
theorem setGen_toks (s : Shared) (g : Nat) (x : GenState) : (s.setGen g x).toks = s.toks := rfl
theorem runs_toks {M : Model} {Γ : Ctx} {t : Sem Fin} {fs : List Frame} {e : End} (h : Runs M Γ p t fs s e s') : s.toks ≤ s'.toks := by
 induction h <;> (try simp only [setGen_toks] at *) <;> first | exact Nat.le_refl _ | assumption | omega
theorem wakes_toks {M : Model} {Γ : Ctx} {g : Nat} {r : Resume} {res : GenResult} (h : Wakes M Γ p g r s res s') : s.toks ≤ s'.toks := by
 unfold Wakes at h
 split at h
 ·exact h.elim
 ·split at h
  ·obtain ⟨e, s₁, h1, _, _, rfl⟩ := h
   have := runs_toks h1
   rw [setGen_toks] at this ⊢; exact this
  ·rw [h.2]; exact Nat.le_refl _
  ·rw [h.2]; exact Nat.le_refl _
 ·obtain ⟨e, s₁, h1, _, _, rfl⟩ := h
  have := runs_toks h1
  rw [setGen_toks] at this ⊢; exact this
 ·rw [h.2]; exact Nat.le_refl _
 ·rw [h.2]; exact Nat.le_refl _
theorem wp_toks {α : Type} {M : Model} (b : Nat) (t : Sem α) : ∀ {Γ : Ctx} {Q : α → Pos → Shared → Prop} {E : Value → Pos → Shared → Prop} {p : Pos} {s : Shared}, b ≤ s.toks → Sem.wp M Γ t (fun a p s' => b ≤ s'.toks → Q a p s') (fun e p s' => b ≤ s'.toks → E e p s') p s → Sem.wp M Γ t Q E p s := by
 induction t with
 | pure a => intro Γ Q E p s hs h; exact h hs
 | raise e => intro Γ Q E p s hs h; exact h hs
 | unsupported _ => intro Γ Q E p s hs h; exact h
 | finish _ => intro Γ Q E p s hs h; exact h
 | rule _ k ih => intro Γ Q E p s hs h; exact ih _ hs h
 | «at» _ k ih => intro Γ Q E p s hs h; exact ih _ hs h
 | load a _ k ih => intro Γ Q E p s hs h; obtain ⟨o, ho, h⟩ := h; exact ⟨o, ho, ih _ hs h⟩
 | update a _ f k ih => intro Γ Q E p s hs h; exact ⟨h.1, ih _ (s := { s with heap := s.heap.update a f }) hs h.2⟩
 | loadIfAlive a k ih => intro Γ Q E p s hs h; exact ih _ hs h
 | point _ k ih => intro Γ Q E p s hs h; exact ih _ hs h
 | register _ _ _ => intro Γ Q E p s hs h; exact h
 | alloc o k ih => intro Γ Q E p s hs h; exact ih _ (s := { s with heap := s.heap.push o }) hs h
 | fresh k ih => intro Γ Q E p s hs h; exact ih _ (s := { s with toks := s.toks + 1 }) (Nat.le_succ_of_le hs) h
 | ask k ih => intro Γ Q E p s hs h; exact ih _ hs h
 | choose src n k ih => intro Γ Q E p s hs h; exact ⟨h.1, ih _ (s := { s with drawn := s.drawn.bump src }) hs h.2⟩
 | os q _ k ih => intro Γ Q E p s hs h; exact ih _ (s := { s with os := (Os.step s.os q).1 }) hs h
 | call c hh _ _ k ih =>
  intro Γ Q E p s hs h
  obtain ⟨r, s1, hr, h⟩ := h
  exact ⟨r, s1, hr, ih _ (Nat.le_trans hs (runs_toks hr)) h⟩
 | handled own k ih => intro Γ Q E p s hs h; exact ih _ hs h
 | genState g k ih => intro Γ Q E p s hs h; obtain ⟨st, hst, h⟩ := h; exact ⟨st, hst, ih _ hs h⟩
 | newGen c k ih => intro Γ Q E p s hs h; exact ih _ (s := { s with gens := s.gens.push (.fresh c) }) hs h
 | resume g r _ k ih =>
  intro Γ Q E p s hs h
  obtain ⟨res, s1, hw, h⟩ := h
  exact ⟨res, s1, hw, ih _ (Nat.le_trans hs (wakes_toks hw)) h⟩
 | yield => intro Γ Q E p s hs h; exact h
 | stack k ih => intro Γ Q E p s hs h; exact ih _ hs h
 | fork => intro Γ Q E p s hs h; exact h
 | thread k ih => intro Γ Q E p s hs h; exact ih _ hs h
 | await => intro Γ Q E p s hs h; exact h
theorem wpAny_toks {α : Type} {M : Model} {t : Sem α} {Q : α → Shared → Prop} (b : Nat) (hb : b ≤ s.toks) (h : wpAny M A t (fun v s' => b ≤ s'.toks → Q v s') (fun e s' => b ≤ s'.toks → E e s') s) : wpAny M A t Q E s :=
 fun Γ p hΓ => wp_toks b t hb (h Γ p hΓ)
section
variable {c : Cx} {n m : Nat} {ρ : Loc} {H : List AO} {P : Fl → List AO → Prop} {R : V → List AO → Prop} {RB : Bool → List AO → Prop} {RL : List V → List AO → Prop} {X : Nat → List AO → Prop}
noncomputable def EvQ (c : Cx) (n m : Nat) (e : Expr) (ρ : Loc) (H : List AO) (R : V → List AO → Prop) (X : Nat → List AO → Prop) : Prop :=
 ∀ (A : Around) (env : Env) (fr : List Env) (μ : Mp) (s : Shared), m ≤ s.toks → Sit c n A env fr μ H ρ s → ∀ (Q E : Value → Shared → Prop), Cont N c fr μ s R Q → ContX N c fr μ s X E → wpAny c.M A (eval e env) Q E s
noncomputable def BoQ (c : Cx) (n m : Nat) (e : Expr) (ρ : Loc) (H : List AO) (R : Bool → List AO → Prop) (X : Nat → List AO → Prop) : Prop :=
 ∀ (A : Around) (env : Env) (fr : List Env) (μ : Mp) (s : Shared), m ≤ s.toks → Sit c n A env fr μ H ρ s → ∀ (Q : Bool → Shared → Prop) (E : Value → Shared → Prop), ContB N c fr μ s R Q → ContX N c fr μ s X E → wpAny c.M A (isTrue e env (eval e env)) Q E s
noncomputable abbrev ExQ (c : Cx) (n m : Nat) (b : List Stmt) (ρ : Loc) (H : List AO) (P : Fl → List AO → Prop) (X : Nat → List AO → Prop) : Prop := TrSq c n m (execs b) ρ H P X
theorem EvQ.of (h : EvE c n e ρ H R X) : EvQ c n m e ρ H R X := fun A env fr μ s _ S => h A env fr μ s S
theorem EvQ.call (h : EvQ c n m e ρ H R X) (hm : m ≤ s.toks) (S : Sit c n A env fr μ H ρ s) (hE : ContX N c fr μ s X E)
  (k : ∀ x H' μ' v s', R x H' → m ≤ s'.toks → Ext fr N μ μ' s s' → St c.base fr μ' H' s'.heap → Rep s'.heap μ' x v → Q v s') : wpAny c.M A (eval e env) Q E s :=
 wpAny_toks m hm (h A env fr μ s hm S _ _ (fun x H' μ' v s' hR x1 S1 r1 ht => k x H' μ' v s' hR ht x1 S1 r1) fun i H' μ' v s' hX x1 S1 r1 _ => hE i H' μ' v s' hX x1 S1 r1)
theorem ExQ.ret (h : EvQ c n m e ρ H (fun v H1 => P (.ret v) H1) X) : ExQ c n m (.Return (some e) p :: r) ρ H P X := by
 intro A env fr μ s hm S ow Q E hQ hE
 refine wpAny_execs_cons (wpAny_Return_some (h A env fr μ s hm S _ E (fun v H1 μ1 va s1 h1 x1 S1 r1 => ?_) hE.own))
 exact hQ (.ret v) H1 μ1 _ s1 h1 (x1.weaken fun _ h => h.elim) S1 ⟨va, rfl, r1⟩
theorem ExQ.step {st : Stmt} (h : ExS c n [st] ρ H (fun fl H1 => ∃ ρ1, fl = .next ρ1 ∧ ExQ c n m r ρ1 H1 P X) X) : ExQ c n m (st :: r) ρ H P X := by
 intro A env fr μ s hm S ow Q E hQ hE
 rw [show st :: r = [st] ++ r from rfl, execs_append]
 refine wpAny_bind (wpAny_toks m hm (h A env fr μ s S ow _ _ (fun fl H1 μ1 f s1 h1 x1 S1 hf ht => ?_) fun i H1 μ1 v s1 hX x1 S1 r1 _ => hE i H1 μ1 v s1 hX x1 S1 r1))
 walk_at "z"
 obtain ⟨ρ1, eN1, h2⟩ := h1
 walk_at "y"
 subst eN1
 obtain ⟨rfl, hr⟩ := hf
 exact h2 A env fr μ1 s1 ht ⟨S.room, S.stack, S.eok, S1, hr⟩ ow Q E (hQ.next x1 S1 hr) (hE.nextO x1 S1 hr)
theorem ExQ.ifS {t : Expr} {a b : List Stmt} (h : BoQ c n m t ρ H (fun q H1 => (q = true → ExS c n (a ++ r) ρ H1 P X) ∧ (q = false → ExS c n (b ++ r) ρ H1 P X)) X) : ExQ c n m (.If t a b p :: r) ρ H P X := by
 intro A env fr μ s hm S ow Q E hQ hE
 have e : execs (.If t a b p :: r) env = (do standAt p; if ← isTrue t env (eval t env) then execs (a ++ r) env else execs (b ++ r) env) := by
  rw [execs_cons, exec_If, bind_assoc]
  congr 1; funext _
  rw [bind_assoc]
  congr 1; funext q
  cases q
  ·exact (execs_append env r b).symm
  ·exact (execs_append env r a).symm
 rw [e]
 refine wpAny_bind (wpAny_standAt (wpAny_bind (h A env fr μ s hm S _ E (fun q H1 μ1 s1 h1 x1 S1 => ?_) hE.own)))
 have S1' := S.next x1 S1
 have xo : Ext fr (Own env) μ μ1 s s1 := x1.weaken fun _ h => h.elim
 cases q with
 | true => exact h1.1 rfl A env fr μ1 s1 S1' ow Q E (hQ.next xo S1 S1'.rho) (hE.nextO xo S1 S1'.rho)
 | false => exact h1.2 rfl A env fr μ1 s1 S1' ow Q E (hQ.next xo S1 S1'.rho) (hE.nextO xo S1 S1'.rho)
theorem BoQ.cmp {l r : Expr} {op : CmpOp} (h : EvQ c n m l ρ H (fun a H1 => EvE c n r ρ H1 (fun b H2 => BinA c n (compareOp op) a b H2 (fun v H3 => ∃ q, v = .bool q ∧ RB q H3)) X) X) (hm : behindInMarks op r = false := by with_unfolding_all rfl) : BoQ c n m (.Compare l [op] [r] p) ρ H RB X := by
 intro A env fr μ s hm' S Q E hQ hE
 refine wpAny_isTrue_Compare1 (h A env fr μ s hm' S _ _ (fun a H1 μ1 va s1 h1 x1 S1 r1 => ?_) hE) hm
 refine h1 A env fr μ1 s1 (S.next x1 S1) _ _ (fun b H2 μ2 vb s2 h2 x2 S2 r2 => ?_) (hE.next x1 S1)
 refine h2 A fr μ2 s2 va vb S.room S2 (x2.rep S1 r1) r2 _ _ (fun v H3 μ3 vv s3 h3 x3 S3 r3 => ?_)
 walk_at "z"
 obtain ⟨q, eN2, hq⟩ := h3
 walk_at "y"
 subst eN2
 rw [show vv = _ from r3]
 exact wpAny_truthy_bool (hQ q H3 μ3 s3 hq (x1.comp S1 (x2.comp S2 x3)) S3)
theorem EvQ.binop {l r : Expr} {op : Operator} (h : EvQ c n m l ρ H (fun a H1 => EvQ c n m r ρ H1 (fun b H2 => BinA c n (binaryOp op) a b H2 R) X) X) : EvQ c n m (.BinOp l op r p) ρ H R X := by
 intro A env fr μ s hm S Q E hQ hE
 refine wpAny_BinOp (h.call hm S hE fun a H1 μ1 va s1 h1 t1 x1 S1 r1 => ?_)
 refine h1 A env fr μ1 s1 t1 (S.next x1 S1) _ _ (fun b H2 μ2 vb s2 h2 x2 S2 r2 => ?_) (hE.next x1 S1)
 exact h2 A fr μ2 s2 va vb S.room S2 (x2.rep S1 r1) r2 _ _ ((hQ.next x1 S1).next x2 S2)
theorem EvQ.len {k : Kd} {fp : Pos} (hm : (so "len", k, some (.val (.builtin "len"))) ∈ ρ) (h : EvQ c n m e ρ H (fun x H1 => CallJ c n (.builtin "len") [x] H1 R X) X) (hs : notStar e = true := by rfl) :
  EvQ c n m (.Call (.Name (so "len") fp) [e] [] p) ρ H R X := by
 intro A env fr μ s hmm S Q E hQ hE
 show wpAny _ _ (do callWith p (← eval (.Name (so "len") fp) env) [] (backTo p (starEach [e] env)) []) _ _ _
 refine wpAny_bind (EvQ.call (m := m) (EvQ.of (EvE.name (R := fun y H' => y = .val (.builtin "len") ∧ H' = H) hm ⟨rfl, rfl⟩ (by kernel_rfl))) hmm S hE (fun y H1 μ1 v s1 h1 t1 x1 S1 r1 => ?_))
 obtain ⟨rfl, rfl⟩ := h1
 rw [show v = .builtin "len" from r1]
 have hs' : [e].all notStar = true := by simp [hs]
 refine Calls.callWith_builtin (backTo_plain _ _ _ hs') (evalArgs_ok hs' ?_)
 rw [starEach_cons [] env hs]
 refine Calls.spliced_cons (h.call t1 (S.next x1 S1) (hE.next x1 S1) fun y H2 μ2 va s2 h2 t2 x2 S2 r2 => ?_)
 refine Calls.spliced_nil ?_
 exact h2 A fr μ2 s2 [va] S.room S.stack S2 (RepL.one r2) Q E ((hQ.next x1 S1).next x2 S2) ((hE.next x1 S1).next x2 S2)
theorem rep_call {prog : Program} {z : Str} {t u v : Tok} (hu : u ≠ 0) (hv : v ≠ 0) (huv : u ≠ v) (hyz : (y == z) = false) (hb : x.length + (x.length + 1) * z.length ≤ 16777216)
  (hq : ∀ t' k, Q (.str (Txt.replace x y z) t') { s with toks := k }) : wpAny (model prog w) A (call (.builtin "str.replace") [.str x t, .str y u, .str z v]) Q E s := SC.replace hu hv huv hyz hb hq
theorem meth_str {id : String} (pa : PlainAttrs "str") (sl : Slot "str" x id) (ty : typeOf (.builtin id) = pure (.type "method_descriptor"))
  (hb : ∀ env whole, attributeBase o x env whole = whole) (hf : fewOk as = true) (hl : (ap.endLine == p.line) = true)
  (h : wpAny c.M A (eval o env) (fun v s1 => ∃ y t, v = .str y t ∧ wpAny c.M A (callWith p (.builtin id) [v] (backTo p (starEach as env)) []) Q E s1) E s) :
  wpAny c.M A (eval (.Call (.Attribute o x ap) as [] p) env) Q E s := by
 rw [arm_eval_Call, hb]
 refine wpAny_bind (wpAny_mono h (fun v s1 h1 => ?_) fun _ _ z => z)
 walk_at "z"
 obtain ⟨y, t, eN3, h1⟩ := h1
 walk_at "y"
 subst eN3
 refine wpAny_bind (wpAny_standAt ?_)
 unfold methodCall
 rw [form_ok hf]
 have hp : methodCallPos true o env ap p = pure p := by unfold methodCallPos; simp [hl]
 refine wpAny_bind (wpAny_holding (getMethod_builtin (typeIs_str _ _ _) pa sl ty (fun _ e => nomatch e) ?_))
 rw [hp]
 exact wpAny_bind (wpAny_pure h1)
theorem EvQ.replace {z : Str} {k1 k2 : Nat} {p1 p2 : Pos} (hm : 1 ≤ m)
  (h : EvQ c n m o ρ H (fun v H1 => ∃ x, v = .str x ∧ x.length + (x.length + 1) * z.length ≤ 16777216 ∧ R (.str (Txt.replace x y z)) H1) X) (hyz : (y == z) = false)
  (hb : ∀ env whole, attributeBase o (so "replace") env whole = whole := by intros; rfl) (hf : fewOk [.Constant (.str y) k1 p1, .Constant (.str z) k2 p2] = true := by rfl) (hl : (ap.endLine == p.line) = true := by rfl) :
  EvQ c n m (.Call (.Attribute o (so "replace") ap) [.Constant (.str y) k1 p1, .Constant (.str z) k2 p2] [] p) ρ H R X := by
 intro A env fr μ s hmm S Q E hQ hE
 refine meth_str F.plainAttrs_str F.slot_str_replace F.type_str_replace hb hf hl (h.call hmm S hE fun v H1 μ1 va s1 h1 t1 x1 S1 r1 => ?_)
 walk_at "z"
 obtain ⟨x, eN4, hx, hR⟩ := h1
 walk_at "y"
 subst eN4
 obtain ⟨t, rfl⟩ := r1
 refine ⟨x, t, rfl, ?_⟩
 have hs' := (Bool.and_eq_true_iff.mp hf).1
 refine Calls.callWith_builtin (backTo_plain _ _ _ hs') (evalArgs_ok hs' ?_)
 rw [starEach_cons _ env rfl]
 refine Calls.spliced_cons (wpAny_mkText ?_)
 rw [starEach_cons _ env rfl]
 refine Calls.spliced_cons (wpAny_mkText ?_)
 refine Calls.spliced_nil ?_
 have h1 : s1.toks ≠ 0 := by omega
 exact rep_call h1 (by show s1.toks + 1 ≠ 0; omega) (by show s1.toks ≠ s1.toks + 1; omega) hyz hx fun t' k' => (hQ.next x1 S1).same S1 hR ⟨_, rfl⟩
end
section
variable {c : Cx} {n m : Nat} {ρ : Loc} {H : List AO} {P : Fl → List AO → Prop} {R : V → List AO → Prop} {X : Nat → List AO → Prop}
theorem two_ne (ch : Nat) : ((⟨#[ch, ch]⟩ : Str) == ⟨#[ch]⟩) = false := by
 have : (⟨#[ch, ch]⟩ : Str) ≠ ⟨#[ch]⟩ := fun e => by
  have := congrArg (fun z => z.cps.size) e
  simp at this
 simpa using this
theorem twice_str {prog : Program} {t u : Tok} (h : Q (.str ⟨#[ch, ch]⟩ s.toks) { s with toks := s.toks + 1 }) : wpAny (model prog w) A (binaryOp .Add (.str ⟨#[ch]⟩ t) (.str ⟨#[ch]⟩ u)) Q E s := by
 refine binaryOp_concat (typeIs_str s _ t) (typeIs_str s _ u) PyProof.Rows.noFill_str_add PyProof.Rows.seq_str_add ?_
 refine wpAny_call_entry slot_str_add (typeIs_str s _ t) entry_str_add ?_ (args_str_add _ _)
 show wpAny _ _ (do
  if (true && (⟨#[ch]⟩ : Str).length == 0) = true then (do rule "str.__add__.left-empty"; ret (.str ⟨#[ch]⟩ u)) else
  if (true && (⟨#[ch]⟩ : Str).length == 0) = true then (do rule "str.__add__.right-empty"; ret (.str ⟨#[ch]⟩ t)) else
  retStr ((⟨#[ch]⟩ : Str) ++ ⟨#[ch]⟩)) _ _ s
 have e : (true && (⟨#[ch]⟩ : Str).length == 0) = false := rfl
 rw [e]
 exact wpAny_bind (wpAny_mkStr (wpAny_pure ⟨_, rfl, h⟩) (by show 2 ≤ sizeLine; decide))
theorem ex_replaceQ {a b : String} {o1 i1 o2 : Expr} {ps q1 q2 q3 q4 q5 q6 q7 q8 : Pos} (hm : 1 ≤ m) (hn : 0 < n)
  (h : EvE c n o1 ρ H (fun v H1 => ∃ x, v = .str x ∧ EvE c n i1 ρ H1 (fun k H2 => ∃ (i : Nat) (ch : Nat), k = .int i ∧ x.cps[i]? = some ch ∧ x.length < 2 ^ 62 ∧
   ∀ t, ∃ ρ1, Put ρ (so a) (.val (.str ⟨#[ch]⟩ t)) ρ1 ∧ (∃ k, (so a, k, some (V.val (.str ⟨#[ch]⟩ t))) ∈ ρ1) ∧
    EvE c n o2 ρ1 H2 (fun v H3 => ∃ y, v = .str y ∧ y.length + (y.length + 1) * 1 ≤ 16777216 ∧ ∃ ρ2, Put ρ1 (so b) (.str (Txt.replace y ⟨#[ch, ch]⟩ ⟨#[ch]⟩)) ρ2 ∧ ExS c n r ρ2 H3 P X) X) X) X)
  (hb : ∀ env whole, attributeBase o2 (so "replace") env whole = whole := by intros; rfl) (hl : (ap.endLine == p.line) = true := by rfl) (hd : ((so a) == ("__debug__" : Str)) = false := by kernel_rfl) :
  ExQ c n m (.Assign [.Name (so a) q1] (.Subscript o1 i1 ps) q2 :: .Assign [.Name (so b) q3] (.Call (.Attribute o2 (so "replace") ap) [.BinOp (.Name (so a) q4) .Add (.Name (so a) q5) q6, .Name (so a) q7] [] p) q8 :: r) ρ H P X := by
 intro A env fr μ s hmm S ow Q E hQ hE
 refine wpAny_execs_cons (wpAny_Assign_Name (Subscript_ ((EvQ.of (m := m) h).call hmm S hE.own fun v H1 μ1 va s1 h1 t1 x1 S1 r1 => ?_)) (swaps_no rfl _ _ _))
 walk_at "z"
 obtain ⟨x, eN1, h1⟩ := h1
 walk_at "y"
 subst eN1
 refine (EvQ.of (m := m) h1).call t1 (S.next x1 S1) (hE.own.next x1 S1) fun k H2 μ2 vk s2 h2 t2 x2 S2 r2 => ?_
 walk_at "z"
 obtain ⟨i, ch, eN2, hi, hx, h2⟩ := h2
 walk_at "y"
 subst eN2
 obtain ⟨tx, rfl⟩ := r1
 obtain ⟨tk, rfl⟩ := r2
 have hlt : i < x.cps.size := (Array.getElem?_eq_some_iff.mp hi).1
 refine subTail_ok (typeIs_str _ x tx) slot_str_getitem.lookup (getItem_str (c := ch) ?_ ?_ ?_)
 ·simp only [Str.length] at hx; simp; omega
 ·have e1 : seqIndex? (i : Int) x.length = some i := seqIndex_of (Int.natCast_nonneg i) (Int.ofNat_lt.mpr hlt)
  rw [e1]; exact hi
 walk_at "z"
 obtain ⟨ρ1, hp, ⟨kd, hmem⟩, h3⟩ := h2 s2.toks
 walk_at "y"
 have x12 := x1.comp S1 x2
 have S12 := S.next x12 S2
 have xt : Ext fr N μ2 μ2 s2 { s2 with toks := s2.toks + 1 } := Ext.toks
 have S2' : St c.base fr μ2 H2 ({ s2 with toks := s2.toks + 1 } : Shared).heap := S2
 have xa := x12.comp S2 xt
 refine wpAny_toks (s2.toks + 1) (Nat.le_refl _) (store_ok (y := .val (.str ⟨#[ch]⟩ s2.toks)) (S.next xa S2') rfl hp fun s3 x3 S3 hr ht3 => ?_)
 have hQ3 := hQ.next (xa.comp S2' x3) S3 hr
 have hE3 := hE.nextO (xa.comp S2' x3) S3 hr
 have Sit3 : Sit c n A env fr μ2 H2 ρ1 s3 := ⟨S.room, S.stack, S.eok, S3, hr⟩
 refine wpAny_execs_cons (wpAny_Assign_Name (meth_str F.plainAttrs_str F.slot_str_replace F.type_str_replace hb rfl hl ((EvQ.of (m := s2.toks + 1) h3).call ht3 Sit3 hE3.own fun v H4 μ4 va s4 h4 t4 x4 S4 r4 => ?_)) (swaps_no rfl _ _ _))
 walk_at "z"
 obtain ⟨y, eN3, hy, ρ2, hp2, hrest⟩ := h4
 walk_at "y"
 subst eN3
 obtain ⟨ty, rfl⟩ := r4
 refine ⟨y, ty, rfl, ?_⟩
 refine Calls.callWith_builtin (backTo_plain _ _ _ rfl) (evalArgs_ok rfl ?_)
 rw [starEach_cons _ env rfl]
 have Sit4 := Sit3.next x4 S4
 have nm : ∀ {s' : Shared} {μ' : Mp} {q : Pos} {QQ E' : Value → Shared → Prop}, s2.toks + 1 ≤ s'.toks → Sit c n A env fr μ' H4 ρ1 s' → (∀ s'' μ'', s2.toks + 1 ≤ s''.toks → Ext fr N μ' μ'' s' s'' → St c.base fr μ'' H4 s''.heap → QQ (.str ⟨#[ch]⟩ s2.toks) s'') → wpAny c.M A (eval (.Name (so a) q) env) QQ E' s' := fun {s' μ' q QQ E'} ht' S' k => by
  refine (EvQ.of (m := s2.toks + 1) (EvE.name (R := fun z H' => z = .val (.str ⟨#[ch]⟩ s2.toks) ∧ H' = H4) (X := NoX) hmem ⟨rfl, rfl⟩ hd)).call ht' S' (fun _ _ _ _ _ hX => hX.elim) fun z H5 μ5 v5 s5 h5 t5 x5 S5 r5 => ?_
  obtain ⟨rfl, rfl⟩ := h5
  rw [show v5 = _ from r5]
  exact k s5 μ5 t5 x5 S5
 refine Calls.spliced_cons (wpAny_BinOp (nm t4 Sit4 fun s5 μ5 t5 x5 S5 => nm t5 (Sit4.next x5 S5) fun s6 μ6 t6 x6 S6 => twice_str ?_))
 have xt6 : Ext fr N μ6 μ6 s6 { s6 with toks := s6.toks + 1 } := Ext.toks
 have S6' : St c.base fr μ6 H4 ({ s6 with toks := s6.toks + 1 } : Shared).heap := S6
 have x56 := (x5.comp S5 x6).comp S6 xt6
 rw [starEach_cons _ env rfl]
 refine Calls.spliced_cons (nm (by show s2.toks + 1 ≤ s6.toks + 1; omega) (Sit4.next x56 S6') fun s7 μ7 t7 x7 S7 => ?_)
 refine Calls.spliced_nil ?_
 refine rep_call (show s6.toks ≠ 0 by omega) (show s2.toks ≠ 0 by omega) (show s6.toks ≠ s2.toks by omega) (two_ne ch) hy fun t' k' => ?_
 have x47 := x56.comp S6' x7
 have xt7 : Ext fr N μ7 μ7 s7 { s7 with toks := k' } := Ext.toks
 have S7' : St c.base fr μ7 H4 ({ s7 with toks := k' } : Shared).heap := S7
 have x48 := (x4.comp S4 x47).comp S7 xt7
 have Sit8 := Sit3.next x48 S7'
 refine store_ok (y := .str (Txt.replace y ⟨#[ch, ch]⟩ ⟨#[ch]⟩)) Sit8 ⟨_, rfl⟩ hp2 fun s9 x9 S9 hr9 => ?_
 exact hrest A env fr μ7 s9 ⟨S.room, S.stack, S.eok, S9, hr9⟩ ow Q E (hQ3.next (x48.comp S7' x9) S9 hr9) (hE3.nextO (x48.comp S7' x9) S9 hr9)
end
section
variable {c : Cx} {n : Nat} {ρ : Loc} {H : List AO} {P : Fl → List AO → Prop} {R : V → List AO → Prop} {X : Nat → List AO → Prop}
theorem RepL.ints : ∀ {ns : List Int} {vs : List Value}, RepL h μ (ns.map V.int) vs → IntsAre vs ns
 | [], _, r => by rw [show _ = [] from r]; exact .nil
 | i :: ns, _, r => by obtain ⟨v, q, rfl, ⟨t, rfl⟩, r2⟩ := r; exact .cons i t (RepL.ints r2)
theorem CallJ.bytesList {ns : List Int} (hn : 0 < n) (hi : H[i]? = some (.list (ns.map V.int))) (hr : ∀ k ∈ ns, 0 ≤ k ∧ k < 256) (hs : ns.length ≤ sizeLine) (h : R (.bytes (byteArr ns)) H) : CallJ c n (.type "bytes") [.obj i] H R X := by
 intro A fr μ s vs room hA S rv Q E hQ hE
 obtain ⟨v, q, rfl, ⟨a, ha, rfl⟩, hq⟩ := rv
 obtain rfl : q = [] := hq
 obtain ⟨ws, hv, rl⟩ := S.isList hi ha
 have hl := rl.length
 rw [lMp] at hl
 exact call_bytes_ints hv rl.ints hr (by rw [hl]; exact hs) (room.hd.resolve_left (by omega)) fun h' t k hk => hQ.here S h hk ⟨t, rfl⟩
theorem EvE.dict0 (h : R .any H) : EvE c n (.Dict [] [] p) ρ H R X := by
 intro A env fr μ s S Q E hQ hE
 exact wpAny_Dict_empty (hQ.here (h' := s.heap.push { cls := .type "dict", data := .dict #[] }) (tk := s.toks) S.st h push_keeps trivial)
end
section
variable {prog : Program} {w : World} {A : Around} {h : Heap} {g : Array GenState} {d : Drawn} {t : Nat} {os : OsState}
variable {nm q : Str} {C N : Addr} {bs bm bmB : List Value} {hdct : Bool} {sn : List Str} {sub : List Value} {ab : Bool} {col : Option Bool} {dd : Option Addr} {k0 k1 k2 k3 k5 : Option Value} {B newId initId : String}
theorem exc_newX {R : Result → Shared → Prop} (F : ExcBaseFacts B newId initId bmB) (hcB : bm.contains (.type B) = true) (hcA : bm.contains (.type "AttributeError") = false) (hcN : bm.contains (.type "NameError") = false) {rest : List Value} (hC : h.get? C = some (excClassObj nm q C N bs bm hdct sn sub ab col dd k0 k1 k2 k3 k5 newId))
  (hq : R (.ok (.ret (.ref (h.objs.size + 1)))) ⟨(h.push { cls := .type "tuple", data := .seq rest.toArray }).push
   { cls := .ref C, data := .fields #[.ref h.objs.size, .none, .none, .none, .bool false, .none] }, g, d, t, os⟩) (hrest : rest.length ≤ sizeLine) :
  codeAny (model prog w) A (.builtin newId ⟨.ref C :: rest, []⟩) R ⟨h, g, d, t, os⟩ := by
 have hends := F.ends
 have hcB : (Value.ref C :: bm).contains (.type B) = true := by rw [List.contains_cons, hcB, Bool.or_true]
 have hcA : (Value.ref C :: bm).contains (.type "AttributeError") = false := by rw [List.contains_cons, hcA]; rfl
 have hcN : (Value.ref C :: bm).contains (.type "NameError") = false := by rw [List.contains_cons, hcN]; rfl
 refine codeAny_builtinAt F.entry ?_
 unfold Builtin.«BaseException.__new__»
 refine PySem.wpAt_bind ?_
 show PySem.wpAt _ _ _ (stack >>= _) _ _ _
 refine PySem.wpAt_bind (PySem.wpAt_stack fun p below => PySem.wpAt_of_wpAny ?_)
 wp_walk
 refine PySem.wpAt_of_wpAny ?_
 rw [F.owner]
 repeat (first | with_reducible refine wpAny_madeHere_exc F.canon hC ?_ | with_reducible refine wpAny_loadPart_at hC ?_ | (with_reducible refine wpAny_isSubtype_exc hC ?_; first | rw [hcB] | rw [hcA] | rw [hcN]) | wp_step)
 show R _ _
 rw [Heap.size_push]
 exact hq
theorem exc_callX (F : ExcBaseFacts B newId initId bmB) (hcB : bm.contains (.type B) = true) (hcA : bm.contains (.type "AttributeError") = false) (hcN : bm.contains (.type "NameError") = false) {rest : List Value} {fI : Addr} {oI : Obj}
  (hC : h.get? C = some (excClassObj nm q C N bs bm hdct sn sub ab col dd k0 k1 k2 k3 k5 newId)) (hi : Looks (model prog w) h (typeLookup (.ref C) "__init__") (some (.ref fI)))
  (hfI : h.get? fI = some oI) (hfc : oI.cls = .type "function")
  (hq : wpAny (model prog w) (A.under (.builtin "type.__call__" ⟨.ref C :: rest, []⟩)) (call (.ref fI) (.ref (h.objs.size + 1) :: rest)) (fun r s' => r = .none ∧ Q (.ref (h.objs.size + 1)) s') E
   ⟨(h.push { cls := .type "tuple", data := .seq rest.toArray }).push { cls := .ref C, data := .fields #[.ref h.objs.size, .none, .none, .none, .bool false, .none] }, g, d, t, os⟩) (hrest : rest.length ≤ sizeLine) :
  wpAny (model prog w) A (call (.ref C) rest) Q E ⟨h, g, d, t, os⟩ := by
 have f1 := tc_lookup
 have f2 := tc_bind (.ref C)
 have hT : (⟨h, g, d, t, os⟩ : Shared).TypeIs (.ref C) "type" := ⟨_, hC, rfl⟩
 refine wpAny_call (codeAny_of_tree ?_)
 show wpAny _ _ (callAny (.ref C) _) _ _ _
 repeat (any_goals (first | assumption | with_reducible refine wpAny_loadPart_at hC ?_ | wp_step))
 refine ⟨rfl, ?_⟩
 refine codeAny_call_builtin_at (Code.quiet_builtin _ (by decide +kernel)) entry_typeCall (wpAny_check_type_call_sub hC ?_)
 repeat (first | with_reducible refine wpAny_loadPart_at hC ?_ | with_reducible refine wpAny_madeBy_exc hC ?_ | wp_step)
 refine codeAny_call_builtin_code (Code.quiet_builtin _ F.quiet) (PySem.wpAny_check_new_subU F hcB .base hC ?_)
 refine exc_newX F hcB hcA hcN hC ?_ hrest
 show wpAny _ _ _ _ _ _
 have kk : ∀ b o, h.get? b = some o → ((h.push { cls := .type "tuple", data := .seq rest.toArray }).push { cls := .ref C, data := .fields #[.ref h.objs.size, .none, .none, .none, .bool false, .none] }).get? b = some o := fun b o e => gPs _ (gPs _ e)
 have hC₁ := kk _ _ hC
 have hfI₁ := kk _ _ hfI
 have hget : ((h.push { cls := .type "tuple", data := .seq rest.toArray }).push
   { cls := .ref C, data := .fields #[.ref h.objs.size, .none, .none, .none, .bool false, .none] }).get? (h.objs.size + 1) = some
   { cls := .ref C, data := .fields #[.ref h.objs.size, .none, .none, .none, .bool false, .none] } := by heap_get
 have hcC : (Value.ref C :: bm).contains (.ref C) = true := by simp
 unfold isInstance
 repeat (first | with_reducible refine wpAny_loadPart_at hget ?_ | (with_reducible refine wpAny_isSubtype_exc hC₁ ?_; rw [hcC]) | wp_step)
 refine wpAny_isSubtype_exc (base := .ref C) hC₁ ?_
 rw [hcC]
 repeat (first | with_reducible refine wpAny_loadPart_at hget ?_ | wp_step)
 show wpAny _ _ (typeLookup (.ref C) _) _ _ _
 refine (hi.keeps kk).at ?_
 refine wpAny_holding (wpAny_bind ?_)
 unfold bindSpecial
 refine wpAny_bind (wpAny_typeOf (T := "function") ⟨_, hfI₁, hfc⟩ ?_)
 rw [if_pos (by decide)]
 refine wpAny_pure (wpAny_bind (wpAny_mono hq (fun r s' hr => ?_) fun _ _ x => x))
 obtain ⟨rfl, hQ⟩ := hr
 wp_walk
 exact hQ
end
section
variable {prog : Program} {w : World} {A : Around} {E : Value → Shared → Prop} {s : Shared} {C N : Addr}
theorem set_first {K : Frag} {e : Addr} {oe : Obj} {vs : Array Value} {vy : Value} {Q : Unit → Shared → Prop} (XX : K.In s.heap) (he : s.heap.get? e = some oe) (hcl : oe.cls = .ref C) (hdt : oe.data = .fields vs) (hdn : oe.dict = none) (hno : notCls oe = true) (hk : setOk K C x = true)
  (hQ : ∀ h' es n tk, (∀ b o, b ≠ e → s.heap.get? b = some o → h'.get? b = some o) → h'.get? e = some { oe with dict := some s.heap.objs.size } → h'.get? s.heap.objs.size = some (dictOf es n) → (∃ en t, es = [en] ∧ en.key = .str x t ∧ en.val = vy) → Q () { s with heap := h', toks := tk }) :
  wpAny (model prog w) A (setAttr (.ref e) x vy) Q E s := by
 unfold setOk at hk
 obtain ⟨h123, h4⟩ := Bool.and_eq_true_iff.mp hk
 obtain ⟨h12, h3⟩ := Bool.and_eq_true_iff.mp h123
 obtain ⟨h1, h2⟩ := Bool.and_eq_true_iff.mp h12
 have I : InstAt s.heap e oe C none := ⟨he, hcl, hno, by rw [hdn]; trivial⟩
 refine set_plain XX I (beq_iff_eq.mp h1) ?_
 refine osa_openX (s := { s with toks := s.toks + 1 }) XX I h2 (beq_iff_eq.mp h3) fun b => ?_
 obtain ⟨cd, hc, hd'⟩ := any_some h4
 obtain ⟨oc, odi, oda, osl⟩ := oe
 dsimp only at hcl hdt hdn
 subst hcl hdt hdn
 refine wpAny_bind (wpAny_pure (wpAny_bind (wpAny_bind (wpAny_loadPart he (wpAny_bind (looks_clsIn XX hc _ _ _ _ (fun _ _ e => e) ?_))))))
 rw [hd']
 show wpAny _ _ (do
  let d ← alloc { cls := Value.type "dict", data := Data.dict #[] }
  update e fun o => { cls := o.cls, dict := some d, data := o.data, slots := o.slots }
  dictMade (.ref C) e d) _ _ _
 refine wpAny_bind (wpAny_alloc ?_)
 have he1 := gPs (h := s.heap) { cls := Value.type "dict", data := Data.dict #[] } he
 refine wpAny_bind (wpAny_update he1 ?_)
 have ne : e ≠ s.heap.objs.size := Nat.ne_of_lt (Heap.lt_size he)
 have g1 : (s.heap.push { cls := Value.type "dict", data := Data.dict #[] }).get? s.heap.objs.size = some (dictOf [] 0) := gPz _ rfl
 have D := (gUo (s.heap.push { cls := Value.type "dict", data := Data.dict #[] }) (fun o => { cls := o.cls, dict := some s.heap.objs.size, data := o.data, slots := o.slots }) ne).trans g1
 have he2 := Heap.get?_update_self (fun o => { cls := o.cls, dict := some s.heap.objs.size, data := o.data, slots := o.slots }) he1 rfl
 refine wpAny_pure (a := some s.heap.objs.size) (wpAny_bind (wpAny_pure (wpAny_bind ?_)))
 unfold nsSet
 refine wpAny_bind (wpAny_bind (wpAny_askSetting (wpAny_pure (wpAny_bind (wpAny_mkText (wpAny_bind (wpAny_loadPart D ?_)))))))
 dsimp only
 rw [aRefKeyMayBeTheName_at, show (!(#[] : Array DictEntry).any (·.key.isStr x) && (#[] : Array DictEntry).any (·.refKey)) = false from by simp]
 refine wpAny_updatePart D ?_
 have ge : ∀ tk, (Obj.putName x (PyData.keyHash w.params x) (.str x tk) vy (dictOf [] 0)) = dictOf (putL x (PyData.keyHash w.params x) (.str x tk) vy []) (putN x [] 0) := fun tk => putName_dict _ _ _ _ _ _
 have hU := Heap.get?_update_self (f := Obj.putName x (PyData.keyHash w.params x) (.str x (s.toks + 1)) vy) D (by rw [ge]; rfl)
 rw [ge] at hU
 refine wpAny_bind (wpAny_lookBehind hU (pastItsLine_dict (by simp [putL, sizeLine_eq])) ?_)
 refine wpAny_pure ?_
 have o1 : ∀ b, b ≠ s.heap.objs.size → (((s.heap.push { cls := Value.type "dict", data := Data.dict #[] }).update e fun o => { cls := o.cls, dict := some s.heap.objs.size, data := o.data, slots := o.slots }).update s.heap.objs.size (Obj.putName x (PyData.keyHash w.params x) (.str x (s.toks + 1)) vy)).get? b = ((s.heap.push { cls := Value.type "dict", data := Data.dict #[] }).update e fun o => { cls := o.cls, dict := some s.heap.objs.size, data := o.data, slots := o.slots }).get? b := fun b hb => gUo _ _ hb.symm
 have o2 : ∀ b, b ≠ e → ((s.heap.push { cls := Value.type "dict", data := Data.dict #[] }).update e fun o => { cls := o.cls, dict := some s.heap.objs.size, data := o.data, slots := o.slots }).get? b = (s.heap.push { cls := Value.type "dict", data := Data.dict #[] }).get? b := fun b hb => gUo _ _ hb.symm
 have hE := (o1 e ne).trans he2
 have key : ∀ hf, hf = (((s.heap.push { cls := Value.type "dict", data := Data.dict #[] }).update e fun o => { cls := o.cls, dict := some s.heap.objs.size, data := o.data, slots := o.slots }).update s.heap.objs.size (Obj.putName x (PyData.keyHash w.params x) (.str x (s.toks + 1)) vy)) → Q () { s with heap := hf, toks := s.toks + 1 + 1 } := fun hf q => by
  rw [← q] at hU o1 hE
  refine hQ hf (putL x (PyData.keyHash w.params x) (.str x (s.toks + 1)) vy []) (putN x [] 0) _ (fun b o hb ho => ?_) hE hU ⟨_, s.toks + 1, rfl, rfl, rfl⟩
  have nb : b ≠ s.heap.objs.size := Nat.ne_of_lt (Heap.lt_size ho)
  show hf.get? b = _
  rw [o1 b nb, o2 b hb]
  exact gPs _ ho
 exact key _ rfl
theorem check_initX {M : Model} {e : Addr} {oe : Obj} {rest : List Value} {Q : Unit → Shared → Prop} (hi : Looks M s.heap (isInstance (.ref e) (.type "Exception")) true) (ho : s.heap.get? e = some oe) (hcl : oe.cls = .ref C) (hC : ∃ oc cd, s.heap.get? C = some oc ∧ oc.data = .cls cd)
  (hq : Q () s) : wpAny M A (checkBuiltinCall "Exception.__init__" ⟨.ref e :: rest, []⟩) Q E s := by
 have F := PySem.F.excBase_Exception
 have hshort := F.noStar
 obtain ⟨oc, cd, hC, hcd⟩ := hC
 obtain ⟨h, g, d, t, os⟩ := s
 simp only [checkBuiltinCall, F.initKind, F.initSplit, F.initRow]
 refine wpAny_bind (hi.at ?_)
 repeat (first | (with_reducible refine wpAny_loadPart_at ho ?_; rw [hcl]) | with_reducible refine wpAny_loadPart_at hC ?_ | wp_step)
 rw [hcd]
 repeat (first | (with_reducible refine wpAny_loadPart_at ho ?_; rw [hcl]) | (with_reducible refine wpAny_loadPart_at hC ?_; rw [hcd]) | wp_step)
 refine wpAny_onRaise ?_
 rw [show ∀ (a b : String) (n : Nat), Bind.check ⟨.positional, "*", "Exception", .self, [⟨"args", .varPos, false⟩]⟩ a b n (List.map (fun x => x.fst) ({ pos := Value.ref e :: rest } : Args).kw) = pure () from
  fun a b n => check_star_args _ _ _ _ _ _]
 exact wpAny_pure hq
theorem init_call {K : Frag} {e t0 : Addr} {oe : Obj} {vs : Array Value} (XX : K.In s.heap) (he : s.heap.get? e = some oe) (hcl : oe.cls = .ref C) (hdt : oe.data = .fields vs) (h0 : vs[0]? = some (.ref t0)) (hk : mroIn K C (.type "Exception") = some true) (hC : ∃ oc cd, s.heap.get? C = some oc ∧ oc.data = .cls cd)
  (hQ : Q .none { s with heap := (s.heap.push { cls := .type "tuple", data := .seq [v].toArray }).update e (Obj.mapFields (·.setIfInBounds 0 (.ref s.heap.objs.size))) }) :
  wpAny (model prog w) A (call (.builtin "Exception.__init__") [.ref e, v]) Q E s := by
 have F := PySem.F.excBase_Exception
 have hi : Looks (model prog w) s.heap (isInstance (.ref e) (.type "Exception")) true := by
  have L2 : Looks (model prog w) s.heap (typeOf (.ref e)) (.ref C) := by
   have := (Looks.ld (M := model prog w) (part := none) he).andThen (f := fun o => pure o.cls) .now
   rw [hcl] at this
   exact this
  exact L2.andThen (looks_mroIn XX hk)
 refine wpAny_call (codeAny_call_builtin F.init.plain F.initEntry (check_initX hi he hcl hC ?_))
 unfold Builtin.«BaseException.__init__»
 dsimp only
 rw [if_neg (by simp)]
 unfold newTuple Builtin.BaseException.bexcPut
 have hsz : 0 < vs.size := (Array.getElem?_eq_some_iff.mp h0).1
 have he₁ := gPs (h := s.heap) { cls := .type "tuple", data := .seq [v].toArray } he
 refine wpAny_bind (wpAny_newObj_type (wpAny_bind (wpAny_bind (wpAny_field he₁ hdt h0 (wpAny_bind (wpAny_setField he₁ hdt hsz ?_))))) (by show 1 ≤ sizeLine; decide))
 exact wpAny_letGo (wpAny_pure hQ)
theorem method_typeX {K : Frag} {T : String} {name : Str} {pl : Sem Bool} {Q : Value × List Value → Shared → Prop} (X : K.In s.heap) (ht : typeOf (.type T) = pure (.type "type")) (hs : Manifest.isStub T = false)
  (e : findCls K (.type T) (.type "type") name = some (.val v)) (hh : handedIn v = true) (h : Q (v, []) { s with toks := s.toks + 1 }) : wpAny (model prog w) A (getMethod (.type T) name pl) Q E s := by
 have L0 : Looks (model prog w) s.heap (typeOf (.type T)) (.type "type") := Looks.of_pure ht
 have hg : findIn K (.type "type") "__getattribute__" = some (some (.builtin "type.__getattribute__")) := type_tga
 unfold getMethod specialOf
 refine wpAny_bind (wpAny_bind (L0.here ((looks_findIn X hg).here ?_)))
 dsimp only
 rw [if_pos canon_tga]
 refine wpAny_bind (wpAny_mono (Q := fun v => Q (v, [])) (E := E) ?_ (fun _ _ z => wpAny_pure z) fun _ _ z => z)
 have LO : Looks (model prog w) s.heap (opaqueClassAbove (.type T)) none := Looks.of_pure (by unfold opaqueClassAbove; dsimp only; rw [hs]; rfl)
 refine cls_open X LO L0 hg (looks_hook X (r := none) (by rfl)) (by show subIn K _ _ = _; rfl) e ?_
 exact wpAny_pure (by show wpAny _ _ (handedOut v) _ _ _; rw [handedOut_of hh]; exact wpAny_pure h)
end
theorem St.adoptG {a : Addr × Addr} {o : AO} (S : St c.base fr μ H h) (b1 : c.base.get? a.1 = none) (b2 : c.base.get? a.2 = none) (m1 : ¬ Mut μ a.1) (m2 : ¬ Mut μ a.2) (f1 : ¬ InFr fr a.1) (f2 : ¬ InFr fr a.2) (r : AORel h (μ ++ [a]) o a) :
  St c.base fr (μ ++ [a]) (H ++ [o]) h := by
 refine ⟨S.stays, S.frames, by rw [lAp, lAp, S.len]; rfl, fun i o' a' ho ha => ?_, ?_, fun L hL hm => ?_, fun b hm => ?_, S.frd⟩
 ·by_cases hi : i < H.length
  ·rw [gAl hi] at ho
   rw [gAl (S.len ▸ hi)] at ha
   exact (S.rel i o' a' ho ha).keeps (F := NoF) (D := NoF) (Kept.refl _ _ _) noTup_none (List.prefix_append _ _) rfl rfl
  ·have e1 : i = H.length := app_case ho hi
   subst e1
   rw [gAr (Nat.le_refl _), Nat.sub_self] at ho
   rw [gAr (Nat.le_of_eq S.len), S.len, Nat.sub_self] at ha
   cases ho; cases ha
   exact r
 ·refine List.pairwise_append.mpr ⟨S.apart, List.pairwise_singleton _ _, fun x hx y hy => ?_⟩
  rw [List.mem_singleton] at hy
  subst hy
  exact ⟨fun e => m1 ⟨x, hx, .inl e.symm⟩, fun e => m2 ⟨x, hx, .inl e.symm⟩, fun e => m1 ⟨x, hx, .inr e.symm⟩, fun e => m2 ⟨x, hx, .inr e.symm⟩⟩
 ·walk_at "z"
  obtain ⟨x, hx, hb⟩ := hm
  walk_at "y"
  rcases List.mem_append.mp hx with hx | hx
  ·exact S.off L hL ⟨x, hx, hb⟩
  ·rw [List.mem_singleton] at hx
   subst hx
   rcases hb with e | e
   ·exact f1 (e ▸ hL)
   ·exact f2 (e ▸ hL)
 ·walk_at "z"
  obtain ⟨x, hx, hb⟩ := hm
  walk_at "y"
  rcases List.mem_append.mp hx with hx | hx
  ·exact S.fresh b ⟨x, hx, hb⟩
  ·rw [List.mem_singleton] at hx
   subst hx
   rcases hb with rfl | rfl
   ·exact b1
   ·exact b2
theorem Ext.adoptG {a : Addr × Addr} (x : Ext fr O μ μ' s s') (h1 : s.heap.get? a.1 = none) (h2 : s.heap.get? a.2 = none) : Ext fr O μ (μ' ++ [a]) s s' := by
 refine ⟨x.pre.trans (List.prefix_append _ _), x.keep, fun i y hi hy => ?_, x.rest⟩
 by_cases hl : i < μ'.length
 ·rw [gAl hl] at hy; exact x.new i y hi hy
 ·have e : i = μ'.length := app_case hy hl
  subst e
  rw [gAr (Nat.le_refl _), Nat.sub_self] at hy
  cases hy
  exact ⟨h1, h2⟩
theorem Ext.leave0 {L : Addr} (hL : s.heap.get? L = none) (hf : env.frame = some L) (hl : env.locals = L) (x : Ext (env :: fr) (Own env) μ μ' s s') : Ext fr N μ μ' s s' := by
 refine ⟨x.pre, fun b o e hn => ?_, x.new, x.rest⟩
 have hne : b ≠ L := fun q => by rw [q, hL] at e; cases e
 walk_at "z"
 obtain ⟨sl, e', q⟩ := x.keep b o e fun z => z.elim (fun z => hn (.inl z)) fun z => hne (z.trans hl)
 walk_at "y"
 refine ⟨sl, e', fun h => q fun z => ?_⟩
 unfold InFr at z h
 rw [List.filterMap_cons, hf] at z
 rcases List.mem_cons.mp z with z | z
 ·exact hne z
 ·exact h z
theorem Rho.grow {ρ' : Loc} {a : Addr × Addr} (R : Rho h μ env c ρ) (hl : ¬ Mut (μ ++ [a]) env.locals) (hn : ρ'.map (·.1) = ρ.map (·.1))
  (hρ : ∀ x k Z, (x, k, Z) ∈ ρ' → k ≠ .cell ∧ ((x, k, Z) ∈ ρ ∨ (k = .loc ∧ (x, k, some (V.val (.ref a.1))) ∈ ρ ∧ Z = some (.obj μ.length)))) : Rho h (μ ++ [a]) env c ρ' := by
 walk_at "z"
 obtain ⟨m, hns, hm, hb, hnd, hr⟩ := R
 walk_at "y"
 have mono : ∀ {y : V} {v : Value}, Rep h μ y v → Rep h (μ ++ [a]) y v := fun r => r.mono (F := NoF) (D := NoF) (Kept.refl _ _ _) noTup_none (List.prefix_append _ _)
 refine ⟨m, hns, hl, hb, hn ▸ hnd, fun x k V hx => ?_⟩
 obtain ⟨hk, hx⟩ := hρ x k V hx
 rcases hx with hx | ⟨rfl, hx2, rfl⟩
 ·have q := hr x k V hx
  cases k with
  | loc => exact ⟨q.1, fun y hy => let ⟨v, h1, h2⟩ := q.2 y hy; ⟨v, h1, mono h2⟩⟩
  | glob => exact q
  | cell => exact absurd rfl hk
 ·have q := hr x .loc _ hx2
  walk_at "z"
  obtain ⟨v, h1, h2⟩ := q.2 _ rfl
  walk_at "y"
  refine ⟨q.1, fun y hy => ?_⟩
  cases hy
  refine ⟨v, h1, a, ?_, h2⟩
  rw [gAr (Nat.le_refl _), Nat.sub_self]; rfl
noncomputable def rho0 (v : V) (w : Str) (y : V) : Loc := [(so "self", .loc, some v), (so "what", .loc, some (.str w)), (so "at", .loc, some y), (so "Exception", .glob, some (.val (.type "Exception")))]
theorem init_body2 {μ0 : Mp} {sb s0 : Shared} {e : Addr} {w : Str} {y : V} {vs : Array Value} {Q : Flow → Shared → Prop} {q4 q5 q6 q7 q8 q9 p3 p4 : Pos}
  (S : Sit c n A env fr μ H (rho0 (.val (.ref e)) w y) s0) (ow : InFr fr env.locals) (hn : 0 < n) (ln : Lone c fr μ s0.heap e) (ho : s0.heap.get? e = some { cls := .ref 72, data := .fields vs }) (hv : vs.size = 6) (h1 : vs[1]? = some .none)
  (x0 : Ext fr (Own env) μ0 μ sb s0) (n0 : sb.heap.get? e = none)
  (hQ : ∀ μ3 s3 a, Ext fr (Own env) μ0 μ3 sb s3 → St c.base fr μ3 (H ++ [.new 72 [(so "what", .str w), (so "at", y)]]) s3.heap → μ3[H.length]? = some a → a.1 = e → Q .next s3) :
  wpAny c.M A (execs [.Assign [.Attribute (.Name (so "self") q4) (so "what") q5] (.Name (so "what") q6) p3,
   .Assign [.Attribute (.Name (so "self") q7) (so "at") q8] (.Name (so "at") q9) p4] env) Q E s0 := by
 have noX : ∀ {μ : Mp} {s : Shared}, ContX N c fr μ s NoX E := fun _ _ _ _ _ hX => hX.elim
 have nel : env.locals ≠ e := fun q => ln.fr (q ▸ ow)
 have live0 : ∀ b o, sb.heap.get? b = some o → ∃ o', s0.heap.get? b = some o' := fun b o ho => live_own x0 S.st S.rho b o ho
 refine wpAny_execs_cons (plainObj_wpAny_Assign_Attribute (EvE.name (R := fun v H' => v = .str w ∧ H' = H) (k := .loc) (y := .str w) (X := NoX) (.tail _ (.head _)) ⟨rfl, rfl⟩ (by kernel_rfl) A env fr μ s0 S _ _ (fun v H1 μ1 vw s1 hh1 x1 S1 r1 => ?_) noX) (swaps_no rfl _ _ _))
 obtain ⟨rfl, rfl⟩ := hh1
 refine EvE.name (R := fun v H' => v = .val (.ref e) ∧ H' = H1) (k := .loc) (y := .val (.ref e)) (X := NoX) (.head _) ⟨rfl, rfl⟩ (by kernel_rfl) A env fr μ1 s1 (S.next x1 S1) _ _ (fun v H2 μ2 ve s2 hh2 x2 S2 r2 => ?_) noX
 obtain ⟨rfl, rfl⟩ := hh2
 rw [show ve = _ from r2]
 have x02 := x1.comp S1 x2
 obtain ⟨ln2, eq2⟩ := ln.next x02 id
 have ho2 := eq2.trans ho
 have X2 := c.X.keeps S2.stays
 have Sit2 := S.next x02 S2
 have r1' := x2.rep S1 r1
 have x2b := x0.trans (x02.weaken fun _ h => h.elim) live0
 have live2 : ∀ b o, sb.heap.get? b = some o → ∃ o', s2.heap.get? b = some o' := fun b o ho => live_own x2b S2 Sit2.rho b o ho
 refine set_first X2 ho2 rfl rfl rfl rfl (by kernel_rfl) fun h' es m tk ho' he' hd' hes => ?_
 walk_at "z"
 obtain ⟨en, t, eN1, hen1, hen2⟩ := hes
 walk_at "y"
 subst eN1
 have ned : e ≠ s2.heap.objs.size := Nat.ne_of_lt (Heap.lt_size ho2)
 have Sit3 : Sit c n A env fr μ2 H2 (rho0 (.val (.ref e)) w y) { s2 with heap := h', toks := tk } := ln2.sit (tk := tk) nel Sit2 ho'
 have nonew : s2.heap.get? s2.heap.objs.size = none := none_at_size _
 have x3b : Ext fr (Own env) μ0 μ2 sb { s2 with heap := h', toks := tk } := x2b.lone (tk := tk) n0 ho'
 have md : ¬ Mut μ2 s2.heap.objs.size := fun hm => by obtain ⟨z, hz, _⟩ := S2.live hm; rw [nonew] at hz; cases hz
 have fd : ¬ InFr fr s2.heap.objs.size := fun hm => by obtain ⟨_, o, hz, _⟩ := S2.frames.mem hm; rw [nonew] at hz; cases hz
 have nb : sb.heap.get? s2.heap.objs.size = none := by
  cases q : sb.heap.get? s2.heap.objs.size with
  | none => rfl
  | some o => obtain ⟨o', h⟩ := live2 _ _ q; rw [nonew] at h; cases h
 have r1n : Rep h' (μ2 ++ [(e, s2.heap.objs.size)]) (.str w) vw := r1'
 have S4 : St c.base fr (μ2 ++ [(e, s2.heap.objs.size)]) (H2 ++ [.new 72 [(so "what", .str w)]]) h' :=
  St.adoptG (a := (e, s2.heap.objs.size)) Sit3.st ln2.new (base_none S2.stays nonew) ln2.nm md ln2.fr fd ⟨vs, [en], m, hv, h1, he', hd', en, [], rfl, ⟨t, hen1⟩, hen2 ▸ r1n, rfl⟩
 have x4b : Ext fr (Own env) μ0 (μ2 ++ [(e, s2.heap.objs.size)]) sb { s2 with heap := h', toks := tk } := x3b.adoptG (a := (e, s2.heap.objs.size)) n0 nb
 have nml : ¬ Mut (μ2 ++ [(e, s2.heap.objs.size)]) env.locals := fun hm => S4.off _ ow hm
 have R4 : Rho h' (μ2 ++ [(e, s2.heap.objs.size)]) env c (rho0 (.obj μ2.length) w y) := Sit3.rho.grow nml rfl fun x k Z hx => by
  rcases List.mem_cons.mp hx with hx | hx
  ·cases hx; exact ⟨(fun q => nomatch q), .inr ⟨rfl, .head _, rfl⟩⟩
  ·have hx' := hx
   rcases List.mem_cons.mp hx with hx | hx
   ·cases hx; exact ⟨(fun q => nomatch q), .inl (.tail _ hx')⟩
   ·rcases List.mem_cons.mp hx with hx | hx
    ·cases hx; exact ⟨(fun q => nomatch q), .inl (.tail _ hx')⟩
    ·rcases List.mem_cons.mp hx with hx | hx
     ·cases hx; exact ⟨(fun q => nomatch q), .inl (.tail _ hx')⟩
     ·cases hx
 have Sit4 : Sit c n A env fr (μ2 ++ [(e, s2.heap.objs.size)]) (H2 ++ [.new 72 [(so "what", .str w)]]) (rho0 (.obj μ2.length) w y) { s2 with heap := h', toks := tk } := ⟨S.room, S.stack, S.eok, S4, R4⟩
 have fin : ExS c n [.Assign [.Attribute (.Name (so "self") q7) (so "at") q8] (.Name (so "at") q9) p4] (rho0 (.obj μ2.length) w y) (H2 ++ [.new 72 [(so "what", .str w)]]) (fun fl H' => fl = .next (rho0 (.obj μ2.length) w y) ∧ H' = H2 ++ [.new 72 [(so "what", .str w), (so "at", y)]]) NoX := by
  refine ExS.setAttr ?_ rfl
  refine EvE.name (k := .loc) (y := y) (.tail _ (.tail _ (.head _))) ?_ (by kernel_rfl)
  refine EvE.name (k := .loc) (y := .obj μ2.length) (.head _) ?_ (by kernel_rfl)
  refine ⟨_, 72, [(so "what", .str w)], rfl, (show (1 : Nat) < 100 by decide), fun P => by kernel_rfl, .inr (.inr ⟨?_, ?_⟩)⟩
  ·rw [S2.len, gAr (Nat.le_refl _), Nat.sub_self]; rfl
  ·refine ExS.nil ⟨rfl, ?_⟩
   rw [S2.len, List.set_append_right _ _ (Nat.le_refl _), Nat.sub_self]
   rfl
 refine fin A env fr _ _ Sit4 ow _ _ (fun fl H5 μ5 f s5 hfl x5 S5 hf => ?_) fun _ _ _ _ _ hX => hX.elim
 obtain ⟨rfl, rfl⟩ := hfl
 obtain ⟨rfl, hr⟩ := hf
 refine hQ μ5 s5 (e, s2.heap.objs.size) (x4b.trans x5 fun b o ho => ?_) S5 ?_ rfl
 ·exact live_own x4b S4 R4 b o ho
 ·obtain ⟨tl, q⟩ := x5.pre
  rw [← q, gAl (by rw [lAp, ← S2.len]; simp), ← S2.len, gAr (Nat.le_refl _), Nat.sub_self]; rfl
theorem init_body {sb s0 : Shared} {e t0 : Addr} {w : Str} {y : V} {vs : Array Value} {Q : Flow → Shared → Prop} {q1 q2 q3 q4 q5 q6 q7 q8 q9 p1 p2 p3 p4 : Pos}
  (S : Sit c n A env fr μ H (rho0 (.val (.ref e)) w y) s0) (ow : InFr fr env.locals) (hn : 0 < n) (ln : Lone c fr μ s0.heap e) (ho : s0.heap.get? e = some { cls := .ref 72, data := .fields vs }) (hv : vs.size = 6) (h0 : vs[0]? = some (.ref t0)) (h1 : vs[1]? = some .none)
  (x0 : Ext fr (Own env) μ μ sb s0) (hb : c.base.StaysIn sb.heap) (n0 : sb.heap.get? e = none) (live : ∀ b o, sb.heap.get? b = some o → ∃ o', s0.heap.get? b = some o')
  (hl : (ap.endLine == p1.line) = true)
  (hQ : ∀ μ3 s3 a, Ext fr (Own env) μ μ3 sb s3 → St c.base fr μ3 (H ++ [.new 72 [(so "what", .str w), (so "at", y)]]) s3.heap → μ3[H.length]? = some a → a.1 = e → Q .next s3) :
  wpAny c.M A (execs [.Expr (.Call (.Attribute (.Name (so "Exception") q1) (so "__init__") ap) [.Name (so "self") q2, .Name (so "what") q3] [] p1) p2,
   .Assign [.Attribute (.Name (so "self") q4) (so "what") q5] (.Name (so "what") q6) p3,
   .Assign [.Attribute (.Name (so "self") q7) (so "at") q8] (.Name (so "at") q9) p4] env) Q E s0 := by
 have noX : ∀ {s : Shared}, ContX N c fr μ s NoX E := fun _ _ _ _ _ hX => hX.elim
 have noX' : ∀ {μ : Mp} {s : Shared}, ContX N c fr μ s NoX E := fun _ _ _ _ _ hX => hX.elim
 have nel : env.locals ≠ e := fun q => ln.fr (q ▸ ow)
 refine wpAny_execs_cons (wpAny_Expr_any ?_ (interactive_no S.eok.kind) (swaps_no rfl _ _ _))
 rw [arm_eval_Call, show ∀ whole, attributeBase (.Name (so "Exception") q1) (so "__init__") env whole = whole from fun _ => rfl]
 refine wpAny_bind (EvE.name (R := fun v H' => v = .val (.type "Exception") ∧ H' = H) (k := .glob) (y := .val (.type "Exception")) (X := NoX) (.tail _ (.tail _ (.tail _ (.head _)))) ⟨rfl, rfl⟩ (by kernel_rfl) A env fr μ s0 S _ _ (fun v H1 μ1 va s1 hh1 x1 S1 r1 => ?_) noX)
 obtain ⟨rfl, rfl⟩ := hh1
 rw [show va = _ from r1]
 refine wpAny_bind (wpAny_standAt ?_)
 unfold methodCall
 rw [form_ok (by rfl)]
 have X1 := c.X.keeps S1.stays
 refine wpAny_bind (wpAny_holding (method_typeX (v := .builtin "Exception.__init__") X1 (by kernel_rfl) (by decide +kernel) (by kernel_rfl) rfl ?_))
 have hp : methodCallPos true (.Name (so "Exception") q1) env ap p1 = pure p1 := by unfold methodCallPos; simp [hl]
 rw [hp]
 refine wpAny_bind (wpAny_pure ?_)
 refine Calls.callWith_builtin (backTo_plain _ _ _ rfl) (evalArgs_ok rfl ?_)
 have xt : Ext fr N μ1 μ1 s1 { s1 with toks := s1.toks + 1 } := Ext.toks
 have St1 : St c.base fr μ1 H1 ({ s1 with toks := s1.toks + 1 } : Shared).heap := S1
 have x1t := x1.comp S1 xt
 have Sit1 := S.next x1t St1
 have hargs : EvL c n p1 [.Name (so "self") q2, .Name (so "what") q3] (rho0 (.val (.ref e)) w y) H1 (fun xs H2 => xs = [.val (.ref e), .str w] ∧ H2 = H1) NoX := by
  refine EvL.cons ?_ rfl
  refine EvE.name (k := .loc) (y := .val (.ref e)) (.head _) ?_ (by kernel_rfl)
  refine EvL.cons ?_ rfl
  refine EvE.name (k := .loc) (y := .str w) (.tail _ (.head _)) ?_ (by kernel_rfl)
  exact EvL.nil ⟨rfl, rfl⟩
 refine hargs A env fr μ1 _ Sit1 _ _ (fun xs H2 μ2 vvs s2 hh2 x2 S2 r2 => ?_) noX'
 obtain ⟨rfl, rfl⟩ := hh2
 walk_at "z"
 obtain ⟨_, _, eN2, eN3, vw, _, eN4, rw2, eN5⟩ := r2
 walk_at "y"
 subst eN2 eN3 eN4 eN5
 have x02 := x1t.comp St1 x2
 obtain ⟨ln2, eq2⟩ := ln.next x02 id
 have ho2 := eq2.trans ho
 have X2 := c.X.keeps S2.stays
 have Sit2 := Sit1.next x2 S2
 have hCls : ∃ oc cd, s2.heap.get? 72 = some oc ∧ oc.data = .cls cd := ⟨_, _, X2 72 (clO [some (.ref 63), none, some (.str "GrammarFault" 252), some (.str "GrammarFault" 260), some (.builtin "Exception.__new__"), some (.bool true)] "GrammarFault" [.ref 47] [.ref 72, .ref 47, .type "Exception", .type "BaseException", .type "object"] 71 "GrammarFault" []) (by kernel_rfl), rfl⟩
 refine init_call X2 ho2 rfl rfl h0 (by kernel_rfl) hCls ?_
 have hs2 : ∀ b o, b ≠ e → s2.heap.get? b = some o → ((s2.heap.push { cls := .type "tuple", data := .seq [vw].toArray }).update e (Obj.mapFields (·.setIfInBounds 0 (.ref s2.heap.objs.size)))).get? b = some o := fun b o hb ho => (gUo _ _ hb.symm).trans (gPs _ ho)
 have he3 := Heap.get?_update_self (Obj.mapFields (·.setIfInBounds 0 (.ref s2.heap.objs.size))) (gPs { cls := .type "tuple", data := .seq [vw].toArray } ho2) rfl
 generalize ((s2.heap.push { cls := .type "tuple", data := .seq [vw].toArray }).update e (Obj.mapFields (·.setIfInBounds 0 (.ref s2.heap.objs.size)))) = h3 at hs2 he3 ⊢
 have Sit3 : Sit c n A env fr μ2 H2 (rho0 (.val (.ref e)) w y) { s2 with heap := h3 } := ln2.sit (tk := s2.toks) nel Sit2 hs2
 have hd3 : (Obj.mapFields (·.setIfInBounds 0 (.ref s2.heap.objs.size)) { cls := Value.ref 72, data := Data.fields vs }) = { cls := Value.ref 72, data := Data.fields (vs.setIfInBounds 0 (.ref s2.heap.objs.size)) } := rfl
 rw [hd3] at he3
 have ln3 : Lone c fr μ2 h3 e := ⟨ln2.new, ln2.nm, ln2.fr, fields_obj ⟨_, _, he3, rfl⟩⟩
 have x03 : Ext fr (Own env) μ μ2 sb { s2 with heap := h3 } := (x0.trans (x02.weaken fun _ h => h.elim) live).lone (tk := s2.toks) n0 hs2
 have live3 : ∀ b o, sb.heap.get? b = some o → ∃ o', h3.get? b = some o' := fun b o ho => live_own x03 Sit3.st Sit3.rho b o ho
 have v1 : (vs.setIfInBounds 0 (Value.ref s2.heap.objs.size))[1]? = some .none := by rw [Array.getElem?_setIfInBounds_ne (by decide)]; exact h1
 have v2 : (vs.setIfInBounds 0 (Value.ref s2.heap.objs.size)).size = 6 := by simp [hv]
 generalize vs.setIfInBounds 0 (Value.ref s2.heap.objs.size) = ws at he3 v1 v2 hd3
 exact init_body2 Sit3 ow hn ln3 he3 v2 v1 x03 n0 hQ
theorem CallJ.fault {w : Str} {y : V} (h : R (.obj H.length) (H ++ [.new 72 [(so "what", .str w), (so "at", y)]])) : CallJ c (n + 3) (.ref 72) [.str w, y] H R X := by
 intro A fr μ s vs room hA S rv Q E hQ hE
 walk_at "z"
 obtain ⟨vw, _, eN6, ⟨tw, eN7⟩, vy, _, eN8, ry, eN9⟩ := rv
 walk_at "y"
 subst eN6 eN7 eN8 eN9
 have XX := c.X.keeps S.stays
 walk_at "z"
 obtain ⟨hh, g, d, t, os⟩ := s
 walk_at "y"
 have hC := XX 72 (clO [some (.ref 63), none, some (.str "GrammarFault" 252), some (.str "GrammarFault" 260), some (.builtin "Exception.__new__"), some (.bool true)] "GrammarFault" [.ref 47] [.ref 72, .ref 47, .type "Exception", .type "BaseException", .type "object"] 71 "GrammarFault" []) (by kernel_rfl)
 have hfI := XX 37 (fnO (clsSt 2 0) "LedgerError.__init__" (.ref 30) (.ref 36) (.str "ledgerspeak.errors" 194)) (by kernel_rfl)
 refine exc_callX (bm := [.ref 47, .type "Exception", .type "BaseException", .type "object"]) PySem.F.excBase_Exception (by decide) (by decide) (by decide) hC (looks_findIn XX (by kernel_rfl)) hfI rfl ?_ (show (2 : Nat) ≤ sizeLine by decide)
 have kk : ∀ b o, hh.get? b = some o → ((hh.push { cls := .type "tuple", data := .seq [Value.str w tw, vy].toArray }).push { cls := .ref 72, data := .fields #[.ref hh.objs.size, .none, .none, .none, .bool false, .none] }).get? b = some o := fun b o e => gPs _ (gPs _ e)
 have ge : ((hh.push { cls := .type "tuple", data := .seq [Value.str w tw, vy].toArray }).push { cls := .ref 72, data := .fields #[.ref hh.objs.size, .none, .none, .none, .bool false, .none] }).get? (hh.objs.size + 1) = some { cls := .ref 72, data := .fields #[.ref hh.objs.size, .none, .none, .none, .bool false, .none] } := by heap_get
 have ne : hh.get? (hh.objs.size + 1) = none := by
  cases q : hh.get? (hh.objs.size + 1) with
  | none => rfl
  | some o => exact absurd (Heap.lt_size q) (Nat.not_lt.mpr (Nat.le_succ _))
 generalize ((hh.push { cls := .type "tuple", data := .seq [Value.str w tw, vy].toArray }).push { cls := .ref 72, data := .fields #[.ref hh.objs.size, .none, .none, .none, .bool false, .none] }) = h2 at kk ge ⊢
 generalize hh.objs.size + 1 = e at ge ne ⊢
 have S2 : St c.base fr μ H (⟨h2, g, d, t, os⟩ : Shared).heap := S.keeps kk
 have X2 := c.X.keeps S2.stays
 have rm : Room (A.under (.builtin "type.__call__" ⟨.ref 72 :: [Value.str w tw, vy], []⟩)) (n + 2) := room.made
 have hA2 : (A.under (.builtin "type.__call__" ⟨.ref 72 :: [Value.str w tw, vy], []⟩)).frames = some fr := hA
 have nm : ¬ Mut μ e := fun hm => by obtain ⟨z, hz, _⟩ := S.live hm; rw [ne] at hz; cases hz
 have nf : ¬ InFr fr e := fun hm => by obtain ⟨_, o, hz, _⟩ := S.frames.mem hm; rw [ne] at hz; cases hz
 have nb : c.base.get? e = none := base_none S.stays ne
 have ry2 : Rep h2 μ y vy := ry.mono (F := NoF) (D := NoF) (Kept.of_keeps kk) noTup_none (pRe _)
 have hstat : fnOk (fnD (clsSt 2 0) "LedgerError.__init__" (.ref 30) (.ref 36) (.str "ledgerspeak.errors" 194)) [so "self", so "what", so "at"] ([(so "Exception", Kd.glob, some (V.val (.type "Exception")))].map fun e => (e.1, e.2.1)) = true := by kernel_rfl
 have hst := hstat
 unfold fnOk at hst
 simp only [Bool.and_eq_true, decide_eq_true_eq, List.all_eq_true, beq_iff_eq, bne_iff_ne, Bool.not_eq_true'] at hst
 walk_at "z"
 obtain ⟨⟨⟨⟨⟨⟨⟨⟨_, g2⟩, _⟩, g4⟩, _⟩, _⟩, _⟩, _⟩, _⟩ := hst
 walk_at "y"
 refine wpAny_call (codeAny_call_def (fd := fnD (clsSt 2 0) "LedgerError.__init__" (.ref 30) (.ref 36) (.str "ledgerspeak.errors" 194)) (body := bodyOf (clsSt 2 0)) (binds := [so "self", so "what", so "at"].zip ([Value.ref e, .str w tw, vy] ++ []))
  (rdK rm.d) (kk _ _ hfI) rfl (c.nl.keeps S2.stays) (codeRec_of X2 (by kernel_rfl)) (by kernel_rfl) ?_ g4 (fun y hy => g2 y.1 (List.of_mem_zip hy).1) (fun h₀ hns hk => ?_) (by kernel_rfl) (by kernel_rfl) (by kernel_rfl))
 ·refine BindsTo.of_defaults (T := 30) (items := #[.ref 29]) (n := 0) rfl (X2 30 (tpO [.ref 29] 0) (by kernel_rfl)) rfl rfl ?_
  kernel_rfl
 ·obtain ⟨sit, hinfr⟩ := fnSit (c := c) (n := n + 1) (a := 37) (fd := fnD (clsSt 2 0) "LedgerError.__init__" (.ref 30) (.ref 36) (.str "ledgerspeak.errors" 194)) (xs := [.val (.ref e), .str w, y]) (dxs := []) (more := [(so "Exception", Kd.glob, some (V.val (.type "Exception")))]) hstat rfl
   (fun x k Z hm => by
    rcases List.mem_singleton.mp hm with hm
    cases hm
    exact .inr ⟨rfl, fun y hy => by cases hy; exact gok_b (fun P => by kernel_rfl) (by decide +kernel) (by kernel_rfl)⟩)
   rm hA2 S2 (vs := [.ref e, .str w tw, vy]) (ds := []) ⟨_, _, rfl, rfl, _, _, rfl, ⟨tw, rfl⟩, _, _, rfl, ry2, rfl⟩ rfl hns hk (tk := t + 3)
  have L1 : ∀ b, (∃ o, h2.get? b = some o) → b ≠ h2.objs.size := fun b ⟨o, ho⟩ q => by rw [q, none_at_size] at ho; cases ho
  have hf : (callEnv (fnD (clsSt 2 0) "LedgerError.__init__" (.ref 30) (.ref 36) (.str "ledgerspeak.errors" 194)) h2.objs.size 37).frame = some h2.objs.size := rfl
  have hl : (callEnv (fnD (clsSt 2 0) "LedgerError.__init__" (.ref 30) (.ref 36) (.str "ledgerspeak.errors" 194)) h2.objs.size 37).locals = h2.objs.size := rfl
  have hL0 : hh.get? h2.objs.size = none := by
   cases q : hh.get? h2.objs.size with
   | none => rfl
   | some o => have := kk _ _ q; rw [none_at_size] at this; cases this
  have ln : Lone c (callEnv (fnD (clsSt 2 0) "LedgerError.__init__" (.ref 30) (.ref 36) (.str "ledgerspeak.errors" 194)) h2.objs.size 37 :: fr) μ h₀ e := by
   refine ⟨nb, nm, fun hm => ?_, fields_obj ⟨_, _, hk _ _ ge, rfl⟩⟩
   unfold InFr at hm
   rw [List.filterMap_cons, hf] at hm
   rcases List.mem_cons.mp hm with q | q
   ·exact L1 e ⟨_, ge⟩ q
   ·exact nf q
  refine init_body (sb := ⟨hh, g, d, t, os⟩) (t0 := hh.objs.size) (vs := #[Value.ref hh.objs.size, Value.none, Value.none, Value.none, Value.bool false, Value.none]) sit hinfr (Nat.succ_pos _) ln (hk _ _ ge) rfl rfl rfl (Ext.of_keeps (s := ⟨hh, g, d, t, os⟩) fun b o q => hk _ _ (kk _ _ q)) S.stays ne (fun b o q => ⟨o, hk _ _ (kk _ _ q)⟩) (by kernel_rfl) fun μ3 s3 a x3 S3 ha he => ?_
  refine ⟨rfl, hQ _ _ μ3 _ s3 h (x3.leave0 hL0 hf hl) S3.pop ⟨a, ha, by rw [he]⟩⟩
section
variable {prog : Program} {w : World} {A : Around} {E : Value → Shared → Prop} {s : Shared} {K : Frag} {x C : Addr} {ox : Obj} {od : Option Obj} {name : Str} {expr : Bool} {Q : Value → Shared → Prop}
theorem get_excX (X : K.In s.heap) (I : InstAt s.heap x ox C od) (hga : findIn K (.ref C) "__getattribute__" = some (some (.builtin "BaseException.__getattribute__"))) (hg : findIn K (.ref C) "__getattr__" = some none) (hm : mroIn K C (.type "BaseException") = some true)
  (hf : findObj K C od name = some (.value v)) (hh : handedIn v = true) (h : Q v { s with toks := s.toks + 1 }) : wpAny (model prog w) A (getAttr (.ref x) name expr) Q E s := by
 walk_at "z"
 obtain ⟨hp, g, d, t, os⟩ := s
 walk_at "y"
 have L0 := I.type (M := model prog w)
 have L1 := looks_findIn (M := model prog w) X hga
 have L2 := looks_find (M := model prog w) X I hf
 have L3 := looks_findIn (M := model prog w) X hg
 have L4 : Looks (model prog w) hp (isInstance (.ref x) (.type "BaseException")) true := L0.andThen (looks_mroIn X hm)
 have ga := PySem.F.attr_Exception.ga
 unfold getAttr getAttrBy
 refine wpAny_bind (wpAny_mkText (wpAny_holding (wpAny_bind (L0.at (wpAny_bind (L1.at ?_))))))
 show wpAny _ _ (getAttrByItsOwn _ _ _ _ _ _) _ _ _
 unfold getAttrByItsOwn
 refine wpAny_bind ((show Looks (model prog w) hp (hookBefore (.ref C)) none from L3).at (wpAny_bind (wpAny_attempt (wpAny_holding ?_))))
 unfold callGetattribute
 rw [show (expr && onTheHeap (Value.builtin "BaseException.__getattribute__")) = false from Bool.and_false _, if_neg (by decide)]
 unfold boundAndCalled
 rw [ga.bind]
 refine wpAny_bind (wpAny_pure ?_)
 show wpAny _ _ (call (.builtin "BaseException.__getattribute__") [.ref x, .str name t]) _ _ _
 refine wpAny_call ?_
 refine codeAny_call_builtin ga.plain PySem.F.entry_bexc_ga ?_
 have hk1 : builtinKind "BaseException.__getattribute__" = some .slot := by decide +kernel
 have hk2 : splitId "BaseException.__getattribute__" = some ("BaseException", "__getattribute__") := by decide +kernel
 refine @check_slot (model prog w) _ _ ⟨hp, g, d, t + 1, os⟩ "BaseException.__getattribute__" "BaseException" "__getattribute__" (.ref x) [.str name t] [] _ hk1 hk2 L4 (PySem.F.args_bexc_ga _ _) ?_
 unfold Builtin.«object.__getattribute__»
 refine wpAny_bind (wpAny_pure (wpAny_bind (wpAny_pure (wpAny_bind (L0.at (wpAny_bind (L2.at ?_)))))))
 refine wpAny_pure ?_
 show wpAny _ _ (handedOut v) _ _ _
 rw [handedOut_of hh]; exact wpAny_pure h
end
noncomputable def attrX (K : Frag) (C : Addr) (x : Str) : Bool := (findIn K (.ref C) "__getattribute__" == some (some (.builtin "BaseException.__getattribute__"))) && (findIn K (.ref C) "__getattr__" == some none) && (mroIn K C (.type "BaseException") == some true) && hasDictIn K C && (match findIn K (.ref C) x with | some attr => noGet K attr | none => false)
section
variable {c : Cx} {n : Nat} {ρ : Loc} {H : List AO} {P : Fl → List AO → Prop} {R : V → List AO → Prop} {X : Nat → List AO → Prop}
theorem EvE.attrExc (h : EvE c n o ρ H (fun v H1 => ∃ i C fs y, v = .obj i ∧ H1[i]? = some (.exc C fs) ∧ fs.lookup x = some y ∧ isHanded y = true ∧ (∀ P, attrX (kFrag P) C x = true) ∧ R y H1) X)
  (hb : ∀ env whole, attributeBase o x env whole = whole := by intros; rfl) : EvE c n (.Attribute o x p) ρ H R X := by
 intro A env fr μ s S Q E hQ hE
 show wpAny _ _ (do
  let o' ← attributeBase o x env (eval o env)
  standAt p.atName
  let r ← holding [o'] (getAttr o' x true)
  letTemporaryGo o o' r
  pure r) _ _ _
 rw [hb]
 refine wpAny_bind (h A env fr μ s S _ E (fun v H1 μ1 va s1 h1 x1 S1 r1 => ?_) hE)
 walk_at "z"
 obtain ⟨i, C, fs, y, eN1, hH, hf, hy, hk, hR⟩ := h1
 walk_at "y"
 subst eN1
 walk_at "z"
 obtain ⟨a, ha, eN2⟩ := r1
 walk_at "y"
 subst eN2
 have hk := hk c.w.params
 unfold attrX at hk
 simp only [Bool.and_eq_true, beq_iff_eq] at hk
 walk_at "z"
 obtain ⟨⟨⟨⟨k1, k2⟩, k3⟩, k4⟩, k5⟩ := hk
 walk_at "y"
 have XX := c.X.keeps S1.stays
 walk_at "z"
 obtain ⟨vs, es, m, _, g1, g2, g3⟩ := S1.rel i _ a hH ha
 walk_at "y"
 cases hat : findIn (kFrag c.w.params) (.ref C) x with
 | none => rw [hat] at k5; cases k5
 | some attr =>
  rw [hat] at k5
  walk_at "z"
  obtain ⟨w, hv, rv⟩ := g3.get hf
  walk_at "y"
  refine wpAny_bind (wpAny_standAt (wpAny_bind (wpAny_holding (get_excX XX ⟨g1, rfl, rfl, g2⟩ k1 k2 k3 (findObj_own (od := dictOf es m) k4 hat k5 hv) (handed_rep rv hy) ?_))))
  exact wpAny_bind (wpAny_letTemporaryGo (wpAny_pure ((hQ.next x1 S1).same S1 hR rv)))
end
theorem St.ownNs {m m' : Str → Option Value} (S : St c.base fr μ H h) (ow : InFr fr env.locals) (hn : h.Ns env.locals m) (hn' : h'.Ns env.locals m') (hs : Heap.SameBut env.locals h h') :
  St c.base fr μ H h' ∧ ∀ {y : V} {v : Value}, Rep h μ y v → Rep h' μ y v := by
 have hm : ¬ Mut μ env.locals := S.off _ ow
 have hb : c.base.get? env.locals = none := (S.frames.mem ow).1
 have other : ∀ b, b ≠ env.locals → h'.get? b = h.get? b := fun b hne => hs.2 b hne
 have kept : Kept NoF (fun b => b = env.locals) h h' := fun b o e hne => ⟨o.slots, (other b hne).trans e, fun _ => rfl⟩
 have nt : NoTup h (fun b => NoF b ∨ b = env.locals) := fun b vs n hd e => by
  rcases hd with hd | rfl
  ·exact hd
  ·walk_at "z"
   obtain ⟨o, es, ep, h1, h2, _⟩ := hn
   walk_at "y"
   rw [e] at h1; cases h1; simp [tpO] at h2
 refine ⟨⟨fun b o e => ?_, frames_keep S.frames fun L hL o e hd => ?_, S.len, fun i o a hi ha => ?_, S.apart, S.off, S.fresh, fun L hL => ?_⟩, fun r => r.mono kept nt (pRe _)⟩
 ·rw [other b fun q => by rw [q, hb] at e; cases e]; exact S.stays b o e
 ·by_cases hq : L = env.locals
  ·subst hq
   walk_at "z"
   obtain ⟨o', es, ep, h1, h2, _⟩ := hn'
   walk_at "y"
   exact ⟨o', h1, fun vs q => by rw [h2] at q; cases q⟩
  ·exact ⟨o, (other L hq).trans e, hd⟩
 ·have rj := S.rel i o a hi ha
  obtain ⟨n1, n2⟩ := mut_at ha
  exact rj.keeps kept nt (pRe _) (other _ fun q => hm (q ▸ n1)) (other _ fun q => hm (q ▸ n2))
 ·by_cases hq : L = env.locals
  ·subst hq; exact ⟨_, hn'⟩
  ·walk_at "z"
   obtain ⟨m', o, es, ep, h1, h2⟩ := S.frd L hL
   walk_at "y"
   exact ⟨m', o, es, ep, (other L hq).trans h1, h2⟩
theorem Ext.ownNs {tk : Nat} (hs : Heap.SameBut env.locals s.heap h') : Ext fr (Own env) μ μ s { s with heap := h', toks := tk } :=
 ⟨pRe _, fun b o e hne => ⟨o.slots, (hs.2 b fun q => hne (.inr q)).trans e, fun _ => rfl⟩, fun i a hi ha => (by rw [List.getElem?_eq_none hi] at ha; cases ha), rfl, rfl, rfl⟩
noncomputable def forget (ρ : Loc) : Loc := ρ.map fun e => (e.1, e.2.1, match e.2.1 with | .loc => none | _ => e.2.2)
theorem forget_mem {k : Kd} {Z : Option V} (h : (x, k, Z) ∈ forget ρ) : ∃ W, (x, k, W) ∈ ρ ∧ (k = .loc ∧ Z = none ∨ k ≠ .loc ∧ Z = W) := by
 walk_at "z"
 obtain ⟨e, he, q⟩ := List.mem_map.mp h
 walk_at "y"
 walk_at "z"
 obtain ⟨x', k', W⟩ := e
 walk_at "y"
 cases k' <;> cases q
 ·exact ⟨W, he, .inl ⟨rfl, rfl⟩⟩
 ·exact ⟨W, he, .inr ⟨(fun q => nomatch q), rfl⟩⟩
 ·exact ⟨W, he, .inr ⟨(fun q => nomatch q), rfl⟩⟩
theorem forget_names (ρ : Loc) : (forget ρ).map (·.1) = ρ.map (·.1) := by unfold forget; rw [List.map_map]; rfl
theorem Rho.forget (R : Rho h μ env c ρ) (S : St c.base fr μ' H h') (ow : InFr fr env.locals) (hc : ∀ e ∈ ρ, e.2.1 ≠ .cell) : Rho h' μ' env c (forget ρ) := by
 walk_at "z"
 obtain ⟨m, hns, hm, hb, hnd, hr⟩ := R
 walk_at "y"
 obtain ⟨m', hns'⟩ := S.frd _ ow
 refine ⟨m', hns', S.off _ ow, hb, by rw [forget_names]; exact hnd, fun x k Z hx => ?_⟩
 walk_at "z"
 obtain ⟨W, hW, q⟩ := forget_mem hx
 walk_at "y"
 have q2 := hr x k W hW
 rcases q with ⟨rfl, rfl⟩ | ⟨hk, rfl⟩
 ·exact ⟨q2.1, fun y hy => by cases hy⟩
 ·cases k with
  | loc => exact absurd rfl hk
  | glob => exact q2
  | cell => exact absurd rfl (hc _ hW)
theorem matches_ok {o : Obj} {Q : Bool → Shared → Prop} (X : (kFrag c.w.params).In s.heap) (ho : s.heap.get? a = some o) (hcl : o.cls = .ref C) (h1 : ∀ P, excOk (kFrag P) C = true) (h2 : ∀ P, mroIn (kFrag P) C (.ref C) = some true) (hC : ∃ oc cd, s.heap.get? C = some oc ∧ oc.data = .cls cd)
  (hQ : Q true s) : wpAny c.M A (excMatches (.ref a) (.ref C)) Q E s := by
 obtain ⟨k1, k2⟩ := Bool.and_eq_true_iff.mp (h1 c.w.params)
 walk_at "z"
 obtain ⟨hp, gg, dd, tk, os⟩ := s
 walk_at "y"
 have L2 : Looks c.M hp (typeOf (.ref a)) (.ref C) := by
  have := (Looks.ld (M := c.M) (part := none) ho).andThen (f := fun o => pure o.cls) .now
  rw [hcl] at this
  exact this
 have L1 : Looks c.M hp (isSubtype (.ref C) (.type "BaseException")) true := looks_mroIn X (beq_iff_eq.mp k1)
 have L3 : Looks c.M hp (typeOf (.ref C)) (.type "type") := looks_typeIn X (beq_iff_eq.mp k2)
 have L4 : Looks c.M hp (isSubtype (.ref C) (.ref C)) true := looks_mroIn X (h2 c.w.params)
 unfold excMatches isExcClass isType isInstance
 walk_at "z"
 obtain ⟨oc, cd, hC, hcd⟩ := hC
 walk_at "y"
 repeat (first | lk | (refine wpAny_loadPart hC ?_; rw [hcd]) | wp_step)
 exact hQ
theorem name_exact {x : String} (eok : EnvOk env fr) (S : St c.base fr μ H s.heap) (R : Rho s.heap μ env c ρ) (hm : (so x, Kd.glob, some (V.val g)) ∈ ρ) (h : Q g s) (hd : ((so x) == ("__debug__" : Str)) = false) : wpAny c.M A (eval (.Name (so x) p) env) Q E s := by
 walk_at "z"
 obtain ⟨m, hn, hmu, _, _, hr⟩ := R
 walk_at "y"
 obtain ⟨hk, q⟩ := hr _ _ _ hm
 walk_at "z"
 obtain ⟨v, h1, eN1⟩ := q _ rfl
 walk_at "y"
 subst eN1
 refine wpAny_Name ?_ hd
 have hg : s.heap.Ns env.globals c.mg := eok.glob ▸ c.g.keeps S.stays
 have hl : wpAny c.M A (loadGlobal env (so x)) Q E s := by
  rcases h1 with h1 | ⟨h1, h3⟩
  ·exact Calls.loadGlobal_global hg h1 h
  ·exact Calls.loadGlobal_builtin hg h1 (eok.blt ▸ c.b.keeps S.stays) h3 h
 unfold loadName
 have q1 : env.kindOf (so x) = some .globalImplicit := hk
 simp only [Env.blockKind, eok.kind, q1, ScopeKind.isAnnotationScope, Bool.false_and, Bool.false_eq_true, if_false]
 exact hl
section
variable {c : Cx} {n : Nat} {ρ : Loc} {H : List AO} {P : Fl → List AO → Prop} {X : Nat → List AO → Prop}
theorem ex_tryAs {suite : List Stmt} {b0 : Stmt} {x : String} {q hp : Pos} {Xb : Nat → List AO → Prop}
  (h : ExS c n body ρ H (fun fl H1 => match fl with | .next ρ1 => ExS c n r ρ1 H1 P X | fl => P fl H1) Xb)
  (hx : ∀ i H1, Xb i H1 → (∃ fs, H1[i]? = some (.exc 72 fs)) ∧ ∃ ρ1, Put (forget ρ) (so x) (.obj i) ρ1 ∧ ExS c 0 (b0 :: suite) ρ1 H1 (fun fl H2 => ∃ v, fl = .ret v ∧ P (.ret v) H2) NoX)
  (hg : (so "GrammarFault", Kd.glob, some (V.val (.ref 72))) ∈ ρ) (hc : ∀ e ∈ ρ, e.2.1 ≠ .cell) :
  ExS c n (.Try body [.ExceptHandler (some (.Name (so "GrammarFault") q)) (some (so x)) (b0 :: suite) hp] [] [] p :: r) ρ H P X := by
 refine ExS.cons (P' := fun fl H1 => match fl with | .next ρ1 => ExS c n r ρ1 H1 P X | fl => P fl H1) (fun A env fr μ s S ow Q E hQ hE => ?_) (fun fl H1 h1 => by cases fl <;> exact h1)
 refine wpAny_Try_except ?_
 refine h A env fr μ s S ow _ _ (fun fl H1 μ1 f s1 h1 x1 S1 hf => ?_) (fun i H1 μ1 v s1 hX x1 S1 r1 => ?_)
 ·cases fl with
  | next ρ1 => obtain ⟨rfl, hr⟩ := id hf; exact wpAny_execs_nil (hQ (.next ρ1) H1 μ1 .next s1 h1 x1 S1 hf)
  | ret w => obtain ⟨z, rfl, hz⟩ := id hf; exact hQ (.ret w) H1 μ1 _ s1 h1 x1 S1 hf
  | brk ρ1 => obtain ⟨rfl, hr⟩ := id hf; exact hQ (.brk ρ1) H1 μ1 _ s1 h1 x1 S1 hf
  | cont ρ1 => obtain ⟨rfl, hr⟩ := id hf; exact hQ (.cont ρ1) H1 μ1 _ s1 h1 x1 S1 hf
 walk_at "z"
 obtain ⟨⟨fs, hH⟩, ρ1, hput, hsuite⟩ := hx i H1 hX
 walk_at "y"
 have hF := S.eok.frame
 refine note_ok S.stack hF S.st.stays x1 S1 r1 (live_fr x1 S1 ow) fun s2 x2 S2 r2 l2 => flight_ok S.st.stays x2 S2 r2 l2 fun s3 x3 S3 r3 l3 => ?_
 walk_at "z"
 obtain ⟨a, C, fs', vs, ha, hH', eN2, hn0, he, hsz, hT⟩ := id r3.is
 walk_at "y"
 subst eN2
 rw [hH] at hH'; cases hH'
 have room : Room (A.mark (some (.ref a.1))) 0 := ⟨Nat.lt_of_le_of_lt (Nat.le_add_right _ _) S.room.d, Nat.lt_of_le_of_lt (Nat.le_add_right _ _) S.room.u, .inl rfl⟩
 have R3 : Rho s3.heap μ1 env c (forget ρ) := S.rho.forget S3 ow hc
 have hg' : (so "GrammarFault", Kd.glob, some (V.val (.ref 72))) ∈ forget ρ := List.mem_map.mpr ⟨_, hg, rfl⟩
 have X3 := c.X.keeps S3.stays
 refine wpAny_handleBy_cons (codeAny_handlers_test (name_exact S.eok S3 R3 hg' (matches_ok X3 he rfl (fun P => by kernel_rfl) (fun P => by kernel_rfl) ⟨_, _, X3 72 (clO [some (.ref 63), none, some (.str "GrammarFault" 252), some (.str "GrammarFault" 260), some (.builtin "Exception.__new__"), some (.bool true)] "GrammarFault" [.ref 47] [.ref 72, .ref 47, .type "Exception", .type "BaseException", .type "object"] 71 "GrammarFault" []) (by kernel_rfl), rfl⟩ ?_) (by kernel_rfl))) (by intro q; cases q)
 refine codeAny_handlers_suite_as ?_
 refine flight_ok S.st.stays x3 S3 r3 l3 fun s5 x5 S5 r5 l5 => ?_
 have R5 : Rho s5.heap μ1 env c (forget ρ) := S.rho.forget S5 ow hc
 have Sit5 : Sit c 0 (A.mark (some (.ref a.1))) env fr μ1 H1 (forget ρ) s5 := ⟨room, S.stack, S.eok, S5, R5⟩
 refine store_ok (y := .obj i) Sit5 ⟨a, ha, rfl⟩ hput fun s6 x6 S6 hr6 => ?_
 have x06 := x5.trans x6 (live_own x5 S5 R5)
 have live6 : ∀ b o, s.heap.get? b = some o → ∃ o', s6.heap.get? b = some o' := live_own x06 S6 hr6
 refine hsuite (A.mark (some (.ref a.1))) env fr μ1 s6 ⟨room, S.stack, S.eok, S6, hr6⟩ ow _ _ (fun fl H7 μ7 f s7 h7 x7 S7 hf7 => ?_) fun _ _ _ _ _ hX => hX.elim
 walk_at "z"
 obtain ⟨v', eN3, hP⟩ := h7
 walk_at "y"
 subst eN3
 walk_at "z"
 obtain ⟨w, eN4, rw7⟩ := hf7
 walk_at "y"
 subst eN4
 obtain ⟨m7, hn7⟩ := S7.frd _ ow
 have hkx : env.kindOf (so x) = some .local := by
  walk_at "z"
  obtain ⟨_, _, _, _, _, hr⟩ := R5
  walk_at "y"
  walk_at "z"
  obtain ⟨⟨o, ho⟩, _⟩ := hput.mem
  walk_at "y"
  exact (hr _ .loc o ho).1
 refine wpAny_nameGoes hkx hn7 (by rw [S.eok.kind]; rfl) fun h8 m8 hn8 hs8 => ?_
 obtain ⟨S8, k8⟩ := S7.ownNs ow hn7 hn8 hs8
 have x07 := x06.trans x7 live6
 exact hQ (.ret v') H7 μ7 _ _ hP (x07.trans (Ext.ownNs hs8) (live_fr x07 S7 ow)) S8 ⟨w, rfl, k8 rw7⟩
end
section
variable {c : Cx} {n : Nat} {ρ : Loc} {H : List AO} {P : Fl → List AO → Prop} {R : V → List AO → Prop} {X : Nat → List AO → Prop}
theorem EvE.bone {op : BoolOp} (h : EvE c n e ρ H R X) : EvE c n (.BoolOp op [e] p) ρ H R X := h
theorem EvE.andE {e₁ e₂ : Expr} {rest : List Expr} (h : EvE c n e₁ ρ H (fun v H1 => ∃ b, Tru v H1 b ∧ (b = false → R v H1) ∧ (b = true → EvE c n (.BoolOp .And (e₂ :: rest) p) ρ H1 R X)) X) : EvE c n (.BoolOp .And (e₁ :: e₂ :: rest) p) ρ H R X := by
 intro A env fr μ s S Q E hQ hE
 refine BoolOp_and (h A env fr μ s S _ E (fun v H1 μ1 va s1 h1 x1 S1 r1 => ?_) hE)
 obtain ⟨b, t, hb⟩ := h1
 refine truthy_ok (R := fun b' H' => b' = b ∧ H' = H1) S1 r1 t ⟨rfl, rfl⟩ (fun b' H2 μ2 s2 h2 x2 S2 => ?_)
 obtain ⟨rfl, rfl⟩ := h2
 have x12 := x1.comp S1 x2
 cases b' with
 | false => exact hQ _ _ _ _ _ (hb.1 rfl) x12 S2 (x2.rep S1 r1)
 | true => exact hb.2 rfl A env fr μ2 s2 (S.next x12 S2) Q E (hQ.next x12 S2) (hE.next x12 S2)
theorem EvE.orE {e₁ e₂ : Expr} {rest : List Expr} (h : EvE c n e₁ ρ H (fun v H1 => ∃ b, Tru v H1 b ∧ (b = true → R v H1) ∧ (b = false → EvE c n (.BoolOp .Or (e₂ :: rest) p) ρ H1 R X)) X) : EvE c n (.BoolOp .Or (e₁ :: e₂ :: rest) p) ρ H R X := by
 intro A env fr μ s S Q E hQ hE
 refine BoolOp_or (h A env fr μ s S _ E (fun v H1 μ1 va s1 h1 x1 S1 r1 => ?_) hE)
 obtain ⟨b, t, hb⟩ := h1
 refine truthy_ok (R := fun b' H' => b' = b ∧ H' = H1) S1 r1 t ⟨rfl, rfl⟩ (fun b' H2 μ2 s2 h2 x2 S2 => ?_)
 obtain ⟨rfl, rfl⟩ := h2
 have x12 := x1.comp S1 x2
 cases b' with
 | true => exact hQ _ _ _ _ _ (hb.1 rfl) x12 S2 (x2.rep S1 r1)
 | false => exact hb.2 rfl A env fr μ2 s2 (S.next x12 S2) Q E (hQ.next x12 S2) (hE.next x12 S2)
theorem BinA.listAdd {j : Nat} {l' : List V} (hi : H[i]? = some (.list l)) (hj : H[j]? = some (.list l')) (hs : l.length + l'.length ≤ sizeLine) (h : R (.obj H.length) (H ++ [.list (l ++ l')])) : BinA c n (binaryOp .Add) (.obj i) (.obj j) H R := by
 intro A fr μ s va vb _ S ra rb Q E hQ
 obtain ⟨a, ha, rfl⟩ := ra
 obtain ⟨b, hb, rfl⟩ := rb
 obtain ⟨vs, m, g, rl⟩ := S.list hi ha
 obtain ⟨ws, m', g', rl'⟩ := S.list hj hb
 refine P.add_list g g' ?_ (by rw [List.size_toArray, List.size_toArray, rl.length, rl'.length]; exact hs)
 exact hQ.newList S h (rl.app rl') (tk := s.toks) (m := 0) push_keeps (by rw [List.append_toArray]; exact gPz _ rfl)
theorem BinA.strMul0 {i : Int} (h0 : i < 1) (h1 : -(2 ^ 63) ≤ i) (h : R (.str Str.empty) H) : BinA c n (binaryOp .Mult) (.str x) (.int i) H R := by
 intro A fr μ s va vb _ S ra rb Q E hQ
 obtain ⟨t, rfl⟩ := ra
 obtain ⟨u, rfl⟩ := rb
 refine SB.mul ⟨?_, fun q => absurd h0 q, fun q => absurd h0 q⟩ fun t' k => ?_
 ·simp; omega
 ·unfold Txt.mul
  rw [if_pos h0]
  exact hQ.same S h ⟨_, rfl⟩
theorem CallJ.up (h : CallJ c n g xs H R X) (hm : n ≤ m) : CallJ c m g xs H R X := fun A fr μ s vs room => h A fr μ s vs (room.le hm)
theorem CallJ.mono {R' : V → List AO → Prop} {X' : Nat → List AO → Prop} (h : CallJ c n g xs H R X) (hR : ∀ v H, R v H → R' v H) (hX : ∀ i H, X i H → X' i H) : CallJ c n g xs H R' X' :=
 fun A fr μ s vs room hA S rv Q E hQ hE => h A fr μ s vs room hA S rv Q E (fun x H' μ' v s' r => hQ x H' μ' v s' (hR _ _ r)) (fun i H' μ' v s' r => hE i H' μ' v s' (hX _ _ r))
structure Gr (I : List Nat) (H H' : List AO) : Prop where
 len : H.length ≤ H'.length
 same : ∀ i, i < H.length → i ∉ I → H'[i]? = H[i]?
 keep : ∀ (i : Nat) (C : Addr) (fs : List (Str × V)), H[i]? = some (AO.inst C fs) → ∃ fs', H'[i]? = some (AO.inst C fs') ∧ fs'.head? = fs.head?
theorem get_lt {o : AO} (h : H[i]? = some o) : i < H.length := (gsi.mp h).1
theorem Gr.refl (I : List Nat) (H : List AO) : Gr I H H := ⟨Nat.le_refl _, fun _ _ _ => rfl, fun _ _ fs h => ⟨fs, h, rfl⟩⟩
theorem Gr.trans {I J : List Nat} {H'' : List AO} (x : Gr I H H') (y : Gr I H' H'') : Gr I H H'' := ⟨Nat.le_trans x.len y.len, fun i hi hI => (y.same i (Nat.lt_of_lt_of_le hi x.len) hI).trans (x.same i hi hI), fun i C fs h => by
 obtain ⟨f1, h1, e1⟩ := x.keep i C fs h
 obtain ⟨f2, h2, e2⟩ := y.keep i C f1 h1
 exact ⟨f2, h2, e2.trans e1⟩⟩
theorem Gr.weaken {I J : List Nat} (x : Gr I H H') (hI : ∀ i ∈ I, i ∈ J) : Gr J H H' := ⟨x.len, fun i hi hJ => x.same i hi fun h => hJ (hI i h), x.keep⟩
theorem Gr.nil {I : List Nat} (x : Gr [] H H') : Gr I H H' := x.weaken fun _ h => nomatch h
theorem Gr.get {I : List Nat} (x : Gr I H H') {o : AO} (h : H[i]? = some o) (hi : i ∉ I) : H'[i]? = some o := (x.same i (gsi.mp h).1 hi).trans h
theorem Gr.get0 (x : Gr [] H H') {o : AO} (h : H[i]? = some o) : H'[i]? = some o := x.get h (fun h => nomatch h)
theorem Gr.push {I : List Nat} (x : Gr I H H') (o : AO) : Gr I H (H' ++ [o]) := ⟨by rw [lAp]; exact Nat.le_add_right_of_le x.len, fun i hi hI => by rw [gAl (Nat.lt_of_lt_of_le hi x.len)]; exact x.same i hi hI, fun i C fs h => by
 obtain ⟨f1, h1, e1⟩ := x.keep i C fs h
 exact ⟨f1, by rw [gAl (get_lt h1)]; exact h1, e1⟩⟩
theorem Gr.set {I : List Nat} (x : Gr I H H') (o : AO) (hi : H.length ≤ i ∨ (i ∈ I ∧ ∀ (C : Addr) (fs : List (Str × V)), H'[i]? = some (AO.inst C fs) → ∃ fs', o = AO.inst C fs' ∧ fs'.head? = fs.head?)) : Gr I H (H'.set i o) := ⟨by rw [List.length_set]; exact x.len, fun j hj hI => by
 rw [List.getElem?_set_ne (fun q => by subst q; exact hi.elim (fun q => absurd hj (Nat.not_lt.mpr q)) fun q => hI q.1)]; exact x.same j hj hI, fun j C fs h => by
 obtain ⟨f1, h1, e1⟩ := x.keep j C fs h
 by_cases q : i = j
 ·subst q
  rcases hi with hi | ⟨_, hi⟩
  ·exact absurd (get_lt h) (Nat.not_lt.mpr hi)
  ·obtain ⟨f2, rfl, e2⟩ := hi C f1 h1
   exact ⟨f2, by rw [gSs (get_lt h1)], e2.trans e1⟩
 ·exact ⟨f1, by rw [List.getElem?_set_ne q]; exact h1, e1⟩⟩
theorem Gr.push0 (o : AO) : Gr [] H (H ++ [o]) := (Gr.refl [] H).push o
theorem get_last {o : AO} : (H ++ [o])[H.length]? = some o := by rw [gAr (Nat.le_refl _), Nat.sub_self]; rfl
end
noncomputable def S (l : List Nat) : Str := ⟨l.toArray⟩
theorem S_cps (l : List Nat) : (S l).cps.toList = l := by simp [S]
theorem S_len (l : List Nat) : (S l).length = l.length := by simp [S, Str.length]
theorem S_app (l m : List Nat) : S l ++ S m = S (l ++ m) := by
 show Str.append _ _ = _
 simp [Str.append, S]
theorem S_get (l : List Nat) (i : Nat) : (S l).cps[i]? = l[i]? := by simp [S]
theorem S_eta (x : Str) : x = S x.cps.toList := by cases x; simp [S]
theorem S_inj {l m : List Nat} (h : S l = S m) : l = m := by
 have : (S l).cps.toList = (S m).cps.toList := by rw [h]
 rw [S_cps, S_cps] at this; exact this
theorem S_beq (l m : List Nat) : (S l == S m) = (l == m) := by
 by_cases h : l = m
 ·subst h; simp
 ·have : S l ≠ S m := fun q => h (S_inj q)
  rw [beq_eq_false_iff_ne.mpr h, beq_eq_false_iff_ne.mpr this]
theorem S_one (c : Nat) : (⟨#[c]⟩ : Str) = S [c] := rfl
theorem S_nil : Str.empty = S [] := rfl
theorem S_pick (l : List Nat) (a b : Option Int) : spick (S l) a b = S (pick l a b) := by unfold spick; rw [S_cps]; rfl
theorem clip_nat (n i : Nat) : clipAt n (i : Int) = min i n := clipAt_nat n i
theorem pick_nn (l : List Nat) (a b : Nat) : pick l (some (a : Int)) (some (b : Int)) = (l.drop a).take (b - a) := by
 unfold pick
 simp only [Option.elim, clip_nat]
 rcases Nat.le_total a l.length with h | h
 ·rw [Nat.min_eq_left h]
  rcases Nat.le_total b l.length with h' | h'
  ·rw [Nat.min_eq_left h']
  ·rw [Nat.min_eq_right h', List.take_of_length_le (by simp), List.take_of_length_le (by simp; omega)]
 ·rw [Nat.min_eq_right h, List.drop_eq_nil_of_le (Nat.le_refl _), List.drop_eq_nil_of_le h]; simp
theorem pick_no (l : List Nat) (a : Nat) : pick l (some (a : Int)) none = l.drop a := by
 unfold pick
 simp only [Option.elim, clip_nat]
 rcases Nat.le_total a l.length with h | h
 ·rw [Nat.min_eq_left h, List.take_of_length_le (by simp)]
 ·rw [Nat.min_eq_right h, List.drop_eq_nil_of_le (Nat.le_refl _), List.drop_eq_nil_of_le h]; simp
theorem pick_on (l : List Nat) (b : Nat) : pick l none (some (b : Int)) = l.take b := by
 unfold pick
 simp only [Option.elim, clip_nat, List.drop_zero, Nat.sub_zero]
 rcases Nat.le_total b l.length with h | h
 ·rw [Nat.min_eq_left h]
 ·rw [Nat.min_eq_right h, List.take_of_length_le (Nat.le_refl _), List.take_of_length_le h]
set_option backward.match.sparseCases false in
noncomputable def notSlice : Expr → Bool
 | .Slice .. => false
 | _ => true
section
variable {c : Cx} {n : Nat} {ρ : Loc} {H : List AO} {P : Fl → List AO → Prop} {R : V → List AO → Prop} {RB : Bool → List AO → Prop} {X : Nat → List AO → Prop}
theorem ev_sub {l r : Expr} (h : EvE c n l ρ H (fun a H1 => EvE c n r ρ H1 (fun b H2 => SubA c n a b H2 R) X) X) (_hs : notSlice r = true) : EvE c n (.Subscript l r p) ρ H R X := EvE.sub h
theorem SubA.tupI {i : Int} {x : V} (h0 : 0 ≤ i) (h1 : i < 2 ^ 62) (hi : l[i.toNat]? = some x) (h : R x H) : SubA c n (.tup l) (.int i) H R := by
 obtain ⟨k, rfl⟩ := Int.eq_ofNat_of_zero_le h0
 exact SubA.tup (by simpa using hi) (by omega) h
theorem SubA.listI {j : Nat} {i : Int} {x : V} (hj : H[j]? = some (.list l)) (h0 : 0 ≤ i) (h1 : i < 2 ^ 62) (hi : l[i.toNat]? = some x) (h : R x H) : SubA c n (.obj j) (.int i) H R := by
 obtain ⟨k, rfl⟩ := Int.eq_ofNat_of_zero_le h0
 exact SubA.list hj (by simpa using hi) (by omega) h
theorem SubA.strS {l : List Nat} (hi : l[i]? = some ch) (hs : l.length < 2 ^ 62) (h : R (.str ⟨#[ch]⟩) H) : SubA c n (.str (S l)) (.int i) H R :=
 SubA.str (by rw [S_get]; exact hi) (by rw [S_len]; exact hs) h
theorem BinA.chIn (h : R (.bool (decide (ch ∈ y.cps.toList))) H) : BinA c n (compareOp .In) (.str ⟨#[ch]⟩) (.str y) H R := BinA.strIn (by rw [StrLaws.found_one]; exact h)
theorem BinA.chNotIn (h : R (.bool (!decide (ch ∈ y.cps.toList))) H) : BinA c n (compareOp .NotIn) (.str ⟨#[ch]⟩) (.str y) H R := BinA.strNotIn (by rw [StrLaws.found_one]; exact h)
theorem BinA.chEq {a b : Nat} (h : R (.bool (a == b)) H) : BinA c n (compareOp .Eq) (.str ⟨#[a]⟩) (.str ⟨#[b]⟩) H R := BinA.strEq (by
 rw [show ((⟨#[a]⟩ : Str) == ⟨#[b]⟩) = (a == b) by rw [S_one, S_one, S_beq]; by_cases q : a = b <;> simp [q]]; exact h)
theorem BinA.SAdd {l m : List Nat} (hf : l.length + m.length ≤ sizeLine) (h : R (.str (S (l ++ m))) H) : BinA c n (binaryOp .Add) (.str (S l)) (.str (S m)) H R := BinA.strAdd (by rw [S_len, S_len]; exact hf) (by rw [S_app]; exact h)
end
theorem figs_list : (so "0123456789").cps.toList = [48, 49, 50, 51, 52, 53, 54, 55, 56, 57] := by decide +kernel
theorem isFig : ch ∈ (so "0123456789").cps.toList ↔ 48 ≤ ch ∧ ch ≤ 57 := by
 rw [figs_list]
 exact ⟨fun h => (by decide : ∀ x ∈ [48, 49, 50, 51, 52, 53, 54, 55, 56, 57], 48 ≤ x ∧ x ≤ 57) ch h, fun h =>
  Nat.sub_add_cancel h.1 ▸ (by decide : ∀ k < 10, k + 48 ∈ [48, 49, 50, 51, 52, 53, 54, 55, 56, 57]) (ch - 48) (Nat.lt_succ_of_le (Nat.sub_le_sub_right h.2 48))⟩
theorem letters_list : (so "ABCDEFGHIJKLMNOPQRSTUVWXYZ").cps.toList = (List.range 26).map (65 + ·) := by decide +kernel
theorem isLetter : ch ∈ (so "ABCDEFGHIJKLMNOPQRSTUVWXYZ").cps.toList ↔ 65 ≤ ch ∧ ch ≤ 90 := by
 rw [letters_list, List.mem_map]
 constructor
 ·rintro ⟨a, ha, rfl⟩; exact ⟨Nat.le_add_right 65 a, Nat.add_le_add_left (Nat.le_of_lt_succ (List.mem_range.mp ha)) 65⟩
 ·rintro ⟨h1, h2⟩; exact ⟨ch - 65, List.mem_range.mpr (Nat.lt_succ_of_le (Nat.sub_le_sub_right h2 65)), Nat.add_sub_cancel' h1⟩
theorem at_one (l : List Nat) (ch i : Nat) : StrLaws.At (S l) ⟨#[ch]⟩ (S l).length i ↔ l[i]? = some ch := by
 have := StrLaws.subAt_one (S l) ch i
 rw [S_cps] at this
 exact this
theorem idx_one (l r : List Nat) (ch : Nat) (h : ch ∉ l) : ∃ q, Builtin.Str.occurrences (S (l ++ ch :: r)) ⟨#[ch]⟩ 0 (S (l ++ ch :: r)).length 1 = l.length :: q := by
 have hat : (l ++ ch :: r)[l.length]? = some ch := by rw [gAr (Nat.le_refl _), Nat.sub_self]; rfl
 rcases StrLaws.occ_head (S (l ++ ch :: r)) ⟨#[ch]⟩ 1 (Nat.le_refl _) with ⟨_, hn⟩ | ⟨i, q, e, hi, hk⟩
 ·exact absurd ((at_one _ _ _).mpr hat) (hn _)
 ·have h1 := (at_one _ _ _).mp hi
  have h2 : ¬ l.length < i := fun q => hk _ q ((at_one _ _ _).mpr hat)
  have h3 : ¬ i < l.length := fun q => by
   rw [gAl q] at h1
   exact h (mOg h1)
  obtain rfl : i = l.length := by omega
  exact ⟨q, e⟩
theorem fig_cut : ∀ k < 10, [48, 49, 50, 51, 52, 53, 54, 55, 56, 57] = [48, 49, 50, 51, 52, 53, 54, 55, 56, 57].take k ++ (k + 48) :: [48, 49, 50, 51, 52, 53, 54, 55, 56, 57].drop (k + 1) ∧ k + 48 ∉ [48, 49, 50, 51, 52, 53, 54, 55, 56, 57].take k ∧ ([48, 49, 50, 51, 52, 53, 54, 55, 56, 57].take k).length = k := by decide
theorem fig_index (ch : Nat) (h : 48 ≤ ch ∧ ch ≤ 57) : ∃ q, Builtin.Str.occurrences (so "0123456789") ⟨#[ch]⟩ 0 (so "0123456789").length 1 = (ch - 48) :: q := by
 have e : so "0123456789" = S [48, 49, 50, 51, 52, 53, 54, 55, 56, 57] := by decide +kernel
 rw [e]
 have q := fig_cut (ch - 48) (Nat.lt_succ_of_le (Nat.sub_le_sub_right h.2 48))
 rw [Nat.sub_add_cancel h.1] at q
 have w := idx_one _ (List.drop (ch - 48 + 1) [48, 49, 50, 51, 52, 53, 54, 55, 56, 57]) _ q.2.1
 rw [← q.1, q.2.2] at w
 exact w
noncomputable abbrev lv (x : String) (v : V) : Str × Kd × Option V := (so x, Kd.loc, some v)
noncomputable abbrev l0 (x : String) : Str × Kd × Option V := (so x, Kd.loc, none)
noncomputable abbrev lo (x : String) (v : Option V) : Str × Kd × Option V := (so x, Kd.loc, v)
noncomputable abbrev gv (x : String) (v : V) : Str × Kd × Option V := (so x, Kd.glob, some v)
section
variable {c : Cx} {n : Nat} {ρ : Loc} {H : List AO} {P : Fl → List AO → Prop} {R : V → List AO → Prop} {RB : Bool → List AO → Prop} {X : Nat → List AO → Prop}
theorem sl_on {v hi : Expr} (h : EvE c n v ρ H (fun o H1 => ∃ l, o = .str (S l) ∧ EvE c n hi ρ H1 (fun b H2 => ∃ j : Nat, b = .int (j : Int) ∧ l.length ≤ sizeLine ∧ R (.str (S (l.take j))) H2) X) X) : EvE c n (.Subscript v (.Slice none (some hi) none p) pos) ρ H R X := by
 refine ev_sliceS (h.mono (fun o H1 h1 => ?_) fun _ _ q => q)
 obtain ⟨l, rfl, h1⟩ := h1
 refine ⟨S l, rfl, TrE.mono (R := fun b H2 => ∃ j : Nat, b = .int (j : Int) ∧ l.length ≤ sizeLine ∧ R (.str (S (l.take j))) H2) h1 (fun b H2 h2 => ?_) fun _ _ q => q⟩
 obtain ⟨j, rfl, h3, h4⟩ := h2
 exact ⟨_, rfl, by rw [S_len]; exact h3, by rw [S_pick, pick_on]; exact h4⟩
theorem sl_no {v lo : Expr} (h : EvE c n v ρ H (fun o H1 => ∃ l, o = .str (S l) ∧ EvE c n lo ρ H1 (fun b H2 => ∃ j : Nat, b = .int (j : Int) ∧ l.length ≤ sizeLine ∧ R (.str (S (l.drop j))) H2) X) X) : EvE c n (.Subscript v (.Slice (some lo) none none p) pos) ρ H R X := by
 refine ev_sliceS (h.mono (fun o H1 h1 => ?_) fun _ _ q => q)
 obtain ⟨l, rfl, h1⟩ := h1
 refine ⟨S l, rfl, TrE.mono (R := fun b H2 => ∃ j : Nat, b = .int (j : Int) ∧ l.length ≤ sizeLine ∧ R (.str (S (l.drop j))) H2) h1 (fun b H2 h2 => ?_) fun _ _ q => q⟩
 obtain ⟨j, rfl, h3, h4⟩ := h2
 exact ⟨_, rfl, by rw [S_len]; exact h3, by rw [S_pick, pick_no]; exact h4⟩
theorem sl_nn {v lo hi : Expr} (h : EvE c n v ρ H (fun o H1 => ∃ l, o = .str (S l) ∧ EvE c n lo ρ H1 (fun a H2 => ∃ i : Nat, a = .int (i : Int) ∧ EvE c n hi ρ H2 (fun b H3 => ∃ j : Nat, b = .int (j : Int) ∧ l.length ≤ sizeLine ∧ R (.str (S ((l.drop i).take (j - i)))) H3) X) X) X) : EvE c n (.Subscript v (.Slice (some lo) (some hi) none p) pos) ρ H R X := by
 refine ev_sliceS (h.mono (fun o H1 h1 => ?_) fun _ _ q => q)
 obtain ⟨l, rfl, h1⟩ := h1
 refine ⟨S l, rfl, TrE.mono (R := fun a H2 => ∃ i : Nat, a = .int (i : Int) ∧ EvE c n hi ρ H2 (fun b H3 => ∃ j : Nat, b = .int (j : Int) ∧ l.length ≤ sizeLine ∧ R (.str (S ((l.drop i).take (j - i)))) H3) X) h1 (fun a H2 h2 => ?_) fun _ _ q => q⟩
 obtain ⟨i, rfl, h2⟩ := h2
 refine ⟨_, rfl, TrE.mono (R := fun b H3 => ∃ j : Nat, b = .int (j : Int) ∧ l.length ≤ sizeLine ∧ R (.str (S ((l.drop i).take (j - i)))) H3) h2 (fun b H3 h3 => ?_) fun _ _ q => q⟩
 obtain ⟨j, rfl, h4, h5⟩ := h3
 exact ⟨_, rfl, by rw [S_len]; exact h4, by rw [S_pick, pick_nn]; exact h5⟩
theorem CallJ.lenS {l : List Nat} (hs : l.length < 2 ^ 62) (h : R (.int l.length) H) : CallJ c n (.builtin "len") [.str (S l)] H R X := CallJ.lenStr (by rw [S_len]; exact hs) (by rw [S_len]; exact h)
theorem BinA.inTup' {ys : List Str} (e : l = ys.map V.str) (h : R (.bool (ys.any (· == x))) H) : BinA c n (compareOp .In) (.str x) (.tup l) H R := by subst e; exact BinA.inTup h
theorem SEq {l m : List Nat} (h : R (.bool (l == m)) H) : BinA c n (compareOp .Eq) (.str (S l)) (.str (S m)) H R := BinA.strEq (by rw [S_beq]; exact h)
end
noncomputable abbrev anyStar (l : List Expr) : Bool := l.any isStar
theorem swap_ok {a b : Expr} {qx qy : Pos} {k' : Nat} (hne : (y == x) = false) (hy : (qy.line == qx.line) = true) (hs : anyStar [a, b] = false) (hf : [a, b].all (foldedForSure 8) = false) (hc : [a, b].all (constantsAlone 8) = false) :
  ∀ env : Env, env.blockKind = .function → env.kindOf x = some .local → env.kindOf y = some .local → swappedStores [.Tuple [.Name x qx, .Name y qy] k tp] (.Tuple [a, b] k' p) env = pure (some [x, y]) := by
 intro env h1 h2 h3
 delta swappedStores
 have hF : ∀ f : Expr → Option Str, f (.Name x qx) = some x → f (.Name y qy) = some y → List.filterMap f [.Name x qx, .Name y qy] = [x, y] := fun f e1 e2 => (List.filterMap_cons_some e1).trans (congrArg _ (List.filterMap_cons_some e2))
 have hN : ∀ N : List Str, N = [x, y] → ¬ (N.length != 2 || N.eraseDups.length != N.length) = true := fun _ e q => by
  rw [e, List.eraseDups_cons, List.filter_cons_of_pos (by rw [hne]; rfl)] at q
  exact Bool.false_ne_true q
 have ex : (env.kindOf x == some NameKind.local && qx.line == qx.line) = true := by rw [h2, beq_self_eq_true, beq_self_eq_true]; rfl
 have ey : (env.kindOf y == some NameKind.local && qy.line == qx.line) = true := by rw [h3, hy]; rfl
 refine (if_neg (by rw [h1]; exact Bool.false_ne_true)).trans ?_
 refine (if_neg fun q => Bool.false_ne_true (hs.symm.trans q)).trans ?_
 refine Eq.trans (if_neg (hN (List.filterMap _ _) (hF _ (if_pos ex) (if_pos ey)))) ?_
 refine (if_neg fun q => Bool.false_ne_true (hf.symm.trans q)).trans ?_
 refine (if_neg fun q => Bool.false_ne_true (hc.symm.trans q)).trans ?_
 exact congrArg (fun z => pure (some z)) (hF _ (if_pos ex) (if_pos ey))
section
variable {c : Cx} {n : Nat} {ρ : Loc} {H : List AO} {P : Fl → List AO → Prop} {R : V → List AO → Prop} {RB : Bool → List AO → Prop} {X : Nat → List AO → Prop}
theorem asg2 {x y : String} {a b : Expr} {qx qy tp' : Pos} {k' : Nat} (h : EvE c n a ρ H (fun va H1 => EvE c n b ρ H1 (fun vb H2 => ∃ ρ1 ρ2, Put ρ (so y) vb ρ1 ∧ Put ρ1 (so x) va ρ2 ∧ ExS c n r ρ2 H2 P X) X) X) (hn : 0 < n) (hx : ∃ o, (so x, Kd.loc, o) ∈ ρ) (hy : ∃ o, (so y, Kd.loc, o) ∈ ρ)
  (hs : ∀ env, swapsWithSole [.Tuple [.Name (so x) qx, .Name (so y) qy] k tp] (.Tuple [a, b] k' tp') p.line env = pure false) (n1 : notStar a = true) (n2 : notStar b = true)
  (hne : ((so y) == (so x)) = false) (hl : (qy.line == qx.line) = true) (hst : anyStar [a, b] = false) (hf : [a, b].all (foldedForSure 8) = false) (hc : [a, b].all (constantsAlone 8) = false) :
  ExS c n (.Assign [.Tuple [.Name (so x) qx, .Name (so y) qy] k tp] (.Tuple [a, b] k' tp') p :: r) ρ H P X := by
 refine ex_assignSwap ?_ hn hx hy hs (swap_ok hne hl hst hf hc)
 refine EvE.tuple (EvL.cons (TrE.mono h (fun va H1 h1 => ?_) fun _ _ q => q) n1)
 refine EvL.cons (TrE.mono h1 (fun vb H2 h2 => ?_) fun _ _ q => q) n2
 obtain ⟨ρ1, ρ2, p1, p2, h3⟩ := h2
 exact EvL.nil ⟨by show 2 ≤ sizeLine; decide, va, vb, ρ2, rfl, ⟨ρ1, p1, ρ2, p2, rfl⟩, h3⟩
theorem asg2c {x y : String} {a b : Int} {qx qy tp' pa pb : Pos} {k' ka kb : Nat} (h : ∃ ρ1 ρ2, Put ρ (so x) (.int a) ρ1 ∧ Put ρ1 (so y) (.int b) ρ2 ∧ ExS c n r ρ2 H P X) (hn : 0 < n)
  (hs : ∀ env, swapsWithSole [.Tuple [.Name (so x) qx, .Name (so y) qy] k tp] (.Tuple [.Constant (.int a) ka pa, .Constant (.int b) kb pb] k' tp') p.line env = pure false)
  (hw : ∀ env, swappedStores [.Tuple [.Name (so x) qx, .Name (so y) qy] k tp] (.Tuple [.Constant (.int a) ka pa, .Constant (.int b) kb pb] k' tp') env = pure none) :
  ExS c n (.Assign [.Tuple [.Name (so x) qx, .Name (so y) qy] k tp] (.Tuple [.Constant (.int a) ka pa, .Constant (.int b) kb pb] k' tp') p :: r) ρ H P X := by
 obtain ⟨ρ1, ρ2, p1, p2, h3⟩ := h
 refine ExS.assignTup (xs := [so x, so y]) (.cons (.cons .nil)) ?_ hn hs hw
 exact EvE.tuple (EvL.cons (EvE.int (EvL.cons (EvE.int (EvL.nil ⟨by show 2 ≤ sizeLine; decide, _, ρ2, rfl, rfl, ⟨ρ1, p1, ρ2, p2, rfl⟩, h3⟩)) rfl)) rfl)
theorem asgT {xs : List Str} (hx : NamesOf es xs) (h : EvE c n e ρ H (fun v H1 => ∃ l ρ1, v = .tup l ∧ l.length = xs.length ∧ PutL ρ xs l ρ1 ∧ ExS c n r ρ1 H1 P X) X) (hn : 0 < n)
  (hs : ∀ env, swapsWithSole [.Tuple es k tp] e p.line env = pure false) (hw : ∀ env, swappedStores [.Tuple es k tp] e env = pure none) : ExS c n (.Assign [.Tuple es k tp] e p :: r) ρ H P X := ExS.assignTup hx h hn hs hw
theorem chInK (hx : x = ⟨#[ch]⟩) (h : R (.bool (decide (ch ∈ y.cps.toList))) H) : BinA c n (compareOp .In) (.str x) (.str y) H R := by subst hx; exact BinA.chIn h
theorem chEqK {a b : Nat} (hx : x = ⟨#[b]⟩) (h : R (.bool (a == b)) H) : BinA c n (compareOp .Eq) (.str ⟨#[a]⟩) (.str x) H R := by subst hx; exact BinA.chEq h
theorem SEqK {l m : List Nat} (hx : x = S m) (h : R (.bool (l == m)) H) : BinA c n (compareOp .Eq) (.str (S l)) (.str x) H R := by subst hx; exact SEq h
theorem SNeK {l m : List Nat} (hx : x = S m) (h : R (.bool (l != m)) H) : BinA c n (compareOp .NotEq) (.str (S l)) (.str x) H R := by subst hx; exact BinA.strNotEq (by rw [bne, S_beq]; exact h)
theorem SAddK {l m : List Nat} (hx : x = S m) (hf : l.length + m.length ≤ sizeLine) (h : R (.str (S (l ++ m))) H) : BinA c n (binaryOp .Add) (.str (S l)) (.str x) H R := by subst hx; exact BinA.SAdd hf h
theorem KAddS {l m : List Nat} (hx : x = S l) (hf : l.length + m.length ≤ sizeLine) (h : R (.str (S (l ++ m))) H) : BinA c n (binaryOp .Add) (.str x) (.str (S m)) H R := by subst hx; exact BinA.SAdd hf h
end
theorem tru_list (h : H[i]? = some (.list l)) (hs : l.length < 2 ^ 62) : Tru (.obj i) H (!l.isEmpty) := ⟨l, h, hs, rfl⟩
structure EV (c : Cx) (n : Nat) (e : Expr) (ρ : Loc) (H : List AO) (R : V → List AO → Prop) (X : Nat → List AO → Prop) : Prop where
 un : EvE c n e ρ H R X
structure LV (c : Cx) (n : Nat) (p : Pos) (es : List Expr) (ρ : Loc) (H : List AO) (R : List V → List AO → Prop) (X : Nat → List AO → Prop) : Prop where
 un : EvL c n p es ρ H R X
structure BV (c : Cx) (n : Nat) (e : Expr) (ρ : Loc) (H : List AO) (R : Bool → List AO → Prop) (X : Nat → List AO → Prop) : Prop where
 un : BoE c n e ρ H R X
structure XV (c : Cx) (n : Nat) (b : List Stmt) (ρ : Loc) (H : List AO) (P : Fl → List AO → Prop) (X : Nat → List AO → Prop) : Prop where
 un : ExS c n b ρ H P X
structure BA (c : Cx) (n : Nat) (t : Value → Value → Sem Value) (a b : V) (H : List AO) (R : V → List AO → Prop) : Prop where
 un : BinA c n t a b H R
structure SA (c : Cx) (n : Nat) (a b : V) (H : List AO) (R : V → List AO → Prop) : Prop where
 un : SubA c n a b H R
structure CJ (c : Cx) (n : Nat) (g : Value) (xs : List V) (H : List AO) (R : V → List AO → Prop) (X : Nat → List AO → Prop) : Prop where
 un : CallJ c n g xs H R X
structure IV (c : Cx) (n : Nat) (e : Expr) (ρ : Loc) (H : List AO) (K : Option Nat → List V → List AO → Prop) (X : Nat → List AO → Prop) : Prop where
 un : IterE c n e ρ H K X
structure EQ (c : Cx) (n m : Nat) (e : Expr) (ρ : Loc) (H : List AO) (R : V → List AO → Prop) (X : Nat → List AO → Prop) : Prop where
 un : EvQ c n m e ρ H R X
structure BQ (c : Cx) (n m : Nat) (e : Expr) (ρ : Loc) (H : List AO) (R : Bool → List AO → Prop) (X : Nat → List AO → Prop) : Prop where
 un : BoQ c n m e ρ H R X
structure XQ (c : Cx) (n m : Nat) (b : List Stmt) (ρ : Loc) (H : List AO) (P : Fl → List AO → Prop) (X : Nat → List AO → Prop) : Prop where
 un : ExQ c n m b ρ H P X
theorem eEV {c n e ρ H R X} : EV c n e ρ H R X = EvE c n e ρ H R X := propext ⟨fun h => h.un, fun h => ⟨h⟩⟩
theorem eLV {c n p e ρ H R X} : LV c n p e ρ H R X = EvL c n p e ρ H R X := propext ⟨fun h => h.un, fun h => ⟨h⟩⟩
theorem eBV {c n e ρ H R X} : BV c n e ρ H R X = BoE c n e ρ H R X := propext ⟨fun h => h.un, fun h => ⟨h⟩⟩
theorem eXV {c n e ρ H R X} : XV c n e ρ H R X = ExS c n e ρ H R X := propext ⟨fun h => h.un, fun h => ⟨h⟩⟩
theorem eBA {c n t a b H R} : BA c n t a b H R = BinA c n t a b H R := propext ⟨fun h => h.un, fun h => ⟨h⟩⟩
theorem eSA {c n a b H R} : SA c n a b H R = SubA c n a b H R := propext ⟨fun h => h.un, fun h => ⟨h⟩⟩
theorem eCJ {c n g xs H R X} : CJ c n g xs H R X = CallJ c n g xs H R X := propext ⟨fun h => h.un, fun h => ⟨h⟩⟩
theorem eIV {c n e ρ H R X} : IV c n e ρ H R X = IterE c n e ρ H R X := propext ⟨fun h => h.un, fun h => ⟨h⟩⟩
theorem eEQ {c n m e ρ H R X} : EQ c n m e ρ H R X = EvQ c n m e ρ H R X := propext ⟨fun h => h.un, fun h => ⟨h⟩⟩
theorem eBQ {c n m e ρ H R X} : BQ c n m e ρ H R X = BoQ c n m e ρ H R X := propext ⟨fun h => h.un, fun h => ⟨h⟩⟩
theorem eXQ {c n m e ρ H R X} : XQ c n m e ρ H R X = ExQ c n m e ρ H R X := propext ⟨fun h => h.un, fun h => ⟨h⟩⟩
section
variable {c : Cx} {n m : Nat} {ρ : Loc} {H : List AO} {P : Fl → List AO → Prop} {R : V → List AO → Prop} {RB : Bool → List AO → Prop} {RL : List V → List AO → Prop} {K : Option Nat → List V → List AO → Prop} {X : Nat → List AO → Prop}
theorem E_int {i : Int}  (h : R (.int i) H) : EV c n (.Constant (.int i) k p) ρ H R X := by
 simp only [eEV, eLV, eBV, eXV, eBA, eSA, eCJ, eIV, eEQ, eBQ, eXQ] at *
 exact EvE.int (h := h)
theorem E_str  (h : R (.str x) H) : EV c n (.Constant (.str x) k p) ρ H R X := by
 simp only [eEV, eLV, eBV, eXV, eBA, eSA, eCJ, eIV, eEQ, eBQ, eXQ] at *
 exact EvE.str (h := h)
theorem E_none  (h : R .none H) : EV c n (.Constant .none k p) ρ H R X := by
 simp only [eEV, eLV, eBV, eXV, eBA, eSA, eCJ, eIV, eEQ, eBQ, eXQ] at *
 exact EvE.none (h := h)
theorem E_bool {b : Bool}  (h : R (.bool b) H) : EV c n (.Constant (.bool b) k p) ρ H R X := by
 simp only [eEV, eLV, eBV, eXV, eBA, eSA, eCJ, eIV, eEQ, eBQ, eXQ] at *
 exact EvE.bool (h := h)
theorem E_name {x : String} {k : Kd} {y : V} (hm : (so x, k, some y) ∈ ρ) (hd : ((so x) == ("__debug__" : Str)) = false) (h : R y H) : EV c n (.Name (so x) p) ρ H R X := by
 simp only [eEV, eLV, eBV, eXV, eBA, eSA, eCJ, eIV, eEQ, eBQ, eXQ] at *
 exact EvE.name (hm := hm) (h := h) (hd := hd)
theorem E_binop {l r : Expr} {op : Operator}  (h : EV c n l ρ H (fun a H1 => EV c n r ρ H1 (fun b H2 => BA c n (binaryOp op) a b H2 R) X) X) : EV c n (.BinOp l op r p) ρ H R X := by
 simp only [eEV, eLV, eBV, eXV, eBA, eSA, eCJ, eIV, eEQ, eBQ, eXQ] at *
 exact EvE.binop (h := h)
theorem E_ifexp {t a b : Expr}  (h : BV c n t ρ H (fun r H1 => (r = true → EV c n a ρ H1 R X) ∧ (r = false → EV c n b ρ H1 R X)) X) : EV c n (.IfExp t a b p) ρ H R X := by
 simp only [eEV, eLV, eBV, eXV, eBA, eSA, eCJ, eIV, eEQ, eBQ, eXQ] at *
 exact EvE.ifexp (h := h)
theorem E_notE {x : Expr}  (h : EV c n x ρ H (fun v H1 => ∃ b, Tru v H1 b ∧ R (.bool (!b)) H1) X) : EV c n (.UnaryOp .Not x p) ρ H R X := by
 simp only [eEV, eLV, eBV, eXV, eBA, eSA, eCJ, eIV, eEQ, eBQ, eXQ] at *
 exact EvE.notE (h := h)
theorem E_neg {x : Expr}  (h : EV c n x ρ H (fun v H1 => ∃ i, v = .int i ∧ R (.int (-i)) H1) X) : EV c n (.UnaryOp .USub x p) ρ H R X := by
 simp only [eEV, eLV, eBV, eXV, eBA, eSA, eCJ, eIV, eEQ, eBQ, eXQ] at *
 exact EvE.neg (h := h)
theorem E_tuple  (h : LV c n p es ρ H (fun xs H1 => xs.length ≤ sizeLine ∧ R (.tup xs) H1) X) : EV c n (.Tuple es k p) ρ H R X := by
 simp only [eEV, eLV, eBV, eXV, eBA, eSA, eCJ, eIV, eEQ, eBQ, eXQ] at *
 exact EvE.tuple (h := h)
theorem E_list  (h : LV c n p es ρ H (fun xs H1 => xs.length ≤ sizeLine ∧ R (.obj H1.length) (H1 ++ [.list xs])) X) : EV c n (.List es p) ρ H R X := by
 simp only [eEV, eLV, eBV, eXV, eBA, eSA, eCJ, eIV, eEQ, eBQ, eXQ] at *
 exact EvE.list (h := h)
theorem E_cmp {l r : Expr} {op : CmpOp} (hm : behindInMarks op r = false) (h : EV c n l ρ H (fun a H1 => EV c n r ρ H1 (fun b H2 => BA c n (compareOp op) a b H2 R) X) X) : EV c n (.Compare l [op] [r] p) ρ H R X := by
 simp only [eEV, eLV, eBV, eXV, eBA, eSA, eCJ, eIV, eEQ, eBQ, eXQ] at *
 exact EvE.cmp (h := h) (hm := hm)
theorem s_ev_sub {l r : Expr} (_hs : notSlice r = true) (h : EV c n l ρ H (fun a H1 => EV c n r ρ H1 (fun b H2 => SA c n a b H2 R) X) X) : EV c n (.Subscript l r p) ρ H R X := by
 simp only [eEV, eLV, eBV, eXV, eBA, eSA, eCJ, eIV, eEQ, eBQ, eXQ] at *
 exact ev_sub (h := h) (_hs := _hs)
theorem E_attr (hb : ∀ env whole, attributeBase o x env whole = whole) (h : EV c n o ρ H (fun v H1 => ∃ i C fs y, v = .obj i ∧ (H1[i]? = some (.inst C fs) ∨ H1[i]? = some (.exc C fs)) ∧ fs.lookup x = some y ∧ isHanded y = true ∧ (∀ P, attrOk (kFrag P) C x = true) ∧ R y H1) X) : EV c n (.Attribute o x p) ρ H R X := by
 simp only [eEV, eLV, eBV, eXV, eBA, eSA, eCJ, eIV, eEQ, eBQ, eXQ] at *
 exact EvE.attr (h := h) (hb := hb)
theorem E_meth (hb : ∀ env whole, attributeBase o x env whole = whole) (hf : fewOk as = true) (hl : (ap.endLine == p.line) = true) (h : EV c n o ρ H (fun v H1 => ∃ i C fs f, v = .obj i ∧ H1[i]? = Option.some (.inst C fs) ∧ fs.lookup x = Option.none ∧ (∀ P, methOk (kFrag P) C x f = true) ∧ LV c n p as ρ H1 (fun xs H2 => CJ c n (.ref f) (.obj i :: xs) H2 R X) X) X) : EV c n (.Call (.Attribute o x ap) as [] p) ρ H R X := by
 simp only [eEV, eLV, eBV, eXV, eBA, eSA, eCJ, eIV, eEQ, eBQ, eXQ] at *
 exact EvE.meth (h := h) (hb := hb) (hf := hf) (hl := hl)
theorem C_methB {T id : String} (pa : PlainAttrs T) (sl : Slot T x id) (ty : typeOf (.builtin id) = pure (.type "method_descriptor")) (hb : ∀ env whole, attributeBase o x env whole = whole) (hf : fewOk as = true) (hl : (ap.endLine == p.line) = true) (h : EV c n o ρ H (fun v H1 => ((∃ y, v = .str y) ∧ T = "str" ∨ (∃ i l, v = .obj i ∧ H1[i]? = Option.some (.list l)) ∧ T = "list") ∧ LV c n p as ρ H1 (fun xs H2 => CJ c n (.builtin id) (v :: xs) H2 R X) X) X) : EV c n (.Call (.Attribute o x ap) as [] p) ρ H R X := by
 simp only [eEV, eLV, eBV, eXV, eBA, eSA, eCJ, eIV, eEQ, eBQ, eXQ] at *
 exact EvE.methB (pa := pa) (sl := sl) (ty := ty) (h := h) (hb := hb) (hf := hf) (hl := hl)
theorem E_call {f : String} {k : Kd} {fp : Pos} (hm : (so f, k, some (.val g)) ∈ ρ) (hg : KeepG g) (hs : as.all notStar = true) (hd : ((so f) == ("__debug__" : Str)) = false) (h : LV c n p as ρ H (fun xs H1 => CJ c n g xs H1 R X) X) : EV c n (.Call (.Name (so f) fp) as [] p) ρ H R X := by
 simp only [eEV, eLV, eBV, eXV, eBA, eSA, eCJ, eIV, eEQ, eBQ, eXQ] at *
 exact EvE.call (hm := hm) (hg := hg) (h := h) (hs := hs) (hd := hd)
theorem E_bone {op : BoolOp}  (h : EV c n e ρ H R X) : EV c n (.BoolOp op [e] p) ρ H R X := by
 simp only [eEV, eLV, eBV, eXV, eBA, eSA, eCJ, eIV, eEQ, eBQ, eXQ] at *
 exact EvE.bone (h := h)
theorem E_andE {e₁ e₂ : Expr} {rest : List Expr}  (h : EV c n e₁ ρ H (fun v H1 => ∃ b, Tru v H1 b ∧ (b = false → R v H1) ∧ (b = true → EV c n (.BoolOp .And (e₂ :: rest) p) ρ H1 R X)) X) : EV c n (.BoolOp .And (e₁ :: e₂ :: rest) p) ρ H R X := by
 simp only [eEV, eLV, eBV, eXV, eBA, eSA, eCJ, eIV, eEQ, eBQ, eXQ] at *
 exact EvE.andE (h := h)
theorem E_orE {e₁ e₂ : Expr} {rest : List Expr}  (h : EV c n e₁ ρ H (fun v H1 => ∃ b, Tru v H1 b ∧ (b = true → R v H1) ∧ (b = false → EV c n (.BoolOp .Or (e₂ :: rest) p) ρ H1 R X)) X) : EV c n (.BoolOp .Or (e₁ :: e₂ :: rest) p) ρ H R X := by
 simp only [eEV, eLV, eBV, eXV, eBA, eSA, eCJ, eIV, eEQ, eBQ, eXQ] at *
 exact EvE.orE (h := h)
theorem E_dict0  (h : R .any H) : EV c n (.Dict [] [] p) ρ H R X := by
 simp only [eEV, eLV, eBV, eXV, eBA, eSA, eCJ, eIV, eEQ, eBQ, eXQ] at *
 exact EvE.dict0 (h := h)
theorem E_attrExc (hb : ∀ env whole, attributeBase o x env whole = whole) (h : EV c n o ρ H (fun v H1 => ∃ i C fs y, v = .obj i ∧ H1[i]? = some (.exc C fs) ∧ fs.lookup x = some y ∧ isHanded y = true ∧ (∀ P, attrX (kFrag P) C x = true) ∧ R y H1) X) : EV c n (.Attribute o x p) ρ H R X := by
 simp only [eEV, eLV, eBV, eXV, eBA, eSA, eCJ, eIV, eEQ, eBQ, eXQ] at *
 exact EvE.attrExc (h := h) (hb := hb)
theorem s_ev_cmp2 {l m r : Expr} {o1 o2 : CmpOp} (hm : behindInMarks o2 r = false) (h : EV c n l ρ H (fun a H1 => EV c n m ρ H1 (fun b H2 => BA c n (compareOp o1) a b H2 (fun v H3 => ∃ q, v = .bool q ∧ (q = false → R (.bool false) H3) ∧ (q = true → EV c n r ρ H3 (fun d H4 => BA c n (compareOp o2) b d H4 R) X))) X) X) : EV c n (.Compare l [o1, o2] [m, r] p) ρ H R X := by
 simp only [eEV, eLV, eBV, eXV, eBA, eSA, eCJ, eIV, eEQ, eBQ, eXQ] at *
 exact ev_cmp2 (h := h) (hm := hm)
theorem s_sl_on {v hi : Expr}  (h : EV c n v ρ H (fun o H1 => ∃ l, o = .str (S l) ∧ EV c n hi ρ H1 (fun b H2 => ∃ j : Nat, b = .int (j : Int) ∧ l.length ≤ sizeLine ∧ R (.str (S (l.take j))) H2) X) X) : EV c n (.Subscript v (.Slice none (some hi) none p) pos) ρ H R X := by
 simp only [eEV, eLV, eBV, eXV, eBA, eSA, eCJ, eIV, eEQ, eBQ, eXQ] at *
 exact sl_on (h := h)
theorem s_sl_no {v lo : Expr}  (h : EV c n v ρ H (fun o H1 => ∃ l, o = .str (S l) ∧ EV c n lo ρ H1 (fun b H2 => ∃ j : Nat, b = .int (j : Int) ∧ l.length ≤ sizeLine ∧ R (.str (S (l.drop j))) H2) X) X) : EV c n (.Subscript v (.Slice (some lo) none none p) pos) ρ H R X := by
 simp only [eEV, eLV, eBV, eXV, eBA, eSA, eCJ, eIV, eEQ, eBQ, eXQ] at *
 exact sl_no (h := h)
theorem s_sl_nn {v lo hi : Expr}  (h : EV c n v ρ H (fun o H1 => ∃ l, o = .str (S l) ∧ EV c n lo ρ H1 (fun a H2 => ∃ i : Nat, a = .int (i : Int) ∧ EV c n hi ρ H2 (fun b H3 => ∃ j : Nat, b = .int (j : Int) ∧ l.length ≤ sizeLine ∧ R (.str (S ((l.drop i).take (j - i)))) H3) X) X) X) : EV c n (.Subscript v (.Slice (some lo) (some hi) none p) pos) ρ H R X := by
 simp only [eEV, eLV, eBV, eXV, eBA, eSA, eCJ, eIV, eEQ, eBQ, eXQ] at *
 exact sl_nn (h := h)
theorem s_ev_sliceT {v hi : Expr}  (h : EV c n v ρ H (fun o H1 => ∃ x y, o = .tup [x, y] ∧ EV c n hi ρ H1 (fun k H2 => ∃ b : Nat, k = .int b ∧ b ≤ 2 ∧ R (.tup ([x, y].take b)) H2) X) X) : EV c n (.Subscript v (.Slice none (some hi) none p) pos) ρ H R X := by
 simp only [eEV, eLV, eBV, eXV, eBA, eSA, eCJ, eIV, eEQ, eBQ, eXQ] at *
 exact ev_sliceT (h := h)
theorem L_nil  (h : RL [] H) : LV c n p [] ρ H RL X := by
 simp only [eEV, eLV, eBV, eXV, eBA, eSA, eCJ, eIV, eEQ, eBQ, eXQ] at *
 exact EvL.nil (h := h)
theorem L_cons {r : List Expr} (hs : notStar e = true) (h : EV c n e ρ H (fun v H1 => LV c n p r ρ H1 (fun vs H2 => RL (v :: vs) H2) X) X) : LV c n p (e :: r) ρ H RL X := by
 simp only [eEV, eLV, eBV, eXV, eBA, eSA, eCJ, eIV, eEQ, eBQ, eXQ] at *
 exact EvL.cons (h := h) (hs := hs)
theorem B_name {x : String}  (h : EV c n (.Name (so x) p) ρ H (fun v H1 => ∃ b, Tru v H1 b ∧ RB b H1) X) : BV c n (.Name (so x) p) ρ H RB X := by
 simp only [eEV, eLV, eBV, eXV, eBA, eSA, eCJ, eIV, eEQ, eBQ, eXQ] at *
 exact BoE.name (h := h)
theorem B_call {f : Expr} {ks : List Keyword}  (h : EV c n (.Call f as ks p) ρ H (fun v H1 => ∃ b, Tru v H1 b ∧ RB b H1) X) : BV c n (.Call f as ks p) ρ H RB X := by
 simp only [eEV, eLV, eBV, eXV, eBA, eSA, eCJ, eIV, eEQ, eBQ, eXQ] at *
 exact BoE.call (h := h)
theorem B_attr {f : Expr}  (h : EV c n (.Attribute f x p) ρ H (fun v H1 => ∃ b, Tru v H1 b ∧ RB b H1) X) : BV c n (.Attribute f x p) ρ H RB X := by
 simp only [eEV, eLV, eBV, eXV, eBA, eSA, eCJ, eIV, eEQ, eBQ, eXQ] at *
 exact BoE.attr (h := h)
theorem B_lcomp {gs : List Comprehension}  (h : EV c n (.ListComp e gs sc p) ρ H (fun v H1 => ∃ b, Tru v H1 b ∧ RB b H1) X) : BV c n (.ListComp e gs sc p) ρ H RB X := by
 simp only [eEV, eLV, eBV, eXV, eBA, eSA, eCJ, eIV, eEQ, eBQ, eXQ] at *
 exact BoE.lcomp (h := h)
theorem B_not {x : Expr}  (h : BV c n x ρ H (fun b H1 => RB (!b) H1) X) : BV c n (.UnaryOp .Not x p) ρ H RB X := by
 simp only [eEV, eLV, eBV, eXV, eBA, eSA, eCJ, eIV, eEQ, eBQ, eXQ] at *
 exact BoE.not (h := h)
theorem B_andNil  (h : RB true H) : BV c n (.BoolOp .And [] p) ρ H RB X := by
 simp only [eEV, eLV, eBV, eXV, eBA, eSA, eCJ, eIV, eEQ, eBQ, eXQ] at *
 exact BoE.andNil (h := h)
theorem B_orNil  (h : RB false H) : BV c n (.BoolOp .Or [] p) ρ H RB X := by
 simp only [eEV, eLV, eBV, eXV, eBA, eSA, eCJ, eIV, eEQ, eBQ, eXQ] at *
 exact BoE.orNil (h := h)
theorem B_and {x : Expr} {r : List Expr}  (h : BV c n x ρ H (fun b H1 => (b = false → RB false H1) ∧ (b = true → BV c n (.BoolOp .And r p) ρ H1 RB X)) X) : BV c n (.BoolOp .And (x :: r) p) ρ H RB X := by
 simp only [eEV, eLV, eBV, eXV, eBA, eSA, eCJ, eIV, eEQ, eBQ, eXQ] at *
 exact BoE.and (h := h)
theorem B_or {x : Expr} {r : List Expr}  (h : BV c n x ρ H (fun b H1 => (b = true → RB true H1) ∧ (b = false → BV c n (.BoolOp .Or r p) ρ H1 RB X)) X) : BV c n (.BoolOp .Or (x :: r) p) ρ H RB X := by
 simp only [eEV, eLV, eBV, eXV, eBA, eSA, eCJ, eIV, eEQ, eBQ, eXQ] at *
 exact BoE.or (h := h)
theorem B_cmp {l r : Expr} {op : CmpOp} (hm : behindInMarks op r = false) (h : EV c n l ρ H (fun a H1 => EV c n r ρ H1 (fun b H2 => BA c n (compareOp op) a b H2 (fun v H3 => ∃ q, v = .bool q ∧ RB q H3)) X) X) : BV c n (.Compare l [op] [r] p) ρ H RB X := by
 simp only [eEV, eLV, eBV, eXV, eBA, eSA, eCJ, eIV, eEQ, eBQ, eXQ] at *
 exact BoE.cmp (h := h) (hm := hm)
theorem s_bo_cmp2 {l m r : Expr} {o1 o2 : CmpOp} (hm : behindInMarks o2 r = false) (h : EV c n l ρ H (fun a H1 => EV c n m ρ H1 (fun b H2 => BA c n (compareOp o1) a b H2 (fun v H3 => ∃ q, v = .bool q ∧ (q = false → RB false H3) ∧ (q = true → EV c n r ρ H3 (fun d H4 => BA c n (compareOp o2) b d H4 (fun v H5 => ∃ q, v = .bool q ∧ RB q H5)) X))) X) X) : BV c n (.Compare l [o1, o2] [m, r] p) ρ H RB X := by
 simp only [eEV, eLV, eBV, eXV, eBA, eSA, eCJ, eIV, eEQ, eBQ, eXQ] at *
 exact bo_cmp2 (h := h) (hm := hm)
theorem X_nil   (h : P (.next ρ) H) : XV c n [] ρ H P X := by
 simp only [eEV, eLV, eBV, eXV, eBA, eSA, eCJ, eIV, eEQ, eBQ, eXQ] at *
 exact ExS.nil (h := h)
theorem X_ret  (h : EV c n e ρ H (fun v H1 => P (.ret v) H1) X) : XV c n (.Return (some e) p :: r) ρ H P X := by
 simp only [eEV, eLV, eBV, eXV, eBA, eSA, eCJ, eIV, eEQ, eBQ, eXQ] at *
 exact ExS.ret (h := h)
theorem X_cont  (h : P (.cont ρ) H) : XV c n (.Continue p :: r) ρ H P X := by
 simp only [eEV, eLV, eBV, eXV, eBA, eSA, eCJ, eIV, eEQ, eBQ, eXQ] at *
 exact ExS.cont (h := h)
theorem X_ifS {t : Expr} {a b : List Stmt}  (h : BV c n t ρ H (fun q H1 => (q = true → XV c n (a ++ r) ρ H1 P X) ∧ (q = false → XV c n (b ++ r) ρ H1 P X)) X) : XV c n (.If t a b p :: r) ρ H P X := by
 simp only [eEV, eLV, eBV, eXV, eBA, eSA, eCJ, eIV, eEQ, eBQ, eXQ] at *
 exact ExS.ifS (h := h)
theorem X_assign {x : String} {q : Pos} (hc : notComp e = true) (h : EV c n e ρ H (fun v H1 => ∃ ρ1, Put ρ (so x) v ρ1 ∧ XV c n r ρ1 H1 P X) X) : XV c n (.Assign [.Name (so x) q] e p :: r) ρ H P X := by
 simp only [eEV, eLV, eBV, eXV, eBA, eSA, eCJ, eIV, eEQ, eBQ, eXQ] at *
 exact ExS.assign (h := h) (hc := hc)
theorem X_setAttr {q : Pos} (hc : notComp e = true) (h : EV c n e ρ H (fun y H1 => EV c n o ρ H1 (fun v H2 => ∃ i C fs, v = .obj i ∧ fs.length < 100 ∧ (∀ P, setOk (kFrag P) C x = true) ∧ ((H2[i]? = some (.inst C fs) ∧ XV c n r ρ (H2.set i (.inst C (fput fs x y))) P X) ∨ (H2[i]? = some (.exc C fs) ∧ XV c n r ρ (H2.set i (.exc C (fput fs x y))) P X) ∨ (H2[i]? = some (.new C fs) ∧ XV c n r ρ (H2.set i (.new C (fput fs x y))) P X))) X) X) : XV c n (.Assign [.Attribute o x q] e p :: r) ρ H P X := by
 simp only [eEV, eLV, eBV, eXV, eBA, eSA, eCJ, eIV, eEQ, eBQ, eXQ] at *
 exact ExS.setAttr (h := h) (hc := hc)
theorem X_exprAny (hc : notComp e = true) (h : EV c n e ρ H (fun _ H1 => XV c n r ρ H1 P X) X) : XV c n (.Expr e p :: r) ρ H P X := by
 simp only [eEV, eLV, eBV, eXV, eBA, eSA, eCJ, eIV, eEQ, eBQ, eXQ] at *
 exact ExS.exprAny (h := h) (hc := hc)
theorem X_while {t : Expr} (J : Nat → Loc → List AO → Prop) (k : Nat) (init : J k ρ H) (turn : ∀ k ρ1 H1, J k ρ1 H1 → BV c n t ρ1 H1 (fun q H2 => (q = true → XV c n body ρ1 H2 (PW J k P) X) ∧ (q = false → XV c n r ρ1 H2 P X)) X) : XV c n (.While t body [] p :: r) ρ H P X := by
 simp only [eEV, eLV, eBV, eXV, eBA, eSA, eCJ, eIV, eEQ, eBQ, eXQ] at *
 exact ExS.while (J := J) (k := k) (init := init) (turn := turn)
theorem X_forS {x : String} (hn : 0 < n) (hs : ∀ env x, foldedSetIterable e env x = pure x) (h : IV c n e ρ H (fun li l H1 => ∃ J : Nat → Loc → List AO → Prop, J 0 ρ H1 ∧
   (∀ i y ρ1 H2, l[i]? = some y → J i ρ1 H2 → LiOk li l H2 → ∃ ρ2, Put ρ1 (so x) y ρ2 ∧ XV c n body ρ2 H2 (PF J (i + 1) li l P) X) ∧ (∀ ρ1 H2, J l.length ρ1 H2 → XV c n r ρ1 H2 P X)) X) : XV c n (.For (.Name (so x) px) e body [] p :: r) ρ H P X := by
 simp only [eEV, eLV, eBV, eXV, eBA, eSA, eCJ, eIV, eEQ, eBQ, eXQ] at *
 exact ExS.for (h := h) (hn := hn) (hs := hs)
theorem s_asgT {xs : List Str} (hx : NamesOf es xs) (hn : 0 < n) (hs : ∀ env, swapsWithSole [.Tuple es k tp] e p.line env = pure false) (hw : ∀ env, swappedStores [.Tuple es k tp] e env = pure none) (h : EV c n e ρ H (fun v H1 => ∃ l ρ1, v = .tup l ∧ l.length = xs.length ∧ PutL ρ xs l ρ1 ∧ XV c n r ρ1 H1 P X) X) : XV c n (.Assign [.Tuple es k tp] e p :: r) ρ H P X := by
 simp only [eEV, eLV, eBV, eXV, eBA, eSA, eCJ, eIV, eEQ, eBQ, eXQ] at *
 exact asgT (hx := hx) (h := h) (hn := hn) (hs := hs) (hw := hw)
theorem s_asg2 {x y : String} {a b : Expr} {qx qy tp' : Pos} {k' : Nat} (hn : 0 < n) (hx : ∃ o, (so x, Kd.loc, o) ∈ ρ) (hy : ∃ o, (so y, Kd.loc, o) ∈ ρ) (hs : ∀ env, swapsWithSole [.Tuple [.Name (so x) qx, .Name (so y) qy] k tp] (.Tuple [a, b] k' tp') p.line env = pure false) (n1 : notStar a = true) (n2 : notStar b = true) (hne : ((so y) == (so x)) = false) (hl : (qy.line == qx.line) = true) (hst : anyStar [a, b] = false) (hf : [a, b].all (foldedForSure 8) = false) (hc : [a, b].all (constantsAlone 8) = false) (h : EV c n a ρ H (fun va H1 => EV c n b ρ H1 (fun vb H2 => ∃ ρ1 ρ2, Put ρ (so y) vb ρ1 ∧ Put ρ1 (so x) va ρ2 ∧ XV c n r ρ2 H2 P X) X) X) : XV c n (.Assign [.Tuple [.Name (so x) qx, .Name (so y) qy] k tp] (.Tuple [a, b] k' tp') p :: r) ρ H P X := by
 simp only [eEV, eLV, eBV, eXV, eBA, eSA, eCJ, eIV, eEQ, eBQ, eXQ] at *
 exact asg2 (h := h) (hn := hn) (hx := hx) (hy := hy) (hs := hs) (n1 := n1) (n2 := n2) (hne := hne) (hl := hl) (hst := hst) (hf := hf) (hc := hc)
theorem s_asg2c {x y : String} {a b : Int} {qx qy tp' pa pb : Pos} {k' ka kb : Nat} (hn : 0 < n) (hs : ∀ env, swapsWithSole [.Tuple [.Name (so x) qx, .Name (so y) qy] k tp] (.Tuple [.Constant (.int a) ka pa, .Constant (.int b) kb pb] k' tp') p.line env = pure false) (hw : ∀ env, swappedStores [.Tuple [.Name (so x) qx, .Name (so y) qy] k tp] (.Tuple [.Constant (.int a) ka pa, .Constant (.int b) kb pb] k' tp') env = pure none) (h : ∃ ρ1 ρ2, Put ρ (so x) (.int a) ρ1 ∧ Put ρ1 (so y) (.int b) ρ2 ∧ XV c n r ρ2 H P X) : XV c n (.Assign [.Tuple [.Name (so x) qx, .Name (so y) qy] k tp] (.Tuple [.Constant (.int a) ka pa, .Constant (.int b) kb pb] k' tp') p :: r) ρ H P X := by
 simp only [eEV, eLV, eBV, eXV, eBA, eSA, eCJ, eIV, eEQ, eBQ, eXQ] at *
 exact asg2c (h := h) (hn := hn) (hs := hs) (hw := hw)
theorem s_ex_assignSub {i : Expr} {q : Pos} (hc : notComp e = true) (h : EV c n e ρ H (fun y H1 => EV c n o ρ H1 (fun v H2 => ∃ j, v = .obj j ∧ EV c n i ρ H2 (fun k H3 => ∃ (m : Nat) (l : List V), k = .int m ∧ H3[j]? = some (.list l) ∧ m < l.length ∧ (m : Int) < 2 ^ 63 ∧ XV c n r ρ (H3.set j (.list (l.set m y))) P X) X) X) X) : XV c n (.Assign [.Subscript o i q] e p :: r) ρ H P X := by
 simp only [eEV, eLV, eBV, eXV, eBA, eSA, eCJ, eIV, eEQ, eBQ, eXQ] at *
 exact ex_assignSub (h := h) (hc := hc)
theorem s_ex_raise (hn : 0 < n) (h : EV c n e ρ H (fun v H1 => ∃ i C fs, v = .obj i ∧ H.length ≤ i ∧ H1[i]? = some (.new C fs) ∧ (∀ P, excOk (kFrag P) C = true) ∧ X i (H1.set i (.exc C fs))) X) : XV c n (.Raise (some e) none p :: r) ρ H P X := by
 simp only [eEV, eLV, eBV, eXV, eBA, eSA, eCJ, eIV, eEQ, eBQ, eXQ] at *
 exact ex_raise (h := h) (hn := hn)
theorem s_ex_tryAs {suite : List Stmt} {b0 : Stmt} {x : String} {q hp : Pos} {Xb : Nat → List AO → Prop} (hg : (so "GrammarFault", Kd.glob, some (V.val (.ref 72))) ∈ ρ) (hc : ∀ e ∈ ρ, e.2.1 ≠ .cell) (h : XV c n body ρ H (fun fl H1 => match fl with | .next ρ1 => XV c n r ρ1 H1 P X | fl => P fl H1) Xb) (hx : ∀ i H1, Xb i H1 → (∃ fs, H1[i]? = some (.exc 72 fs)) ∧ ∃ ρ1, Put (forget ρ) (so x) (.obj i) ρ1 ∧ XV c 0 (b0 :: suite) ρ1 H1 (fun fl H2 => ∃ v, fl = .ret v ∧ P (.ret v) H2) NoX) : XV c n (.Try body [.ExceptHandler (some (.Name (so "GrammarFault") q)) (some (so x)) (b0 :: suite) hp] [] [] p :: r) ρ H P X := by
 simp only [eEV, eLV, eBV, eXV, eBA, eSA, eCJ, eIV, eEQ, eBQ, eXQ] at *
 exact ex_tryAs (h := h) (hx := hx) (hg := hg) (hc := hc)
theorem A_intAdd {i j : Int}  (h : R (.int (i + j)) H) : BA c n (binaryOp .Add) (.int i) (.int j) H R := by
 simp only [eEV, eLV, eBV, eXV, eBA, eSA, eCJ, eIV, eEQ, eBQ, eXQ] at *
 exact BinA.intAdd (h := h)
theorem A_intSub {i j : Int}  (h : R (.int (i - j)) H) : BA c n (binaryOp .Sub) (.int i) (.int j) H R := by
 simp only [eEV, eLV, eBV, eXV, eBA, eSA, eCJ, eIV, eEQ, eBQ, eXQ] at *
 exact BinA.intSub (h := h)
theorem A_intMult {i j : Int} (hm : IntMulOk i j) (h : R (.int (i * j)) H) : BA c n (binaryOp .Mult) (.int i) (.int j) H R := by
 simp only [eEV, eLV, eBV, eXV, eBA, eSA, eCJ, eIV, eEQ, eBQ, eXQ] at *
 exact BinA.intMult (hm := hm) (h := h)
theorem A_intMod {i j : Int} (hj : j ≠ 0) (h : R (.int (i.fmod j)) H) : BA c n (binaryOp .Mod) (.int i) (.int j) H R := by
 simp only [eEV, eLV, eBV, eXV, eBA, eSA, eCJ, eIV, eEQ, eBQ, eXQ] at *
 exact BinA.intMod (hj := hj) (h := h)
theorem A_intDiv {i j : Int} (hj : j ≠ 0) (hf : Builtin.divisionGoesByPylong i j = false) (h : R (.int (i.fdiv j)) H) : BA c n (binaryOp .FloorDiv) (.int i) (.int j) H R := by
 simp only [eEV, eLV, eBV, eXV, eBA, eSA, eCJ, eIV, eEQ, eBQ, eXQ] at *
 exact BinA.intDiv (hj := hj) (hf := hf) (h := h)
theorem A_intPow {i j : Int} (hj : 0 ≤ j) (hf : (Builtin.Int.intBits i : Int) * j ≤ 2 ^ 27) (h : R (.int (i ^ j.toNat)) H) : BA c n (binaryOp .Pow) (.int i) (.int j) H R := by
 simp only [eEV, eLV, eBV, eXV, eBA, eSA, eCJ, eIV, eEQ, eBQ, eXQ] at *
 exact BinA.intPow (hj := hj) (hf := hf) (h := h)
theorem A_strAdd (hf : x.length + y.length ≤ sizeLine) (h : R (.str (x ++ y)) H) : BA c n (binaryOp .Add) (.str x) (.str y) H R := by
 simp only [eEV, eLV, eBV, eXV, eBA, eSA, eCJ, eIV, eEQ, eBQ, eXQ] at *
 exact BinA.strAdd (hf := hf) (h := h)
theorem A_intEq {i j : Int}  (h : R (.bool (i == j)) H) : BA c n (compareOp .Eq) (.int i) (.int j) H R := by
 simp only [eEV, eLV, eBV, eXV, eBA, eSA, eCJ, eIV, eEQ, eBQ, eXQ] at *
 exact BinA.intEq (h := h)
theorem A_intNotEq {i j : Int}  (h : R (.bool (i != j)) H) : BA c n (compareOp .NotEq) (.int i) (.int j) H R := by
 simp only [eEV, eLV, eBV, eXV, eBA, eSA, eCJ, eIV, eEQ, eBQ, eXQ] at *
 exact BinA.intNotEq (h := h)
theorem A_intLt {i j : Int}  (h : R (.bool (decide (i < j))) H) : BA c n (compareOp .Lt) (.int i) (.int j) H R := by
 simp only [eEV, eLV, eBV, eXV, eBA, eSA, eCJ, eIV, eEQ, eBQ, eXQ] at *
 exact BinA.intLt (h := h)
theorem A_intLtE {i j : Int}  (h : R (.bool (decide (i ≤ j))) H) : BA c n (compareOp .LtE) (.int i) (.int j) H R := by
 simp only [eEV, eLV, eBV, eXV, eBA, eSA, eCJ, eIV, eEQ, eBQ, eXQ] at *
 exact BinA.intLtE (h := h)
theorem A_intGt {i j : Int}  (h : R (.bool (decide (i > j))) H) : BA c n (compareOp .Gt) (.int i) (.int j) H R := by
 simp only [eEV, eLV, eBV, eXV, eBA, eSA, eCJ, eIV, eEQ, eBQ, eXQ] at *
 exact BinA.intGt (h := h)
theorem A_intGtE {i j : Int}  (h : R (.bool (decide (i ≥ j))) H) : BA c n (compareOp .GtE) (.int i) (.int j) H R := by
 simp only [eEV, eLV, eBV, eXV, eBA, eSA, eCJ, eIV, eEQ, eBQ, eXQ] at *
 exact BinA.intGtE (h := h)
theorem A_strEq  (h : R (.bool (x == y)) H) : BA c n (compareOp .Eq) (.str x) (.str y) H R := by
 simp only [eEV, eLV, eBV, eXV, eBA, eSA, eCJ, eIV, eEQ, eBQ, eXQ] at *
 exact BinA.strEq (h := h)
theorem A_strNotEq  (h : R (.bool (x != y)) H) : BA c n (compareOp .NotEq) (.str x) (.str y) H R := by
 simp only [eEV, eLV, eBV, eXV, eBA, eSA, eCJ, eIV, eEQ, eBQ, eXQ] at *
 exact BinA.strNotEq (h := h)
theorem A_strLtE  (h : R (.bool (!(decide (y.cps.toList < x.cps.toList)))) H) : BA c n (compareOp .LtE) (.str x) (.str y) H R := by
 simp only [eEV, eLV, eBV, eXV, eBA, eSA, eCJ, eIV, eEQ, eBQ, eXQ] at *
 exact BinA.strLtE (h := h)
theorem A_strIn  (h : R (.bool (!(Builtin.Str.occurrences y x 0 y.length 1).isEmpty)) H) : BA c n (compareOp .In) (.str x) (.str y) H R := by
 simp only [eEV, eLV, eBV, eXV, eBA, eSA, eCJ, eIV, eEQ, eBQ, eXQ] at *
 exact BinA.strIn (h := h)
theorem A_isNone {x : V} (hx : notAny x = true) (h : R (.bool (isNoneV x)) H) : BA c n (compareOp .Is) x .none H R := by
 simp only [eEV, eLV, eBV, eXV, eBA, eSA, eCJ, eIV, eEQ, eBQ, eXQ] at *
 exact BinA.isNone (hx := hx) (h := h)
theorem A_isNotNone {x : V} (hx : notAny x = true) (h : R (.bool (!isNoneV x)) H) : BA c n (compareOp .IsNot) x .none H R := by
 simp only [eEV, eLV, eBV, eXV, eBA, eSA, eCJ, eIV, eEQ, eBQ, eXQ] at *
 exact BinA.isNotNone (hx := hx) (h := h)
theorem A_tupEq (hd : depL l = some d) (hn : d < 100) (h : R (.bool true) H) : BA c n (compareOp .Eq) (.tup l) (.tup l) H R := by
 simp only [eEV, eLV, eBV, eXV, eBA, eSA, eCJ, eIV, eEQ, eBQ, eXQ] at *
 exact BinA.tupEq (hd := hd) (hn := hn) (h := h)
theorem A_tupNe (hd : depL l = some d) (hn : d < 100) (h : R (.bool false) H) : BA c n (compareOp .NotEq) (.tup l) (.tup l) H R := by
 simp only [eEV, eLV, eBV, eXV, eBA, eSA, eCJ, eIV, eEQ, eBQ, eXQ] at *
 exact BinA.tupNe (hd := hd) (hn := hn) (h := h)
theorem A_tupNeNil  (h : R (.bool (!l.isEmpty)) H) : BA c n (compareOp .NotEq) (.tup l) (.tup []) H R := by
 simp only [eEV, eLV, eBV, eXV, eBA, eSA, eCJ, eIV, eEQ, eBQ, eXQ] at *
 exact BinA.tupNeNil (h := h)
theorem A_listEqNil {j : Nat} (hi : H[i]? = some (.list l)) (hj : H[j]? = some (.list [])) (h : R (.bool l.isEmpty) H) : BA c n (compareOp .Eq) (.obj i) (.obj j) H R := by
 simp only [eEV, eLV, eBV, eXV, eBA, eSA, eCJ, eIV, eEQ, eBQ, eXQ] at *
 exact BinA.listEqNil (hi := hi) (hj := hj) (h := h)
theorem A_listNeNil {j : Nat} (hi : H[i]? = some (.list l)) (hj : H[j]? = some (.list [])) (h : R (.bool (!l.isEmpty)) H) : BA c n (compareOp .NotEq) (.obj i) (.obj j) H R := by
 simp only [eEV, eLV, eBV, eXV, eBA, eSA, eCJ, eIV, eEQ, eBQ, eXQ] at *
 exact BinA.listNeNil (hi := hi) (hj := hj) (h := h)
theorem A_inList {ys : List Str} (hi : H[i]? = some (.list (ys.map V.str))) (h : R (.bool (ys.any (· == x))) H) : BA c n (compareOp .In) (.str x) (.obj i) H R := by
 simp only [eEV, eLV, eBV, eXV, eBA, eSA, eCJ, eIV, eEQ, eBQ, eXQ] at *
 exact BinA.inList (hi := hi) (h := h)
theorem A_listAdd {j : Nat} {l' : List V} (hi : H[i]? = some (.list l)) (hj : H[j]? = some (.list l')) (hs : l.length + l'.length ≤ sizeLine) (h : R (.obj H.length) (H ++ [.list (l ++ l')])) : BA c n (binaryOp .Add) (.obj i) (.obj j) H R := by
 simp only [eEV, eLV, eBV, eXV, eBA, eSA, eCJ, eIV, eEQ, eBQ, eXQ] at *
 exact BinA.listAdd (hi := hi) (hj := hj) (hs := hs) (h := h)
theorem A_strMul0 {i : Int} (h0 : i < 1) (h1 : -(2 ^ 63) ≤ i) (h : R (.str Str.empty) H) : BA c n (binaryOp .Mult) (.str x) (.int i) H R := by
 simp only [eEV, eLV, eBV, eXV, eBA, eSA, eCJ, eIV, eEQ, eBQ, eXQ] at *
 exact BinA.strMul0 (h0 := h0) (h1 := h1) (h := h)
theorem A_chIn  (h : R (.bool (decide (ch ∈ y.cps.toList))) H) : BA c n (compareOp .In) (.str ⟨#[ch]⟩) (.str y) H R := by
 simp only [eEV, eLV, eBV, eXV, eBA, eSA, eCJ, eIV, eEQ, eBQ, eXQ] at *
 exact BinA.chIn (h := h)
theorem A_chNotIn  (h : R (.bool (!decide (ch ∈ y.cps.toList))) H) : BA c n (compareOp .NotIn) (.str ⟨#[ch]⟩) (.str y) H R := by
 simp only [eEV, eLV, eBV, eXV, eBA, eSA, eCJ, eIV, eEQ, eBQ, eXQ] at *
 exact BinA.chNotIn (h := h)
theorem A_SAdd {l m : List Nat} (hf : l.length + m.length ≤ sizeLine) (h : R (.str (S (l ++ m))) H) : BA c n (binaryOp .Add) (.str (S l)) (.str (S m)) H R := by
 simp only [eEV, eLV, eBV, eXV, eBA, eSA, eCJ, eIV, eEQ, eBQ, eXQ] at *
 exact BinA.SAdd (hf := hf) (h := h)
theorem A_inTup2 {ys : List Str} (e : l = ys.map V.str) (h : R (.bool (ys.any (· == x))) H) : BA c n (compareOp .In) (.str x) (.tup l) H R := by
 simp only [eEV, eLV, eBV, eXV, eBA, eSA, eCJ, eIV, eEQ, eBQ, eXQ] at *
 exact BinA.inTup' (e := e) (h := h)
theorem s_chInK (hx : x = ⟨#[ch]⟩) (h : R (.bool (decide (ch ∈ y.cps.toList))) H) : BA c n (compareOp .In) (.str x) (.str y) H R := by
 simp only [eEV, eLV, eBV, eXV, eBA, eSA, eCJ, eIV, eEQ, eBQ, eXQ] at *
 exact chInK (hx := hx) (h := h)
theorem s_chEqK {a b : Nat} (hx : x = ⟨#[b]⟩) (h : R (.bool (a == b)) H) : BA c n (compareOp .Eq) (.str ⟨#[a]⟩) (.str x) H R := by
 simp only [eEV, eLV, eBV, eXV, eBA, eSA, eCJ, eIV, eEQ, eBQ, eXQ] at *
 exact chEqK (hx := hx) (h := h)
theorem s_SEqK {l m : List Nat} (hx : x = S m) (h : R (.bool (l == m)) H) : BA c n (compareOp .Eq) (.str (S l)) (.str x) H R := by
 simp only [eEV, eLV, eBV, eXV, eBA, eSA, eCJ, eIV, eEQ, eBQ, eXQ] at *
 exact SEqK (hx := hx) (h := h)
theorem s_SNeK {l m : List Nat} (hx : x = S m) (h : R (.bool (l != m)) H) : BA c n (compareOp .NotEq) (.str (S l)) (.str x) H R := by
 simp only [eEV, eLV, eBV, eXV, eBA, eSA, eCJ, eIV, eEQ, eBQ, eXQ] at *
 exact SNeK (hx := hx) (h := h)
theorem s_SAddK {l m : List Nat} (hx : x = S m) (hf : l.length + m.length ≤ sizeLine) (h : R (.str (S (l ++ m))) H) : BA c n (binaryOp .Add) (.str (S l)) (.str x) H R := by
 simp only [eEV, eLV, eBV, eXV, eBA, eSA, eCJ, eIV, eEQ, eBQ, eXQ] at *
 exact SAddK (hx := hx) (hf := hf) (h := h)
theorem s_KAddS {l m : List Nat} (hx : x = S l) (hf : l.length + m.length ≤ sizeLine) (h : R (.str (S (l ++ m))) H) : BA c n (binaryOp .Add) (.str x) (.str (S m)) H R := by
 simp only [eEV, eLV, eBV, eXV, eBA, eSA, eCJ, eIV, eEQ, eBQ, eXQ] at *
 exact KAddS (hx := hx) (hf := hf) (h := h)
theorem S_list {j : Nat} {x : V} (hj : H[j]? = some (.list l)) (hi : l[i]? = some x) (hs : i < 2 ^ 62) (h : R x H) : SA c n (.obj j) (.int i) H R := by
 simp only [eEV, eLV, eBV, eXV, eBA, eSA, eCJ, eIV, eEQ, eBQ, eXQ] at *
 exact SubA.list (hj := hj) (hi := hi) (hs := hs) (h := h)
theorem S_tup {x : V} (hi : l[i]? = some x) (hs : i < 2 ^ 62) (h : R x H) : SA c n (.tup l) (.int i) H R := by
 simp only [eEV, eLV, eBV, eXV, eBA, eSA, eCJ, eIV, eEQ, eBQ, eXQ] at *
 exact SubA.tup (hi := hi) (hs := hs) (h := h)
theorem S_listLast {j : Nat} {x : V} (hj : H[j]? = some (.list l)) (hi : l.getLast? = some x) (hs : l.length < 2 ^ 62) (h : R x H) : SA c n (.obj j) (.int (-1)) H R := by
 simp only [eEV, eLV, eBV, eXV, eBA, eSA, eCJ, eIV, eEQ, eBQ, eXQ] at *
 exact SubA.listLast (hj := hj) (hi := hi) (hs := hs) (h := h)
theorem S_strLast (hi : x.cps.toList.getLast? = some ch) (hs : x.length < 2 ^ 62) (h : R (.str ⟨#[ch]⟩) H) : SA c n (.str x) (.int (-1)) H R := by
 simp only [eEV, eLV, eBV, eXV, eBA, eSA, eCJ, eIV, eEQ, eBQ, eXQ] at *
 exact SubA.strLast (hi := hi) (hs := hs) (h := h)
theorem S_tupI {i : Int} {x : V} (h0 : 0 ≤ i) (h1 : i < 2 ^ 62) (hi : l[i.toNat]? = some x) (h : R x H) : SA c n (.tup l) (.int i) H R := by
 simp only [eEV, eLV, eBV, eXV, eBA, eSA, eCJ, eIV, eEQ, eBQ, eXQ] at *
 exact SubA.tupI (h0 := h0) (h1 := h1) (hi := hi) (h := h)
theorem S_listI {j : Nat} {i : Int} {x : V} (hj : H[j]? = some (.list l)) (h0 : 0 ≤ i) (h1 : i < 2 ^ 62) (hi : l[i.toNat]? = some x) (h : R x H) : SA c n (.obj j) (.int i) H R := by
 simp only [eEV, eLV, eBV, eXV, eBA, eSA, eCJ, eIV, eEQ, eBQ, eXQ] at *
 exact SubA.listI (hj := hj) (h0 := h0) (h1 := h1) (hi := hi) (h := h)
theorem S_strS {l : List Nat} (hi : l[i]? = some ch) (hs : l.length < 2 ^ 62) (h : R (.str ⟨#[ch]⟩) H) : SA c n (.str (S l)) (.int i) H R := by
 simp only [eEV, eLV, eBV, eXV, eBA, eSA, eCJ, eIV, eEQ, eBQ, eXQ] at *
 exact SubA.strS (hi := hi) (hs := hs) (h := h)
theorem C_lenStr (hs : x.length < 2 ^ 62) (h : R (.int x.length) H) : CJ c n (.builtin "len") [.str x] H R X := by
 simp only [eEV, eLV, eBV, eXV, eBA, eSA, eCJ, eIV, eEQ, eBQ, eXQ] at *
 exact CallJ.lenStr (hs := hs) (h := h)
theorem C_lenList (hi : H[i]? = some (.list l)) (hs : l.length < 2 ^ 62) (h : R (.int l.length) H) : CJ c n (.builtin "len") [.obj i] H R X := by
 simp only [eEV, eLV, eBV, eXV, eBA, eSA, eCJ, eIV, eEQ, eBQ, eXQ] at *
 exact CallJ.lenList (hi := hi) (hs := hs) (h := h)
theorem C_lenS {l : List Nat} (hs : l.length < 2 ^ 62) (h : R (.int l.length) H) : CJ c n (.builtin "len") [.str (S l)] H R X := by
 simp only [eEV, eLV, eBV, eXV, eBA, eSA, eCJ, eIV, eEQ, eBQ, eXQ] at *
 exact CallJ.lenS (hs := hs) (h := h)
theorem C_ord  (h : R (.int ch) H) : CJ c n (.builtin "ord") [.str ⟨#[ch]⟩] H R X := by
 simp only [eEV, eLV, eBV, eXV, eBA, eSA, eCJ, eIV, eEQ, eBQ, eXQ] at *
 exact CallJ.ord (h := h)
theorem C_chr {i : Int} (h0 : 0 ≤ i) (h1 : i ≤ 1114111) (h : R (.str ⟨#[i.toNat]⟩) H) : CJ c n (.builtin "chr") [.int i] H R X := by
 simp only [eEV, eLV, eBV, eXV, eBA, eSA, eCJ, eIV, eEQ, eBQ, eXQ] at *
 exact CallJ.chr (h0 := h0) (h1 := h1) (h := h)
theorem C_abs {i : Int}  (h : R (.int (if i < 0 then -i else i)) H) : CJ c n (.builtin "abs") [.int i] H R X := by
 simp only [eEV, eLV, eBV, eXV, eBA, eSA, eCJ, eIV, eEQ, eBQ, eXQ] at *
 exact CallJ.abs (h := h)
theorem C_strInt {i : Int} (hi : i.natAbs.log2 < 1920) (h : R (.str (so (toString i))) H) : CJ c n (.type "str") [.int i] H R X := by
 simp only [eEV, eLV, eBV, eXV, eBA, eSA, eCJ, eIV, eEQ, eBQ, eXQ] at *
 exact CallJ.strInt (hi := hi) (h := h)
theorem C_tupList (hi : H[i]? = some (.list l)) (hs : l.length ≤ sizeLine) (h : R (.tup l) H) : CJ c n (.type "tuple") [.obj i] H R X := by
 simp only [eEV, eLV, eBV, eXV, eBA, eSA, eCJ, eIV, eEQ, eBQ, eXQ] at *
 exact CallJ.tupList (hi := hi) (hs := hs) (h := h)
theorem C_listTup (hs : l.length ≤ sizeLine) (h : R (.obj H.length) (H ++ [.list l])) : CJ c n (.type "list") [.tup l] H R X := by
 simp only [eEV, eLV, eBV, eXV, eBA, eSA, eCJ, eIV, eEQ, eBQ, eXQ] at *
 exact CallJ.listTup (hs := hs) (h := h)
theorem C_listList (hi : H[i]? = some (.list l)) (hs : l.length ≤ sizeLine) (h : R (.obj H.length) (H ++ [.list l])) : CJ c n (.type "list") [.obj i] H R X := by
 simp only [eEV, eLV, eBV, eXV, eBA, eSA, eCJ, eIV, eEQ, eBQ, eXQ] at *
 exact CallJ.listList (hi := hi) (hs := hs) (h := h)
theorem C_append {x : V} (hi : H[i]? = some (.list l)) (hs : l.length ≤ sizeLine) (h : R .none (H.set i (.list (l ++ [x])))) : CJ c n (.builtin "list.append") [.obj i, x] H R X := by
 simp only [eEV, eLV, eBV, eXV, eBA, eSA, eCJ, eIV, eEQ, eBQ, eXQ] at *
 exact CallJ.append (hi := hi) (hs := hs) (h := h)
theorem C_index {r : List Nat} (ho : Builtin.Str.occurrences x y 0 x.length 1 = i :: r) (h : R (.int i) H) : CJ c n (.builtin "str.index") [.str x, .str y] H R X := by
 simp only [eEV, eLV, eBV, eXV, eBA, eSA, eCJ, eIV, eEQ, eBQ, eXQ] at *
 exact CallJ.index (ho := ho) (h := h)
theorem C_join {ys : List Str} (hi : H[i]? = some (.list (ys.map V.str))) (hok : JoinOk x ys = true) (h : R (.str (Txt.join x ys)) H) : CJ c n (.builtin "str.join") [.str x, .obj i] H R X := by
 simp only [eEV, eLV, eBV, eXV, eBA, eSA, eCJ, eIV, eEQ, eBQ, eXQ] at *
 exact CallJ.join (hi := hi) (hok := hok) (h := h)
theorem C_split (hy : (y.length == 0) = false) (hsz : x.length ≤ sizeLine) (hsz2 : (Builtin.Str.partsBetween x (Builtin.Str.occurrences x y 0 x.length (x.length + 1)) y.length).length ≤ sizeLine) (h : R (.obj H.length) (H ++ [.list ((Txt.split x y).map V.str)])) : CJ c n (.builtin "str.split") [.str x, .str y] H R X := by
 simp only [eEV, eLV, eBV, eXV, eBA, eSA, eCJ, eIV, eEQ, eBQ, eXQ] at *
 exact CallJ.split (hy := hy) (hsz := hsz) (hsz2 := hsz2) (h := h)
theorem C_min {i j : Int} (hn : 0 < n) (h : R (.int (if j < i then j else i)) H) : CJ c n (.builtin "min") [.int i, .int j] H R X := by
 simp only [eEV, eLV, eBV, eXV, eBA, eSA, eCJ, eIV, eEQ, eBQ, eXQ] at *
 exact CallJ.min (hn := hn) (h := h)
theorem C_bytesList {ns : List Int} (hn : 0 < n) (hi : H[i]? = some (.list (ns.map V.int))) (hr : ∀ k ∈ ns, 0 ≤ k ∧ k < 256) (hs : ns.length ≤ sizeLine) (h : R (.bytes (byteArr ns)) H) : CJ c n (.type "bytes") [.obj i] H R X := by
 simp only [eEV, eLV, eBV, eXV, eBA, eSA, eCJ, eIV, eEQ, eBQ, eXQ] at *
 exact CallJ.bytesList (hn := hn) (hi := hi) (hr := hr) (hs := hs) (h := h)
theorem C_fault {w : Str} {y : V}  (h : R (.obj H.length) (H ++ [.new 72 [(so "what", .str w), (so "at", y)]])) : CJ c (n + 3) (.ref 72) [.str w, y] H R X := by
 simp only [eEV, eLV, eBV, eXV, eBA, eSA, eCJ, eIV, eEQ, eBQ, eXQ] at *
 exact CallJ.fault (h := h)
theorem C_make {fI : Addr} (hm : ∀ P, makesIn (kFrag P) C = true) (hi : ∀ P, findIn (kFrag P) (.ref C) "__init__" = some (some (.ref fI))) (hf : ∀ P, typeIn (kFrag P) (.ref fI) = some (.type "function")) (h : CodeJ c n (.ref fI) (.obj H.length :: xs) (H ++ [.inst C []]) (fun v H' => v = .none ∧ R (.obj H.length) H') X) : CJ c (n + 1) (.ref C) xs H R X := by
 simp only [eEV, eLV, eBV, eXV, eBA, eSA, eCJ, eIV, eEQ, eBQ, eXQ] at *
 exact CallJ.make (hm := hm) (hi := hi) (hf := hf) (h := h)
theorem C_up (hm : n ≤ m) (h : CJ c n g xs H R X) : CJ c m g xs H R X := by
 simp only [eEV, eLV, eBV, eXV, eBA, eSA, eCJ, eIV, eEQ, eBQ, eXQ] at *
 exact CallJ.up (h := h) (hm := hm)
theorem C_mono {R' : V → List AO → Prop} {X' : Nat → List AO → Prop} (hR : ∀ v H, R v H → R' v H) (hX : ∀ i H, X i H → X' i H) (h : CJ c n g xs H R X) : CJ c n g xs H R' X' := by
 simp only [eEV, eLV, eBV, eXV, eBA, eSA, eCJ, eIV, eEQ, eBQ, eXQ] at *
 exact CallJ.mono (h := h) (hR := hR) (hX := hX)
theorem I_list  (h : EV c n e ρ H (fun v H1 => ∃ j l, v = .obj j ∧ H1[j]? = some (.list l) ∧ K (some j) l H1) X) : IV c n e ρ H K X := by
 simp only [eEV, eLV, eBV, eXV, eBA, eSA, eCJ, eIV, eEQ, eBQ, eXQ] at *
 exact IterE.list (h := h)
theorem I_tup  (h : EV c n e ρ H (fun v H1 => ∃ l, v = .tup l ∧ K none l H1) X) : IV c n e ρ H K X := by
 simp only [eEV, eLV, eBV, eXV, eBA, eSA, eCJ, eIV, eEQ, eBQ, eXQ] at *
 exact IterE.tup (h := h)
theorem I_str  (h : EV c n e ρ H (fun v H1 => ∃ x, v = .str x ∧ K none (x.cps.toList.map fun ch => .str ⟨#[ch]⟩) H1) X) : IV c n e ρ H K X := by
 simp only [eEV, eLV, eBV, eXV, eBA, eSA, eCJ, eIV, eEQ, eBQ, eXQ] at *
 exact IterE.str (h := h)
theorem I_bytes  (h : EV c n e ρ H (fun v H1 => ∃ x, v = .bytes x ∧ K none (x.toList.map fun ch => .int (ch.toNat : Int)) H1) X) : IV c n e ρ H K X := by
 simp only [eEV, eLV, eBV, eXV, eBA, eSA, eCJ, eIV, eEQ, eBQ, eXQ] at *
 exact IterE.bytes (h := h)
theorem I_range {fp : Pos} (hm : (so "range", Kd.glob, some (.val (.type "range"))) ∈ ρ) (hs : as.all notStar = true) (h : LV c n p as ρ H (fun vs H1 => ∃ lo hi, ((vs = [.int hi] ∧ lo = 0) ∨ vs = [.int lo, .int hi]) ∧ -(2 ^ 62) ≤ lo ∧ lo < 2 ^ 62 ∧ -(2 ^ 62) ≤ hi ∧ hi < 2 ^ 62 ∧ K none (rangeL lo hi) H1) X) : IV c n (.Call (.Name (so "range") fp) as [] p) ρ H K X := by
 simp only [eEV, eLV, eBV, eXV, eBA, eSA, eCJ, eIV, eEQ, eBQ, eXQ] at *
 exact IterE.range (hm := hm) (hs := hs) (h := h)
theorem EQ_of  (h : EV c n e ρ H R X) : EQ c n m e ρ H R X := by
 simp only [eEV, eLV, eBV, eXV, eBA, eSA, eCJ, eIV, eEQ, eBQ, eXQ] at *
 exact EvQ.of (h := h)
theorem XQ_ret  (h : EQ c n m e ρ H (fun v H1 => P (.ret v) H1) X) : XQ c n m (.Return (some e) p :: r) ρ H P X := by
 simp only [eEV, eLV, eBV, eXV, eBA, eSA, eCJ, eIV, eEQ, eBQ, eXQ] at *
 exact ExQ.ret (h := h)
theorem XQ_step {st : Stmt}  (h : XV c n [st] ρ H (fun fl H1 => ∃ ρ1, fl = .next ρ1 ∧ XQ c n m r ρ1 H1 P X) X) : XQ c n m (st :: r) ρ H P X := by
 simp only [eEV, eLV, eBV, eXV, eBA, eSA, eCJ, eIV, eEQ, eBQ, eXQ] at *
 exact ExQ.step (h := h)
theorem XQ_ifS {t : Expr} {a b : List Stmt}  (h : BQ c n m t ρ H (fun q H1 => (q = true → XV c n (a ++ r) ρ H1 P X) ∧ (q = false → XV c n (b ++ r) ρ H1 P X)) X) : XQ c n m (.If t a b p :: r) ρ H P X := by
 simp only [eEV, eLV, eBV, eXV, eBA, eSA, eCJ, eIV, eEQ, eBQ, eXQ] at *
 exact ExQ.ifS (h := h)
theorem BQ_cmp {l r : Expr} {op : CmpOp} (hm : behindInMarks op r = false) (h : EQ c n m l ρ H (fun a H1 => EV c n r ρ H1 (fun b H2 => BA c n (compareOp op) a b H2 (fun v H3 => ∃ q, v = .bool q ∧ RB q H3)) X) X) : BQ c n m (.Compare l [op] [r] p) ρ H RB X := by
 simp only [eEV, eLV, eBV, eXV, eBA, eSA, eCJ, eIV, eEQ, eBQ, eXQ] at *
 exact BoQ.cmp (h := h) (hm := hm)
theorem EQ_binop {l r : Expr} {op : Operator}  (h : EQ c n m l ρ H (fun a H1 => EQ c n m r ρ H1 (fun b H2 => BA c n (binaryOp op) a b H2 R) X) X) : EQ c n m (.BinOp l op r p) ρ H R X := by
 simp only [eEV, eLV, eBV, eXV, eBA, eSA, eCJ, eIV, eEQ, eBQ, eXQ] at *
 exact EvQ.binop (h := h)
theorem EQ_len {k : Kd} {fp : Pos} (hm : (so "len", k, some (.val (.builtin "len"))) ∈ ρ) (hs : notStar e = true) (h : EQ c n m e ρ H (fun x H1 => CJ c n (.builtin "len") [x] H1 R X) X) : EQ c n m (.Call (.Name (so "len") fp) [e] [] p) ρ H R X := by
 simp only [eEV, eLV, eBV, eXV, eBA, eSA, eCJ, eIV, eEQ, eBQ, eXQ] at *
 exact EvQ.len (hm := hm) (h := h) (hs := hs)
theorem EQ_replace {z : Str} {k1 k2 : Nat} {p1 p2 : Pos} (hm : 1 ≤ m) (hyz : (y == z) = false) (hb : ∀ env whole, attributeBase o (so "replace") env whole = whole) (hf : fewOk [.Constant (.str y) k1 p1, .Constant (.str z) k2 p2] = true) (hl : (ap.endLine == p.line) = true) (h : EQ c n m o ρ H (fun v H1 => ∃ x, v = .str x ∧ x.length + (x.length + 1) * z.length ≤ 16777216 ∧ R (.str (Txt.replace x y z)) H1) X) : EQ c n m (.Call (.Attribute o (so "replace") ap) [.Constant (.str y) k1 p1, .Constant (.str z) k2 p2] [] p) ρ H R X := by
 simp only [eEV, eLV, eBV, eXV, eBA, eSA, eCJ, eIV, eEQ, eBQ, eXQ] at *
 exact EvQ.replace (hm := hm) (h := h) (hyz := hyz) (hb := hb) (hf := hf) (hl := hl)
theorem s_ex_replaceQ {a b : String} {o1 i1 o2 : Expr} {ps q1 q2 q3 q4 q5 q6 q7 q8 : Pos} (hm : 1 ≤ m) (hn : 0 < n) (hb : ∀ env whole, attributeBase o2 (so "replace") env whole = whole) (hl : (ap.endLine == p.line) = true) (hd : ((so a) == ("__debug__" : Str)) = false) (h : EV c n o1 ρ H (fun v H1 => ∃ x, v = .str x ∧ EV c n i1 ρ H1 (fun k H2 => ∃ (i : Nat) (ch : Nat), k = .int i ∧ x.cps[i]? = some ch ∧ x.length < 2 ^ 62 ∧
   ∀ t, ∃ ρ1, Put ρ (so a) (.val (.str ⟨#[ch]⟩ t)) ρ1 ∧ (∃ k, (so a, k, some (V.val (.str ⟨#[ch]⟩ t))) ∈ ρ1) ∧
    EV c n o2 ρ1 H2 (fun v H3 => ∃ y, v = .str y ∧ y.length + (y.length + 1) * 1 ≤ 16777216 ∧ ∃ ρ2, Put ρ1 (so b) (.str (Txt.replace y ⟨#[ch, ch]⟩ ⟨#[ch]⟩)) ρ2 ∧ XV c n r ρ2 H3 P X) X) X) X) : XQ c n m (.Assign [.Name (so a) q1] (.Subscript o1 i1 ps) q2 :: .Assign [.Name (so b) q3] (.Call (.Attribute o2 (so "replace") ap) [.BinOp (.Name (so a) q4) .Add (.Name (so a) q5) q6, .Name (so a) q7] [] p) q8 :: r) ρ H P X := by
 simp only [eEV, eLV, eBV, eXV, eBA, eSA, eCJ, eIV, eEQ, eBQ, eXQ] at *
 exact ex_replaceQ (hm := hm) (hn := hn) (h := h) (hb := hb) (hl := hl) (hd := hd)
theorem IterE.mono {K' : Option Nat → List V → List AO → Prop} (h : IterE c n e ρ H K X) (hK : ∀ li l H, K li l H → K' li l H) : IterE c n e ρ H K' X :=
 fun A env fr μ s S Q E hQ hE => h A env fr μ s S Q E (fun k l H' μ' a s' q => hQ k l H' μ' a s' (hK _ _ _ q)) hE
theorem E_comp0 {x : String} {elt iter : Expr} (ok : CompOk c sc (so x) ρ ρc) (hn : 0 < n) (hs : ∀ env x, foldedSetIterable iter env x = pure x)
  (h : IV c n iter ρ H (fun li l H1 => l.length ≤ sizeLine ∧ ∃ J : Nat → List V → List AO → Prop, J 0 [] H1 ∧ (∀ i y acc H2, l[i]? = some y → J i acc H2 → LiOk li l H2 → EV c n elt ((so x, .loc, some y) :: ρc) H2 (fun v H4 => J (i + 1) (acc ++ [v]) H4 ∧ LiOk li l H4) NoX) ∧ (∀ acc H2, J l.length acc H2 → acc.length ≤ l.length → R (.obj H2.length) (H2 ++ [.list acc]))) X) :
  EV c n (.ListComp elt [⟨.Name (so x) px, iter, [], 0⟩] sc pos) ρ H R X := by
 simp only [eEV, eIV] at *
 refine ev_comp (IterE.mono h (fun li l H1 hK => ?_)) ok hn hs
 obtain ⟨h1, J, h2, h3, h4⟩ := hK
 exact ⟨h1, J, h2, fun i y acc H2 hy hJ hl => ⟨hl, fun q => Bool.noConfusion q, fun _ => h3 i y acc H2 hy hJ hl⟩, h4⟩
theorem E_comp1 {x : String} {elt iter t : Expr} (ok : CompOk c sc (so x) ρ ρc) (hn : 0 < n) (hs : ∀ env x, foldedSetIterable iter env x = pure x)
  (h : IV c n iter ρ H (fun li l H1 => l.length ≤ sizeLine ∧ ∃ J : Nat → List V → List AO → Prop, J 0 [] H1 ∧ (∀ i y acc H2, l[i]? = some y → J i acc H2 → LiOk li l H2 → BV c n t ((so x, .loc, some y) :: ρc) H2 (fun b H3 => (b = false → J (i + 1) acc H3 ∧ LiOk li l H3) ∧ (b = true → LiOk li l H3 ∧ EV c n elt ((so x, .loc, some y) :: ρc) H3 (fun v H4 => J (i + 1) (acc ++ [v]) H4 ∧ LiOk li l H4) NoX)) NoX) ∧ (∀ acc H2, J l.length acc H2 → acc.length ≤ l.length → R (.obj H2.length) (H2 ++ [.list acc]))) X) :
  EV c n (.ListComp elt [⟨.Name (so x) px, iter, [t], 0⟩] sc pos) ρ H R X := by
 simp only [eEV, eIV, eBV] at *
 refine ev_comp (IterE.mono h (fun li l H1 hK => ?_)) ok hn hs
 obtain ⟨h1, J, h2, h3, h4⟩ := hK
 refine ⟨h1, J, h2, fun i y acc H2 hy hJ hl => ?_, h4⟩
 intro A env fr μ s S Q E hQ hE
 refine h3 i y acc H2 hy hJ hl A env fr μ s S Q E (fun b H3 μ' s' hb => hQ b H3 μ' s' ?_) hE
 cases b with
 | false => exact ⟨(hb.1 rfl).2, fun _ => (hb.1 rfl).1, fun q => Bool.noConfusion q⟩
 | true => exact ⟨(hb.2 rfl).1, fun q => Bool.noConfusion q, fun _ => (hb.2 rfl).2⟩
theorem X_comp0 {x t : String} {q : Pos} {elt iter : Expr} (ok : CompOk c sc (so x) ρ ρc) (hn : 0 < n) (hs : ∀ env x, foldedSetIterable iter env x = pure x) (hl : (q.line == pos.line) = true)
  (hx : (sc.names.any fun (n, k) => n == so t && (k == .local || k == .cell)) = false) (ht : ∃ o, (so t, Kd.loc, o) ∈ ρ)
  (h : IV c n iter ρ H (fun li l H1 => l.length ≤ sizeLine ∧ ∃ J : Nat → List V → List AO → Prop, J 0 [] H1 ∧ (∀ i y acc H2, l[i]? = some y → J i acc H2 → LiOk li l H2 → EV c n elt ((so x, .loc, some y) :: ρc) H2 (fun v H4 => J (i + 1) (acc ++ [v]) H4 ∧ LiOk li l H4) NoX) ∧ (∀ acc H2, J l.length acc H2 → acc.length ≤ l.length → ∃ ρ1, Put ρ (so t) (.obj H2.length) ρ1 ∧ XV c n r ρ1 (H2 ++ [.list acc]) P X)) X) :
  XV c n (.Assign [.Name (so t) q] (.ListComp elt [⟨.Name (so x) px, iter, [], 0⟩] sc pos) p :: r) ρ H P X := by
 simp only [eEV, eIV, eXV] at *
 refine ex_assignComp (IterE.mono h (fun li l H1 hK => ?_)) ok hn hs hl hx ht
 obtain ⟨h1, J, h2, h3, h4⟩ := hK
 exact ⟨h1, J, h2, fun i y acc H2 hy hJ hl => ⟨hl, fun q => Bool.noConfusion q, fun _ => h3 i y acc H2 hy hJ hl⟩, h4⟩
end
theorem gok_t (e : ∀ P, nsIn (kFrag P) mainGlobals x = some (some (.ref a))) (ho : ∀ P, (kFrag P).lookup a = some (tpO vs 0)) (r : RepL c.base [] l vs) : GOk c x (.tup l) :=
 ⟨.ref a, .inl (mg_of c.X c.g (e _)), a, vs, 0, rfl, c.X a _ (ho _), r⟩
noncomputable def MAll (c : Cx) : Loc → Prop
 | [] => True
 | (_, .loc, none) :: r => MAll c r
 | (x, .glob, some y) :: r => GOk c x y ∧ MAll c r
 | _ :: _ => False
theorem MAll.get : ∀ {ρ : Loc}, MAll c ρ → ∀ x k V, (x, k, V) ∈ ρ → (k = .loc ∧ V = none) ∨ (k = .glob ∧ ∀ y, V = some y → GOk c x y)
 | [], _, _, _, _, hm => nomatch hm
 | (z, .loc, none) :: r, h, x, k, V, hm => by
  rcases List.mem_cons.mp hm with q | q
  ·cases q; exact .inl ⟨rfl, rfl⟩
  ·exact MAll.get (ρ := r) h x k V q
 | (z, .glob, some w) :: r, h, x, k, V, hm => by
  rcases List.mem_cons.mp hm with q | q
  ·cases q; exact .inr ⟨rfl, fun y hy => by cases hy; exact h.1⟩
  ·exact MAll.get h.2 x k V q
 | (_, .loc, some _) :: _, h, _, _, _, _ => h.elim
 | (_, .glob, none) :: _, h, _, _, _, _ => h.elim
 | (_, .cell, _) :: _, h, _, _, _, _ => h.elim
theorem lsZ {p : List Value → Prop} (h : p []) : ∀ vs : List Value, vs.length = 0 → p vs := fun vs e => List.length_eq_zero_iff.mp e ▸ h
theorem lsS {p : List Value → Prop} (h : ∀ a (vs : List Value), vs.length = n → p (a :: vs)) (vs : List Value) : vs.length = n + 1 → p vs :=
 List.casesOn vs (fun e => absurd e (Nat.succ_ne_zero n).symm) fun a vs e => h a vs (Nat.succ.inj e)
theorem ls0 {p : List Value → Prop} (h : p []) : ∀ vs : List Value, vs.length = 0 → p vs := lsZ h
theorem ls1 {p : List Value → Prop} (h : ∀ a, p [a]) : ∀ vs : List Value, vs.length = 1 → p vs := lsS fun a => lsZ (h a)
theorem ls2 {p : List Value → Prop} (h : ∀ a b, p [a, b]) : ∀ vs : List Value, vs.length = 2 → p vs := lsS fun a => ls1 (h a)
theorem ls3 {p : List Value → Prop} (h : ∀ a b d, p [a, b, d]) : ∀ vs : List Value, vs.length = 3 → p vs := lsS fun a => ls2 (h a)
theorem ls4 {p : List Value → Prop} (h : ∀ a b d e, p [a, b, d, e]) : ∀ vs : List Value, vs.length = 4 → p vs := lsS fun a => ls3 (h a)
theorem ls5 {p : List Value → Prop} (h : ∀ a b d e f, p [a, b, d, e, f]) : ∀ vs : List Value, vs.length = 5 → p vs := lsS fun a => ls4 (h a)
noncomputable def bindKs : {K : FuncData → List Value → Option (Array Value) → Sem (List (Str × Value)) // ∀ fd vs, bindArgs fd ⟨vs, []⟩ = seqItems? fd.defaults >>= K fd vs} := ⟨_, fun _ _ => rfl⟩
theorem hbD {fd : FuncData} {names : List Str} {dxs : List V} {T : Addr} {its ds : List Value} (hd : fd.defaults = .ref T) (hT : ∀ P, (kFrag P).lookup T = some (tpO its 0))
  (h : ∀ vs : List Value, vs.length = m → bindKs.1 fd vs (some its.toArray) = pure (names.zip (vs ++ ds))) (r : RepL c.base [] dxs ds) :
  ∀ (s : Shared) (vs : List Value), (kFrag c.w.params).In s.heap → vs.length = m → ∃ ds, BindsTo s fd ⟨vs, []⟩ (names.zip (vs ++ ds)) ∧ RepL c.base [] dxs ds := fun _ vs X hl =>
 ⟨ds, .of_defaults hd (X T _ (hT _)) rfl (bindKs.2 fd vs) (h vs hl), r⟩
section
variable {c : Cx} {n : Nat} {H : List AO} {R : V → List AO → Prop} {X : Nat → List AO → Prop} {a : Addr} {st : Stmt} {q : Str} {dv cd pm : Value} {names : List Str} {xs dxs : List V} {more : Loc}
theorem J_fnQ (h : TrSq c n names.length (execs (bodyOf st)) (params names (xs ++ dxs) ++ more) H (RetP R) X) (hm : MAll c more)
  (hb : ∀ (s : Shared) (vs : List Value), (kFrag c.w.params).In s.heap → vs.length = xs.length → ∃ ds, BindsTo s (fnD st q dv cd pm) ⟨vs, []⟩ (names.zip (vs ++ ds)) ∧ RepL c.base [] dxs ds)
  (hK : ∀ P, (kFrag P).lookup a = some (fnO st q dv cd pm) := by intro P; kernel_rfl) (h2 : (fnD st q dv cd pm).body = .stmts (bodyOf st) := by kernel_rfl) (h3 : ∀ P, codeIn (kFrag P) (fnD st q dv cd pm).code (fnD st q dv cd pm).qualname = true := by intro P; kernel_rfl)
  (h4 : fnOk (fnD st q dv cd pm) names (more.map fun e => (e.1, e.2.1)) = true := by kernel_rfl) (h5 : names.length = xs.length + dxs.length := by rfl) : CodeJ c (n + 1) (.ref a) xs H R X := CodeJ.fnQ hK h2 h3 h4 hb h5 hm.get h
theorem hb_of {fd : FuncData} (hb : ∀ vs : List Value, vs.length = xs.length → bindArgs fd ⟨vs, []⟩ = pure (names.zip vs)) : ∀ (s : Shared) (vs : List Value), (kFrag c.w.params).In s.heap → vs.length = xs.length → ∃ ds, BindsTo s fd ⟨vs, []⟩ (names.zip (vs ++ ds)) ∧ RepL c.base [] ([] : List V) ds := fun s vs _ hl => ⟨[], by rw [List.append_nil]; exact BindsTo.of_eq (hb vs hl), rfl⟩
theorem P_fnQ (h : XQ c n names.length (bodyOf st) (params names (xs ++ dxs) ++ more) H (RetP R) X) (hm : MAll c more)
  (hb : ∀ (s : Shared) (vs : List Value), (kFrag c.w.params).In s.heap → vs.length = xs.length → ∃ ds, BindsTo s (fnD st q dv cd pm) ⟨vs, []⟩ (names.zip (vs ++ ds)) ∧ RepL c.base [] dxs ds)
  (hK : ∀ P, (kFrag P).lookup a = some (fnO st q dv cd pm) := by intro P; kernel_rfl) (h2 : (fnD st q dv cd pm).body = .stmts (bodyOf st) := by kernel_rfl) (h3 : ∀ P, codeIn (kFrag P) (fnD st q dv cd pm).code (fnD st q dv cd pm).qualname = true := by intro P; kernel_rfl)
  (h4 : fnOk (fnD st q dv cd pm) names (more.map fun e => (e.1, e.2.1)) = true := by kernel_rfl) (h5 : names.length = xs.length + dxs.length := by rfl) : CJ c (n + 1) (.ref a) xs H R X := ⟨(J_fnQ h.un hm hb hK h2 h3 h4 h5).call⟩
theorem J_fn (h : XV c n (bodyOf st) (params names (xs ++ dxs) ++ more) H (RetP R) X) (hm : MAll c more)
  (hb : ∀ (s : Shared) (vs : List Value), (kFrag c.w.params).In s.heap → vs.length = xs.length → ∃ ds, BindsTo s (fnD st q dv cd pm) ⟨vs, []⟩ (names.zip (vs ++ ds)) ∧ RepL c.base [] dxs ds)
  (hK : ∀ P, (kFrag P).lookup a = some (fnO st q dv cd pm) := by intro P; kernel_rfl) (h2 : (fnD st q dv cd pm).body = .stmts (bodyOf st) := by kernel_rfl) (h3 : ∀ P, codeIn (kFrag P) (fnD st q dv cd pm).code (fnD st q dv cd pm).qualname = true := by intro P; kernel_rfl)
  (h4 : fnOk (fnD st q dv cd pm) names (more.map fun e => (e.1, e.2.1)) = true := by kernel_rfl) (h5 : names.length = xs.length + dxs.length := by rfl) : CodeJ c (n + 1) (.ref a) xs H R X := J_fnQ h.un.q hm hb hK h2 h3 h4 h5
theorem P_fn (h : XV c n (bodyOf st) (params names (xs ++ dxs) ++ more) H (RetP R) X) (hm : MAll c more)
  (hb : ∀ (s : Shared) (vs : List Value), (kFrag c.w.params).In s.heap → vs.length = xs.length → ∃ ds, BindsTo s (fnD st q dv cd pm) ⟨vs, []⟩ (names.zip (vs ++ ds)) ∧ RepL c.base [] dxs ds)
  (hK : ∀ P, (kFrag P).lookup a = some (fnO st q dv cd pm) := by intro P; kernel_rfl) (h2 : (fnD st q dv cd pm).body = .stmts (bodyOf st) := by kernel_rfl) (h3 : ∀ P, codeIn (kFrag P) (fnD st q dv cd pm).code (fnD st q dv cd pm).qualname = true := by intro P; kernel_rfl)
  (h4 : fnOk (fnD st q dv cd pm) names (more.map fun e => (e.1, e.2.1)) = true := by kernel_rfl) (h5 : names.length = xs.length + dxs.length := by rfl) : CJ c (n + 1) (.ref a) xs H R X := ⟨(J_fnQ h.un.q hm hb hK h2 h3 h4 h5).call⟩
theorem P_fnC {nk : List (Str × Kd)} (h : XV c n (bodyOf st) (paramsC nk xs ++ more) H (RetP R) X) (hm : MAll c more)
  (hb : ∀ vs : List Value, vs.length = xs.length → bindArgs (fnD st q dv cd pm) ⟨vs, []⟩ = pure ((nk.map (·.1)).zip vs))
  (hK : ∀ P, (kFrag P).lookup a = some (fnO st q dv cd pm) := by intro P; kernel_rfl) (h2 : (fnD st q dv cd pm).body = .stmts (bodyOf st) := by kernel_rfl) (h3 : ∀ P, codeIn (kFrag P) (fnD st q dv cd pm).code (fnD st q dv cd pm).qualname = true := by intro P; kernel_rfl)
  (h4 : fnOkC (fnD st q dv cd pm) nk (more.map fun e => (e.1, e.2.1)) = true := by kernel_rfl) (h5 : nk.length = xs.length := by rfl) (h6 : (fnD st q dv cd pm).closure = [] := by rfl)
  (h7 : ∀ L, (nk.all fun e => kdIs e.2 == .local || ((cellsFrom L (fnD st q dv cd pm).scope.names []).lookup e.1).isSome) = true := by intro L; kernel_rfl) : CJ c (n + 1) (.ref a) xs H R X := ⟨CallJ.fnC hK h2 h3 h4 hb h5 h6 h7 hm.get h.un⟩
end
noncomputable abbrev cv (x : String) (v : V) : Str × Kd × Option V := (so x, Kd.cell, some v)
theorem g_FIGURES_decimals : GOk c (so "FIGURES_decimals") (.str (so "0123456789")) := gok_s (t := 270) (fun P => by kernel_rfl)
theorem g_TokenFault : GOk c (so "TokenFault") (.val (.ref 60)) := gok_g (fun P => by kernel_rfl)
theorem g_len : GOk c (so "len") (.val (.builtin "len")) := gok_b (fun P => by kernel_rfl) (by decide +kernel) (by kernel_rfl)
theorem g_range : GOk c (so "range") (.val (.type "range")) := gok_b (fun P => by kernel_rfl) (by decide +kernel) (by kernel_rfl)
theorem g_worth_of : GOk c (so "worth_of") (.val (.ref 124)) := gok_g (fun P => by kernel_rfl)
theorem g_decimal : GOk c (so "decimal") (.val (.ref 89)) := gok_g (fun P => by kernel_rfl)
theorem g_str : GOk c (so "str") (.val (.type "str")) := gok_b (fun P => by kernel_rfl) (by decide +kernel) (by kernel_rfl)
theorem g_abs : GOk c (so "abs") (.val (.builtin "abs")) := gok_b (fun P => by kernel_rfl) (by decide +kernel) (by kernel_rfl)
theorem g_chr : GOk c (so "chr") (.val (.builtin "chr")) := gok_b (fun P => by kernel_rfl) (by decide +kernel) (by kernel_rfl)
theorem g_ord : GOk c (so "ord") (.val (.builtin "ord")) := gok_b (fun P => by kernel_rfl) (by decide +kernel) (by kernel_rfl)
theorem g_capital_of : GOk c (so "capital_of") (.val (.ref 203)) := gok_g (fun P => by kernel_rfl)
theorem g_WORD_SIGNS : GOk c (so "WORD_SIGNS") (.str (so "ABCDEFGHIJKLMNOPQRSTUVWXYZ0123456789-")) := gok_s (t := 401) (fun P => by kernel_rfl)
theorem g_run_end : GOk c (so "run_end") (.val (.ref 236)) := gok_g (fun P => by kernel_rfl)
theorem g_FIGURES_tokens : GOk c (so "FIGURES_tokens") (.str (so "0123456789")) := gok_s (t := 397) (fun P => by kernel_rfl)
theorem g_line_fault : GOk c (so "line_fault") (.val (.ref 229)) := gok_g (fun P => by kernel_rfl)
theorem g_LETTERS : GOk c (so "LETTERS") (.str (so "ABCDEFGHIJKLMNOPQRSTUVWXYZ")) := gok_s (t := 395) (fun P => by kernel_rfl)
theorem g_capitals : GOk c (so "capitals") (.val (.ref 208)) := gok_g (fun P => by kernel_rfl)
theorem g_MOST_WORD : GOk c (so "MOST_WORD") (.int 30) := gok_i (t := 409) (fun P => by kernel_rfl)
theorem g_MOST_FIGURES : GOk c (so "MOST_FIGURES") (.int 18) := gok_i (t := 411) (fun P => by kernel_rfl)
theorem g_MOST_LITERAL : GOk c (so "MOST_LITERAL") (.int 160) := gok_i (t := 413) (fun P => by kernel_rfl)
theorem g_is_word_sign : GOk c (so "is_word_sign") (.val (.ref 215)) := gok_g (fun P => by kernel_rfl)
theorem g_QUOTES : GOk c (so "QUOTES") (.str (so "\"'")) := gok_s (t := 353) (fun P => by kernel_rfl)
theorem g_DOUBLE_SIGNS : GOk c (so "DOUBLE_SIGNS") (.str (so "** <= >=")) := gok_s (t := 405) (fun P => by kernel_rfl)
theorem g_SINGLE_SIGNS : GOk c (so "SINGLE_SIGNS") (.str (so "():+-*/=<>")) := gok_s (t := 403) (fun P => by kernel_rfl)
theorem g_is_parted : GOk c (so "is_parted") (.val (.ref 222)) := gok_g (fun P => by kernel_rfl)
theorem g_number_end : GOk c (so "number_end") (.val (.ref 243)) := gok_g (fun P => by kernel_rfl)
theorem g_need_apart : GOk c (so "need_apart") (.val (.ref 290)) := gok_g (fun P => by kernel_rfl)
theorem g_checked_number : GOk c (so "checked_number") (.val (.ref 269)) := gok_g (fun P => by kernel_rfl)
theorem g_checked_word : GOk c (so "checked_word") (.val (.ref 262)) := gok_g (fun P => by kernel_rfl)
theorem g_literal_end : GOk c (so "literal_end") (.val (.ref 250)) := gok_g (fun P => by kernel_rfl)
theorem g_checked_literal : GOk c (so "checked_literal") (.val (.ref 276)) := gok_g (fun P => by kernel_rfl)
theorem g_mark_at : GOk c (so "mark_at") (.val (.ref 297)) := gok_g (fun P => by kernel_rfl)
theorem g_is_blank_at : GOk c (so "is_blank_at") (.val (.ref 311)) := gok_g (fun P => by kernel_rfl)
theorem g_is_picture_next : GOk c (so "is_picture_next") (.val (.ref 318)) := gok_g (fun P => by kernel_rfl)
theorem g_is_word_is : GOk c (so "is_word_is") (.val (.ref 332)) := gok_g (fun P => by kernel_rfl)
theorem g_checked_picture : GOk c (so "checked_picture") (.val (.ref 283)) := gok_g (fun P => by kernel_rfl)
theorem g_worth_at : GOk c (so "worth_at") (.val (.ref 304)) := gok_g (fun P => by kernel_rfl)
theorem g_Token : GOk c (so "Token") (.val (.ref 192)) := gok_g (fun P => by kernel_rfl)
theorem g_add_tokens : GOk c (so "add_tokens") (.val (.ref 325)) := gok_g (fun P => by kernel_rfl)
theorem g_MOST_SUBSCRIPTS : GOk c (so "MOST_SUBSCRIPTS") (.int 7) := gok_i (t := 656) (fun P => by kernel_rfl)
theorem g_tuple : GOk c (so "tuple") (.val (.type "tuple")) := gok_b (fun P => by kernel_rfl) (by decide +kernel) (by kernel_rfl)
theorem g_is_part_next : GOk c (so "is_part_next") (.val (.ref 355)) := gok_g (fun P => by kernel_rfl)
theorem g_read_subscripts : GOk c (so "read_subscripts") (.val (.ref 362)) := gok_g (fun P => by kernel_rfl)
theorem g_read_part : GOk c (so "read_part") (.val (.ref 369)) := gok_g (fun P => by kernel_rfl)
theorem g_read_figure : GOk c (so "read_figure") (.val (.ref 390)) := gok_g (fun P => by kernel_rfl)
theorem g_FIGURE_NAMES : GOk c (so "FIGURE_NAMES") (.val (.ref 347)) := gok_g (fun P => by kernel_rfl)
theorem g_read_all : GOk c (so "read_all") (.val (.ref 383)) := gok_g (fun P => by kernel_rfl)
theorem g_read_ref : GOk c (so "read_ref") (.val (.ref 376)) := gok_g (fun P => by kernel_rfl)
theorem g_quoted : GOk c (so "quoted") (.val (.ref 346)) := gok_g (fun P => by kernel_rfl)
theorem g_list : GOk c (so "list") (.val (.type "list")) := gok_b (fun P => by kernel_rfl) (by decide +kernel) (by kernel_rfl)
theorem g_shown_subscripts : GOk c (so "shown_subscripts") (.val (.ref 407)) := gok_g (fun P => by kernel_rfl)
theorem g_show_ref : GOk c (so "show_ref") (.val (.ref 414)) := gok_g (fun P => by kernel_rfl)
theorem g_write_decimal : GOk c (so "write_decimal") (.val (.ref 138)) := gok_g (fun P => by kernel_rfl)
theorem g_FIGURE_SHOWN : GOk c (so "FIGURE_SHOWN") (.val (.ref 348)) := gok_g (fun P => by kernel_rfl)
theorem g_shown_octets : GOk c (so "shown_octets") (.val (.ref 402)) := gok_g (fun P => by kernel_rfl)
theorem g_RESERVED : GOk c (so "RESERVED") (.str resS) := gok_s (t := 806) (fun P => by kernel_rfl)
theorem g_MOST_OCTET : GOk c (so "MOST_OCTET") (.int 255) := gok_i (t := 804) (fun P => by kernel_rfl)
theorem g_bytes : GOk c (so "bytes") (.val (.type "bytes")) := gok_b (fun P => by kernel_rfl) (by decide +kernel) (by kernel_rfl)
theorem g_GrammarFault : GOk c (so "GrammarFault") (.val (.ref 72)) := gok_g (fun P => by kernel_rfl)
theorem g_min : GOk c (so "min") (.val (.builtin "min")) := gok_b (fun P => by kernel_rfl) (by decide +kernel) (by kernel_rfl)
theorem g_is_reserved : GOk c (so "is_reserved") (.val (.ref 428)) := gok_g (fun P => by kernel_rfl)
theorem g_read_decimal : GOk c (so "read_decimal") (.val (.ref 131)) := gok_g (fun P => by kernel_rfl)
theorem g_negated : GOk c (so "negated") (.val (.ref 96)) := gok_g (fun P => by kernel_rfl)
theorem g_octets_of_text : GOk c (so "octets_of_text") (.val (.ref 433)) := gok_g (fun P => by kernel_rfl)
theorem g_law_expr : GOk c (so "_law_expr") (.val (.ref 634)) := gok_g (fun P => by kernel_rfl)
theorem g_law_draw : GOk c (so "_law_draw") (.val (.ref 613)) := gok_g (fun P => by kernel_rfl)
theorem g_law_numbers : GOk c (so "_law_numbers") (.val (.ref 620)) := gok_g (fun P => by kernel_rfl)
theorem g_law_texts : GOk c (so "_law_texts") (.tup [.bytes #[120, 34, 121], .bytes #[39], .bytes #[233, 32], .bytes #[40, 49, 32, 58, 32, 50, 41]]) := gok_t (a := 621) (fun P => by kernel_rfl) (fun P => by kernel_rfl) (show RepL c.base [] _ [.bytes #[120, 34, 121] 1046, .bytes #[39] 1047, .bytes #[233, 32] 1048, .bytes #[40, 49, 32, 58, 32, 50, 41] 1049] from ⟨_, _, rfl, ⟨_, rfl⟩, ⟨_, _, rfl, ⟨_, rfl⟩, ⟨_, _, rfl, ⟨_, rfl⟩, ⟨_, _, rfl, ⟨_, rfl⟩, rfl⟩⟩⟩⟩)
theorem g_law_figures : GOk c (so "_law_figures") (.tup [.str (so "ZERO"), .str (so "SPACE"), .str (so "HIGH"), .str (so "LOW"), .str (so "QUOTE")]) := gok_t (a := 622) (fun P => by kernel_rfl) (fun P => by kernel_rfl) (show RepL c.base [] _ [.str "ZERO" 1051, .str "SPACE" 1052, .str "HIGH" 1053, .str "LOW" 1054, .str "QUOTE" 1055] from ⟨_, _, rfl, ⟨_, rfl⟩, ⟨_, _, rfl, ⟨_, rfl⟩, ⟨_, _, rfl, ⟨_, rfl⟩, ⟨_, _, rfl, ⟨_, rfl⟩, ⟨_, _, rfl, ⟨_, rfl⟩, rfl⟩⟩⟩⟩⟩)
theorem g_law_operand : GOk c (so "_law_operand") (.val (.ref 627)) := gok_g (fun P => by kernel_rfl)
theorem g_law_show : GOk c (so "_law_show") (.val (.ref 641)) := gok_g (fun P => by kernel_rfl)
theorem g_show_operand : GOk c (so "show_operand") (.val (.ref 421)) := gok_g (fun P => by kernel_rfl)
theorem g_law_term : GOk c (so "_law_term") (.val (.ref 655)) := gok_g (fun P => by kernel_rfl)
theorem g_law_one : GOk c (so "_law_one") (.val (.ref 662)) := gok_g (fun P => by kernel_rfl)
theorem g_read_operand : GOk c (so "read_operand") (.val (.ref 397)) := gok_g (fun P => by kernel_rfl)
theorem g_law_read : GOk c (so "_law_read") (.val (.ref 648)) := gok_g (fun P => by kernel_rfl)
theorem g_Reader : GOk c (so "Reader") (.val (.ref 602)) := gok_g (fun P => by kernel_rfl)
theorem g_tokens_of : GOk c (so "tokens_of") (.val (.ref 339)) := gok_g (fun P => by kernel_rfl)
theorem g_Line : GOk c (so "Line") (.val (.ref 162)) := gok_g (fun P => by kernel_rfl)
theorem g_law_told : GOk c (so "_law_told") (.val (.ref 669)) := gok_g (fun P => by kernel_rfl)
section
variable {c : Cx} {n : Nat} {H : List AO} {R : V → List AO → Prop} {X : Nat → List AO → Prop} {v1 v2 v3 v4 v5 : V}
theorem p_decimal (h : XV c n (bodyOf (stAt 8)) [lv "units" v1, lv "scale" v2] H (RetP R) X) : CJ c (n + 1) (.ref 89) [v1, v2] H R X := P_fn (q := "decimal") (dv := .ref 82) (cd := .ref 88) (pm := md0) (names := [_, _]) (dxs := []) h trivial (hbD (T := 82) (its := [.int 0 280]) (ds := []) rfl (fun _ => by kernel_rfl) (ls2 fun _ _ => by kernel_rfl) rfl)
theorem p_negated (h : XV c n (bodyOf (stAt 9)) [lv "a" v1] H (RetP R) X) : CJ c (n + 1) (.ref 96) [v1] H R X := P_fn (q := "negated") (dv := .none) (cd := .ref 95) (pm := md0) (names := [_]) (dxs := []) h trivial (hb_of (ls1 fun _ => by kernel_rfl))
theorem p_worth_of (h : XV c n (bodyOf (stAt 13)) [lv "figures" v1, l0 "number", l0 "figure", gv "FIGURES_decimals" (.str (so "0123456789"))] H (RetP R) X) : CJ c (n + 1) (.ref 124) [v1] H R X := P_fn (q := "worth_of") (dv := .none) (cd := .ref 123) (pm := md0) (names := [_]) (dxs := []) h ⟨g_FIGURES_decimals, trivial⟩ (hb_of (ls1 fun _ => by kernel_rfl))
theorem p_read_decimal (h : XV c n (bodyOf (stAt 14)) [lv "text" v1, l0 "begin", l0 "ahead", l0 "behind", l0 "point", l0 "at", l0 "units", gv "TokenFault" (.val (.ref 60)), gv "len" (.val (.builtin "len")), gv "range" (.val (.type "range")), gv "FIGURES_decimals" (.str (so "0123456789")), gv "worth_of" (.val (.ref 124)), gv "decimal" (.val (.ref 89))] H (RetP R) X) : CJ c (n + 1) (.ref 131) [v1] H R X := P_fn (q := "read_decimal") (dv := .none) (cd := .ref 130) (pm := md0) (names := [_]) (dxs := []) h ⟨g_TokenFault, g_len, g_range, g_FIGURES_decimals, g_worth_of, g_decimal, trivial⟩ (hb_of (ls1 fun _ => by kernel_rfl))
theorem p_write_decimal (h : XV c n (bodyOf (stAt 15)) [lv "a" v1, l0 "figures", gv "str" (.val (.type "str")), gv "abs" (.val (.builtin "abs")), gv "len" (.val (.builtin "len"))] H (RetP R) X) : CJ c (n + 1) (.ref 138) [v1] H R X := P_fn (q := "write_decimal") (dv := .none) (cd := .ref 137) (pm := md0) (names := [_]) (dxs := []) h ⟨g_str, g_abs, g_len, trivial⟩ (hb_of (ls1 fun _ => by kernel_rfl))
theorem pc_line_init (h : XV c n (bodyOf (clsSt 18 0)) [lv "self" v1, lv "text" v2, lv "spots" v3] H (RetP R) X) : CodeJ c (n + 1) (.ref 152) [v1, v2, v3] H R X := J_fn (q := "Line.__init__") (dv := .none) (cd := .ref 151) (pm := md1) (names := [_, _, _]) (dxs := []) h trivial (hb_of (ls3 fun _ _ _ => by kernel_rfl))
theorem pc_token_init (h : XV c n (bodyOf (clsSt 29 0)) [lv "self" v1, lv "kind" v2, lv "worth" v3, lv "at" v4, lv "is_in_a" v5] H (RetP R) X) : CodeJ c (n + 1) (.ref 182) [v1, v2, v3, v4, v5] H R X := J_fn (q := "Token.__init__") (dv := .ref 175) (cd := .ref 181) (pm := md2) (names := [_, _, _, _, _]) (dxs := []) h trivial (hbD (T := 175) (its := [.ref 174, .bool false]) (ds := []) rfl (fun _ => by kernel_rfl) (ls5 fun _ _ _ _ _ => by kernel_rfl) rfl)
theorem pc_token_init_4 (h : XV c n (bodyOf (clsSt 29 0)) [lv "self" v1, lv "kind" v2, lv "worth" v3, lv "at" v4, lv "is_in_a" (.bool false)] H (RetP R) X) : CodeJ c (n + 1) (.ref 182) [v1, v2, v3, v4] H R X := J_fn (q := "Token.__init__") (dv := .ref 175) (cd := .ref 181) (pm := md2) (names := [_, _, _, _, _]) (dxs := [.bool false]) h trivial (hbD (T := 175) (its := [.ref 174, .bool false]) (ds := [.bool false]) rfl (fun _ => by kernel_rfl) (ls4 fun _ _ _ _ => by kernel_rfl) ⟨_, _, rfl, rfl, rfl⟩)
theorem p_capital_of (h : XV c n (bodyOf (stAt 30)) [lv "sign" v1, gv "chr" (.val (.builtin "chr")), gv "ord" (.val (.builtin "ord"))] H (RetP R) X) : CJ c (n + 1) (.ref 203) [v1] H R X := P_fn (q := "capital_of") (dv := .none) (cd := .ref 202) (pm := md2) (names := [_]) (dxs := []) h ⟨g_chr, g_ord, trivial⟩ (hb_of (ls1 fun _ => by kernel_rfl))
theorem p_capitals (h : XV c n (bodyOf (stAt 31)) [lv "text" v1] H (RetP R) X) : CJ c (n + 1) (.ref 208) [v1] H R X := P_fn (q := "capitals") (dv := .none) (cd := .ref 207) (pm := md2) (names := [_]) (dxs := []) h trivial (hb_of (ls1 fun _ => by kernel_rfl))
theorem p_is_word_sign (h : XV c n (bodyOf (stAt 32)) [lv "sign" v1, gv "capital_of" (.val (.ref 203)), gv "WORD_SIGNS" (.str (so "ABCDEFGHIJKLMNOPQRSTUVWXYZ0123456789-"))] H (RetP R) X) : CJ c (n + 1) (.ref 215) [v1] H R X := P_fn (q := "is_word_sign") (dv := .none) (cd := .ref 214) (pm := md2) (names := [_]) (dxs := []) h ⟨g_capital_of, g_WORD_SIGNS, trivial⟩ (hb_of (ls1 fun _ => by kernel_rfl))
theorem p_run_end (h : XV c n (bodyOf (stAt 35)) [lv "text" v1, lv "at" v2, lv "signs" v3, gv "len" (.val (.builtin "len")), gv "capital_of" (.val (.ref 203))] H (RetP R) X) : CJ c (n + 1) (.ref 236) [v1, v2, v3] H R X := P_fn (q := "run_end") (dv := .none) (cd := .ref 235) (pm := md2) (names := [_, _, _]) (dxs := []) h ⟨g_len, g_capital_of, trivial⟩ (hb_of (ls3 fun _ _ _ => by kernel_rfl))
theorem p_number_end (h : XV c n (bodyOf (stAt 36)) [lv "text" v1, lv "at" v2, l0 "end", gv "run_end" (.val (.ref 236)), gv "FIGURES_tokens" (.str (so "0123456789"))] H (RetP R) X) : CJ c (n + 1) (.ref 243) [v1, v2] H R X := P_fn (q := "number_end") (dv := .none) (cd := .ref 242) (pm := md2) (names := [_, _]) (dxs := []) h ⟨g_run_end, g_FIGURES_tokens, trivial⟩ (hb_of (ls2 fun _ _ => by kernel_rfl))
theorem p_literal_end (h : XV c n (bodyOf (stAt 37)) [lv "line" v1, lv "at" v2, l0 "quote", l0 "end", gv "len" (.val (.builtin "len")), gv "line_fault" (.val (.ref 229))] H (RetP R) X) : CJ c (n + 1) (.ref 250) [v1, v2] H R X := P_fn (q := "literal_end") (dv := .none) (cd := .ref 249) (pm := md2) (names := [_, _]) (dxs := []) h ⟨g_len, g_line_fault, trivial⟩ (hb_of (ls2 fun _ _ => by kernel_rfl))
theorem p_checked_word (h : XV c n (bodyOf (stAt 39)) [lv "line" v1, lv "at" v2, lv "end" v3, l0 "worth", gv "capitals" (.val (.ref 208)), gv "line_fault" (.val (.ref 229)), gv "len" (.val (.builtin "len")), gv "MOST_WORD" (.int 30)] H (RetP R) X) : CJ c (n + 1) (.ref 262) [v1, v2, v3] H R X := P_fn (q := "checked_word") (dv := .none) (cd := .ref 261) (pm := md2) (names := [_, _, _]) (dxs := []) h ⟨g_capitals, g_line_fault, g_len, g_MOST_WORD, trivial⟩ (hb_of (ls3 fun _ _ _ => by kernel_rfl))
theorem pq_checked_number (h : XQ c n 3 (bodyOf (stAt 40)) [lv "line" v1, lv "at" v2, lv "end" v3, l0 "worth", gv "len" (.val (.builtin "len")), gv "MOST_FIGURES" (.int 18), gv "line_fault" (.val (.ref 229))] H (RetP R) X) : CJ c (n + 1) (.ref 269) [v1, v2, v3] H R X := P_fnQ (q := "checked_number") (dv := .none) (cd := .ref 268) (pm := md2) (names := [_, _, _]) (dxs := []) h ⟨g_len, g_MOST_FIGURES, g_line_fault, trivial⟩ (hb_of (ls3 fun _ _ _ => by kernel_rfl))
theorem pq_checked_literal (h : XQ c n 3 (bodyOf (stAt 41)) [lv "line" v1, lv "at" v2, lv "end" v3, l0 "quote", l0 "worth", gv "len" (.val (.builtin "len")), gv "MOST_LITERAL" (.int 160), gv "line_fault" (.val (.ref 229))] H (RetP R) X) : CJ c (n + 1) (.ref 276) [v1, v2, v3] H R X := P_fnQ (q := "checked_literal") (dv := .none) (cd := .ref 275) (pm := md2) (names := [_, _, _]) (dxs := []) h ⟨g_len, g_MOST_LITERAL, g_line_fault, trivial⟩ (hb_of (ls3 fun _ _ _ => by kernel_rfl))
theorem p_need_apart (h : XV c n (bodyOf (stAt 43)) [lv "line" v1, lv "end" v2, l0 "behind", gv "is_word_sign" (.val (.ref 215)), gv "QUOTES" (.str (so "\"'")), gv "line_fault" (.val (.ref 229)), gv "FIGURES_tokens" (.str (so "0123456789"))] H (RetP R) X) : CJ c (n + 1) (.ref 290) [v1, v2] H R X := P_fn (q := "need_apart") (dv := .none) (cd := .ref 289) (pm := md2) (names := [_, _]) (dxs := []) h ⟨g_is_word_sign, g_QUOTES, g_line_fault, g_FIGURES_tokens, trivial⟩ (hb_of (ls2 fun _ _ => by kernel_rfl))
theorem p_mark_at (h : XV c n (bodyOf (stAt 44)) [lv "line" v1, lv "at" v2, l0 "pair", l0 "sign", gv "DOUBLE_SIGNS" (.str (so "** <= >=")), gv "SINGLE_SIGNS" (.str (so "():+-*/=<>")), gv "is_parted" (.val (.ref 222)), gv "line_fault" (.val (.ref 229))] H (RetP R) X) : CJ c (n + 1) (.ref 297) [v1, v2] H R X := P_fn (q := "mark_at") (dv := .none) (cd := .ref 296) (pm := md2) (names := [_, _]) (dxs := []) h ⟨g_DOUBLE_SIGNS, g_SINGLE_SIGNS, g_is_parted, g_line_fault, trivial⟩ (hb_of (ls2 fun _ _ => by kernel_rfl))
theorem p_worth_at (h : XV c n (bodyOf (stAt 45)) [lv "line" v1, lv "at" v2, l0 "sign", l0 "end", l0 "behind", l0 "kind", l0 "worth", gv "capital_of" (.val (.ref 203)), gv "LETTERS" (.str (so "ABCDEFGHIJKLMNOPQRSTUVWXYZ")), gv "FIGURES_tokens" (.str (so "0123456789")), gv "run_end" (.val (.ref 236)), gv "WORD_SIGNS" (.str (so "ABCDEFGHIJKLMNOPQRSTUVWXYZ0123456789-")), gv "number_end" (.val (.ref 243)), gv "need_apart" (.val (.ref 290)), gv "checked_number" (.val (.ref 269)), gv "checked_word" (.val (.ref 262)), gv "QUOTES" (.str (so "\"'")), gv "literal_end" (.val (.ref 250)), gv "checked_literal" (.val (.ref 276)), gv "mark_at" (.val (.ref 297)), gv "len" (.val (.builtin "len"))] H (RetP R) X) : CJ c (n + 1) (.ref 304) [v1, v2] H R X := P_fn (q := "worth_at") (dv := .none) (cd := .ref 303) (pm := md2) (names := [_, _]) (dxs := []) h ⟨g_capital_of, g_LETTERS, g_FIGURES_tokens, g_run_end, g_WORD_SIGNS, g_number_end, g_need_apart, g_checked_number, g_checked_word, g_QUOTES, g_literal_end, g_checked_literal, g_mark_at, g_len, trivial⟩ (hb_of (ls2 fun _ _ => by kernel_rfl))
theorem p_is_blank_at (h : XV c n (bodyOf (stAt 46)) [lv "text" v1, lv "at" v2, gv "is_parted" (.val (.ref 222))] H (RetP R) X) : CJ c (n + 1) (.ref 311) [v1, v2] H R X := P_fn (q := "is_blank_at") (dv := .none) (cd := .ref 310) (pm := md2) (names := [_, _]) (dxs := []) h ⟨g_is_parted, trivial⟩ (hb_of (ls2 fun _ _ => by kernel_rfl))
theorem p_is_picture_next (h : XV c n (bodyOf (stAt 47)) [lv "tokens" v1, gv "len" (.val (.builtin "len"))] H (RetP R) X) : CJ c (n + 1) (.ref 318) [v1] H R X := P_fn (q := "is_picture_next") (dv := .none) (cd := .ref 317) (pm := md2) (names := [_]) (dxs := []) h ⟨g_len, trivial⟩ (hb_of (ls1 fun _ => by kernel_rfl))
theorem p_add_tokens (h : XV c n (bodyOf (stAt 48)) [lv "tokens" v1, lv "line" v2, l0 "at", l0 "was_is", l0 "place", l0 "kind", l0 "worth", l0 "end", gv "len" (.val (.builtin "len")), gv "is_blank_at" (.val (.ref 311)), gv "is_picture_next" (.val (.ref 318)), gv "is_word_is" (.val (.ref 332)), gv "checked_picture" (.val (.ref 283)), gv "worth_at" (.val (.ref 304)), gv "Token" (.val (.ref 192))] H (RetP R) X) : CJ c (n + 1) (.ref 325) [v1, v2] H R X := P_fn (q := "add_tokens") (dv := .none) (cd := .ref 324) (pm := md2) (names := [_, _]) (dxs := []) h ⟨g_len, g_is_blank_at, g_is_picture_next, g_is_word_is, g_checked_picture, g_worth_at, g_Token, trivial⟩ (hb_of (ls2 fun _ _ => by kernel_rfl))
theorem p_tokens_of (h : XV c n (bodyOf (stAt 50)) [lv "lines" v1, l0 "tokens", l0 "line", gv "add_tokens" (.val (.ref 325))] H (RetP R) X) : CJ c (n + 1) (.ref 339) [v1] H R X := P_fn (q := "tokens_of") (dv := .none) (cd := .ref 338) (pm := md2) (names := [_]) (dxs := []) h ⟨g_add_tokens, trivial⟩ (hb_of (ls1 fun _ => by kernel_rfl))
theorem pq_quoted (h : XQ c n 1 (bodyOf (stAt 51)) [lv "text" v1] H (RetP R) X) : CJ c (n + 1) (.ref 346) [v1] H R X := P_fnQ (q := "quoted") (dv := .none) (cd := .ref 345) (pm := md2) (names := [_]) (dxs := []) h trivial (hb_of (ls1 fun _ => by kernel_rfl))
theorem p_is_part_next (h : XV c n (bodyOf (stAt 56)) [lv "reader" v1, l0 "depth", l0 "ahead"] H (RetP R) X) : CJ c (n + 1) (.ref 355) [v1] H R X := P_fn (q := "is_part_next") (dv := .none) (cd := .ref 354) (pm := md3) (names := [_]) (dxs := []) h trivial (hb_of (ls1 fun _ => by kernel_rfl))
theorem p_read_subscripts (h : XV c n (bodyOf (stAt 57)) [lv "reader" v1, lv "read_expr" v2, l0 "found", gv "len" (.val (.builtin "len")), gv "MOST_SUBSCRIPTS" (.int 7), gv "tuple" (.val (.type "tuple"))] H (RetP R) X) : CJ c (n + 1) (.ref 362) [v1, v2] H R X := P_fn (q := "read_subscripts") (dv := .none) (cd := .ref 361) (pm := md3) (names := [_, _]) (dxs := []) h ⟨g_len, g_MOST_SUBSCRIPTS, g_tuple, trivial⟩ (hb_of (ls2 fun _ _ => by kernel_rfl))
theorem p_read_part (h : XV c n (bodyOf (stAt 58)) [lv "reader" v1, lv "read_expr" v2, l0 "begin", l0 "length"] H (RetP R) X) : CJ c (n + 1) (.ref 369) [v1, v2] H R X := P_fn (q := "read_part") (dv := .none) (cd := .ref 368) (pm := md3) (names := [_, _]) (dxs := []) h trivial (hb_of (ls2 fun _ _ => by kernel_rfl))
theorem p_read_ref (h : XV c n (bodyOf (stAt 59)) [lv "reader" v1, lv "read_expr" v2, l0 "name", l0 "qualifiers", l0 "subscripts", l0 "part", gv "is_part_next" (.val (.ref 355)), gv "read_subscripts" (.val (.ref 362)), gv "read_part" (.val (.ref 369)), gv "tuple" (.val (.type "tuple"))] H (RetP R) X) : CJ c (n + 1) (.ref 376) [v1, v2] H R X := P_fn (q := "read_ref") (dv := .none) (cd := .ref 375) (pm := md3) (names := [_, _]) (dxs := []) h ⟨g_is_part_next, g_read_subscripts, g_read_part, g_tuple, trivial⟩ (hb_of (ls2 fun _ _ => by kernel_rfl))
theorem p_read_all (h : XV c n (bodyOf (stAt 60)) [lv "reader" v1, l0 "figure", gv "read_figure" (.val (.ref 390))] H (RetP R) X) : CJ c (n + 1) (.ref 383) [v1] H R X := P_fn (q := "read_all") (dv := .none) (cd := .ref 382) (pm := md3) (names := [_]) (dxs := []) h ⟨g_read_figure, trivial⟩ (hb_of (ls1 fun _ => by kernel_rfl))
theorem p_read_figure (h : XV c n (bodyOf (stAt 61)) [lv "reader" v1, gv "FIGURE_NAMES" (.val (.ref 347))] H (RetP R) X) : CJ c (n + 1) (.ref 390) [v1] H R X := P_fn (q := "read_figure") (dv := .none) (cd := .ref 389) (pm := md3) (names := [_]) (dxs := []) h ⟨g_FIGURE_NAMES, trivial⟩ (hb_of (ls1 fun _ => by kernel_rfl))
theorem p_read_operand (h : XV c n (bodyOf (stAt 62)) [lv "reader" v1, lv "read_expr" v2, l0 "figure", gv "read_all" (.val (.ref 383)), gv "read_figure" (.val (.ref 390)), gv "read_ref" (.val (.ref 376))] H (RetP R) X) : CJ c (n + 1) (.ref 397) [v1, v2] H R X := P_fn (q := "read_operand") (dv := .none) (cd := .ref 396) (pm := md3) (names := [_, _]) (dxs := []) h ⟨g_read_all, g_read_figure, g_read_ref, trivial⟩ (hb_of (ls2 fun _ _ => by kernel_rfl))
theorem p_shown_octets (h : XV c n (bodyOf (stAt 63)) [lv "octets" v1, gv "quoted" (.val (.ref 346))] H (RetP R) X) : CJ c (n + 1) (.ref 402) [v1] H R X := P_fn (q := "shown_octets") (dv := .none) (cd := .ref 401) (pm := md3) (names := [_]) (dxs := []) h ⟨g_quoted, trivial⟩ (hb_of (ls1 fun _ => by kernel_rfl))
theorem p_shown_subscripts (h : XV c n (bodyOf (stAt 64)) [lv "subscripts" v1, cv "show_expr" v2, l0 "texts"] H (RetP R) X) : CJ c (n + 1) (.ref 407) [v1, v2] H R X := P_fnC (q := "shown_subscripts") (dv := .none) (cd := .ref 406) (pm := md3) (nk := [(_, .loc), (_, .cell)]) h trivial (ls2 fun _ _ => by kernel_rfl)
theorem p_show_ref (h : XV c n (bodyOf (stAt 65)) [lv "ref" v1, lv "show_expr" v2, l0 "found", l0 "length", gv "list" (.val (.type "list")), gv "shown_subscripts" (.val (.ref 407))] H (RetP R) X) : CJ c (n + 1) (.ref 414) [v1, v2] H R X := P_fn (q := "show_ref") (dv := .none) (cd := .ref 413) (pm := md3) (names := [_, _]) (dxs := []) h ⟨g_list, g_shown_subscripts, trivial⟩ (hb_of (ls2 fun _ _ => by kernel_rfl))
theorem p_show_operand (h : XV c n (bodyOf (stAt 66)) [lv "operand" v1, lv "show_expr" v2, gv "show_ref" (.val (.ref 414)), gv "write_decimal" (.val (.ref 138)), gv "FIGURE_SHOWN" (.val (.ref 348)), gv "shown_octets" (.val (.ref 402))] H (RetP R) X) : CJ c (n + 1) (.ref 421) [v1, v2] H R X := P_fn (q := "show_operand") (dv := .none) (cd := .ref 420) (pm := md3) (names := [_, _]) (dxs := []) h ⟨g_show_ref, g_write_decimal, g_FIGURE_SHOWN, g_shown_octets, trivial⟩ (hb_of (ls2 fun _ _ => by kernel_rfl))
theorem p_is_reserved (h : XV c n (bodyOf (stAt 70)) [lv "word" v1, gv "RESERVED" (.str resS)] H (RetP R) X) : CJ c (n + 1) (.ref 428) [v1] H R X := P_fn (q := "is_reserved") (dv := .none) (cd := .ref 427) (pm := md4) (names := [_]) (dxs := []) h ⟨g_RESERVED, trivial⟩ (hb_of (ls1 fun _ => by kernel_rfl))
theorem p_octets_of_text (h : XV c n (bodyOf (stAt 71)) [lv "text" v1, l0 "numbers", gv "bytes" (.val (.type "bytes"))] H (RetP R) X) : CJ c (n + 1) (.ref 433) [v1] H R X := P_fn (q := "octets_of_text") (dv := .none) (cd := .ref 432) (pm := md4) (names := [_]) (dxs := []) h ⟨g_bytes, trivial⟩ (hb_of (ls1 fun _ => by kernel_rfl))
theorem pc_reader_init_2 (h : XV c n (bodyOf (clsSt 72 0)) [lv "self" v1, lv "tokens" v2, lv "at" (.int 0)] H (RetP R) X) : CodeJ c (n + 1) (.ref 448) [v1, v2] H R X := J_fn (q := "Reader.__init__") (dv := .ref 441) (cd := .ref 447) (pm := md4) (names := [_, _, _]) (dxs := [.int 0]) h trivial (hbD (T := 441) (its := [.int 0 833]) (ds := [.int 0 833]) rfl (fun _ => by kernel_rfl) (ls2 fun _ _ => by kernel_rfl) ⟨_, _, rfl, ⟨_, rfl⟩, rfl⟩)
theorem p_peek (h : XV c n (bodyOf (clsSt 72 1)) [lv "self" v1, lv "ahead" v2, gv "len" (.val (.builtin "len"))] H (RetP R) X) : CJ c (n + 1) (.ref 456) [v1, v2] H R X := P_fn (q := "Reader.peek") (dv := .ref 449) (cd := .ref 455) (pm := md4) (names := [_, _]) (dxs := []) h ⟨g_len, trivial⟩ (hbD (T := 449) (its := [.int 0 843]) (ds := []) rfl (fun _ => by kernel_rfl) (ls2 fun _ _ => by kernel_rfl) rfl)
theorem p_peek_1 (h : XV c n (bodyOf (clsSt 72 1)) [lv "self" v1, lv "ahead" (.int 0), gv "len" (.val (.builtin "len"))] H (RetP R) X) : CJ c (n + 1) (.ref 456) [v1] H R X := P_fn (q := "Reader.peek") (dv := .ref 449) (cd := .ref 455) (pm := md4) (names := [_, _]) (dxs := [.int 0]) h ⟨g_len, trivial⟩ (hbD (T := 449) (its := [.int 0 843]) (ds := [.int 0 843]) rfl (fun _ => by kernel_rfl) (ls1 fun _ => by kernel_rfl) ⟨_, _, rfl, ⟨_, rfl⟩, rfl⟩)
theorem p_is_done (h : XV c n (bodyOf (clsSt 72 2)) [lv "self" v1, gv "len" (.val (.builtin "len"))] H (RetP R) X) : CJ c (n + 1) (.ref 463) [v1] H R X := P_fn (q := "Reader.is_done") (dv := .none) (cd := .ref 462) (pm := md4) (names := [_]) (dxs := []) h ⟨g_len, trivial⟩ (hb_of (ls1 fun _ => by kernel_rfl))
theorem p_fault (h : XV c n (bodyOf (clsSt 72 3)) [lv "self" v1, lv "what" v2, gv "GrammarFault" (.val (.ref 72)), gv "min" (.val (.builtin "min")), gv "len" (.val (.builtin "len"))] H (RetP R) X) : CJ c (n + 1) (.ref 470) [v1, v2] H R X := P_fn (q := "Reader.fault") (dv := .none) (cd := .ref 469) (pm := md4) (names := [_, _]) (dxs := []) h ⟨g_GrammarFault, g_min, g_len, trivial⟩ (hb_of (ls2 fun _ _ => by kernel_rfl))
theorem p_take (h : XV c n (bodyOf (clsSt 72 4)) [lv "self" v1, l0 "token"] H (RetP R) X) : CJ c (n + 1) (.ref 477) [v1] H R X := P_fn (q := "Reader.take") (dv := .none) (cd := .ref 476) (pm := md4) (names := [_]) (dxs := []) h trivial (hb_of (ls1 fun _ => by kernel_rfl))
theorem p_is_kind (h : XV c n (bodyOf (clsSt 72 5)) [lv "self" v1, lv "kind" v2, lv "ahead" v3, l0 "token"] H (RetP R) X) : CJ c (n + 1) (.ref 485) [v1, v2, v3] H R X := P_fn (q := "Reader.is_kind") (dv := .ref 478) (cd := .ref 484) (pm := md4) (names := [_, _, _]) (dxs := []) h trivial (hbD (T := 478) (its := [.int 0 875]) (ds := []) rfl (fun _ => by kernel_rfl) (ls3 fun _ _ _ => by kernel_rfl) rfl)
theorem p_is_kind_2 (h : XV c n (bodyOf (clsSt 72 5)) [lv "self" v1, lv "kind" v2, lv "ahead" (.int 0), l0 "token"] H (RetP R) X) : CJ c (n + 1) (.ref 485) [v1, v2] H R X := P_fn (q := "Reader.is_kind") (dv := .ref 478) (cd := .ref 484) (pm := md4) (names := [_, _, _]) (dxs := [.int 0]) h trivial (hbD (T := 478) (its := [.int 0 875]) (ds := [.int 0 875]) rfl (fun _ => by kernel_rfl) (ls2 fun _ _ => by kernel_rfl) ⟨_, _, rfl, ⟨_, rfl⟩, rfl⟩)
theorem p_is_word (h : XV c n (bodyOf (clsSt 72 6)) [lv "self" v1, lv "words" v2, l0 "ahead", l0 "word"] H (RetP R) X) : CJ c (n + 1) (.ref 492) [v1, v2] H R X := P_fn (q := "Reader.is_word") (dv := .none) (cd := .ref 491) (pm := md4) (names := [_, _]) (dxs := []) h trivial (hb_of (ls2 fun _ _ => by kernel_rfl))
theorem p_skip (h : XV c n (bodyOf (clsSt 72 7)) [lv "self" v1, lv "words" v2, gv "len" (.val (.builtin "len"))] H (RetP R) X) : CJ c (n + 1) (.ref 499) [v1, v2] H R X := P_fn (q := "Reader.skip") (dv := .none) (cd := .ref 498) (pm := md4) (names := [_, _]) (dxs := []) h ⟨g_len, trivial⟩ (hb_of (ls2 fun _ _ => by kernel_rfl))
theorem p_one_of (h : XV c n (bodyOf (clsSt 72 9)) [lv "self" v1, lv "words" v2, l0 "word"] H (RetP R) X) : CJ c (n + 1) (.ref 513) [v1, v2] H R X := P_fn (q := "Reader.one_of") (dv := .none) (cd := .ref 512) (pm := md4) (names := [_, _]) (dxs := []) h trivial (hb_of (ls2 fun _ _ => by kernel_rfl))
theorem p_is_name_1 (h : XV c n (bodyOf (clsSt 72 11)) [lv "self" v1, lv "ahead" (.int 0), gv "is_reserved" (.val (.ref 428))] H (RetP R) X) : CJ c (n + 1) (.ref 528) [v1] H R X := P_fn (q := "Reader.is_name") (dv := .ref 521) (cd := .ref 527) (pm := md4) (names := [_, _]) (dxs := [.int 0]) h ⟨g_is_reserved, trivial⟩ (hbD (T := 521) (its := [.int 0 928]) (ds := [.int 0 928]) rfl (fun _ => by kernel_rfl) (ls1 fun _ => by kernel_rfl) ⟨_, _, rfl, ⟨_, rfl⟩, rfl⟩)
theorem p_name (h : XV c n (bodyOf (clsSt 72 12)) [lv "self" v1] H (RetP R) X) : CJ c (n + 1) (.ref 535) [v1] H R X := P_fn (q := "Reader.name") (dv := .none) (cd := .ref 534) (pm := md4) (names := [_]) (dxs := []) h trivial (hb_of (ls1 fun _ => by kernel_rfl))
theorem p_is_sign (h : XV c n (bodyOf (clsSt 72 14)) [lv "self" v1, lv "sign" v2, lv "ahead" v3] H (RetP R) X) : CJ c (n + 1) (.ref 550) [v1, v2, v3] H R X := P_fn (q := "Reader.is_sign") (dv := .ref 543) (cd := .ref 549) (pm := md4) (names := [_, _, _]) (dxs := []) h trivial (hbD (T := 543) (its := [.int 0 951]) (ds := []) rfl (fun _ => by kernel_rfl) (ls3 fun _ _ _ => by kernel_rfl) rfl)
theorem p_is_sign_2 (h : XV c n (bodyOf (clsSt 72 14)) [lv "self" v1, lv "sign" v2, lv "ahead" (.int 0)] H (RetP R) X) : CJ c (n + 1) (.ref 550) [v1, v2] H R X := P_fn (q := "Reader.is_sign") (dv := .ref 543) (cd := .ref 549) (pm := md4) (names := [_, _, _]) (dxs := [.int 0]) h trivial (hbD (T := 543) (its := [.int 0 951]) (ds := [.int 0 951]) rfl (fun _ => by kernel_rfl) (ls2 fun _ _ => by kernel_rfl) ⟨_, _, rfl, ⟨_, rfl⟩, rfl⟩)
theorem p_skip_sign (h : XV c n (bodyOf (clsSt 72 15)) [lv "self" v1, lv "sign" v2] H (RetP R) X) : CJ c (n + 1) (.ref 557) [v1, v2] H R X := P_fn (q := "Reader.skip_sign") (dv := .none) (cd := .ref 556) (pm := md4) (names := [_, _]) (dxs := []) h trivial (hb_of (ls2 fun _ _ => by kernel_rfl))
theorem p_need_sign (h : XV c n (bodyOf (clsSt 72 16)) [lv "self" v1, lv "sign" v2] H (RetP R) X) : CJ c (n + 1) (.ref 564) [v1, v2] H R X := P_fn (q := "Reader.need_sign") (dv := .none) (cd := .ref 563) (pm := md4) (names := [_, _]) (dxs := []) h trivial (hb_of (ls2 fun _ _ => by kernel_rfl))
theorem p_is_number (h : XV c n (bodyOf (clsSt 72 17)) [lv "self" v1] H (RetP R) X) : CJ c (n + 1) (.ref 571) [v1] H R X := P_fn (q := "Reader.is_number") (dv := .none) (cd := .ref 570) (pm := md4) (names := [_]) (dxs := []) h trivial (hb_of (ls1 fun _ => by kernel_rfl))
theorem p_signed (h : XV c n (bodyOf (clsSt 72 18)) [lv "self" v1, l0 "is_below", l0 "found", gv "read_decimal" (.val (.ref 131)), gv "negated" (.val (.ref 96))] H (RetP R) X) : CJ c (n + 1) (.ref 578) [v1] H R X := P_fn (q := "Reader.signed") (dv := .none) (cd := .ref 577) (pm := md4) (names := [_]) (dxs := []) h ⟨g_read_decimal, g_negated, trivial⟩ (hb_of (ls1 fun _ => by kernel_rfl))
theorem p_octets (h : XV c n (bodyOf (clsSt 72 21)) [lv "self" v1, l0 "found", gv "octets_of_text" (.val (.ref 433))] H (RetP R) X) : CJ c (n + 1) (.ref 599) [v1] H R X := P_fn (q := "Reader.octets") (dv := .none) (cd := .ref 598) (pm := md4) (names := [_]) (dxs := []) h ⟨g_octets_of_text, trivial⟩ (hb_of (ls1 fun _ => by kernel_rfl))
theorem p_law_draw (h : XV c n (bodyOf (stAt 74)) [lv "tape" v1, lv "limit" v2, l0 "cells", l0 "spot", l0 "cell", gv "len" (.val (.builtin "len")), gv "abs" (.val (.builtin "abs"))] H (RetP R) X) : CJ c (n + 1) (.ref 613) [v1, v2] H R X := P_fn (q := "_law_draw") (dv := .none) (cd := .ref 612) (pm := md5) (names := [_, _]) (dxs := []) h ⟨g_len, g_abs, trivial⟩ (hb_of (ls2 fun _ _ => by kernel_rfl))
theorem p_law_numbers (h : XV c n (bodyOf (stAt 75)) [] H (RetP R) X) : CJ c (n + 1) (.ref 620) [] H R X := P_fn (q := "_law_numbers") (dv := .none) (cd := .ref 619) (pm := md5) (names := []) (dxs := []) h trivial (hb_of (ls0 (by kernel_rfl)))
theorem p_law_operand (h : XV c n (bodyOf (stAt 78)) [cv "tape" v1, cv "depth" v2, l0 "kind", l0 "who", l0 "around", l0 "many", l0 "rows", l0 "part", l0 "begin", gv "_law_draw" (.val (.ref 613)), gv "_law_numbers" (.val (.ref 620)), gv "_law_texts" (.tup [.bytes #[120, 34, 121], .bytes #[39], .bytes #[233, 32], .bytes #[40, 49, 32, 58, 32, 50, 41]]), gv "_law_figures" (.tup [.str (so "ZERO"), .str (so "SPACE"), .str (so "HIGH"), .str (so "LOW"), .str (so "QUOTE")]), gv "tuple" (.val (.type "tuple")), gv "range" (.val (.type "range")), gv "_law_expr" (.val (.ref 634))] H (RetP R) X) : CJ c (n + 1) (.ref 627) [v1, v2] H R X := P_fnC (q := "_law_operand") (dv := .none) (cd := .ref 626) (pm := md5) (nk := [(_, .cell), (_, .cell)]) h ⟨g_law_draw, g_law_numbers, g_law_texts, g_law_figures, g_tuple, g_range, g_law_expr, trivial⟩ (ls2 fun _ _ => by kernel_rfl)
theorem p_law_expr (h : XV c n (bodyOf (stAt 79)) [lv "tape" v1, lv "depth" v2, l0 "kind", l0 "one", gv "_law_draw" (.val (.ref 613)), gv "_law_operand" (.val (.ref 627))] H (RetP R) X) : CJ c (n + 1) (.ref 634) [v1, v2] H R X := P_fn (q := "_law_expr") (dv := .none) (cd := .ref 633) (pm := md5) (names := [_, _]) (dxs := []) h ⟨g_law_draw, g_law_operand, trivial⟩ (hb_of (ls2 fun _ _ => by kernel_rfl))
theorem p_law_show (h : XV c n (bodyOf (stAt 80)) [lv "expr" v1, gv "_law_show" (.val (.ref 641)), gv "show_operand" (.val (.ref 421))] H (RetP R) X) : CJ c (n + 1) (.ref 641) [v1] H R X := P_fn (q := "_law_show") (dv := .none) (cd := .ref 640) (pm := md5) (names := [_]) (dxs := []) h ⟨g_law_show, g_show_operand, trivial⟩ (hb_of (ls1 fun _ => by kernel_rfl))
theorem p_law_read (h : XV c n (bodyOf (stAt 81)) [lv "reader" v1, l0 "found", gv "_law_term" (.val (.ref 655))] H (RetP R) X) : CJ c (n + 1) (.ref 648) [v1] H R X := P_fn (q := "_law_read") (dv := .none) (cd := .ref 647) (pm := md5) (names := [_]) (dxs := []) h ⟨g_law_term, trivial⟩ (hb_of (ls1 fun _ => by kernel_rfl))
theorem p_law_term (h : XV c n (bodyOf (stAt 82)) [lv "reader" v1, gv "_law_one" (.val (.ref 662))] H (RetP R) X) : CJ c (n + 1) (.ref 655) [v1] H R X := P_fn (q := "_law_term") (dv := .none) (cd := .ref 654) (pm := md5) (names := [_]) (dxs := []) h ⟨g_law_one, trivial⟩ (hb_of (ls1 fun _ => by kernel_rfl))
theorem p_law_one (h : XV c n (bodyOf (stAt 83)) [lv "reader" v1, l0 "found", gv "read_operand" (.val (.ref 397)), gv "_law_read" (.val (.ref 648))] H (RetP R) X) : CJ c (n + 1) (.ref 662) [v1] H R X := P_fn (q := "_law_one") (dv := .none) (cd := .ref 661) (pm := md5) (names := [_]) (dxs := []) h ⟨g_read_operand, g_law_read, trivial⟩ (hb_of (ls1 fun _ => by kernel_rfl))
theorem p_law_told (h : XV c n (bodyOf (stAt 84)) [lv "tokens" v1, l0 "reader", l0 "found", l0 "fault", gv "Reader" (.val (.ref 602)), gv "read_operand" (.val (.ref 397)), gv "_law_read" (.val (.ref 648)), gv "GrammarFault" (.val (.ref 72))] H (RetP R) X) : CJ c (n + 1) (.ref 669) [v1] H R X := P_fn (q := "_law_told") (dv := .none) (cd := .ref 668) (pm := md5) (names := [_]) (dxs := []) h ⟨g_Reader, g_read_operand, g_law_read, g_GrammarFault, trivial⟩ (hb_of (ls1 fun _ => by kernel_rfl))
theorem p_law (h : XV c n (bodyOf (stAt 85)) [lv "script" v1, l0 "tape", l0 "operand", l0 "text", l0 "tokens", l0 "others", l0 "many", l0 "row", l0 "due", gv "list" (.val (.type "list")), gv "_law_operand" (.val (.ref 627)), gv "show_operand" (.val (.ref 421)), gv "_law_show" (.val (.ref 641)), gv "tokens_of" (.val (.ref 339)), gv "Line" (.val (.ref 162)), gv "range" (.val (.type "range")), gv "len" (.val (.builtin "len")), gv "_law_told" (.val (.ref 669)), gv "_law_draw" (.val (.ref 613)), gv "Token" (.val (.ref 192)), gv "tuple" (.val (.type "tuple"))] H (RetP R) X) : CJ c (n + 1) (.ref 674) [v1] H R X := P_fn (q := "law") (dv := .none) (cd := .ref 673) (pm := md5) (names := [_]) (dxs := []) h ⟨g_list, g_law_operand, g_show_operand, g_law_show, g_tokens_of, g_Line, g_range, g_len, g_law_told, g_law_draw, g_Token, g_tuple, trivial⟩ (hb_of (ls1 fun _ => by kernel_rfl))
end
noncomputable abbrev kBin2 (c : Cx) (n : Nat) (op : Operator) (a : V) (R : V → List AO → Prop) : V → List AO → Prop := fun b H2 => BA c n (binaryOp op) a b H2 R
noncomputable abbrev kBin (c : Cx) (n : Nat) (r : Expr) (ρ : Loc) (op : Operator) (R : V → List AO → Prop) (X : Nat → List AO → Prop) : V → List AO → Prop := fun a H1 => EV c n r ρ H1 (kBin2 c n op a R) X
noncomputable abbrev kCmp2 (c : Cx) (n : Nat) (op : CmpOp) (a : V) (R : V → List AO → Prop) : V → List AO → Prop := fun b H2 => BA c n (compareOp op) a b H2 R
noncomputable abbrev kCmp (c : Cx) (n : Nat) (r : Expr) (ρ : Loc) (op : CmpOp) (R : V → List AO → Prop) (X : Nat → List AO → Prop) : V → List AO → Prop := fun a H1 => EV c n r ρ H1 (kCmp2 c n op a R) X
noncomputable abbrev kQ (RB : Bool → List AO → Prop) : V → List AO → Prop := fun v H3 => ∃ q, v = .bool q ∧ RB q H3
noncomputable abbrev kSub2 (c : Cx) (n : Nat) (a : V) (R : V → List AO → Prop) : V → List AO → Prop := fun b H2 => SA c n a b H2 R
noncomputable abbrev kSub (c : Cx) (n : Nat) (r : Expr) (ρ : Loc) (R : V → List AO → Prop) (X : Nat → List AO → Prop) : V → List AO → Prop := fun a H1 => EV c n r ρ H1 (kSub2 c n a R) X
noncomputable abbrev kTest (RB : Bool → List AO → Prop) : V → List AO → Prop := fun v H1 => ∃ b, Tru v H1 b ∧ RB b H1
noncomputable abbrev kNot (RB : Bool → List AO → Prop) : Bool → List AO → Prop := fun b H1 => RB (!b) H1
noncomputable abbrev kAnd (c : Cx) (n : Nat) (r : List Expr) (p : Pos) (ρ : Loc) (RB : Bool → List AO → Prop) (X : Nat → List AO → Prop) : Bool → List AO → Prop := fun b H1 => (b = false → RB false H1) ∧ (b = true → BV c n (.BoolOp .And r p) ρ H1 RB X)
noncomputable abbrev kOr (c : Cx) (n : Nat) (r : List Expr) (p : Pos) (ρ : Loc) (RB : Bool → List AO → Prop) (X : Nat → List AO → Prop) : Bool → List AO → Prop := fun b H1 => (b = true → RB true H1) ∧ (b = false → BV c n (.BoolOp .Or r p) ρ H1 RB X)
noncomputable abbrev kIfE (c : Cx) (n : Nat) (a b : Expr) (ρ : Loc) (R : V → List AO → Prop) (X : Nat → List AO → Prop) : Bool → List AO → Prop := fun r H1 => (r = true → EV c n a ρ H1 R X) ∧ (r = false → EV c n b ρ H1 R X)
noncomputable abbrev kRet (P : Fl → List AO → Prop) : V → List AO → Prop := fun v H1 => P (.ret v) H1
noncomputable abbrev kAsg (c : Cx) (n : Nat) (x : Str) (r : List Stmt) (ρ : Loc) (P : Fl → List AO → Prop) (X : Nat → List AO → Prop) : V → List AO → Prop := fun v H1 => ∃ ρ1, Put ρ x v ρ1 ∧ XV c n r ρ1 H1 P X
noncomputable abbrev kExp (c : Cx) (n : Nat) (r : List Stmt) (ρ : Loc) (P : Fl → List AO → Prop) (X : Nat → List AO → Prop) : V → List AO → Prop := fun _ H1 => XV c n r ρ H1 P X
noncomputable abbrev kArg2 (RL : List V → List AO → Prop) (v : V) : List V → List AO → Prop := fun vs H2 => RL (v :: vs) H2
noncomputable abbrev kArg (c : Cx) (n : Nat) (p : Pos) (r : List Expr) (ρ : Loc) (RL : List V → List AO → Prop) (X : Nat → List AO → Prop) : V → List AO → Prop := fun v H1 => LV c n p r ρ H1 (kArg2 RL v) X
noncomputable abbrev kCall (c : Cx) (n : Nat) (g : Value) (R : V → List AO → Prop) (X : Nat → List AO → Prop) : List V → List AO → Prop := fun xs H1 => CJ c n g xs H1 R X
noncomputable abbrev kTup (R : V → List AO → Prop) : List V → List AO → Prop := fun xs H1 => xs.length ≤ sizeLine ∧ R (.tup xs) H1
noncomputable abbrev kLst (R : V → List AO → Prop) : List V → List AO → Prop := fun xs H1 => xs.length ≤ sizeLine ∧ R (.obj H1.length) (H1 ++ [.list xs])
noncomputable abbrev kAttr (x : Str) (R : V → List AO → Prop) : V → List AO → Prop := fun v H1 => ∃ i C fs y, v = .obj i ∧ (H1[i]? = some (.inst C fs) ∨ H1[i]? = some (.exc C fs)) ∧ fs.lookup x = some y ∧ isHanded y = true ∧ (∀ P, attrOk (kFrag P) C x = true) ∧ R y H1
noncomputable abbrev kMeth2 (c : Cx) (n : Nat) (i : Nat) (f : Addr) (R : V → List AO → Prop) (X : Nat → List AO → Prop) : List V → List AO → Prop := fun xs H2 => CJ c n (.ref f) (.obj i :: xs) H2 R X
noncomputable abbrev kMeth (c : Cx) (n : Nat) (p : Pos) (as : List Expr) (x : Str) (ρ : Loc) (R : V → List AO → Prop) (X : Nat → List AO → Prop) : V → List AO → Prop := fun v H1 => ∃ i C fs f, v = .obj i ∧ H1[i]? = Option.some (.inst C fs) ∧ fs.lookup x = Option.none ∧ (∀ P, methOk (kFrag P) C x f = true) ∧ LV c n p as ρ H1 (kMeth2 c n i f R X) X
noncomputable abbrev kMeB2 (c : Cx) (n : Nat) (id : String) (v : V) (R : V → List AO → Prop) (X : Nat → List AO → Prop) : List V → List AO → Prop := fun xs H2 => CJ c n (.builtin id) (v :: xs) H2 R X
noncomputable abbrev kMeB (c : Cx) (n : Nat) (p : Pos) (as : List Expr) (T id : String) (ρ : Loc) (R : V → List AO → Prop) (X : Nat → List AO → Prop) : V → List AO → Prop := fun v H1 => ((∃ y, v = .str y) ∧ T = "str" ∨ (∃ i l, v = .obj i ∧ H1[i]? = Option.some (.list l)) ∧ T = "list") ∧ LV c n p as ρ H1 (kMeB2 c n id v R X) X
noncomputable abbrev kNeg (R : V → List AO → Prop) : V → List AO → Prop := fun v H1 => ∃ i, v = .int i ∧ R (.int (-i)) H1
noncomputable abbrev kIfA (c : Cx) (n : Nat) (a b : List Stmt) (ρ : Loc) (P : Fl → List AO → Prop) (X : Nat → List AO → Prop) : Bool → List AO → Prop := fun q H1 => (q = true → XV c n a ρ H1 P X) ∧ (q = false → XV c n b ρ H1 P X)
theorem app_n : [] ++ r = r := rfl
theorem app_c {x : Stmt} {t s : List Stmt} (h : t ++ r = s) : (x :: t) ++ r = x :: s := congrArg (x :: ·) h
noncomputable abbrev kSet2 (c : Cx) (n : Nat) (x : Str) (r : List Stmt) (ρ : Loc) (P : Fl → List AO → Prop) (X : Nat → List AO → Prop) (y : V) : V → List AO → Prop := fun v H2 => ∃ i C fs, v = .obj i ∧ fs.length < 100 ∧ (∀ P, setOk (kFrag P) C x = true) ∧ ((H2[i]? = some (.inst C fs) ∧ XV c n r ρ (H2.set i (.inst C (fput fs x y))) P X) ∨ (H2[i]? = some (.exc C fs) ∧ XV c n r ρ (H2.set i (.exc C (fput fs x y))) P X) ∨ (H2[i]? = some (.new C fs) ∧ XV c n r ρ (H2.set i (.new C (fput fs x y))) P X))
noncomputable abbrev kSet (c : Cx) (n : Nat) (o : Expr) (x : Str) (r : List Stmt) (ρ : Loc) (P : Fl → List AO → Prop) (X : Nat → List AO → Prop) : V → List AO → Prop := fun y H1 => EV c n o ρ H1 (kSet2 c n x r ρ P X y) X
theorem mem0 {x : Str × Kd × Option V} {l : Loc} : x ∈ x :: l := .head _
theorem mem1 {x a : Str × Kd × Option V} {l : Loc} : x ∈ a :: x :: l := .tail _ mem0
theorem mem2 {x a b : Str × Kd × Option V} {l : Loc} : x ∈ a :: b :: x :: l := .tail _ mem1
theorem mem3 {x a b d : Str × Kd × Option V} {l : Loc} : x ∈ a :: b :: d :: x :: l := .tail _ mem2
theorem memS {x a b d e : Str × Kd × Option V} {l : Loc} (h : x ∈ l) : x ∈ a :: b :: d :: e :: l := .tail _ (.tail _ (.tail _ (.tail _ h)))
theorem put1 {a : Str × Kd × Option V} {o : Option V} {v : V} {r : Loc} : Put (a :: (x, .loc, o) :: r) x v (a :: (x, .loc, some v) :: r) := .there .here
theorem put2 {a b : Str × Kd × Option V} {o : Option V} {v : V} {r : Loc} : Put (a :: b :: (x, .loc, o) :: r) x v (a :: b :: (x, .loc, some v) :: r) := .there put1
theorem put3 {a b d : Str × Kd × Option V} {o : Option V} {v : V} {r : Loc} : Put (a :: b :: d :: (x, .loc, o) :: r) x v (a :: b :: d :: (x, .loc, some v) :: r) := .there put2
theorem putS {a b d e : Str × Kd × Option V} {v : V} {r r' : Loc} (h : Put r x v r') : Put (a :: b :: d :: e :: r) x v (a :: b :: d :: e :: r') := .there (.there (.there (.there h)))
section
variable {c : Cx} {n : Nat} {ρ : Loc} {H : List AO} {P : Fl → List AO → Prop} {R : V → List AO → Prop} {RB : Bool → List AO → Prop} {RL : List V → List AO → Prop} {X : Nat → List AO → Prop}
theorem E_binopK {l r : Expr} {op : Operator} (h : EV c n l ρ H (kBin c n r ρ op R X) X) : EV c n (.BinOp l op r p) ρ H R X := E_binop h
theorem E_cmpK {l r : Expr} {op : CmpOp} (hm : behindInMarks op r = false) (h : EV c n l ρ H (kCmp c n r ρ op R X) X) : EV c n (.Compare l [op] [r] p) ρ H R X := E_cmp hm h
theorem B_cmpK {l r : Expr} {op : CmpOp} (hm : behindInMarks op r = false) (h : EV c n l ρ H (kCmp c n r ρ op (kQ RB) X) X) : BV c n (.Compare l [op] [r] p) ρ H RB X := B_cmp hm h
theorem E_subK {l r : Expr} (hs : notSlice r = true) (h : EV c n l ρ H (kSub c n r ρ R X) X) : EV c n (.Subscript l r p) ρ H R X := s_ev_sub hs h
theorem B_callK {f : Expr} {ks : List Keyword} (h : EV c n (.Call f as ks p) ρ H (kTest RB) X) : BV c n (.Call f as ks p) ρ H RB X := B_call h
theorem B_attrK {f : Expr} (h : EV c n (.Attribute f x p) ρ H (kTest RB) X) : BV c n (.Attribute f x p) ρ H RB X := B_attr h
theorem B_nameK {x : String} (h : EV c n (.Name (so x) p) ρ H (kTest RB) X) : BV c n (.Name (so x) p) ρ H RB X := B_name h
theorem B_notK {x : Expr} (h : BV c n x ρ H (kNot RB) X) : BV c n (.UnaryOp .Not x p) ρ H RB X := B_not h
theorem B_andK {x : Expr} {r : List Expr} (h : BV c n x ρ H (kAnd c n r p ρ RB X) X) : BV c n (.BoolOp .And (x :: r) p) ρ H RB X := B_and h
theorem B_orK {x : Expr} {r : List Expr} (h : BV c n x ρ H (kOr c n r p ρ RB X) X) : BV c n (.BoolOp .Or (x :: r) p) ρ H RB X := B_or h
theorem E_ifexpK {t a b : Expr} (h : BV c n t ρ H (kIfE c n a b ρ R X) X) : EV c n (.IfExp t a b p) ρ H R X := E_ifexp h
theorem X_ifA {t : Expr} {a b ar br : List Stmt} (ha : a ++ r = ar) (hb : b ++ r = br) (h : BV c n t ρ H (kIfA c n ar br ρ P X) X) : XV c n (.If t a b p :: r) ρ H P X := by
 subst ha hb
 exact X_ifS h
theorem X_setK {q : Pos} (hc : notComp e = true) (h : EV c n e ρ H (kSet c n o x r ρ P X) X) : XV c n (.Assign [.Attribute o x q] e p :: r) ρ H P X := X_setAttr hc h
theorem X_retK (h : EV c n e ρ H (kRet P) X) : XV c n (.Return (some e) p :: r) ρ H P X := X_ret h
theorem X_asgK {x : String} {q : Pos} (hc : notComp e = true) (h : EV c n e ρ H (kAsg c n (so x) r ρ P X) X) : XV c n (.Assign [.Name (so x) q] e p :: r) ρ H P X := X_assign hc h
theorem X_expK (hc : notComp e = true) (h : EV c n e ρ H (kExp c n r ρ P X) X) : XV c n (.Expr e p :: r) ρ H P X := X_exprAny hc h
theorem L_consK {r : List Expr} (hs : notStar e = true) (h : EV c n e ρ H (kArg c n p r ρ RL X) X) : LV c n p (e :: r) ρ H RL X := L_cons hs h
theorem E_callK {f : String} {k : Kd} {fp : Pos} (hm : (so f, k, some (.val g)) ∈ ρ) (hg : KeepG g) (hs : as.all notStar = true) (hd : ((so f) == ("__debug__" : Str)) = false) (h : LV c n p as ρ H (kCall c n g R X) X) : EV c n (.Call (.Name (so f) fp) as [] p) ρ H R X := E_call hm hg hs hd h
theorem E_tupK (h : LV c n p es ρ H (kTup R) X) : EV c n (.Tuple es k p) ρ H R X := E_tuple h
theorem E_lstK (h : LV c n p es ρ H (kLst R) X) : EV c n (.List es p) ρ H R X := E_list h
theorem E_attrK (hb : ∀ env whole, attributeBase o x env whole = whole) (h : EV c n o ρ H (kAttr x R) X) : EV c n (.Attribute o x p) ρ H R X := E_attr hb h
theorem E_methK (hb : ∀ env whole, attributeBase o x env whole = whole) (hf : fewOk as = true) (hl : (ap.endLine == p.line) = true) (h : EV c n o ρ H (kMeth c n p as x ρ R X) X) : EV c n (.Call (.Attribute o x ap) as [] p) ρ H R X := E_meth hb hf hl h
theorem C_meBK {T id : String} (pa : PlainAttrs T) (sl : Slot T x id) (ty : typeOf (.builtin id) = pure (.type "method_descriptor")) (hb : ∀ env whole, attributeBase o x env whole = whole) (hf : fewOk as = true) (hl : (ap.endLine == p.line) = true) (h : EV c n o ρ H (kMeB c n p as T id ρ R X) X) : EV c n (.Call (.Attribute o x ap) as [] p) ρ H R X := C_methB pa sl ty hb hf hl h
theorem mIndex (hb : ∀ env whole, attributeBase o (so "index") env whole = whole) (hf : fewOk as = true) (hl : (ap.endLine == p.line) = true) (h : EV c n o ρ H (kMeB c n p as "str" "str.index" ρ R X) X) : EV c n (.Call (.Attribute o (so "index") ap) as [] p) ρ H R X := C_meBK PySem.F.plainAttrs_str PySem.F.slot_str_index PySem.F.type_str_index hb hf hl h
theorem mJoin (hb : ∀ env whole, attributeBase o (so "join") env whole = whole) (hf : fewOk as = true) (hl : (ap.endLine == p.line) = true) (h : EV c n o ρ H (kMeB c n p as "str" "str.join" ρ R X) X) : EV c n (.Call (.Attribute o (so "join") ap) as [] p) ρ H R X := C_meBK PySem.F.plainAttrs_str PySem.F.slot_str_join PySem.F.type_str_join hb hf hl h
theorem mSplit (hb : ∀ env whole, attributeBase o (so "split") env whole = whole) (hf : fewOk as = true) (hl : (ap.endLine == p.line) = true) (h : EV c n o ρ H (kMeB c n p as "str" "str.split" ρ R X) X) : EV c n (.Call (.Attribute o (so "split") ap) as [] p) ρ H R X := C_meBK PySem.F.plainAttrs_str PySem.F.slot_str_split PySem.F.type_str_split hb hf hl h
theorem mAppend (hb : ∀ env whole, attributeBase o (so "append") env whole = whole) (hf : fewOk as = true) (hl : (ap.endLine == p.line) = true) (h : EV c n o ρ H (kMeB c n p as "list" "list.append" ρ R X) X) : EV c n (.Call (.Attribute o (so "append") ap) as [] p) ρ H R X := C_meBK PySem.F.plainAttrs_list PySem.F.slot_list_append PySem.F.type_list_append hb hf hl h
theorem E_negK {x : Expr} (h : EV c n x ρ H (kNeg R) X) : EV c n (.UnaryOp .USub x p) ρ H R X := E_neg h
theorem asg_ok {v : V} {ρ1 : Loc} (hp : Put ρ x v ρ1) (h : XV c n r ρ1 H P X) : kAsg c n x r ρ P X v H := ⟨ρ1, hp, h⟩
theorem b_eq {i j : Int} (h : RB (i == j) H) : BA c n (compareOp .Eq) (.int i) (.int j) H (kQ RB) := A_intEq ⟨_, rfl, h⟩
theorem b_ne {i j : Int} (h : RB (i != j) H) : BA c n (compareOp .NotEq) (.int i) (.int j) H (kQ RB) := A_intNotEq ⟨_, rfl, h⟩
theorem b_lt {i j : Int} (h : RB (decide (i < j)) H) : BA c n (compareOp .Lt) (.int i) (.int j) H (kQ RB) := A_intLt ⟨_, rfl, h⟩
theorem b_le {i j : Int} (h : RB (decide (i ≤ j)) H) : BA c n (compareOp .LtE) (.int i) (.int j) H (kQ RB) := A_intLtE ⟨_, rfl, h⟩
theorem b_gt {i j : Int} (h : RB (decide (i > j)) H) : BA c n (compareOp .Gt) (.int i) (.int j) H (kQ RB) := A_intGt ⟨_, rfl, h⟩
theorem b_ge {i j : Int} (h : RB (decide (i ≥ j)) H) : BA c n (compareOp .GtE) (.int i) (.int j) H (kQ RB) := A_intGtE ⟨_, rfl, h⟩
theorem b_chIn (h : RB (decide (ch ∈ y.cps.toList)) H) : BA c n (compareOp .In) (.str ⟨#[ch]⟩) (.str y) H (kQ RB) := A_chIn ⟨_, rfl, h⟩
theorem b_chNotIn (h : RB (!decide (ch ∈ y.cps.toList)) H) : BA c n (compareOp .NotIn) (.str ⟨#[ch]⟩) (.str y) H (kQ RB) := A_chNotIn ⟨_, rfl, h⟩
theorem b_isNone {x : V} (hx : notAny x = true) (h : RB (isNoneV x) H) : BA c n (compareOp .Is) x .none H (kQ RB) := A_isNone hx ⟨_, rfl, h⟩
theorem b_isNotNone {x : V} (hx : notAny x = true) (h : RB (!isNoneV x) H) : BA c n (compareOp .IsNot) x .none H (kQ RB) := A_isNotNone hx ⟨_, rfl, h⟩
theorem t_bool {b : Bool} (h : RB b H) : kTest RB (.bool b) H := ⟨b, rfl, h⟩
end
theorem if_dec {p : Prop} [Decidable p] {A B : Prop} (h1 : p → A) (h0 : ¬ p → B) : (decide p = true → A) ∧ (decide p = false → B) := ⟨fun h => h1 (of_decide_eq_true h), fun h => h0 (of_decide_eq_false h)⟩
theorem if_beq {i j : Int} {A B : Prop} (h1 : i = j → A) (h0 : i ≠ j → B) : ((i == j) = true → A) ∧ ((i == j) = false → B) := ⟨fun h => h1 (by simpa using h), fun h => h0 (by simpa using h)⟩
theorem if_beqN {j : Nat} {A B : Prop} (h1 : i = j → A) (h0 : i ≠ j → B) : ((i == j) = true → A) ∧ ((i == j) = false → B) := ⟨fun h => h1 (by simpa using h), fun h => h0 (by simpa using h)⟩
theorem if_t {A B : Prop} (h : A) : (true = true → A) ∧ (true = false → B) := ⟨fun _ => h, fun q => Bool.noConfusion q⟩
theorem if_f {A B : Prop} (h : B) : (false = true → A) ∧ (false = false → B) := ⟨fun q => Bool.noConfusion q, fun _ => h⟩
def stp (s : String) : Lean.MacroM Lean.Syntax := do
 let ts ← (s.splitOn ",").toArray.mapM fun a => do
  let ws := a.splitOn " "
  let hd ← `(tactic| apply $(Lean.mkIdent (ws.headD "").toName))
  let tl ← (ws.drop 1).toArray.mapM fun k => `(tactic| walk_at $(Lean.Syntax.mkStrLit k))
  let all := #[hd] ++ tl
  `(tactic| ($[$all:tactic];*))
 let t ← `(tactic| with_reducible first $[| $ts:tactic]*)
 return t
def wlk (k : String) : Lean.MacroM Lean.Syntax := match k with
 | "mem" => stp "mem0,mem1,mem2,mem3,memS mem"
 | "put" => stp "Put.here,put1,put2,put3,putS put"
 | "r" => do return (← `(tactic| with_unfolding_all rfl))
 | "ir" => do return (← `(tactic| with_unfolding_all (intros; rfl)))
 | "kr" => do return (← `(tactic| kernel_rfl))
 | "dec" => do return (← `(tactic| decide))
 | "kg" => do return (← `(tactic| with_unfolding_all first | exact True.intro | exact fun P => by kernel_rfl))
 | "im" => do return (← `(tactic| with_unfolding_all first | exact IntMulOk.of_right (by decide) | exact IntMulOk.of_left (by decide)))
 | "pm" => do return (← `(tactic| exact ⟨_, by walk_at "mem"⟩))
 | "app" => stp "app_n,app_c app"
 | "body" => do return (← `(tactic| with_unfolding_all show XV _ _ (_ :: _) _ _ _ _))
 | "bodyQ" => do return (← `(tactic| with_unfolding_all show XQ _ _ _ (_ :: _) _ _ _ _))
 | "st0" => stp "X_ifA app app,X_retK,X_cont,X_asgK r,X_setK r,X_nil,X_expK r"
 | "st" => do return (← `(tactic| ((try dsimp only [List.cons_append, List.nil_append]); walk_at "st0")))
 | "ev" => stp "E_name mem kr,E_int,E_str,E_none,E_bool,E_attrK ir,mIndex ir r r,mJoin ir r r,mSplit ir r r,mAppend ir r r,E_methK ir r r,E_callK mem kg r kr,E_binopK,E_cmpK r,E_ifexpK,s_sl_on,s_sl_no,s_sl_nn,E_subK r,E_tupK,E_lstK,E_negK,E_notE,E_andE,E_orE,E_bone,E_dict0,s_ev_cmp2"
 | "lv" => stp "L_consK r,L_nil"
 | "bv" => stp "B_cmpK r,B_callK,B_notK,B_andK,B_andNil,B_orK,B_orNil,B_attrK,B_nameK,B_lcomp,s_bo_cmp2"
 | "ba" => stp "b_eq,b_ne,b_lt,b_le,b_gt,b_ge,b_chIn,b_chNotIn,b_isNone r,b_isNotNone r,A_intAdd,A_intSub,A_intLtE,A_intGt,A_intGtE,A_chIn,A_isNone r,A_isNotNone r,A_intMult im"
 | "sa" => stp "S_tupI dec dec r"
 | "sz" => do return (← `(tactic| (show List.length _ ≤ sizeLine; first | assumption | (simp only [lCo, lNi]; decide))))
 | "and" => do return (← `(tactic| with_reducible first
 | apply t_bool
 | refine ⟨_, rfl, ?_⟩
 | refine ⟨by walk_at "sz", ?_⟩
 | refine ⟨.inl ⟨⟨_, rfl⟩, rfl⟩, ?_⟩
 | refine ⟨.inr ⟨⟨_, _, rfl, by assumption⟩, rfl⟩, ?_⟩))
 | "w" => do return (← `(tactic| repeat with_reducible first | (guard_target =~ EV _ _ _ _ _ _ _; walk_at "ev") | (guard_target =~ LV _ _ _ _ _ _ _ _; walk_at "lv") | (guard_target =~ BV _ _ _ _ _ _ _; walk_at "bv") | (guard_target =~ BA _ _ _ _ _ _ _; walk_at "ba") | (guard_target =~ SA _ _ _ _ _ _; walk_at "sa") | walk_at "and"))
 | "asg2" => do return (← `(tactic| refine ⟨_, _, by walk_at "put", by walk_at "put", ?_⟩))
 | "st2" => stp "s_asg2 dec pm pm ir r r kr r r r r"
 | "asg" => do return (← `(tactic| first | with_reducible refine asg_ok (by walk_at "put") ?_ | refine ⟨_, by walk_at "put", ?_⟩))
 | "for" => stp "X_forS dec ir"
 | "range" => stp "I_range mem r"
 | "if0" => stp "if_t,if_f"
 | "if1" => stp "if_dec,if_beq,if_beqN"
 | "if2" => do
  let ids := ("isNoneV decide_eq_true_eq decide_eq_false_iff_not beq_iff_eq bne_iff_ne beq_eq_false_iff_ne bne_eq_false_iff_eq Bool.not_eq_true' Bool.not_eq_false' reduceCtorEq Bool.not_true Bool.not_false Bool.false_eq_true Bool.true_eq_false Bool.true_and Bool.and_true Bool.false_and Bool.and_false Bool.true_or Bool.or_true Bool.false_or Bool.or_false".splitOn " ").toArray.map fun n => Lean.mkIdent n.toName
  return (← `(tactic| (refine ⟨fun hq => ?_, fun hq => ?_⟩ <;> (try simp only [$[$ids:ident],*] at hq))))
 | "if" => do return (← `(tactic| (with_reducible first | walk_at "if0" | (walk_at "if1" <;> intro) | walk_at "if2") <;> (try (exfalso; walk_at "o")) <;> (try dsimp only [List.cons_append, List.nil_append])))
 | "at" => stp "at_tokens as,at_at as,at_kind as,at_worth as,at_pos as as"
 | "as" => do return (← `(tactic| assumption))
 | "s" => do return (← `(tactic| (walk_at "st"; walk_at "w")))
 | "a" => do return (← `(tactic| (walk_at "asg"; walk_at "s")))
 | "i" => do return (← `(tactic| (walk_at "if"; walk_at "s")))
 | "b" => do return (← `(tactic| (walk_at "body"; walk_at "s")))
 | "o" => do return (← `(tactic| first | decide | lia))
 | _ => Lean.Macro.throwUnsupported
local macro_rules | `(tactic| walk_at $k:str) => wlk k.getString
section
variable {c : Cx} {n : Nat} {H : List AO} {R : V → List AO → Prop} {X : Nat → List AO → Prop}
theorem c_negated {u s : Int} (h : R (.tup [.int (-u), .int s]) H) : CJ c 1 (.ref 96) [.tup [.int u, .int s]] H R X := by
 apply p_negated
 walk_at "b"
 exact h
theorem c_decimal {u s : Int} (hs : s = 0 ∨ (0 < s ∧ u.fmod 10 ≠ 0)) (h : R (.tup [.int u, .int s]) H) : CJ c 1 (.ref 89) [.int u, .int s] H R X := by
 apply p_decimal
 walk_at "b"
 walk_at "if"
 refine X_while (J := fun k ρ1 H1 => ρ1 = _ ∧ H1 = H) 0 ⟨rfl, rfl⟩ ?_
 rintro k ρ1 H1 ⟨rfl, rfl⟩
 walk_at "w"
 walk_at "if"
 ·walk_at "i"
  exact h
 ·walk_at "w"
  apply A_intMod (by decide)
  walk_at "w"
  walk_at "if"
  ·walk_at "i"
   exact h
noncomputable def figVal (l : List Nat) : Int := l.foldl (fun (a : Int) (ch : Nat) => a * 10 + ((ch : Int) - 48)) 0
theorem figVal_snoc (l : List Nat) (ch : Nat) : figVal (l ++ [ch]) = figVal l * 10 + ((ch : Int) - 48) := by unfold figVal; rw [List.foldl_append]; rfl
theorem c_worth_of {l : List Nat} (hl : ∀ ch ∈ l, 48 ≤ ch ∧ ch ≤ 57) (h : R (.int (figVal l)) H) : CJ c 2 (.ref 124) [.str (S l)] H R X := by
 apply p_worth_of
 walk_at "b"
 walk_at "asg"
 walk_at "for"
 apply I_str
 walk_at "w"
 refine ⟨fun i ρ1 H1 => H1 = H ∧ ∃ f, ρ1 = [(so "figures", Kd.loc, some (V.str (S l))), (so "number", Kd.loc, some (.int (figVal (l.take i)))), (so "figure", Kd.loc, f), (so "FIGURES_decimals", Kd.glob, some (V.str (so "0123456789")))], ⟨rfl, none, rfl⟩, ?_, ?_⟩
 ·rintro i y ρ1 H2 hy ⟨rfl, f, rfl⟩ hli
  rw [S_cps, List.getElem?_map] at hy
  obtain ⟨ch, hch, rfl⟩ := Option.map_eq_some_iff.mp hy
  have hc := hl ch (mOg hch)
  obtain ⟨q, hq⟩ := fig_index ch hc
  walk_at "a"
  refine C_index hq ?_
  walk_at "w"
  walk_at "asg"
  walk_at "st"
  refine ⟨⟨rfl, some (.str ⟨#[ch]⟩), ?_⟩, hli⟩
  have e : l.take (i + 1) = l.take i ++ [ch] := by rw [List.take_add_one, hch]; rfl
  rw [e, figVal_snoc, Int.ofNat_sub hc.1]
  rfl
 ·rintro ρ1 H2 ⟨rfl, f, rfl⟩
  walk_at "s"
  rw [lMp, S_cps, List.take_length]
  exact h
end
section
variable {c : Cx} {n : Nat} {H : List AO} {R : V → List AO → Prop} {X : Nat → List AO → Prop}
theorem c_read_int {r : List Nat} (hl : ∀ x ∈ ch :: r, 48 ≤ x ∧ x ≤ 57) (hs : r.length < 1000) (h : R (.tup [.int (figVal (ch :: r)), .int 0]) H) : CJ c 3 (.ref 131) [.str (S (ch :: r))] H R X := by
 have hc := hl ch (.head _)
 have hsz : (ch :: r).length ≤ sizeLine := by simp [sizeLine]; walk_at "o"
 have h46 : (46 : Nat) ∉ ch :: r := fun q => by have := hl _ q; walk_at "o"
 apply p_read_decimal
 walk_at "b"
 refine A_inTup2 (ys := [so "+", so "-"]) rfl ?_
 walk_at "w"
 have e1 : ([so "+", so "-"].any fun y => y == S ((ch :: r).take 1)) = false := by
  rw [show so "+" = S [43] by decide +kernel, show so "-" = S [45] by decide +kernel]
  simp [S_beq]; walk_at "o"
 refine ⟨fun hq => absurd (e1.symm.trans hq) (by decide), fun _ => ?_⟩
 walk_at "w"
 walk_at "asg"
 walk_at "st2"
 walk_at "w"
 walk_at "asg2"
 walk_at "s"
 refine s_chInK (ch := 46) (by decide +kernel) ?_
 rw [show (S (List.drop 0 (ch :: r))).cps.toList = ch :: r from S_cps _, decide_eq_false h46]
 walk_at "w"
 walk_at "i"
 refine s_SAddK (m := []) (by decide +kernel) (by simp [sizeLine]; walk_at "o") ?_
 rw [List.append_nil]
 walk_at "w"
 refine s_SEqK (m := []) (by decide +kernel) ?_
 walk_at "w"
 refine ⟨fun hq => by simp at hq, fun _ => ?_⟩
 try dsimp only [List.cons_append, List.nil_append]
 walk_at "for"
 walk_at "range"
 walk_at "w"
 refine C_lenS (by simp; walk_at "o") ?_
 walk_at "w"
 refine ⟨0, ((ch :: r).length : Int), .inr rfl, by decide, by decide, by walk_at "o", by simp; walk_at "o", ?_⟩
 refine ⟨fun i ρ1 H1 => H1 = H ∧ ∃ f, ρ1 = [lv "text" (.str (S (ch :: r))), lv "begin" (.int 0), lv "ahead" (.str (S (ch :: r))), lv "behind" (.str (so "")), l0 "point", lo "at" f, l0 "units", gv "TokenFault" (.val (.ref 60)), gv "len" (.val (.builtin "len")), gv "range" (.val (.type "range")), gv "FIGURES_decimals" (.str (so "0123456789")), gv "worth_of" (.val (.ref 124)), gv "decimal" (.val (.ref 89))], ⟨rfl, none, rfl⟩, ?_, ?_⟩
 ·rintro i y ρ1 H2 hy ⟨rfl, f, rfl⟩ hli
  unfold rangeL at hy
  rw [List.getElem?_map] at hy
  obtain ⟨k, hk, rfl⟩ := Option.map_eq_some_iff.mp hy
  obtain ⟨hk1, rfl⟩ : k < (ch :: r).length ∧ k = i := by
   obtain ⟨h1, h2⟩ := gsi.mp hk
   rw [List.getElem_range] at h2
   rw [lRa] at h1
   simp only [lCo] at h1 ⊢; walk_at "o"
  have hg : (ch :: r)[k]? = some ((ch :: r)[k]) := gEg hk1
  have hfig := hl _ (List.getElem_mem hk1)
  rw [Int.zero_add]
  walk_at "a"
  refine S_strS hg (by simp; walk_at "o") ?_
  walk_at "w"
  rw [decide_eq_true (isFig.mpr hfig)]
  walk_at "if"
  walk_at "if"
  walk_at "st"
  exact ⟨⟨rfl, _, rfl⟩, hli⟩
 ·rintro ρ1 H2 ⟨rfl, f, rfl⟩
  walk_at "s"
  refine s_SAddK (m := []) (by decide +kernel) (by simp [sizeLine]; walk_at "o") ?_
  rw [List.append_nil]
  walk_at "w"
  refine c_worth_of hl ?_
  walk_at "a"
  rw [show so "-" = S [45] by decide +kernel]
  refine s_SEqK rfl ?_
  walk_at "w"
  refine ⟨fun hq => ?_, fun _ => ?_⟩
  ·simp at hq; walk_at "o"
  walk_at "w"
  rw [show so "" = S [] by decide +kernel]
  refine C_lenS (by simp) ?_
  walk_at "w"
  refine C_up (by decide) (c_decimal (.inl rfl) ?_)
  exact h
end
section
variable {c : Cx} {n : Nat} {H : List AO} {R : V → List AO → Prop} {X : Nat → List AO → Prop}
theorem c_read_point {r b : List Nat} (hl : ∀ x ∈ ch :: r, 48 ≤ x ∧ x ≤ 57) (hb : ∀ x ∈ b, 48 ≤ x ∧ x ≤ 57) (hbn : b ≠ []) (hs : r.length + b.length < 1000) (hm : (figVal (ch :: r ++ b)).fmod 10 ≠ 0) (h : R (.tup [.int (figVal (ch :: r ++ b)), .int b.length]) H) : CJ c 3 (.ref 131) [.str (S (ch :: (r ++ 46 :: b)))] H R X := by
 have hc := hl ch (.head _)
 have hlen : (ch :: (r ++ 46 :: b)).length = r.length + b.length + 2 := by simp; walk_at "o"
 have hsz : (ch :: (r ++ 46 :: b)).length ≤ sizeLine := by rw [hlen]; simp [sizeLine]; walk_at "o"
 have h46 : (46 : Nat) ∉ ch :: r := fun q => by have := hl _ q; walk_at "o"
 have hcat : ∀ x ∈ ch :: r ++ b, 48 ≤ x ∧ x ≤ 57 := fun x hx => (List.mem_append.mp hx).elim (hl x) (hb x)
 have ed : List.drop 0 (ch :: (r ++ 46 :: b)) = ch :: (r ++ 46 :: b) := rfl
 have et : List.take (ch :: r).length (ch :: (r ++ 46 :: b)) = ch :: r := List.take_left (l₁ := ch :: r)
 have ed2 : List.drop ((ch :: r).length + 1) (ch :: (r ++ 46 :: b)) = b := by
  rw [show ch :: (r ++ 46 :: b) = (ch :: r) ++ 46 :: b from rfl, List.drop_append, List.drop_eq_nil_of_le (by walk_at "o"), Nat.add_sub_cancel_left]; rfl
 have es : so "" = S [] := by decide +kernel
 have bl : 0 < b.length := List.length_pos_iff.mpr hbn
 obtain ⟨qi, hidx⟩ := idx_one (ch :: r) b 46 h46
 apply p_read_decimal
 walk_at "b"
 refine A_inTup2 (ys := [so "+", so "-"]) rfl ?_
 walk_at "w"
 have e1 : ([so "+", so "-"].any fun y => y == S ((ch :: (r ++ 46 :: b)).take 1)) = false := by
  rw [show so "+" = S [43] by decide +kernel, show so "-" = S [45] by decide +kernel]
  simp [S_beq]; walk_at "o"
 refine ⟨fun hq => absurd (e1.symm.trans hq) (by decide), fun _ => ?_⟩
 walk_at "w"
 walk_at "asg"
 walk_at "st2"
 walk_at "w"
 rw [ed]
 walk_at "asg2"
 walk_at "s"
 refine s_chInK (ch := 46) (by decide +kernel) ?_
 rw [S_cps, decide_eq_true (show 46 ∈ ch :: (r ++ 46 :: b) by simp)]
 walk_at "w"
 walk_at "i"
 rw [show so "." = ⟨#[46]⟩ by decide +kernel]
 refine C_index hidx ?_
 walk_at "asg"
 walk_at "st2"
 walk_at "w"
 rw [et, ed2]
 walk_at "asg2"
 walk_at "s"
 refine s_SEqK (m := []) es ?_
 walk_at "w"
 refine ⟨fun hq => absurd (by simpa using hq) hbn, fun _ => ?_⟩
 try dsimp only [List.cons_append, List.nil_append]
 walk_at "s"
 refine A_SAdd (by simp [sizeLine]; walk_at "o") ?_
 walk_at "w"
 refine s_SEqK (m := []) es ?_
 walk_at "w"
 refine ⟨fun hq => by simp at hq, fun _ => ?_⟩
 try dsimp only [List.cons_append, List.nil_append]
 walk_at "for"
 walk_at "range"
 walk_at "w"
 refine C_lenS (by simp; walk_at "o") ?_
 walk_at "w"
 refine ⟨0, ((ch :: (r ++ 46 :: b)).length : Int), .inr rfl, by decide, by decide, by walk_at "o", by simp; walk_at "o", ?_⟩
 refine ⟨fun i ρ1 H1 => H1 = H ∧ ∃ f, ρ1 = [lv "text" (.str (S (ch :: (r ++ 46 :: b)))), lv "begin" (.int 0), lv "ahead" (.str (S (ch :: r))), lv "behind" (.str (S b)), lv "point" (.int (ch :: r).length), lo "at" f, l0 "units", gv "TokenFault" (.val (.ref 60)), gv "len" (.val (.builtin "len")), gv "range" (.val (.type "range")), gv "FIGURES_decimals" (.str (so "0123456789")), gv "worth_of" (.val (.ref 124)), gv "decimal" (.val (.ref 89))], ⟨rfl, none, rfl⟩, ?_, ?_⟩
 ·rintro i y ρ1 H2 hy ⟨rfl, f, rfl⟩ hli
  unfold rangeL at hy
  rw [List.getElem?_map] at hy
  obtain ⟨k, hk, rfl⟩ := Option.map_eq_some_iff.mp hy
  obtain ⟨hk1, rfl⟩ : k < (ch :: (r ++ 46 :: b)).length ∧ k = i := by
   obtain ⟨h1, h2⟩ := gsi.mp hk
   rw [List.getElem_range] at h2
   rw [lRa] at h1
   simp only [lCo] at h1 ⊢; walk_at "o"
  have hg : (ch :: (r ++ 46 :: b))[k]? = some ((ch :: (r ++ 46 :: b))[k]) := gEg hk1
  rw [Int.zero_add]
  walk_at "a"
  refine S_strS hg (by simp; walk_at "o") ?_
  walk_at "w"
  by_cases hkp : k = (ch :: r).length
  ·have e46 : (ch :: (r ++ 46 :: b))[k] = 46 := by
    have : ((ch :: r) ++ 46 :: b)[k]? = some 46 := by rw [hkp, gAr (Nat.le_refl _), Nat.sub_self]; rfl
    exact Option.some.inj (hg.symm.trans this)
   rw [e46, decide_eq_false (show 46 ∉ (so "0123456789").cps.toList by rw [isFig]; decide)]
   walk_at "if"
   walk_at "w"
   refine C_lenS (by simp; walk_at "o") ?_
   walk_at "w"
   walk_at "if"
   walk_at "if"
   walk_at "st"
   exact ⟨⟨rfl, _, rfl⟩, hli⟩
  ·have hfig : 48 ≤ (ch :: (r ++ 46 :: b))[k] ∧ (ch :: (r ++ 46 :: b))[k] ≤ 57 := by
    have hg' : ((ch :: r) ++ 46 :: b)[k]? = some ((ch :: (r ++ 46 :: b))[k]) := hg
    rcases Nat.lt_or_gt_of_ne hkp with q | q
    ·rw [gAl q] at hg'
     exact hl _ (mOg hg')
    ·rw [gAr (Nat.le_of_lt q)] at hg'
     obtain ⟨z, hz⟩ : ∃ z, k - (ch :: r).length = z + 1 := ⟨k - (ch :: r).length - 1, by walk_at "o"⟩
     rw [hz, List.getElem?_cons_succ] at hg'
     exact hb _ (mOg hg')
   rw [decide_eq_true (isFig.mpr hfig)]
   walk_at "if"
   walk_at "if"
   walk_at "st"
   exact ⟨⟨rfl, _, rfl⟩, hli⟩
 ·rintro ρ1 H2 ⟨rfl, f, rfl⟩
  walk_at "s"
  refine A_SAdd (by simp [sizeLine]; walk_at "o") ?_
  walk_at "w"
  refine c_worth_of hcat ?_
  walk_at "a"
  rw [show so "-" = S [45] by decide +kernel]
  refine s_SEqK rfl ?_
  walk_at "w"
  refine ⟨fun hq => ?_, fun _ => ?_⟩
  ·simp at hq; walk_at "o"
  walk_at "w"
  refine C_lenS (by walk_at "o") ?_
  walk_at "w"
  refine C_up (by decide) (c_decimal (.inr ⟨by walk_at "o", hm⟩) ?_)
  exact h
theorem c_write0 {u : Int} {D : List Nat} (hD : so (toString (if u < 0 then -u else u)) = S D) (hb : (if u < 0 then -u else u).natAbs.log2 < 1920) (hs : D.length < 1000) (h : R (.str (S (if u < 0 then 45 :: D else D))) H) : CJ c 1 (.ref 138) [.tup [.int u, .int 0]] H R X := by
 apply p_write_decimal
 walk_at "b"
 refine C_abs ?_
 walk_at "w"
 refine C_strInt hb ?_
 rw [hD]
 walk_at "a"
 walk_at "i"
 walk_at "if"
 ·rename_i hq
  walk_at "w"
  refine s_KAddS (l := [45]) (by decide +kernel) (by simp [sizeLine]; walk_at "o") ?_
  rw [if_pos hq] at h
  exact h
 ·walk_at "w"
  rw [if_neg (by walk_at "o")] at h
  exact h
theorem c_writep {u : Int} {A B : List Nat} (hD : so (toString (if u < 0 then -u else u)) = S (A ++ B)) (hb : (if u < 0 then -u else u).natAbs.log2 < 1920) (hA : 0 < A.length) (hB : 0 < B.length) (hs : A.length + B.length < 1000) (h : R (.str (S (if u < 0 then 45 :: (A ++ 46 :: B) else A ++ 46 :: B))) H) : CJ c 1 (.ref 138) [.tup [.int u, .int B.length]] H R X := by
 have hsz : (A ++ B).length ≤ sizeLine := by simp [sizeLine]; walk_at "o"
 have e1 : (((A ++ B).length : Int) - B.length) = (A.length : Int) := by simp
 apply p_write_decimal
 walk_at "b"
 refine C_abs ?_
 walk_at "w"
 refine C_strInt hb ?_
 rw [hD]
 walk_at "a"
 walk_at "i"
 refine C_lenS (by simp; walk_at "o") ?_
 walk_at "w"
 refine A_strMul0 (by simp; walk_at "o") (by simp; walk_at "o") ?_
 walk_at "w"
 rw [S_nil]
 refine A_SAdd (by simp [sizeLine]; walk_at "o") ?_
 rw [List.nil_append]
 walk_at "a"
 refine C_lenS (by simp; walk_at "o") ?_
 walk_at "w"
 refine ⟨A.length, congrArg V.int e1, hsz, ?_⟩
 rw [List.take_left]
 walk_at "w"
 refine s_SAddK (m := [46]) (by decide +kernel) (by simp [sizeLine]; walk_at "o") ?_
 walk_at "w"
 refine C_lenS (by simp; walk_at "o") ?_
 walk_at "w"
 refine ⟨A.length, congrArg V.int e1, hsz, ?_⟩
 rw [List.drop_left]
 refine A_SAdd (by simp [sizeLine]; walk_at "o") ?_
 rw [aAs, List.singleton_append]
 walk_at "a"
 walk_at "if"
 ·rename_i hq
  walk_at "w"
  refine s_KAddS (l := [45]) (by decide +kernel) (by simp [sizeLine]; walk_at "o") ?_
  rw [if_pos hq] at h
  exact h
 ·walk_at "w"
  rw [if_neg (by walk_at "o")] at h
  exact h
end
structure Tk where
 kind : Str
 worth : Str
 pos : V
noncomputable def tkF (t : Tk) (b : V) : List (Str × V) := [(so "kind", .str t.kind), (so "worth", .str t.worth), (so "at", t.pos), (so "is_in_a", b)]
noncomputable def rdF (j : Nat) (p : Nat) (nm : V) : List (Str × V) := [(so "tokens", .obj j), (so "at", .int p), (so "named", nm)]
noncomputable def TksAt (H : List AO) (l : List V) (ts : List Tk) : Prop := ∀ (k : Nat) (t : Tk), ts[k]? = some t → ∃ (o : Nat) (b : V), l[k]? = some (.obj o) ∧ H[o]? = some (.inst 192 (tkF t b))
structure RdAt (H : List AO) (i : Nat) (p : Nat) (ts : List Tk) : Prop where
 ex : ∃ (j : Nat) (l : List V) (nm : V), H[i]? = some (.inst 602 (rdF j p nm)) ∧ H[j]? = some (.list l) ∧ l.length = ts.length ∧ TksAt H l ts
 small : ts.length < 2 ^ 40
 hand : ∀ t ∈ ts, isHanded t.pos = true
theorem RdAt.elim {p : Nat} {ts : List Tk} {C : Prop} (r : RdAt H i p ts) (k : ∀ (j : Nat) (l : List V) (nm : V), H[i]? = some (.inst 602 (rdF j p nm)) → H[j]? = some (.list l) → l.length = ts.length → TksAt H l ts → C) : C := by
 obtain ⟨j, l, nm, h1, h2, h3, h4⟩ := r.ex
 exact k j l nm h1 h2 h3 h4
theorem RdAt.gr {p : Nat} {ts : List Tk} (r : RdAt H i p ts) (g : Gr [] H H') : RdAt H' i p ts := by
 refine r.elim fun j l nm h1 h2 h3 h4 => ?_
 refine ⟨⟨j, l, nm, g.get0 h1, g.get0 h2, h3, fun k t hk => ?_⟩, r.small, r.hand⟩
 obtain ⟨o, b, h5, h6⟩ := h4 k t hk
 exact ⟨o, b, h5, g.get0 h6⟩
theorem fput_rd {j p p' : Nat} {nm : V} : fput (rdF j p nm) (so "at") (.int p') = rdF j p' nm := by
 have e1 : (so "tokens" == so "at") = false := by decide +kernel
 have e2 : (so "at" == so "at") = true := by decide +kernel
 simp only [rdF, fput, e1, e2, Bool.false_eq_true, if_false, if_true]
theorem RdAt.move {j p p' : Nat} {nm : V} {ts : List Tk} (r : RdAt H i p ts) (hi : H[i]? = some (.inst 602 (rdF j p nm))) : RdAt (H.set i (.inst 602 (rdF j p' nm))) i p' ts ∧ Gr [i] H (H.set i (.inst 602 (rdF j p' nm))) := by
 refine r.elim fun j' l nm' h1 h2 h3 h4 => ?_
 rw [hi] at h1
 have hj : j' = j := by
  have := Option.some.inj h1
  simp only [rdF, AO.inst.injEq, List.cons.injEq, Prod.mk.injEq, V.obj.injEq, true_and] at this
  exact this.1.symm
 subst hj
 have ne1 : i ≠ j' := fun q => by subst q; rw [hi] at h2; cases h2
 refine ⟨⟨⟨j', l, nm, ?_, ?_, h3, fun k t hk => ?_⟩, r.small, r.hand⟩, (Gr.refl _ _).set _ (.inr ⟨.head _, fun C fs h => by rw [hi] at h; cases h; exact ⟨_, rfl, rfl⟩⟩)⟩
 ·rw [gSs (get_lt hi)]
 ·rw [List.getElem?_set_ne ne1]; exact h2
 ·obtain ⟨o, b, h5, h6⟩ := h4 k t hk
  have ne2 : i ≠ o := fun q => by
   subst q; rw [hi] at h6
   have := Option.some.inj h6
   simp only [AO.inst.injEq] at this
   exact absurd this.1 (by decide)
  exact ⟨o, b, h5, by rw [List.getElem?_set_ne ne2]; exact h6⟩
theorem RdAt.on {j p p' : Nat} {nm : V} {ts : List Tk} (r : RdAt H i p ts) (g : Gr [i] H H') (hi : H'[i]? = some (.inst 602 (rdF j p' nm))) : RdAt H' i p' ts := by
 refine r.elim fun j' l nm' h1 h2 h3 h4 => ?_
 obtain ⟨f', h5, h6⟩ := g.keep _ _ _ h1
 rw [hi] at h5
 cases h5
 have hj : j = j' := by
  simp only [rdF, List.head?_cons, Option.some.injEq, Prod.mk.injEq, V.obj.injEq, true_and] at h6
  exact h6
 subst hj
 have ne1 : j ≠ i := fun q => by subst q; rw [h1] at h2; cases h2
 refine ⟨⟨j, l, nm, hi, g.get h2 (by simpa using ne1), h3, fun k t hk => ?_⟩, r.small, r.hand⟩
 obtain ⟨o, b, h7, h8⟩ := h4 k t hk
 have ne2 : o ≠ i := fun q => by
  subst q; rw [h1] at h8
  have := Option.some.inj h8
  simp only [AO.inst.injEq] at this
  exact absurd this.1 (by decide)
 exact ⟨o, b, h7, g.get h8 (by simpa using ne2)⟩
theorem RdAt.set {p q fo : Nat} {ts : List Tk} (r : RdAt H i p ts) (g : Gr [i] H H') (r' : RdAt H' i q ts) (o : AO) (hf : H.length ≤ fo) : RdAt (H'.set fo o) i q ts := by
 obtain ⟨j, l, nm, h1, _⟩ := r'.ex
 obtain ⟨j', l', nm', h1', _⟩ := r.ex
 refine r.on (g.set o (.inl hf)) (j := j) (nm := nm) ?_
 rw [List.getElem?_set_ne (fun e => by have := get_lt h1'; walk_at "o")]
 exact h1
section
variable {H : List AO} {R : V → Prop} {i j p : Nat} {nm b : V} {t : Tk}
theorem at_tokens (hi : H[i]? = some (.inst 602 (rdF j p nm))) (h : R (.obj j)) : ∃ i' C fs y, V.obj i = .obj i' ∧ (H[i']? = some (.inst C fs) ∨ H[i']? = some (.exc C fs)) ∧ fs.lookup (so "tokens") = some y ∧ isHanded y = true ∧ (∀ P, attrOk (kFrag P) C (so "tokens") = true) ∧ R y :=
 ⟨i, 602, _, _, rfl, .inl hi, (by with_unfolding_all rfl), rfl, fun P => by kernel_rfl, h⟩
theorem at_at (hi : H[i]? = some (.inst 602 (rdF j p nm))) (h : R (.int p)) : ∃ i' C fs y, V.obj i = .obj i' ∧ (H[i']? = some (.inst C fs) ∨ H[i']? = some (.exc C fs)) ∧ fs.lookup (so "at") = some y ∧ isHanded y = true ∧ (∀ P, attrOk (kFrag P) C (so "at") = true) ∧ R y :=
 ⟨i, 602, _, _, rfl, .inl hi, (by with_unfolding_all rfl), rfl, fun P => by kernel_rfl, h⟩
theorem at_kind (hi : H[i]? = some (.inst 192 (tkF t b))) (h : R (.str t.kind)) : ∃ i' C fs y, V.obj i = .obj i' ∧ (H[i']? = some (.inst C fs) ∨ H[i']? = some (.exc C fs)) ∧ fs.lookup (so "kind") = some y ∧ isHanded y = true ∧ (∀ P, attrOk (kFrag P) C (so "kind") = true) ∧ R y :=
 ⟨i, 192, _, _, rfl, .inl hi, (by with_unfolding_all rfl), rfl, fun P => by kernel_rfl, h⟩
theorem at_worth (hi : H[i]? = some (.inst 192 (tkF t b))) (h : R (.str t.worth)) : ∃ i' C fs y, V.obj i = .obj i' ∧ (H[i']? = some (.inst C fs) ∨ H[i']? = some (.exc C fs)) ∧ fs.lookup (so "worth") = some y ∧ isHanded y = true ∧ (∀ P, attrOk (kFrag P) C (so "worth") = true) ∧ R y :=
 ⟨i, 192, _, _, rfl, .inl hi, (by with_unfolding_all rfl), rfl, fun P => by kernel_rfl, h⟩
theorem at_pos (hi : H[i]? = some (.inst 192 (tkF t b))) (hp : isHanded t.pos = true) (h : R (t.pos)) : ∃ i' C fs y, V.obj i = .obj i' ∧ (H[i']? = some (.inst C fs) ∨ H[i']? = some (.exc C fs)) ∧ fs.lookup (so "at") = some y ∧ isHanded y = true ∧ (∀ P, attrOk (kFrag P) C (so "at") = true) ∧ R y :=
 ⟨i, 192, _, _, rfl, .inl hi, (by with_unfolding_all rfl), hp, fun P => by kernel_rfl, h⟩
end
section
variable {c : Cx} {n : Nat} {ρ : Loc} {H : List AO} {R : V → List AO → Prop} {X : Nat → List AO → Prop} {i j p : Nat} {nm : V} {q : Pos} {as : List Expr}
theorem mt_peek (hi : H[i]? = some (.inst 602 (rdF j p nm))) (h : LV c n q as ρ H (fun xs H2 => CJ c n (.ref 456) (.obj i :: xs) H2 R X) X) : ∃ i' C fs f, V.obj i = .obj i' ∧ H[i']? = some (.inst C fs) ∧ fs.lookup (so "peek") = none ∧ (∀ P, methOk (kFrag P) C (so "peek") f = true) ∧ LV c n q as ρ H (fun xs H2 => CJ c n (.ref f) (.obj i' :: xs) H2 R X) X :=
 ⟨i, 602, _, 456, rfl, hi, (by with_unfolding_all rfl), fun P => by kernel_rfl, h⟩
theorem mt_is_done (hi : H[i]? = some (.inst 602 (rdF j p nm))) (h : LV c n q as ρ H (fun xs H2 => CJ c n (.ref 463) (.obj i :: xs) H2 R X) X) : ∃ i' C fs f, V.obj i = .obj i' ∧ H[i']? = some (.inst C fs) ∧ fs.lookup (so "is_done") = none ∧ (∀ P, methOk (kFrag P) C (so "is_done") f = true) ∧ LV c n q as ρ H (fun xs H2 => CJ c n (.ref f) (.obj i' :: xs) H2 R X) X :=
 ⟨i, 602, _, 463, rfl, hi, (by with_unfolding_all rfl), fun P => by kernel_rfl, h⟩
theorem mt_fault (hi : H[i]? = some (.inst 602 (rdF j p nm))) (h : LV c n q as ρ H (fun xs H2 => CJ c n (.ref 470) (.obj i :: xs) H2 R X) X) : ∃ i' C fs f, V.obj i = .obj i' ∧ H[i']? = some (.inst C fs) ∧ fs.lookup (so "fault") = none ∧ (∀ P, methOk (kFrag P) C (so "fault") f = true) ∧ LV c n q as ρ H (fun xs H2 => CJ c n (.ref f) (.obj i' :: xs) H2 R X) X :=
 ⟨i, 602, _, 470, rfl, hi, (by with_unfolding_all rfl), fun P => by kernel_rfl, h⟩
theorem mt_take (hi : H[i]? = some (.inst 602 (rdF j p nm))) (h : LV c n q as ρ H (fun xs H2 => CJ c n (.ref 477) (.obj i :: xs) H2 R X) X) : ∃ i' C fs f, V.obj i = .obj i' ∧ H[i']? = some (.inst C fs) ∧ fs.lookup (so "take") = none ∧ (∀ P, methOk (kFrag P) C (so "take") f = true) ∧ LV c n q as ρ H (fun xs H2 => CJ c n (.ref f) (.obj i' :: xs) H2 R X) X :=
 ⟨i, 602, _, 477, rfl, hi, (by with_unfolding_all rfl), fun P => by kernel_rfl, h⟩
theorem mt_is_kind (hi : H[i]? = some (.inst 602 (rdF j p nm))) (h : LV c n q as ρ H (fun xs H2 => CJ c n (.ref 485) (.obj i :: xs) H2 R X) X) : ∃ i' C fs f, V.obj i = .obj i' ∧ H[i']? = some (.inst C fs) ∧ fs.lookup (so "is_kind") = none ∧ (∀ P, methOk (kFrag P) C (so "is_kind") f = true) ∧ LV c n q as ρ H (fun xs H2 => CJ c n (.ref f) (.obj i' :: xs) H2 R X) X :=
 ⟨i, 602, _, 485, rfl, hi, (by with_unfolding_all rfl), fun P => by kernel_rfl, h⟩
theorem mt_is_word (hi : H[i]? = some (.inst 602 (rdF j p nm))) (h : LV c n q as ρ H (fun xs H2 => CJ c n (.ref 492) (.obj i :: xs) H2 R X) X) : ∃ i' C fs f, V.obj i = .obj i' ∧ H[i']? = some (.inst C fs) ∧ fs.lookup (so "is_word") = none ∧ (∀ P, methOk (kFrag P) C (so "is_word") f = true) ∧ LV c n q as ρ H (fun xs H2 => CJ c n (.ref f) (.obj i' :: xs) H2 R X) X :=
 ⟨i, 602, _, 492, rfl, hi, (by with_unfolding_all rfl), fun P => by kernel_rfl, h⟩
theorem mt_skip (hi : H[i]? = some (.inst 602 (rdF j p nm))) (h : LV c n q as ρ H (fun xs H2 => CJ c n (.ref 499) (.obj i :: xs) H2 R X) X) : ∃ i' C fs f, V.obj i = .obj i' ∧ H[i']? = some (.inst C fs) ∧ fs.lookup (so "skip") = none ∧ (∀ P, methOk (kFrag P) C (so "skip") f = true) ∧ LV c n q as ρ H (fun xs H2 => CJ c n (.ref f) (.obj i' :: xs) H2 R X) X :=
 ⟨i, 602, _, 499, rfl, hi, (by with_unfolding_all rfl), fun P => by kernel_rfl, h⟩
theorem mt_one_of (hi : H[i]? = some (.inst 602 (rdF j p nm))) (h : LV c n q as ρ H (fun xs H2 => CJ c n (.ref 513) (.obj i :: xs) H2 R X) X) : ∃ i' C fs f, V.obj i = .obj i' ∧ H[i']? = some (.inst C fs) ∧ fs.lookup (so "one_of") = none ∧ (∀ P, methOk (kFrag P) C (so "one_of") f = true) ∧ LV c n q as ρ H (fun xs H2 => CJ c n (.ref f) (.obj i' :: xs) H2 R X) X :=
 ⟨i, 602, _, 513, rfl, hi, (by with_unfolding_all rfl), fun P => by kernel_rfl, h⟩
theorem mt_is_name (hi : H[i]? = some (.inst 602 (rdF j p nm))) (h : LV c n q as ρ H (fun xs H2 => CJ c n (.ref 528) (.obj i :: xs) H2 R X) X) : ∃ i' C fs f, V.obj i = .obj i' ∧ H[i']? = some (.inst C fs) ∧ fs.lookup (so "is_name") = none ∧ (∀ P, methOk (kFrag P) C (so "is_name") f = true) ∧ LV c n q as ρ H (fun xs H2 => CJ c n (.ref f) (.obj i' :: xs) H2 R X) X :=
 ⟨i, 602, _, 528, rfl, hi, (by with_unfolding_all rfl), fun P => by kernel_rfl, h⟩
theorem mt_name (hi : H[i]? = some (.inst 602 (rdF j p nm))) (h : LV c n q as ρ H (fun xs H2 => CJ c n (.ref 535) (.obj i :: xs) H2 R X) X) : ∃ i' C fs f, V.obj i = .obj i' ∧ H[i']? = some (.inst C fs) ∧ fs.lookup (so "name") = none ∧ (∀ P, methOk (kFrag P) C (so "name") f = true) ∧ LV c n q as ρ H (fun xs H2 => CJ c n (.ref f) (.obj i' :: xs) H2 R X) X :=
 ⟨i, 602, _, 535, rfl, hi, (by with_unfolding_all rfl), fun P => by kernel_rfl, h⟩
theorem mt_is_sign (hi : H[i]? = some (.inst 602 (rdF j p nm))) (h : LV c n q as ρ H (fun xs H2 => CJ c n (.ref 550) (.obj i :: xs) H2 R X) X) : ∃ i' C fs f, V.obj i = .obj i' ∧ H[i']? = some (.inst C fs) ∧ fs.lookup (so "is_sign") = none ∧ (∀ P, methOk (kFrag P) C (so "is_sign") f = true) ∧ LV c n q as ρ H (fun xs H2 => CJ c n (.ref f) (.obj i' :: xs) H2 R X) X :=
 ⟨i, 602, _, 550, rfl, hi, (by with_unfolding_all rfl), fun P => by kernel_rfl, h⟩
theorem mt_skip_sign (hi : H[i]? = some (.inst 602 (rdF j p nm))) (h : LV c n q as ρ H (fun xs H2 => CJ c n (.ref 557) (.obj i :: xs) H2 R X) X) : ∃ i' C fs f, V.obj i = .obj i' ∧ H[i']? = some (.inst C fs) ∧ fs.lookup (so "skip_sign") = none ∧ (∀ P, methOk (kFrag P) C (so "skip_sign") f = true) ∧ LV c n q as ρ H (fun xs H2 => CJ c n (.ref f) (.obj i' :: xs) H2 R X) X :=
 ⟨i, 602, _, 557, rfl, hi, (by with_unfolding_all rfl), fun P => by kernel_rfl, h⟩
theorem mt_need_sign (hi : H[i]? = some (.inst 602 (rdF j p nm))) (h : LV c n q as ρ H (fun xs H2 => CJ c n (.ref 564) (.obj i :: xs) H2 R X) X) : ∃ i' C fs f, V.obj i = .obj i' ∧ H[i']? = some (.inst C fs) ∧ fs.lookup (so "need_sign") = none ∧ (∀ P, methOk (kFrag P) C (so "need_sign") f = true) ∧ LV c n q as ρ H (fun xs H2 => CJ c n (.ref f) (.obj i' :: xs) H2 R X) X :=
 ⟨i, 602, _, 564, rfl, hi, (by with_unfolding_all rfl), fun P => by kernel_rfl, h⟩
theorem mt_is_number (hi : H[i]? = some (.inst 602 (rdF j p nm))) (h : LV c n q as ρ H (fun xs H2 => CJ c n (.ref 571) (.obj i :: xs) H2 R X) X) : ∃ i' C fs f, V.obj i = .obj i' ∧ H[i']? = some (.inst C fs) ∧ fs.lookup (so "is_number") = none ∧ (∀ P, methOk (kFrag P) C (so "is_number") f = true) ∧ LV c n q as ρ H (fun xs H2 => CJ c n (.ref f) (.obj i' :: xs) H2 R X) X :=
 ⟨i, 602, _, 571, rfl, hi, (by with_unfolding_all rfl), fun P => by kernel_rfl, h⟩
theorem mt_signed (hi : H[i]? = some (.inst 602 (rdF j p nm))) (h : LV c n q as ρ H (fun xs H2 => CJ c n (.ref 578) (.obj i :: xs) H2 R X) X) : ∃ i' C fs f, V.obj i = .obj i' ∧ H[i']? = some (.inst C fs) ∧ fs.lookup (so "signed") = none ∧ (∀ P, methOk (kFrag P) C (so "signed") f = true) ∧ LV c n q as ρ H (fun xs H2 => CJ c n (.ref f) (.obj i' :: xs) H2 R X) X :=
 ⟨i, 602, _, 578, rfl, hi, (by with_unfolding_all rfl), fun P => by kernel_rfl, h⟩
theorem mt_octets (hi : H[i]? = some (.inst 602 (rdF j p nm))) (h : LV c n q as ρ H (fun xs H2 => CJ c n (.ref 599) (.obj i :: xs) H2 R X) X) : ∃ i' C fs f, V.obj i = .obj i' ∧ H[i']? = some (.inst C fs) ∧ fs.lookup (so "octets") = none ∧ (∀ P, methOk (kFrag P) C (so "octets") f = true) ∧ LV c n q as ρ H (fun xs H2 => CJ c n (.ref f) (.obj i' :: xs) H2 R X) X :=
 ⟨i, 602, _, 599, rfl, hi, (by with_unfolding_all rfl), fun P => by kernel_rfl, h⟩
end
theorem Gr.tr {I : List Nat} {H'' : List AO} (x : Gr I H H') (y : Gr I H' H'') : Gr I H H'' := Gr.trans (J := []) x y
noncomputable def isK (ts : List Tk) (k : Nat) (s : Str) : Bool := match ts[k]? with | some t => t.kind == s | none => false
noncomputable def isKW (ts : List Tk) (k : Nat) (s w : Str) : Bool := match ts[k]? with | some t => t.kind == s && t.worth == w | none => false
noncomputable abbrev kSign : Str := so "sign"
noncomputable abbrev kWord : Str := so "word"
noncomputable abbrev kNum : Str := so "number"
section
variable {c : Cx} {n : Nat} {H : List AO} {R : V → List AO → Prop} {X : Nat → List AO → Prop} {i p a : Nat} {ts : List Tk}
theorem c_peek2 (hr : RdAt H i p ts) (h0 : ts[p + a]? = none → R .none H) (h1 : ∀ t o b, ts[p + a]? = some t → H[o]? = some (.inst 192 (tkF t b)) → R (.obj o) H) :
  XV c 0 (bodyOf (clsSt 72 1)) [lv "self" (.obj i), lv "ahead" (.int (a : Int)), gv "len" (.val (.builtin "len"))] H (RetP R) X := by
 refine hr.elim fun j l nm hi hj hl htk => ?_
 have hsm := hr.small
 walk_at "b"
 walk_at "at"
 walk_at "w"
 walk_at "at"
 walk_at "w"
 refine C_lenList hj (by walk_at "o") ?_
 walk_at "w"
 refine ⟨fun hq => ?_, fun hq => ?_⟩
 ·have hlt : p + a < ts.length := by have := of_decide_eq_true hq; walk_at "o"
  obtain ⟨o, b, ho, hH⟩ := htk (p + a) _ (gEg hlt)
  walk_at "s"
  walk_at "at"
  walk_at "w"
  walk_at "at"
  walk_at "w"
  refine S_list (i := p + a) hj ho (by walk_at "o") ?_
  exact h1 _ o b (gEg hlt) hH
 ·have hge : ts.length ≤ p + a := by have := of_decide_eq_false hq; walk_at "o"
  walk_at "s"
  exact h0 (List.getElem?_eq_none hge)
theorem c_peek (hr : RdAt H i p ts) (h0 : ts[p + a]? = none → R .none H) (h1 : ∀ t o b, ts[p + a]? = some t → H[o]? = some (.inst 192 (tkF t b)) → R (.obj o) H) : CJ c 1 (.ref 456) [.obj i, .int (a : Int)] H R X := p_peek (c_peek2 hr h0 h1)
theorem c_peek0 (hr : RdAt H i p ts) (h0 : ts[p]? = none → R .none H) (h1 : ∀ t o b, ts[p]? = some t → H[o]? = some (.inst 192 (tkF t b)) → R (.obj o) H) : CJ c 1 (.ref 456) [.obj i] H R X := p_peek_1 (c_peek2 (a := 0) hr h0 h1)
theorem c_is_done (hr : RdAt H i p ts) (h : R (.bool (decide (ts.length ≤ p))) H) : CJ c 1 (.ref 463) [.obj i] H R X := by
 refine hr.elim fun j l nm hi hj hl htk => ?_
 have hsm := hr.small
 apply p_is_done
 walk_at "b"
 walk_at "at"
 walk_at "w"
 walk_at "at"
 walk_at "w"
 refine C_lenList hj (by walk_at "o") ?_
 walk_at "w"
 rw [hl, show decide ((p : Int) ≥ (ts.length : Int)) = decide (ts.length ≤ p) from by by_cases q : ts.length ≤ p <;> simp [q]]
 exact h
theorem c_is_kind2 {s : Str} (hr : RdAt H i p ts) (h : R (.bool (isK ts (p + a) s)) H) :
  XV c 1 (bodyOf (clsSt 72 5)) [lv "self" (.obj i), lv "kind" (.str s), lv "ahead" (.int (a : Int)), l0 "token"] H (RetP R) X := by
 refine hr.elim fun j l nm hi hj hl htk => ?_
 walk_at "b"
 apply mt_peek hi
 walk_at "w"
 refine c_peek hr (fun h0 => ?_) fun t o b h1 hH => ?_
 ·walk_at "a"
  walk_at "if"
  unfold isK at h
  rw [h0] at h
  exact h
 ·walk_at "a"
  walk_at "if"
  walk_at "w"
  walk_at "at"
  walk_at "w"
  refine A_strEq ?_
  unfold isK at h
  rw [h1] at h
  exact h
theorem c_is_kind {s : Str} (hr : RdAt H i p ts) (h : R (.bool (isK ts (p + a) s)) H) : CJ c 2 (.ref 485) [.obj i, .str s, .int (a : Int)] H R X := p_is_kind (c_is_kind2 hr h)
theorem c_is_kind0 {s : Str} (hr : RdAt H i p ts) (h : R (.bool (isK ts p s)) H) : CJ c 2 (.ref 485) [.obj i, .str s] H R X := p_is_kind_2 (c_is_kind2 (a := 0) hr h)
theorem c_is_sign2 {s : Str} (hr : RdAt H i p ts) (h : R (.bool (isKW ts (p + a) kSign s)) H) :
  XV c 2 (bodyOf (clsSt 72 14)) [lv "self" (.obj i), lv "sign" (.str s), lv "ahead" (.int (a : Int))] H (RetP R) X := by
 refine hr.elim fun j l nm hi hj hl htk => ?_
 walk_at "b"
 apply mt_is_kind hi
 walk_at "w"
 refine c_is_kind hr ?_
 unfold isKW at h
 unfold isK
 cases hk : ts[p + a]? with
 | none =>
  rw [hk] at h
  walk_at "w"
  walk_at "if"
  exact h
 | some t =>
  rw [hk] at h
  dsimp only at h ⊢
  cases hq : (t.kind == kSign) with
  | false =>
   rw [hq] at h
   walk_at "w"
   walk_at "if"
   exact h
  | true =>
   rw [hq] at h
   walk_at "w"
   walk_at "if"
   walk_at "w"
   apply mt_peek hi
   walk_at "w"
   refine C_up (by decide) (c_peek hr (fun h0 => ?_) fun t' o b h1 hH => ?_)
   ·rw [hk] at h0; cases h0
   ·rw [hk] at h1; cases h1
    walk_at "at"
    walk_at "w"
    refine A_strEq ?_
    exact h
theorem c_is_sign {s : Str} (hr : RdAt H i p ts) (h : R (.bool (isKW ts (p + a) kSign s)) H) : CJ c 3 (.ref 550) [.obj i, .str s, .int (a : Int)] H R X := p_is_sign (c_is_sign2 hr h)
theorem c_is_sign0 {s : Str} (hr : RdAt H i p ts) (h : R (.bool (isKW ts p kSign s)) H) : CJ c 3 (.ref 550) [.obj i, .str s] H R X := p_is_sign_2 (c_is_sign2 (a := 0) hr h)
theorem c_take {t : Tk} (hr : RdAt H i p ts) (ht : ts[p]? = some t) (h : ∀ o b H', H'[o]? = some (.inst 192 (tkF t b)) → Gr [i] H H' → RdAt H' i (p + 1) ts → R (.obj o) H') : CJ c 2 (.ref 477) [.obj i] H R X := by
 refine hr.elim fun j l nm hi hj hl htk => ?_
 apply p_take
 walk_at "b"
 apply mt_peek hi
 walk_at "w"
 refine c_peek0 hr (fun h0 => ?_) fun t' o b h1 hH => ?_
 ·rw [ht] at h0; cases h0
 rw [ht] at h1; cases h1
 walk_at "a"
 walk_at "i"
 walk_at "at"
 walk_at "w"
 have mv := hr.move (p' := p + 1) hi
 have ho : i ≠ o := fun q => by subst q; rw [hi] at hH; cases hH
 refine ⟨i, 602, rdF j p nm, rfl, (show (3 : Nat) < 100 by decide), fun P => by kernel_rfl, .inl ⟨hi, ?_⟩⟩
 rw [show fput (rdF j p nm) (so "at") (.int ((p : Int) + 1)) = rdF j (p + 1) nm from fput_rd]
 walk_at "s"
 exact h o b _ (by rw [List.getElem?_set_ne ho]; exact hH) mv.2 mv.1
theorem c_skip_sign {s : Str} (hr : RdAt H i p ts) (h0 : isKW ts p kSign s = false → R (.bool false) H) (h1 : isKW ts p kSign s = true → ∀ H', Gr [i] H H' → RdAt H' i (p + 1) ts → R (.bool true) H') : CJ c 4 (.ref 557) [.obj i, .str s] H R X := by
 refine hr.elim fun j l nm hi hj hl htk => ?_
 apply p_skip_sign
 walk_at "b"
 apply mt_is_sign hi
 walk_at "w"
 refine c_is_sign0 hr ?_
 cases hq : isKW ts p kSign s with
 | false =>
  walk_at "w"
  walk_at "i"
  exact h0 hq
 | true =>
  walk_at "w"
  walk_at "i"
  walk_at "at"
  walk_at "w"
  have mv := hr.move (p' := p + 1) hi
  refine ⟨i, 602, rdF j p nm, rfl, (show (3 : Nat) < 100 by decide), fun P => by kernel_rfl, .inl ⟨hi, ?_⟩⟩
  rw [show fput (rdF j p nm) (so "at") (.int ((p : Int) + 1)) = rdF j (p + 1) nm from fput_rd]
  walk_at "s"
  exact h1 hq _ mv.2 mv.1
end
section
variable {c : Cx} {n : Nat} {H : List AO} {R : V → List AO → Prop} {X : Nat → List AO → Prop} {i p a : Nat} {ts : List Tk}
theorem tok_hand (hr : RdAt H i p ts) {t : Tk} (h : ts[k]? = some t) : isHanded t.pos = true := hr.hand t (mOg h)
theorem min_last (h : 0 < n) : (if (n : Int) - 1 < (p : Int) then (n : Int) - 1 else (p : Int)) = ((if p < n then p else n - 1 : Nat) : Int) := by split <;> split <;> walk_at "o"
theorem last_lt (h : n < 2 ^ 40) (h0 : 0 < n) : ((if p < n then p else n - 1 : Nat) : Int) < 2 ^ 62 := by split <;> walk_at "o"
theorem c_fault {w : Str} {t : Tk} (hr : RdAt H i p ts) (ht : ts[if p < ts.length then p else ts.length - 1]? = some t) (h : R (.obj H.length) (H ++ [.new 72 [(so "what", .str w), (so "at", t.pos)]])) : CJ c 4 (.ref 470) [.obj i, .str w] H R X := by
 refine hr.elim fun j l nm hi hj hl htk => ?_
 have hsm := hr.small
 have hp := tok_hand hr ht
 have hne : 0 < ts.length := Nat.zero_lt_of_lt (gsi.mp ht).1
 apply p_fault
 walk_at "b"
 walk_at "at"
 refine ⟨_, tru_list hj (by walk_at "o"), ?_⟩
 rw [show (!l.isEmpty) = true from by cases l with | nil => simp at hl; walk_at "o" | cons _ _ => rfl]
 walk_at "i"
 walk_at "at"
 walk_at "w"
 walk_at "at"
 walk_at "w"
 walk_at "at"
 walk_at "w"
 refine C_lenList hj (by walk_at "o") ?_
 walk_at "w"
 refine C_min (by decide) ?_
 obtain ⟨o, b, ho, hH⟩ := htk _ _ ht
 rw [hl, min_last hne]
 refine S_listI hj (Int.natCast_nonneg _) (last_lt hsm hne) (x := .obj o) ho ?_
 walk_at "at"
 walk_at "w"
 exact C_fault h
theorem c_need_sign {s : Str} (hr : RdAt H i p ts) (h1 : isKW ts p kSign s = true → ∀ H', Gr [i] H H' → RdAt H' i (p + 1) ts → R .none H')
  (h0 : isKW ts p kSign s = false → s.length < 100 ∧ ∃ t, ts[if p < ts.length then p else ts.length - 1]? = some t ∧ X H.length (H ++ [.exc 72 [(so "what", .str (s ++ so " is asked here")), (so "at", t.pos)]])) : CJ c 6 (.ref 564) [.obj i, .str s] H R X := by
 refine hr.elim fun j l nm hi hj hl htk => ?_
 apply p_need_sign
 walk_at "b"
 apply mt_skip_sign hi
 walk_at "w"
 refine C_up (by decide) (c_skip_sign hr (fun hq => ?_) fun hq H' g r => ?_)
 ·walk_at "w"
  walk_at "if"
  obtain ⟨hs, t, ht, hX⟩ := h0 hq
  refine s_ex_raise (by decide) ?_
  walk_at "w"
  apply mt_fault hi
  walk_at "w"
  refine A_strAdd (by rw [show (so " is asked here").length = 14 by decide +kernel]; simp [sizeLine]; walk_at "o") ?_
  walk_at "w"
  refine C_up (by decide) (c_fault hr ht ?_)
  refine ⟨H.length, 72, _, rfl, Nat.le_refl _, get_last, fun P => by kernel_rfl, ?_⟩
  rw [List.set_append_right _ _ (Nat.le_refl _), Nat.sub_self]
  exact hX
 ·walk_at "w"
  walk_at "if"
  walk_at "st"
  exact h1 hq _ g r
end
structure WordOk (w : Str) : Prop where
 split : Txt.split w (so " ") = [w]
 sz : w.length ≤ sizeLine
 sz2 : (Builtin.Str.partsBetween w (Builtin.Str.occurrences w (so " ") 0 w.length (w.length + 1)) (so " ").length).length ≤ sizeLine
theorem ok_all : WordOk (so "ALL") := ⟨by decide +kernel, by decide +kernel, by decide +kernel⟩
theorem ok_of : WordOk (so "OF") := ⟨by decide +kernel, by decide +kernel, by decide +kernel⟩
theorem ok_in : WordOk (so "IN") := ⟨by decide +kernel, by decide +kernel, by decide +kernel⟩
theorem sp_one : ((so " ").length == 0) = false := by decide +kernel
section
variable {c : Cx} {n : Nat} {H : List AO} {R : V → List AO → Prop} {X : Nat → List AO → Prop} {i p a : Nat} {ts : List Tk}
theorem c_is_word {w : Str} (hr : RdAt H i p ts) (hw : WordOk w) (h : ∀ H', Gr [] H H' → R (.bool (isKW ts p kWord w)) H') : CJ c 3 (.ref 492) [.obj i, .str w] H R X := by
 refine hr.elim fun j l nm hi hj hl htk => ?_
 apply p_is_word
 walk_at "b"
 walk_at "asg"
 walk_at "for"
 apply I_list
 walk_at "w"
 refine C_split sp_one hw.sz hw.sz2 ?_
 rw [hw.split]
 have g0 : Gr [] H (H ++ [.list (List.map V.str [w])]) := Gr.push0 _
 have hr' := hr.gr g0
 have hi' := g0.get0 hi
 have hh := h _ g0
 refine ⟨_, _, rfl, get_last, ?_⟩
 refine ⟨fun k ρ1 H1 => H1 = H ++ [.list (List.map V.str [w])] ∧ ((k = 0 ∧ ρ1 = [lv "self" (.obj i), lv "words" (.str w), lv "ahead" (.int 0), l0 "word"]) ∨ (k = 1 ∧ isKW ts p kWord w = true ∧ ρ1 = [lv "self" (.obj i), lv "words" (.str w), lv "ahead" (.int 1), lv "word" (.str w)])), ⟨rfl, .inl ⟨rfl, rfl⟩⟩, ?_, ?_⟩
 ·rintro k y ρ1 H2 hy ⟨rfl, hk⟩ hli
  have hk0 : k < 1 := (gsi.mp hy).1
  rcases hk with ⟨rfl, rfl⟩ | ⟨rfl, _⟩
  ·obtain rfl : V.str w = y := Option.some.inj hy
   walk_at "a"
   apply mt_is_kind hi'
   walk_at "w"
   refine C_up (by decide) (c_is_kind (a := 0) hr' ?_)
   unfold isKW at hh ⊢
   unfold isK
   cases hk : ts[p]? with
   | none =>
    rw [hk] at hh
    dsimp only
    walk_at "w"
    walk_at "if"
    walk_at "i"
    exact hh
   | some t =>
    rw [hk] at hh
    dsimp only at hh ⊢
    cases hq : (t.kind == kWord) with
    | false =>
     rw [hq] at hh
     walk_at "w"
     walk_at "if"
     walk_at "i"
     exact hh
    | true =>
     rw [hq] at hh
     walk_at "w"
     walk_at "if"
     walk_at "w"
     apply mt_peek hi'
     walk_at "w"
     refine C_up (by decide) (c_peek (a := 0) hr' (fun h0 => ?_) fun t' o b h1 hH => ?_)
     ·rw [Nat.add_zero, hk] at h0; cases h0
     ·rw [Nat.add_zero, hk] at h1; cases h1
      walk_at "at"
      walk_at "w"
      refine A_strNotEq ?_
      walk_at "w"
      cases hqq : (t.worth == w) with
      | false =>
       rw [hqq] at hh
       rw [show (t.worth != w) = true from by rw [bne, hqq]; rfl]
       walk_at "if"
       walk_at "w"
       walk_at "i"
       exact hh
      | true =>
       rw [show (t.worth != w) = false from by rw [bne, hqq]; rfl]
       walk_at "if"
       walk_at "w"
       walk_at "i"
       walk_at "asg"
       walk_at "st"
       exact ⟨⟨rfl, .inr ⟨rfl, by first | rfl | trivial, rfl⟩⟩, hli⟩
  ·walk_at "o"
 ·rintro ρ1 H2 ⟨rfl, hk⟩
  rcases hk with ⟨h0, _⟩ | ⟨_, hT, rfl⟩
  ·cases h0
  ·rw [hT] at hh
   walk_at "s"
   exact hh
end
noncomputable def resd (w : Str) : Bool := !(Builtin.Str.occurrences resS (so " " ++ w ++ so " ") 0 resS.length 1).isEmpty
section
variable {c : Cx} {n : Nat} {H : List AO} {R : V → List AO → Prop} {X : Nat → List AO → Prop} {i p a : Nat} {ts : List Tk}
theorem c_skip {w : Str} (hr : RdAt H i p ts) (hw : WordOk w) (h0 : isKW ts p kWord w = false → ∀ H', Gr [] H H' → R (.bool false) H') (h1 : isKW ts p kWord w = true → ∀ H', Gr [i] H H' → RdAt H' i (p + 1) ts → R (.bool true) H') : CJ c 4 (.ref 499) [.obj i, .str w] H R X := by
 refine hr.elim fun j l nm hi hj hl htk => ?_
 apply p_skip
 walk_at "b"
 apply mt_is_word hi
 walk_at "w"
 refine c_is_word hr hw fun H1 g1 => ?_
 have hi1 := g1.get0 hi
 have hr1 := hr.gr g1
 cases hq : isKW ts p kWord w with
 | false =>
  walk_at "w"
  walk_at "i"
  exact h0 hq _ g1
 | true =>
  walk_at "w"
  walk_at "i"
  walk_at "at"
  walk_at "w"
  refine C_split sp_one hw.sz hw.sz2 ?_
  rw [hw.split]
  walk_at "w"
  refine C_lenList (l := List.map V.str [w]) get_last (by simp) ?_
  walk_at "w"
  have g2 : Gr [] H1 (H1 ++ [.list (List.map V.str [w])]) := Gr.push0 _
  have hi2 := g2.get0 hi1
  have mv := (hr1.gr g2).move (p' := p + 1) hi2
  refine ⟨i, 602, rdF j p nm, rfl, (show (3 : Nat) < 100 by decide), fun P => by kernel_rfl, .inl ⟨hi2, ?_⟩⟩
  rw [show fput (rdF j p nm) (so "at") (.int ((p : Int) + ((List.map V.str [w]).length : Int))) = rdF j (p + 1) nm from fput_rd]
  walk_at "s"
  exact h1 hq _ ((g1.tr g2).nil.tr mv.2) mv.1
theorem ofin_split : Txt.split (so "OF IN") (so " ") = [so "OF", so "IN"] := by decide +kernel
theorem c_one_of (hr : RdAt H i p ts) (hO : isKW ts p kWord (so "OF") = true → ∀ H', Gr [i] H H' → RdAt H' i (p + 1) ts → R (.str (so "OF")) H')
  (hI : isKW ts p kWord (so "IN") = true → ∀ H', Gr [i] H H' → RdAt H' i (p + 1) ts → R (.str (so "IN")) H')
  (h0 : isKW ts p kWord (so "OF") = false → isKW ts p kWord (so "IN") = false → ∀ H', Gr [] H H' → R (.str (so "")) H') : CJ c 5 (.ref 513) [.obj i, .str (so "OF IN")] H R X := by
 refine hr.elim fun j l nm hi hj hl htk => ?_
 apply p_one_of
 walk_at "body"
 walk_at "for"
 apply I_list
 walk_at "w"
 refine C_split sp_one (by decide +kernel) (by decide +kernel) ?_
 rw [ofin_split]
 refine ⟨_, _, rfl, get_last, ?_⟩
 have g0 : Gr [] H (H ++ [.list (List.map V.str [so "OF", so "IN"])]) := Gr.push0 _
 refine ⟨fun k ρ1 H1 => Gr [] H H1 ∧ (k = 0 ∨ isKW ts p kWord (so "OF") = false) ∧ (k ≤ 1 ∨ isKW ts p kWord (so "IN") = false) ∧ ∃ f, ρ1 = [lv "self" (.obj i), lv "words" (.str (so "OF IN")), lo "word" f], ⟨g0, .inl rfl, .inl (by decide), none, rfl⟩, ?_, ?_⟩
 ·rintro k y ρ1 H2 hy ⟨g2, hk0, hk1, f, rfl⟩ hli
  have hr2 := hr.gr g2
  have hi2 := g2.get0 hi
  have hl2 := hli _ rfl
  have hlt := get_lt hl2
  have hne : ∀ {o : AO}, H.length ≠ i := fun q => by have := get_lt hi; walk_at "o"
  have hk : k = 0 ∨ k = 1 := by have := (gsi.mp hy).1; simp at this; walk_at "o"
  rcases hk with rfl | rfl
  ·obtain rfl : V.str (so "OF") = y := Option.some.inj hy
   walk_at "a"
   apply mt_skip hi2
   walk_at "w"
   refine c_skip hr2 ok_of (fun hq H3 g3 => ?_) fun hq H3 g3 r3 => ?_
   ·walk_at "w"
    walk_at "if"
    walk_at "st"
    have hli3 : LiOk (some H.length) (List.map V.str [so "OF", so "IN"]) H3 := fun j' e => by cases e; exact g3.get0 hl2
    exact ⟨⟨g2.tr g3, .inr hq, .inl (by decide), _, rfl⟩, hli3⟩
   ·walk_at "w"
    walk_at "i"
    exact hO hq _ (g2.nil.tr g3) r3
  ·obtain rfl : V.str (so "IN") = y := Option.some.inj hy
   walk_at "a"
   apply mt_skip hi2
   walk_at "w"
   refine c_skip hr2 ok_in (fun hq H3 g3 => ?_) fun hq H3 g3 r3 => ?_
   ·walk_at "w"
    walk_at "if"
    walk_at "st"
    have hli3 : LiOk (some H.length) (List.map V.str [so "OF", so "IN"]) H3 := fun j' e => by cases e; exact g3.get0 hl2
    exact ⟨⟨g2.tr g3, .inr (hk0.resolve_left (by decide)), .inr hq, _, rfl⟩, hli3⟩
   ·walk_at "w"
    walk_at "i"
    exact hI hq _ (g2.nil.tr g3) r3
 ·rintro ρ1 H2 ⟨g2, hk0, hk1, f, rfl⟩
  walk_at "s"
  exact h0 (hk0.resolve_left (by decide)) (hk1.resolve_left (by decide)) _ g2
end
noncomputable def isNum (ts : List Tk) (p : Nat) : Bool := if isKW ts p kSign (so "+") || isKW ts p kSign (so "-") then isK ts (p + 1) kNum else isK ts p kNum
noncomputable def NumTok (w : Str) (u s : Int) : Prop := ∀ (c : Cx) (H : List AO) (R : V → List AO → Prop) (X : Nat → List AO → Prop), R (.tup [.int u, .int s]) H → CJ c 3 (.ref 131) [.str w] H R X
section
variable {c : Cx} {n : Nat} {H : List AO} {R : V → List AO → Prop} {X : Nat → List AO → Prop} {i p a : Nat} {ts : List Tk}
theorem c_is_reserved {w : Str} {rb : Bool} (hs : w.length ≤ 1000) (hrb : resd w = rb) (h : R (.bool rb) H) : CJ c 1 (.ref 428) [.str w] H R X := by
 apply p_is_reserved
 walk_at "b"
 have e : (so " ").length = 1 := by decide +kernel
 refine A_strAdd (by rw [e]; simp [sizeLine]; walk_at "o") ?_
 walk_at "w"
 refine A_strAdd (by rw [strLen_append, e]; simp [sizeLine]; walk_at "o") ?_
 walk_at "w"
 refine A_strIn ?_
 unfold resd at hrb
 rw [hrb]
 exact h
theorem c_is_name {t : Tk} {rb : Bool} (hr : RdAt H i p ts) (ht : ts[p]? = some t) (hs : t.worth.length ≤ 1000) (hrb : resd t.worth = rb) (h : R (.bool (t.kind == kWord && !rb)) H) : CJ c 3 (.ref 528) [.obj i] H R X := by
 refine hr.elim fun j l nm hi hj hl htk => ?_
 apply p_is_name_1
 walk_at "b"
 apply mt_is_kind hi
 walk_at "w"
 refine c_is_kind (a := 0) hr ?_
 unfold isK
 rw [Nat.add_zero, ht]
 dsimp only
 cases hq : (t.kind == kWord) with
 | false =>
  rw [hq] at h
  walk_at "w"
  walk_at "if"
  exact h
 | true =>
  rw [hq] at h
  walk_at "w"
  walk_at "if"
  walk_at "w"
  apply mt_peek hi
  walk_at "w"
  refine C_up (by decide) (c_peek (a := 0) hr (fun h0 => ?_) fun t' o b h1 hH => ?_)
  ·rw [Nat.add_zero, ht] at h0; cases h0
  ·rw [Nat.add_zero, ht] at h1; cases h1
   walk_at "at"
   walk_at "w"
   refine C_up (by decide) (c_is_reserved hs hrb ?_)
   walk_at "w"
   exact h
theorem c_is_name_end (hr : RdAt H i p ts) (ht : ts[p]? = none) (h : R (.bool false) H) : CJ c 3 (.ref 528) [.obj i] H R X := by
 refine hr.elim fun j l nm hi hj hl htk => ?_
 apply p_is_name_1
 walk_at "b"
 apply mt_is_kind hi
 walk_at "w"
 refine c_is_kind (a := 0) hr ?_
 unfold isK
 rw [Nat.add_zero, ht]
 dsimp only
 walk_at "w"
 walk_at "if"
 exact h
theorem c_name {t : Tk} (hr : RdAt H i p ts) (ht : ts[p]? = some t) (hs : t.worth.length ≤ 1000) (hk : t.kind = kWord) (hn : resd t.worth = false) (h : ∀ H', Gr [i] H H' → RdAt H' i (p + 1) ts → R (.str t.worth) H') : CJ c 4 (.ref 535) [.obj i] H R X := by
 refine hr.elim fun j l nm hi hj hl htk => ?_
 apply p_name
 walk_at "b"
 apply mt_is_name hi
 walk_at "w"
 refine c_is_name hr ht hs hn ?_
 rw [hk, beq_self_eq_true]
 walk_at "w"
 walk_at "i"
 apply mt_take hi
 walk_at "w"
 refine C_up (by decide) (c_take hr ht fun o b H' ho g r => ?_)
 walk_at "at"
 exact h _ g r
theorem c_name_end {t : Tk} (hr : RdAt H i p ts) (ht : ts[p]? = none) (hl : ts[ts.length - 1]? = some t) (hX : X H.length (H ++ [.exc 72 [(so "what", .str (so "a name is asked here")), (so "at", t.pos)]])) : CJ c 5 (.ref 535) [.obj i] H R X := by
 refine hr.elim fun j l nm hi hj hll htk => ?_
 apply p_name
 walk_at "b"
 apply mt_is_name hi
 walk_at "w"
 refine C_up (by decide) (c_is_name_end hr ht ?_)
 walk_at "w"
 walk_at "if"
 refine s_ex_raise (by decide) ?_
 walk_at "w"
 apply mt_fault hi
 walk_at "w"
 have hge : ts.length ≤ p := by
  rcases Nat.lt_or_ge p ts.length with q | q
  ·rw [gEg q] at ht; cases ht
  ·exact q
 refine C_up (by decide) (c_fault hr (by rw [if_neg (by walk_at "o")]; exact hl) ?_)
 refine ⟨H.length, 72, _, rfl, Nat.le_refl _, get_last, fun P => by kernel_rfl, ?_⟩
 rw [List.set_append_right _ _ (Nat.le_refl _), Nat.sub_self]
 exact hX
theorem c_is_number (hr : RdAt H i p ts) (h : R (.bool (isNum ts p)) H) : CJ c 4 (.ref 571) [.obj i] H R X := by
 refine hr.elim fun j l nm hi hj hl htk => ?_
 apply p_is_number
 walk_at "b"
 apply mt_is_sign hi
 walk_at "w"
 refine c_is_sign0 hr ?_
 unfold isNum at h
 cases h1 : isKW ts p kSign (so "+") with
 | true =>
  rw [h1] at h
  walk_at "w"
  walk_at "if"
  walk_at "i"
  apply mt_is_kind hi
  walk_at "w"
  refine C_up (by decide) (c_is_kind (a := 1) hr ?_)
  exact h
 | false =>
  rw [h1] at h
  walk_at "w"
  walk_at "if"
  walk_at "w"
  apply mt_is_sign hi
  walk_at "w"
  refine c_is_sign0 hr ?_
  cases h2 : isKW ts p kSign (so "-") with
  | true =>
   rw [h2] at h
   walk_at "w"
   walk_at "if"
   walk_at "i"
   apply mt_is_kind hi
   walk_at "w"
   refine C_up (by decide) (c_is_kind (a := 1) hr ?_)
   exact h
  | false =>
   rw [h2] at h
   walk_at "w"
   walk_at "if"
   walk_at "w"
   walk_at "i"
   apply mt_is_kind hi
   walk_at "w"
   refine C_up (by decide) (c_is_kind0 hr ?_)
   exact h
theorem c_signed {t : Tk} {u s : Int} (hr : RdAt H i p ts) (ht : ts[p]? = some t) (hk : t.kind = kNum) (hn : NumTok t.worth u s) (h : ∀ H', Gr [i] H H' → RdAt H' i (p + 1) ts → R (.tup [.int u, .int s]) H') : CJ c 6 (.ref 578) [.obj i] H R X := by
 refine hr.elim fun j l nm hi hj hl htk => ?_
 have e1 : ∀ x, isKW ts p kSign x = false := fun x => by unfold isKW; rw [ht]; dsimp only; rw [hk, show (kNum == kSign) = false by decide +kernel]; rfl
 have e2 : isNum ts p = true := by unfold isNum; rw [e1, e1]; unfold isK; rw [ht]; dsimp only; rw [hk, beq_self_eq_true]; rfl
 apply p_signed
 walk_at "b"
 apply mt_is_number hi
 walk_at "w"
 refine C_up (by decide) (c_is_number hr ?_)
 rw [e2]
 walk_at "w"
 walk_at "i"
 apply mt_skip_sign hi
 walk_at "w"
 refine C_up (by decide) (c_skip_sign hr (fun _ => ?_) fun hq => by rw [e1] at hq; cases hq)
 walk_at "a"
 walk_at "i"
 apply mt_skip_sign hi
 walk_at "w"
 refine C_up (by decide) (c_skip_sign hr (fun _ => ?_) fun hq => by rw [e1] at hq; cases hq)
 walk_at "s"
 apply mt_take hi
 walk_at "w"
 refine C_up (by decide) (c_take hr ht fun o b H' ho g r => ?_)
 walk_at "at"
 walk_at "w"
 refine C_up (by decide) (hn _ _ _ _ ?_)
 walk_at "a"
 walk_at "if"
 walk_at "w"
 exact h _ g r
theorem c_signed_neg {t0 t : Tk} {u s : Int} (hr : RdAt H i p ts) (ht0 : ts[p]? = some t0) (hk0 : t0.kind = kSign) (hw0 : t0.worth = so "-") (ht : ts[p + 1]? = some t) (hk : t.kind = kNum) (hn : NumTok t.worth u s) (h : ∀ H', Gr [i] H H' → RdAt H' i (p + 1 + 1) ts → R (.tup [.int (-u), .int s]) H') : CJ c 6 (.ref 578) [.obj i] H R X := by
 refine hr.elim fun j l nm hi hj hl htk => ?_
 have e1 : isKW ts p kSign (so "-") = true := by unfold isKW; rw [ht0]; dsimp only; rw [hk0, hw0, beq_self_eq_true, beq_self_eq_true]; rfl
 have e2 : isNum ts p = true := by unfold isNum; rw [e1, Bool.or_true, if_pos rfl]; unfold isK; rw [ht]; dsimp only; rw [hk, beq_self_eq_true]
 apply p_signed
 walk_at "b"
 apply mt_is_number hi
 walk_at "w"
 refine C_up (by decide) (c_is_number hr ?_)
 rw [e2]
 walk_at "w"
 walk_at "i"
 apply mt_skip_sign hi
 walk_at "w"
 refine C_up (by decide) (c_skip_sign hr (fun hq => by rw [e1] at hq; cases hq) fun _ H1 g1 r1 => ?_)
 refine r1.elim fun j' l' nm' hi' hj' hl' htk' => ?_
 walk_at "a"
 walk_at "i"
 apply mt_take hi'
 walk_at "w"
 refine C_up (by decide) (c_take r1 ht fun o b H' ho g r => ?_)
 walk_at "at"
 walk_at "w"
 refine C_up (by decide) (hn _ _ _ _ ?_)
 walk_at "a"
 walk_at "if"
 walk_at "w"
 refine C_up (by decide) (c_negated ?_)
 exact h _ (g1.tr g) r
end
noncomputable def compB (sc : Scope) (x : Str) (ρc : Loc) : Bool :=
 decide (sc.kind = .function) && sc.names.all (fun y => decide (y.2 ≠ .cell) && (decide (y.2 ≠ .local) || decide (sc.names.lookup y.1 = some .local)) && (decide (y.2 ≠ .free) || ρc.any (fun e => e.1 == y.1 && match e.2.1 with | .cell => true | _ => false)))
  && decide (sc.names.lookup x = some .local) && decide ((x :: ρc.map (·.1)).Nodup) && ρc.all (fun e => match e.2.1 with | .glob => decide (sc.names.lookup e.1 = some .globalImplicit) | .cell => decide (sc.names.lookup e.1 = some .free) | .loc => false)
noncomputable def GAll (c : Cx) : Loc → Prop
 | [] => True
 | (x, .glob, some y) :: r => GOk c x y ∧ GAll c r
 | _ :: r => GAll c r
noncomputable def CAll (ρ : Loc) : Loc → Prop
 | [] => True
 | (x, .cell, y) :: r => (x, Kd.cell, y) ∈ ρ ∧ CAll ρ r
 | _ :: r => CAll ρ r
theorem GAll.get : ∀ {ρc : Loc}, GAll c ρc → ∀ e ∈ ρc, e.2.1 = .glob → ∀ y, e.2.2 = some y → GOk c e.1 y
 | [], _, e, he, _, _, _ => nomatch he
 | (x, .glob, some v) :: r, h, e, he, h1, y, h2 => by
  rcases List.mem_cons.mp he with q | q
  ·subst q; cases h2; exact h.1
  ·exact GAll.get h.2 e q h1 y h2
 | (x, .glob, none) :: r, h, e, he, h1, y, h2 => by
  rcases List.mem_cons.mp he with q | q
  ·subst q; cases h2
  ·exact GAll.get (ρc := r) h e q h1 y h2
 | (x, .loc, v) :: r, h, e, he, h1, y, h2 => by
  rcases List.mem_cons.mp he with q | q
  ·subst q; cases h1
  ·exact GAll.get (ρc := r) h e q h1 y h2
 | (x, .cell, v) :: r, h, e, he, h1, y, h2 => by
  rcases List.mem_cons.mp he with q | q
  ·subst q; cases h1
  ·exact GAll.get (ρc := r) h e q h1 y h2
theorem CAll.get : ∀ {ρc : Loc}, CAll ρ ρc → ∀ e ∈ ρc, e.2.1 = .cell → e ∈ ρ
 | [], _, e, he, _ => nomatch he
 | (x, .cell, v) :: r, h, e, he, h1 => by
  rcases List.mem_cons.mp he with q | q
  ·subst q; exact h.1
  ·exact CAll.get h.2 e q h1
 | (x, .loc, v) :: r, h, e, he, h1 => by
  rcases List.mem_cons.mp he with q | q
  ·subst q; cases h1
  ·exact CAll.get (ρc := r) h e q h1
 | (x, .glob, v) :: r, h, e, he, h1 => by
  rcases List.mem_cons.mp he with q | q
  ·subst q; cases h1
  ·exact CAll.get (ρc := r) h e q h1
theorem compOk (hb : compB sc x ρc = true) (hg : GAll c ρc) (hc : CAll ρ ρc) : CompOk c sc x ρ ρc := by
 unfold compB at hb
 simp only [Bool.and_eq_true, decide_eq_true_eq, List.all_eq_true, Bool.or_eq_true, List.any_eq_true] at hb
 obtain ⟨⟨⟨⟨h1, h2⟩, h3⟩, h4⟩, h5⟩ := hb
 refine ⟨h1, fun y hy => (h2 y hy).1.1, fun y hy hl => ((h2 y hy).1.2).resolve_left (fun q => q hl), h3, h4, fun e he => ?_, fun y hy hf => ?_⟩
 ·have h6 := h5 e he
  cases hk : e.2.1 with
  | loc => rw [hk] at h6; cases h6
  | glob => rw [hk] at h6; exact .inl ⟨rfl, of_decide_eq_true h6, hg.get e he hk⟩
  | cell => rw [hk] at h6; exact .inr ⟨hc.get e he hk, rfl, of_decide_eq_true h6⟩
 ·obtain ⟨e, he, h7⟩ := ((h2 y hy).2).resolve_left (fun q => q hf)
  have h8 : e.1 = y.1 := by simpa using h7.1
  cases hk : e.2.1 with
  | loc => rw [hk] at h7; cases h7.2
  | glob => rw [hk] at h7; cases h7.2
  | cell =>
   have := hc.get e he hk
   refine ⟨e.2.2, ?_⟩
   rw [← h8, ← hk]
   exact this
section
variable {c : Cx} {n : Nat} {H : List AO} {R : V → List AO → Prop} {X : Nat → List AO → Prop} {i p a : Nat} {ts : List Tk}
noncomputable def natI (l : List Nat) : List Int := l.map Int.ofNat
theorem c_octets_of_text {l : List Nat} (hl : ∀ ch ∈ l, ch < 256) (hs : l.length ≤ 1000) (h : ∀ H', Gr [] H H' → R (.bytes (byteArr (natI l))) H') : CJ c 2 (.ref 433) [.str (S l)] H R X := by
 have hsz : l.length ≤ sizeLine := by simp [sizeLine]; walk_at "o"
 apply p_octets_of_text
 walk_at "body"
 refine X_comp0 (ρc := [gv "ord" (.val (.builtin "ord"))]) (compOk (by walk_at "r") ⟨g_ord, trivial⟩ trivial) (by decide) (by walk_at "ir") (by walk_at "r") (by walk_at "r") ⟨_, by walk_at "mem"⟩ ?_
 apply I_str
 walk_at "w"
 rw [S_cps]
 refine ⟨by rw [lMp]; exact hsz, fun k acc H1 => H1 = H ∧ acc = (natI (l.take k)).map V.int, ⟨rfl, rfl⟩, ?_, ?_⟩
 ·rintro k y acc H2 hy ⟨rfl, rfl⟩ hli
  rw [List.getElem?_map, Option.map_eq_some_iff] at hy
  obtain ⟨ch, hch, rfl⟩ := hy
  walk_at "w"
  apply C_ord
  refine ⟨⟨rfl, ?_⟩, hli⟩
  rw [List.take_add_one, hch]
  simp [natI]
 ·rintro acc H2 ⟨rfl, rfl⟩ ha
  rw [lMp, List.take_length]
  walk_at "a"
  refine E_comp1 (ρc := [gv "MOST_OCTET" (.int 255)]) (compOk (by walk_at "r") ⟨g_MOST_OCTET, trivial⟩ trivial) (by decide) (by walk_at "ir") ?_
  apply I_list
  walk_at "w"
  refine ⟨_, _, rfl, get_last, by simp [natI]; exact hsz, fun k acc H1 => H1 = H2 ++ [.list ((natI l).map V.int)] ∧ acc = [], ⟨rfl, rfl⟩, ?_, ?_⟩
  ·rintro k y acc H3 hy ⟨rfl, rfl⟩ hli
   have hm := mOg hy
   simp only [natI, List.mem_map] at hm
   obtain ⟨a, ⟨ch, hch, rfl⟩, rfl⟩ := hm
   have := hl ch hch
   walk_at "w"
   rw [decide_eq_false (show ¬ (Int.ofNat ch > 255) by simp; walk_at "o")]
   exact ⟨fun _ => ⟨⟨rfl, rfl⟩, hli⟩, fun q => by cases q⟩
  ·rintro acc H3 ⟨rfl, rfl⟩ ha2
   refine ⟨false, tru_list (l := []) get_last (by simp), ?_⟩
   walk_at "i"
   refine C_bytesList (n := 1) (ns := natI l) (by decide) ((Gr.push0 _).get0 get_last) (fun k hk => ?_) (by simp [natI]; exact hsz) ?_
   ·simp only [natI, List.mem_map] at hk
    obtain ⟨ch, hch, rfl⟩ := hk
    have := hl ch hch
    simp; walk_at "o"
   ·exact h _ ((Gr.push0 _).push _)
theorem c_octets {t : Tk} {l : List Nat} (hr : RdAt H i p ts) (ht : ts[p]? = some t) (hk : t.kind = so "literal") (hw : t.worth = S l) (hl : ∀ ch ∈ l, ch < 256) (hs : l.length ≤ 1000) (h : ∀ H', Gr [i] H H' → RdAt H' i (p + 1) ts → R (.bytes (byteArr (natI l))) H') : CJ c 3 (.ref 599) [.obj i] H R X := by
 refine hr.elim fun j l' nm hi hj hll htk => ?_
 apply p_octets
 walk_at "b"
 apply mt_is_kind hi
 walk_at "w"
 refine C_up (by decide) (c_is_kind0 hr ?_)
 unfold isK
 rw [ht]
 dsimp only
 rw [hk, beq_self_eq_true]
 walk_at "w"
 walk_at "i"
 apply mt_peek hi
 walk_at "w"
 refine C_up (by decide) (c_peek0 hr (fun h0 => by rw [ht] at h0; cases h0) fun t' o b h1 hH => ?_)
 rw [ht] at h1; cases h1
 walk_at "at"
 rw [hw]
 walk_at "w"
 refine c_octets_of_text hl hs fun H1 g1 => ?_
 have hi1 := g1.get0 hi
 have hr1 := hr.gr g1
 walk_at "a"
 walk_at "i"
 walk_at "at"
 walk_at "w"
 have mv := hr1.move (p' := p + 1) hi1
 refine ⟨i, 602, rdF j p nm, rfl, (show (3 : Nat) < 100 by decide), fun P => by kernel_rfl, .inl ⟨hi1, ?_⟩⟩
 rw [show fput (rdF j p nm) (so "at") (.int ((p : Int) + 1)) = rdF j (p + 1) nm from fput_rd]
 walk_at "s"
 exact h _ (g1.nil.tr mv.2) mv.1
theorem c_Reader {j : Nat} (hj : H[j]? = some (.list l)) (hl : l.length = ts.length) (hsm : ts.length < 2 ^ 40) (hh : ∀ t ∈ ts, isHanded t.pos = true) (htk : ∀ (k : Nat) (t : Tk), ts[k]? = some t → ∃ (o : Nat) (b : V), l[k]? = some (.obj o) ∧ H[o]? = some (.inst 192 (tkF t b))) (h : ∀ H', Gr [] H H' → RdAt H' H.length 0 ts → R (.obj H.length) H') : CJ c 2 (.ref 602) [.obj j] H R X := by
 refine C_make (fI := 448) (fun P => by kernel_rfl) (fun P => by kernel_rfl) (fun P => by kernel_rfl) ?_
 apply pc_reader_init_2
 walk_at "b"
 refine ⟨H.length, 602, [], rfl, (by decide), fun P => by kernel_rfl, .inl ⟨get_last, ?_⟩⟩
 walk_at "s"
 refine ⟨H.length, 602, _, rfl, Nat.lt_of_le_of_lt (Nat.le_of_eq (show _ = 1 by kernel_rfl)) (by decide), fun P => by kernel_rfl, .inl ⟨by rw [gSs (by simp)], ?_⟩⟩
 walk_at "s"
 refine ⟨H.length, 602, _, rfl, Nat.lt_of_le_of_lt (Nat.le_of_eq (show _ = 2 by kernel_rfl)) (by decide), fun P => by kernel_rfl, .inl ⟨by rw [gSs (by simp)], ?_⟩⟩
 walk_at "st"
 have e : fput (fput (fput [] (so "tokens") (.obj j)) (so "at") (.int 0)) (so "named") .any = rdF j 0 .any := by
  have e1 : (so "tokens" == so "at") = false := by decide +kernel
  have e2 : (so "tokens" == so "named") = false := by decide +kernel
  have e3 : (so "at" == so "named") = false := by decide +kernel
  simp only [rdF, fput, e1, e2, e3, Bool.false_eq_true, if_false]
  rfl
 rw [e, List.set_set, List.set_set]
 have g : Gr [] H ((H ++ [AO.inst 602 []]).set H.length (AO.inst 602 (rdF j 0 .any))) := (Gr.push0 _).set _ (.inl (Nat.le_refl _))
 refine ⟨rfl, h _ g ⟨⟨j, l, .any, by rw [gSs (by simp)], g.get0 hj, hl, fun k t hk => ?_⟩, hsm, hh⟩⟩
 obtain ⟨o, b, h1, h2⟩ := htk k t hk
 exact ⟨o, b, h1, g.get0 h2⟩
end
theorem ite_n {α : Type} {c : Prop} [Decidable c] {a b : α} (h : b = a) : (if c then a else b) = a := (congrArg _ h).trans (ite_self a)
theorem swap_none {ts vs : List Expr} {k' : Nat} (hf : vs.all (foldedForSure 8) = true) (env : Env) : swappedStores [.Tuple ts k tp] (.Tuple vs k' p) env = pure none :=
 ite_n (ite_n (ite_n (if_pos hf)))
set_option backward.match.sparseCases false in
noncomputable def wBody : Stmt → List Stmt
 | .While _ b _ _ => b
 | _ => []
noncomputable def scanL : List Tk → Nat → Bool
 | [], _ => false
 | _ :: _, 0 => false
 | t :: r, d + 1 => if t.kind == kSign && t.worth == so "(" then scanL r (d + 2) else if t.kind == kSign && t.worth == so ")" then scanL r d else if d == 0 && (t.kind == kSign && t.worth == so ":") then true else scanL r (d + 1)
theorem scanL_zero (l : List Tk) : scanL l 0 = false := by cases l <;> rfl
theorem scanL_succ (t : Tk) (r : List Tk) (d : Nat) : scanL (t :: r) (d + 1) = if t.kind == kSign && t.worth == so "(" then scanL r (d + 2) else if t.kind == kSign && t.worth == so ")" then scanL r d else if d == 0 && (t.kind == kSign && t.worth == so ":") then true else scanL r (d + 1) := rfl
noncomputable def partNext (ts : List Tk) (p : Nat) : Bool := if isKW ts p kSign (so "(") then scanL (ts.drop (p + 1)) 1 else false
section
variable {c : Cx} {n : Nat} {H : List AO} {R : V → List AO → Prop} {X : Nat → List AO → Prop} {i p a : Nat} {ts : List Tk}
theorem isKW_at {t : Tk} {s w : Str} (h : ts[k]? = some t) : isKW ts k s w = (t.kind == s && t.worth == w) := by unfold isKW; rw [h]
theorem drop_at {t : Tk} (h : ts[k]? = some t) : ts.drop k = t :: ts.drop (k + 1) := by
 obtain ⟨h1, h2⟩ := gsi.mp h
 rw [← h2]; exact List.drop_eq_getElem_cons h1
theorem one_beq (d : Nat) : (((d + 1 : Nat) : Int) == 1) = (d == 0) := by cases d <;> simp <;> walk_at "o"
theorem c_is_part_next (hr : RdAt H i p ts) (h : R (.bool (partNext ts p)) H) : CJ c 4 (.ref 355) [.obj i] H R X := by
 refine hr.elim fun j l nm hi hj hl htk => ?_
 apply p_is_part_next
 walk_at "body"
 apply s_asg2c (by decide) (by walk_at "ir") (swap_none (by walk_at "r"))
 refine ⟨_, _, by walk_at "put", by walk_at "put", ?_⟩
 refine X_while (J := fun k ρ1 H1 => H1 = H ∧ ∃ d a : Nat, ρ1 = [lv "reader" (.obj i), lv "depth" (.int (d : Int)), lv "ahead" (.int (a : Int))] ∧ k = ts.length - (p + a) ∧ ((a = 0 ∧ d = 0) ∨ (1 ≤ a ∧ partNext ts p = scanL (ts.drop (p + a)) d))) _ ⟨rfl, 0, 0, rfl, rfl, .inl ⟨rfl, rfl⟩⟩ ?_
 rintro k ρ1 H1 ⟨rfl, d, a, rfl, rfl, hJ⟩
 walk_at "w"
 have turn : (a = 0 ∧ d = 0 ∧ isKW ts p kSign (so "(") = true ∨ 1 ≤ a ∧ 1 ≤ d ∧ partNext ts p = scanL (ts.drop (p + a)) d) →
   XV c 3 (wBody ((bodyOf (stAt 56)).getD 1 default)) [lv "reader" (.obj i), lv "depth" (.int (d : Int)), lv "ahead" (.int (a : Int))] H1 (PW (fun k ρ1 H2 => H2 = H1 ∧ ∃ d a : Nat, ρ1 = [lv "reader" (.obj i), lv "depth" (.int (d : Int)), lv "ahead" (.int (a : Int))] ∧ k = ts.length - (p + a) ∧ ((a = 0 ∧ d = 0) ∨ (1 ≤ a ∧ partNext ts p = scanL (ts.drop (p + a)) d))) (ts.length - (p + a)) (RetP R)) X := by
  intro hT
  walk_at "b"
  apply mt_peek hi
  walk_at "w"
  refine C_up (by decide) (c_peek (a := a) hr (fun h0 => ?_) fun t o b h1 hH => ?_)
  ·walk_at "w"
   walk_at "i"
   have hge : ts.length ≤ p + a := by
    rcases Nat.lt_or_ge (p + a) ts.length with q | q
    ·rw [gEg q] at h0; cases h0
    ·exact q
   have e : partNext ts p = false := by
    rcases hT with ⟨rfl, rfl, q⟩ | ⟨_, _, q⟩
    ·rw [Nat.add_zero] at h0; unfold isKW at q; rw [h0] at q; cases q
    ·rw [q, List.drop_eq_nil_of_le hge]; cases d <;> rfl
   rw [e] at h
   exact h
  ·have hlt : p + a < ts.length := (gsi.mp h1).1
   have hm : ts.length - (p + (a + 1)) < ts.length - (p + a) := Nat.sub_lt_sub_left hlt (Nat.lt_succ_self (p + a))
   walk_at "w"
   walk_at "i"
   apply mt_is_sign hi
   walk_at "w"
   refine c_is_sign (a := a) hr ?_
   rw [isKW_at h1]
   cases q1 : (t.kind == kSign && t.worth == so "(") with
   | true =>
    walk_at "w"
    walk_at "i"
    walk_at "a"
    walk_at "asg"
    walk_at "st"
    refine ⟨_, hm, rfl, d + 1, a + 1, rfl, rfl, .inr ⟨by walk_at "o", ?_⟩⟩
    rcases hT with ⟨rfl, rfl, q⟩ | ⟨_, hd, q⟩
    ·unfold partNext; rw [if_pos q]
    ·rw [q, drop_at h1]
     obtain ⟨d', rfl⟩ : ∃ d', d = d' + 1 := ⟨d - 1, by walk_at "o"⟩
     rw [scanL_succ, if_pos q1]; rfl
   | false =>
    obtain ⟨d', rfl⟩ : ∃ d', d = d' + 1 := by
     rcases hT with ⟨rfl, rfl, q⟩ | ⟨_, hd, q⟩
     ·rw [Nat.add_zero] at h1; rw [isKW_at h1, q1] at q; cases q
     ·exact ⟨d - 1, by walk_at "o"⟩
    have hP : partNext ts p = scanL (ts.drop (p + a)) (d' + 1) := by
     rcases hT with ⟨rfl, hd, q⟩ | ⟨_, hd, q⟩
     ·cases hd
     ·exact q
    rw [drop_at h1] at hP
    rw [scanL_succ] at hP
    rw [if_neg (by rw [q1]; decide)] at hP
    walk_at "w"
    walk_at "i"
    apply mt_is_sign hi
    walk_at "w"
    refine c_is_sign (a := a) hr ?_
    rw [isKW_at h1]
    cases q2 : (t.kind == kSign && t.worth == so ")") with
    | true =>
     rw [if_pos q2] at hP
     walk_at "w"
     walk_at "i"
     walk_at "a"
     walk_at "asg"
     walk_at "st"
     refine ⟨_, hm, rfl, d', a + 1, ?_, rfl, .inr ⟨by walk_at "o", hP⟩⟩
     rw [show ((d' + 1 : Nat) : Int) - 1 = (d' : Int) by walk_at "o"]
     rfl
    | false =>
     rw [if_neg (by rw [q2]; decide)] at hP
     walk_at "w"
     walk_at "i"
     have e0 := one_beq d'
     rw [e0]
     cases q3 : (d' == 0) with
     | false =>
      rw [q3, Bool.false_and, if_neg Bool.false_ne_true] at hP
      walk_at "if"
      walk_at "i"
      walk_at "asg"
      walk_at "st"
      exact ⟨_, hm, rfl, d' + 1, a + 1, rfl, rfl, .inr ⟨by walk_at "o", hP⟩⟩
     | true =>
      rw [q3, Bool.true_and] at hP
      walk_at "if"
      walk_at "w"
      apply mt_is_sign hi
      walk_at "w"
      refine c_is_sign (a := a) hr ?_
      rw [isKW_at h1]
      cases q4 : (t.kind == kSign && t.worth == so ":") with
      | true =>
       rw [if_pos q4] at hP
       walk_at "w"
       walk_at "if"
       walk_at "w"
       walk_at "i"
       rw [hP] at h
       exact h
      | false =>
       rw [if_neg (by rw [q4]; decide)] at hP
       walk_at "w"
       walk_at "if"
       walk_at "i"
       walk_at "asg"
       walk_at "st"
       exact ⟨_, hm, rfl, d' + 1, a + 1, rfl, rfl, .inr ⟨by walk_at "o", hP⟩⟩
 refine ⟨fun hq => ?_, fun hq => ?_⟩
 ·refine ⟨fun _ => ?_, fun q => Bool.noConfusion q⟩
  have hd : 0 < d := by simpa using hq
  exact turn (.inr ⟨by walk_at "o", by walk_at "o", (hJ.resolve_left (by walk_at "o")).2⟩)
 ·have hd : d = 0 := by simpa using hq
  subst hd
  walk_at "w"
  refine ⟨fun hq => ?_, fun hq => ?_⟩
  ·have ha : a ≠ 0 := by simpa using hq
   refine ⟨fun q => Bool.noConfusion q, fun _ => ?_⟩
   walk_at "w"
   refine ⟨fun q => Bool.noConfusion q, fun _ => ?_⟩
   walk_at "s"
   rw [(hJ.resolve_left (by walk_at "o")).2, scanL_zero] at h
   exact h
  ·have ha : a = 0 := by simpa using hq
   subst ha
   walk_at "w"
   apply mt_is_sign hi
   walk_at "w"
   refine c_is_sign0 hr ?_
   cases q1 : isKW ts p kSign (so "(") with
   | false =>
    walk_at "w"
    walk_at "if"
    walk_at "if"
    walk_at "w"
    walk_at "i"
    unfold partNext at h
    rw [if_neg (by rw [q1]; decide)] at h
    exact h
   | true =>
    walk_at "w"
    walk_at "if"
    walk_at "w"
    walk_at "if"
    walk_at "if"
    exact turn (.inl ⟨rfl, rfl, q1⟩)
end
noncomputable def esOf (P : Params) (L : List (Str × Tok × Str × Tok)) : List DictEntry := L.map fun e => ke P e.1 e.2.1 (.str e.2.2.1 e.2.2.2)
noncomputable def dfind (L : List (Str × Tok × Str × Tok)) (x : Str) : Option Str := (L.find? fun e => e.1 == x).map fun e => e.2.2.1
theorem esOf_find {P : Params} {L : List (Str × Tok × Str × Tok)} : findBy Value.isStrOf (esOf P L).toArray x = (L.find? fun e => e.1 == x).map fun e => .str e.2.2.1 e.2.2.2 := by
 unfold findBy esOf
 rw [List.find?_toArray, List.find?_map, Option.map_map]
 rfl
theorem esOf_at {ep : Nat} {L : List (Str × Tok × Str × Tok)} (h : (kFrag w.params).lookup a = some (dictOf' (esOf w.params L) ep)) : DictAt w a (esOf w.params L) := by
 refine ⟨ep, h, fun e he => ?_⟩
 unfold esOf at he
 obtain ⟨x, _, rfl⟩ := List.mem_map.mp he
 exact ⟨_, _, rfl, rfl⟩
section
variable {c : Cx} {n : Nat} {H : List AO} {R : V → List AO → Prop} {X : Nat → List AO → Prop} {i p a : Nat} {ts : List Tk}
theorem BinA.notInD {a : Addr} {L : List (Str × Tok × Str × Tok)} {ep : Nat} (hL : ∀ P, (kFrag P).lookup a = some (dictOf' (esOf P L) ep)) (hd : (a == sysModules) = false) (h : R (.bool (!(dfind L x).isSome)) H) : BinA c n (compareOp .NotIn) (.str x) (.val (.ref a)) H R := by
 intro A fr μ s va vb _ S ra rb Q E hQ
 obtain ⟨t, rfl⟩ := ra
 rw [show vb = _ from rb]
 show wpAny _ A (do return .bool (!(← contains (.ref a) (.str x t)))) Q E s
 refine wpAny_bind (dict_contains (knd := strKind pg c.w) (k := x) (beq_self_eq_true _) hd ((esOf_at (hL c.w.params)).map (c.X.keeps S.stays)) (wpAny_pure (hQ.same S h ?_)))
 show _ = _
 rw [esOf_find]
 unfold dfind
 rw [Option.isSome_map, Option.isSome_map]
theorem SubA.inD {a : Addr} {L : List (Str × Tok × Str × Tok)} {ep : Nat} (hL : ∀ P, (kFrag P).lookup a = some (dictOf' (esOf P L) ep)) (hv : dfind L x = some y) (h : R (.str y) H) : SubA c n (.val (.ref a)) (.str x) H R := by
 intro A fr μ s va vb _ S ra rb
 obtain ⟨u, rfl⟩ := rb
 rw [show va = _ from ra]
 have m := (esOf_at (hL c.w.params)).map (c.X.keeps S.stays)
 unfold dfind at hv
 obtain ⟨e, he, hy⟩ := Option.map_eq_some_iff.mp hv
 exact ⟨⟨"dict", _, m.typeIs, slot_dict_getitem.lookup⟩, fun Q E hQ => wpAny_getItem_of (v := .str e.2.2.1 e.2.2.2) (knd := strKind pg c.w) (k := x) (beq_self_eq_true _) m (by rw [esOf_find, he]; rfl) (hQ.same S h ⟨_, by rw [hy]⟩)⟩
theorem A_notInD {a : Addr} {L : List (Str × Tok × Str × Tok)} {ep : Nat} (hL : ∀ P, (kFrag P).lookup a = some (dictOf' (esOf P L) ep)) (hd : (a == sysModules) = false) (h : R (.bool (!(dfind L x).isSome)) H) : BA c n (compareOp .NotIn) (.str x) (.val (.ref a)) H R := ⟨BinA.notInD hL hd h⟩
theorem S_inD {a : Addr} {L : List (Str × Tok × Str × Tok)} {ep : Nat} (hL : ∀ P, (kFrag P).lookup a = some (dictOf' (esOf P L) ep)) (hv : dfind L x = some y) (h : R (.str y) H) : SA c n (.val (.ref a)) (.str x) H R := ⟨SubA.inD hL hv h⟩
end
noncomputable def figNs : List (Str × Tok × Str × Tok) := [(so "ZERO", 658, so "ZERO", 659), (so "ZEROS", 660, so "ZERO", 661), (so "ZEROES", 662, so "ZERO", 663), (so "SPACE", 664, so "SPACE", 665), (so "SPACES", 666, so "SPACE", 667), (so "HIGH-VALUE", 668, so "HIGH", 669), (so "HIGH-VALUES", 670, so "HIGH", 671), (so "LOW-VALUE", 672, so "LOW", 673), (so "LOW-VALUES", 674, so "LOW", 675), (so "QUOTE", 676, so "QUOTE", 677), (so "QUOTES", 678, so "QUOTE", 679)]
noncomputable def figSs : List (Str × Tok × Str × Tok) := [(so "ZERO", 692, so "ZERO", 693), (so "SPACE", 694, so "SPACE", 695), (so "HIGH", 696, so "HIGH-VALUE", 697), (so "LOW", 698, so "LOW-VALUE", 699), (so "QUOTE", 700, so "QUOTE", 701)]
theorem figNs_at (P : Params) : (kFrag P).lookup 347 = some (dictOf' (esOf P figNs) 11) := by kernel_rfl
theorem figSs_at (P : Params) : (kFrag P).lookup 348 = some (dictOf' (esOf P figSs) 5) := by kernel_rfl
section
variable {c : Cx} {n : Nat} {H : List AO} {R : V → List AO → Prop} {X : Nat → List AO → Prop} {i p a : Nat} {ts : List Tk}
theorem c_read_figure {t : Tk} (hr : RdAt H i p ts) (ht : ts[p]? = some t) (hk : t.kind = kWord) (hy : dfind figNs t.worth = some y) (h : ∀ H', Gr [i] H H' → RdAt H' i (p + 1) ts → R (.tup [.str (so "figure"), .str y]) H') : CJ c 3 (.ref 390) [.obj i] H R X := by
 refine hr.elim fun j l' nm hi hj hll htk => ?_
 apply p_read_figure
 walk_at "b"
 apply mt_is_kind hi
 walk_at "w"
 refine C_up (by decide) (c_is_kind0 hr ?_)
 unfold isK
 rw [ht]
 dsimp only
 rw [hk, beq_self_eq_true]
 walk_at "w"
 walk_at "if"
 walk_at "w"
 apply mt_peek hi
 walk_at "w"
 refine C_up (by decide) (c_peek0 hr (fun h0 => by rw [ht] at h0; cases h0) fun t' o b h1 hH => ?_)
 rw [ht] at h1; cases h1
 walk_at "at"
 walk_at "w"
 refine A_notInD figNs_at (by decide) ?_
 rw [hy, Option.isSome_some]
 walk_at "w"
 walk_at "if"
 walk_at "w"
 walk_at "i"
 apply mt_take hi
 walk_at "w"
 refine C_up (by decide) (c_take hr ht fun o b H' ho g r => ?_)
 walk_at "at"
 refine S_inD figNs_at hy ?_
 walk_at "w"
 exact h _ g r
theorem c_read_figure_no (hr : RdAt H i p ts) (hno : ∀ t, ts[p]? = some t → t.kind = kWord → dfind figNs t.worth = none) (h : R .none H) : CJ c 3 (.ref 390) [.obj i] H R X := by
 refine hr.elim fun j l' nm hi hj hll htk => ?_
 apply p_read_figure
 walk_at "b"
 apply mt_is_kind hi
 walk_at "w"
 refine C_up (by decide) (c_is_kind0 hr ?_)
 unfold isK
 cases ht : ts[p]? with
 | none =>
  dsimp only
  walk_at "w"
  walk_at "if"
  walk_at "i"
  exact h
 | some t =>
  dsimp only
  cases hk : (t.kind == kWord) with
  | false =>
   walk_at "w"
   walk_at "if"
   walk_at "i"
   exact h
  | true =>
   have hd := hno t ht (eq_of_beq hk)
   walk_at "w"
   walk_at "if"
   walk_at "w"
   apply mt_peek hi
   walk_at "w"
   refine C_up (by decide) (c_peek0 hr (fun h0 => by rw [ht] at h0; cases h0) fun t' o b h1 hH => ?_)
   rw [ht] at h1; cases h1
   walk_at "at"
   walk_at "w"
   refine A_notInD figNs_at (by decide) ?_
   rw [hd, Option.isSome_none]
   walk_at "w"
   walk_at "if"
   walk_at "i"
   exact h
theorem c_read_all {t : Tk} {l : List Nat} (hr : RdAt H i p ts) (ht : ts[p]? = some t) (hk : t.kind = so "literal") (hw : t.worth = S l) (hl : ∀ ch ∈ l, ch < 256) (hs : l.length ≤ 1000) (h : ∀ H', Gr [i] H H' → RdAt H' i (p + 1) ts → R (.tup [.str (so "all"), .bytes (byteArr (natI l))]) H') : CJ c 4 (.ref 383) [.obj i] H R X := by
 refine hr.elim fun j l' nm hi hj hll htk => ?_
 apply p_read_all
 walk_at "b"
 apply mt_is_kind hi
 walk_at "w"
 refine C_up (by decide) (c_is_kind0 hr ?_)
 unfold isK
 rw [ht]
 dsimp only
 rw [hk, beq_self_eq_true]
 walk_at "w"
 walk_at "i"
 apply mt_octets hi
 walk_at "w"
 refine c_octets hr ht hk hw hl hs fun H' g r => ?_
 walk_at "w"
 exact h _ g r
end
noncomputable abbrev TK := Str × Str
noncomputable def HasT (ts : List Tk) : Nat → List TK → Prop
 | _, [] => True
 | p, e :: r => (∃ t, ts[p]? = some t ∧ t.kind = e.1 ∧ t.worth = e.2) ∧ HasT ts (p + 1) r
theorem HasT_app {ts : List Tk} : ∀ {l m : List TK} {p : Nat}, HasT ts p (l ++ m) ↔ HasT ts p l ∧ HasT ts (p + l.length) m
 | [], m, p => by simp [HasT]
 | e :: l, m, p => by
  rw [List.cons_append, HasT, HasT, HasT_app, lCo, show p + 1 + l.length = p + (l.length + 1) by walk_at "o"]
  exact ⟨fun h => ⟨⟨h.1, h.2.1⟩, h.2.2⟩, fun h => ⟨h.1.1, h.1.2, h.2⟩⟩
noncomputable abbrev rdV : V := .val (.ref 648)
section
variable {c : Cx} {n : Nat} {H : List AO} {R : V → List AO → Prop} {X : Nat → List AO → Prop} {i p a : Nat} {ts : List Tk}
theorem HasT.kw {k w : Str} {r : List TK} (h : HasT ts p ((k, w) :: r)) (s v : Str) : isKW ts p s v = (k == s && w == v) := by
 obtain ⟨⟨t, h1, h2, h3⟩, _⟩ := h
 rw [isKW_at h1, h2, h3]
theorem HasT.kd {k w : Str} {r : List TK} (h : HasT ts p ((k, w) :: r)) (s : Str) : isK ts p s = (k == s) := by
 obtain ⟨⟨t, h1, h2, h3⟩, _⟩ := h
 unfold isK
 rw [h1]
 dsimp only
 rw [h2]
theorem HasT.tail {e : TK} {r : List TK} (h : HasT ts p (e :: r)) : HasT ts (p + 1) r := h.2
theorem isKW_none (h : ts[p]? = none) (s v : Str) : isKW ts p s v = false := by unfold isKW; rw [h]
theorem isK_none (h : ts[p]? = none) (s : Str) : isK ts p s = false := by unfold isK; rw [h]
theorem c_ro_num {w : Str} {r : List TK} {u s : Int} (hr : RdAt H i p ts) (ht : HasT ts p ((kNum, w) :: r)) (hn : NumTok w u s) (h : ∀ H', Gr [i] H H' → RdAt H' i (p + 1) ts → R (.tup [.str (so "number"), .tup [.int u, .int s]]) H') : CJ c 7 (.ref 397) [.obj i, rdV] H R X := by
 refine hr.elim fun j l' nm hi hj hll htk => ?_
 have e : isNum ts p = true := by
  unfold isNum
  rw [ht.kw, ht.kw, ht.kd, show (kNum == kSign) = false by decide +kernel, beq_self_eq_true]
  rfl
 obtain ⟨⟨t, h1, h2, h3⟩, _⟩ := ht
 apply p_read_operand
 walk_at "b"
 apply mt_is_number hi
 walk_at "w"
 refine C_up (by decide) (c_is_number hr ?_)
 rw [e]
 walk_at "w"
 walk_at "i"
 apply mt_signed hi
 walk_at "w"
 refine c_signed hr h1 h2 (by rw [h3]; exact hn) fun H' g r => ?_
 walk_at "w"
 exact h _ g r
theorem c_ro_neg {w : Str} {r : List TK} {u s : Int} (hr : RdAt H i p ts) (ht : HasT ts p ((kSign, so "-") :: (kNum, w) :: r)) (hn : NumTok w u s) (h : ∀ H', Gr [i] H H' → RdAt H' i (p + 2) ts → R (.tup [.str (so "number"), .tup [.int (-u), .int s]]) H') : CJ c 7 (.ref 397) [.obj i, rdV] H R X := by
 refine hr.elim fun j l' nm hi hj hll htk => ?_
 have e : isNum ts p = true := by
  unfold isNum
  rw [ht.kw, ht.kw, ht.tail.kd, beq_self_eq_true, beq_self_eq_true, beq_self_eq_true, Bool.and_self, Bool.or_true, if_pos rfl]
 obtain ⟨⟨t, h1, h2, h3⟩, ⟨t', h1', h2', h3'⟩, _⟩ := ht
 apply p_read_operand
 walk_at "b"
 apply mt_is_number hi
 walk_at "w"
 refine C_up (by decide) (c_is_number hr ?_)
 rw [e]
 walk_at "w"
 walk_at "i"
 apply mt_signed hi
 walk_at "w"
 refine c_signed_neg hr h1 h2 h3 h1' h2' (by rw [h3']; exact hn) fun H' g r => ?_
 walk_at "w"
 exact h _ g r
theorem c_ro_1 (hr : RdAt H i p ts) (hn : isNum ts p = false) (h : isK ts p (so "literal") = true → CJ c 3 (.ref 599) [.obj i] H (fun v H1 => R (.tup [.str (so "text"), v]) H1) X)
  (h2 : isK ts p (so "literal") = false → isKW ts p kWord (so "ALL") = true → ∀ H', Gr [i] H H' → RdAt H' i (p + 1) ts → CJ c 4 (.ref 383) [.obj i] H' R X)
  (h3 : isK ts p (so "literal") = false → isKW ts p kWord (so "ALL") = false → ∀ H', Gr [] H H' → CJ c 3 (.ref 390) [.obj i] H' (fun v H2 => (v ≠ .none ∧ notAny v = true ∧ R v H2) ∨ (v = .none ∧ CJ c n (.ref 376) [.obj i, rdV] H2 R X)) X) (h6 : 6 ≤ n) : CJ c (n + 1) (.ref 397) [.obj i, rdV] H R X := by
 refine hr.elim fun j l' nm hi hj hll htk => ?_
 apply p_read_operand
 walk_at "b"
 apply mt_is_number hi
 walk_at "w"
 refine C_up (by walk_at "o") (c_is_number hr ?_)
 rw [hn]
 walk_at "w"
 walk_at "i"
 apply mt_is_kind hi
 walk_at "w"
 refine C_up (by walk_at "o") (c_is_kind0 hr ?_)
 cases hl : isK ts p (so "literal") with
 | true =>
  walk_at "w"
  walk_at "i"
  apply mt_octets hi
  walk_at "w"
  refine C_up (by walk_at "o") (C_mono (fun v H1 hv => ?_) (fun _ _ q => q) (h hl))
  walk_at "w"
  exact hv
 | false =>
  walk_at "w"
  walk_at "i"
  apply mt_skip hi
  walk_at "w"
  refine C_up (by walk_at "o") (c_skip hr ok_all (fun hq H' g => ?_) fun hq H' g r => ?_)
  ·walk_at "w"
   walk_at "i"
   refine C_up (by walk_at "o") (C_mono (fun v H1 hv => ?_) (fun _ _ q => q) (h3 hl hq _ g))
   walk_at "asg"
   walk_at "st"
   rcases hv with ⟨hv1, hv2, hv3⟩ | ⟨rfl, hv⟩
   ·walk_at "w"
    refine A_isNone hv2 ?_
    have : isNoneV v = false := by cases v <;> first | rfl | exact absurd rfl hv1
    rw [this]
    walk_at "w"
    walk_at "if"
    walk_at "w"
    exact hv3
   ·walk_at "w"
    walk_at "if"
    walk_at "w"
    exact hv
  ·walk_at "w"
   walk_at "i"
   exact C_up (by walk_at "o") (h2 hl hq _ g r)
theorem isNum_none (h : ts[p]? = none) : isNum ts p = false := by
 unfold isNum
 rw [isKW_none h, isKW_none h, isK_none h]
 rfl
theorem isNum_word {k w : Str} {r : List TK} (ht : HasT ts p ((k, w) :: r)) (h1 : (k == kSign) = false) (h2 : (k == kNum) = false) : isNum ts p = false := by
 unfold isNum
 rw [ht.kw, ht.kw, ht.kd, h1, h2]
 rfl
theorem c_ro_text {w : Str} {l : List Nat} {r : List TK} (hr : RdAt H i p ts) (ht : HasT ts p ((so "literal", w) :: r)) (hw : w = S l) (hl : ∀ ch ∈ l, ch < 256) (hs : l.length ≤ 1000) (h : ∀ H', Gr [i] H H' → RdAt H' i (p + 1) ts → R (.tup [.str (so "text"), .bytes (byteArr (natI l))]) H') : CJ c 7 (.ref 397) [.obj i, rdV] H R X := by
 have e := isNum_word ht (by decide +kernel) (by decide +kernel)
 have e2 := ht.kd (so "literal")
 rw [beq_self_eq_true] at e2
 obtain ⟨⟨t, h1, h2, h3⟩, _⟩ := ht
 exact c_ro_1 hr e (fun _ => c_octets hr h1 h2 (h3.trans hw) hl hs h) (fun q => by rw [e2] at q; cases q) (fun q => by rw [e2] at q; cases q) (Nat.le_refl 6)
theorem c_ro_all {w : Str} {l : List Nat} {r : List TK} (hr : RdAt H i p ts) (ht : HasT ts p ((kWord, so "ALL") :: (so "literal", w) :: r)) (hw : w = S l) (hl : ∀ ch ∈ l, ch < 256) (hs : l.length ≤ 1000) (h : ∀ H', Gr [i] H H' → RdAt H' i (p + 2) ts → R (.tup [.str (so "all"), .bytes (byteArr (natI l))]) H') : CJ c 7 (.ref 397) [.obj i, rdV] H R X := by
 have e := isNum_word ht (by decide +kernel) (by decide +kernel)
 have e2 := ht.kd (so "literal")
 rw [show (kWord == so "literal") = false by decide +kernel] at e2
 have e3 := ht.kw kWord (so "ALL")
 rw [beq_self_eq_true, beq_self_eq_true, Bool.and_self] at e3
 obtain ⟨⟨t, h1, h2, h3⟩, ⟨t', h1', h2', h3'⟩, _⟩ := ht
 exact c_ro_1 hr e (fun q => by rw [e2] at q; cases q) (fun _ _ H' g r => c_read_all r h1' h2' (h3'.trans hw) hl hs fun H'' g2 r2 => h _ (g.tr g2) r2) (fun _ q => by rw [e3] at q; cases q) (Nat.le_refl 6)
theorem c_ro_fig {w : Str} {r : List TK} (hr : RdAt H i p ts) (ht : HasT ts p ((kWord, w) :: r)) (hw : (w == so "ALL") = false) (hy : dfind figNs w = some y) (h : ∀ H', Gr [i] H H' → RdAt H' i (p + 1) ts → R (.tup [.str (so "figure"), .str y]) H') : CJ c 7 (.ref 397) [.obj i, rdV] H R X := by
 have e := isNum_word ht (by decide +kernel) (by decide +kernel)
 have e2 := ht.kd (so "literal")
 rw [show (kWord == so "literal") = false by decide +kernel] at e2
 have e3 := ht.kw kWord (so "ALL")
 rw [hw, Bool.and_false] at e3
 obtain ⟨⟨t, h1, h2, h3⟩, _⟩ := ht
 exact c_ro_1 hr e (fun q => by rw [e2] at q; cases q) (fun _ q => by rw [e3] at q; cases q) (fun _ _ H' g => c_read_figure (hr.gr g) h1 h2 (by rw [h3]; exact hy) fun H'' g2 r2 => .inl ⟨fun q => (nomatch q), rfl, h _ (g.nil.tr g2) r2⟩) (Nat.le_refl 6)
theorem c_ro_ref {w : Str} {r : List TK} (hr : RdAt H i p ts) (ht : HasT ts p ((kWord, w) :: r)) (hw : (w == so "ALL") = false) (hy : dfind figNs w = none) (h6 : 6 ≤ n) (h : ∀ H', Gr [] H H' → RdAt H' i p ts → CJ c n (.ref 376) [.obj i, rdV] H' R X) : CJ c (n + 1) (.ref 397) [.obj i, rdV] H R X := by
 have e := isNum_word ht (by decide +kernel) (by decide +kernel)
 have e2 := ht.kd (so "literal")
 rw [show (kWord == so "literal") = false by decide +kernel] at e2
 have e3 := ht.kw kWord (so "ALL")
 rw [hw, Bool.and_false] at e3
 obtain ⟨⟨t, h1, h2, h3⟩, _⟩ := ht
 refine c_ro_1 hr e (fun q => by rw [e2] at q; cases q) (fun _ q => by rw [e3] at q; cases q) (fun _ _ H' g => c_read_figure_no (hr.gr g) (fun t' h4 h5 => ?_) (.inr ⟨rfl, h _ g (hr.gr g)⟩)) h6
 rw [h1] at h4; cases h4
 rw [h3]; exact hy
theorem c_ro_end (hr : RdAt H i p ts) (ht : ts[p]? = none) (h6 : 6 ≤ n) (h : ∀ H', Gr [] H H' → RdAt H' i p ts → CJ c n (.ref 376) [.obj i, rdV] H' R X) : CJ c (n + 1) (.ref 397) [.obj i, rdV] H R X := by
 refine c_ro_1 hr (isNum_none ht) (fun q => by rw [isK_none ht] at q; cases q) (fun _ q => by rw [isKW_none ht] at q; cases q) (fun _ _ H' g => c_read_figure_no (hr.gr g) (fun t' h4 h5 => ?_) (.inr ⟨rfl, h _ g (hr.gr g)⟩)) h6
 rw [ht] at h4; cases h4
end
noncomputable def RowsAt (F : Nat → Prop) (ts : List Tk) : Nat → List (List TK × V) → Prop
 | _, [] => True
 | p, e :: r => HasT ts p e.1 ∧ F (p + e.1.length) ∧ isKW ts p kSign (so ")") = false ∧ RowsAt F ts (p + e.1.length) r
noncomputable def rowT (rows : List (List TK × V)) : List TK := rows.flatMap (·.1)
noncomputable def Reads (c : Cx) (n : Nat) (F : List Tk → Nat → Prop) (l : List TK) (v : V) : Prop := ∀ (H : List AO) (R : V → List AO → Prop) (X : Nat → List AO → Prop) (i p : Nat) (ts : List Tk), RdAt H i p ts → HasT ts p l → F ts (p + l.length) → (∀ H', Gr [i] H H' → RdAt H' i (p + l.length) ts → R v H') → CJ c n (.ref 648) [.obj i] H R X
section
variable {c : Cx} {n : Nat} {H : List AO} {R : V → List AO → Prop} {X : Nat → List AO → Prop} {i p a : Nat} {ts : List Tk}
theorem RdAt.inst (r : RdAt H i p ts) : ∃ C fs, H[i]? = some (.inst C fs) := by
 obtain ⟨j, l, nm, h1, _⟩ := r.ex
 exact ⟨_, _, h1⟩
theorem RdAt.ne (r : RdAt H i p ts) (h : H[k]? = some (.list l)) : k ≠ i := by
 obtain ⟨C, fs, h1⟩ := r.inst
 rintro rfl
 rw [h] at h1; cases h1
theorem c_read_subscripts {F : List Tk → Nat → Prop} {rows : List (List TK × V)} (h6 : 6 ≤ n) (hrd : ∀ e ∈ rows, Reads c n F e.1 e.2) (hr : RdAt H i p ts) (h0 : isKW ts p kSign (so "(") = true) (hne : rows ≠ []) (hle : rows.length ≤ 7) (hat : RowsAt (F ts) ts (p + 1) rows) (qe : Nat) (hqe : qe = p + 1 + (rowT rows).length)
  (h1 : isKW ts qe kSign (so ")") = true → ∀ H', Gr [i] H H' → RdAt H' i (qe + 1) ts → R (.tup (rows.map (·.2))) H')
  (h2 : isKW ts qe kSign (so ")") = false → rows.length < 7 → ∀ H', Gr [i] H H' → RdAt H' i qe ts → CJ c n (.ref 648) [.obj i] H' (fun _ _ => False) X)
  (h3 : isKW ts qe kSign (so ")") = false → rows.length = 7 → ∃ t, ts[qe]? = some t ∧ ∀ H', Gr [i] H H' → X H'.length (H' ++ [.exc 72 [(so "what", .str (so "more than 7 subscripts")), (so "at", t.pos)]])) : CJ c (n + 1) (.ref 362) [.obj i, rdV] H R X := by
 refine hr.elim fun j l' nm hi hj hll htk => ?_
 apply p_read_subscripts
 walk_at "b"
 apply mt_need_sign hi
 walk_at "w"
 refine C_up (by walk_at "o") (c_need_sign hr (fun _ H1 g1 r1 => ?_) fun q => by rw [h0] at q; cases q)
 walk_at "s"
 obtain ⟨e, rest, rfl⟩ := List.exists_cons_of_ne_nil hne
 refine hrd e (.head _) _ _ _ _ _ _ r1 hat.1 hat.2.1 fun H2 g2 r2 => ?_
 walk_at "w"
 walk_at "asg"
 refine X_while (J := fun k ρ1 H1 => ∃ (done : List V) (rest' : List (List TK × V)) (q fo : Nat), k = rest'.length ∧ (∀ x ∈ rest', x ∈ e :: rest) ∧ done ++ rest'.map (·.2) = (e :: rest).map (·.2) ∧ ρ1 = [lv "reader" (.obj i), lv "read_expr" rdV, lv "found" (.obj fo), gv "len" (.val (.builtin "len")), gv "MOST_SUBSCRIPTS" (.int 7), gv "tuple" (.val (.type "tuple"))] ∧ H1[fo]? = some (.list done) ∧ H.length ≤ fo ∧ Gr [i] H H1 ∧ RdAt H1 i q ts ∧ RowsAt (F ts) ts q rest' ∧ q + (rowT rest').length = qe) rest.length
  ⟨[e.2], rest, p + 1 + e.1.length, H2.length, rfl, fun x hx => .tail _ hx, rfl, rfl, get_last, (g1.tr g2).len, (g1.tr g2).push _, r2.gr (Gr.push0 _), hat.2.2.2, by rw [hqe]; simp only [rowT, List.flatMap_cons, lAp]; walk_at "o"⟩ ?_
 rintro k ρ1 H3 ⟨done, rest', q, fo, rfl, hsub, hdv, rfl, hfo, hfl, g3, r3, hra, hqq⟩
 refine r3.elim fun j3 l3 nm3 hi3 _ _ _ => ?_
 have hdl : done.length + rest'.length = rest.length + 1 := by
  have := congrArg List.length hdv
  simpa using this
 have hle' : rest.length + 1 ≤ 7 := hle
 walk_at "w"
 apply mt_skip_sign hi3
 walk_at "w"
 have common : isKW ts q kSign (so ")") = false → True := fun _ => trivial
 cases rest' with
 | nil =>
  have e1 : q = qe := by simpa [rowT] using hqq
  subst e1
  have hdv' : done = (e :: rest).map (·.2) := by simpa using hdv
  refine C_up (by walk_at "o") (c_skip_sign r3 (fun hq => ?_) fun hq H4 g4 r4 => ?_)
  ·walk_at "w"
   walk_at "i"
   refine C_lenList hfo (by simp at hdl; walk_at "o") ?_
   walk_at "w"
   have hdl' : done.length = rest.length + 1 := by simpa using hdl
   rcases Nat.lt_or_ge done.length 7 with h7 | h7
   ·rw [decide_eq_false (show ¬ ((done.length : Int) ≥ 7) by walk_at "o")]
    walk_at "i"
    exact C_mono (fun _ _ q => q.elim) (fun _ _ q => q) (h2 hq (by show rest.length + 1 < 7; walk_at "o") _ g3 r3)
   ·rw [decide_eq_true (show ((done.length : Int) ≥ 7) by walk_at "o")]
    walk_at "if"
    obtain ⟨t, ht, hX⟩ := h3 hq (by show rest.length + 1 = 7; walk_at "o")
    refine s_ex_raise (by walk_at "o") ?_
    walk_at "w"
    apply mt_fault hi3
    walk_at "w"
    refine C_up (by walk_at "o") (c_fault r3 (by rw [if_pos (gsi.mp ht).1]; exact ht) ?_)
    refine ⟨H3.length, 72, _, rfl, Nat.le_refl _, get_last, fun P => by kernel_rfl, ?_⟩
    rw [List.set_append_right _ _ (Nat.le_refl _), Nat.sub_self]
    exact hX _ g3
  ·walk_at "w"
   walk_at "i"
   refine C_tupList (g4.get hfo (by simpa using r3.ne hfo)) (by simp at hdl; simp [sizeLine]; walk_at "o") ?_
   rw [hdv']
   exact h1 hq _ (g3.tr g4) r4
 | cons e' r' =>
  have hlen : done.length + r'.length + 1 = rest.length + 1 := by simpa [Nat.add_assoc] using hdl
  refine C_up (by walk_at "o") (c_skip_sign r3 (fun hq => ?_) fun hq H4 g4 r4 => by rw [hra.2.2.1] at hq; cases hq)
  walk_at "w"
  walk_at "i"
  refine C_lenList hfo (by walk_at "o") ?_
  walk_at "w"
  rw [decide_eq_false (show ¬ ((done.length : Int) ≥ 7) by walk_at "o")]
  walk_at "i"
  refine hrd e' (hsub _ (.head _)) _ _ _ _ _ _ r3 hra.1 hra.2.1 fun H4 g4 r4 => ?_
  walk_at "w"
  have hfo4 := g4.get hfo (by simpa using r3.ne hfo)
  refine C_append hfo4 (by simp [sizeLine]; walk_at "o") ?_
  walk_at "st"
  exact ⟨r'.length, by simp, done ++ [e'.2], r', _, fo, rfl, fun x hx => hsub x (.tail _ hx), by rw [← hdv]; simp, rfl, by rw [gSs (get_lt hfo4)], hfl, (g3.tr g4).set _ (.inl hfl), hr.set (g3.tr g4) r4 _ hfl, hra.2.2.2, by rw [← hqq]; simp only [rowT, List.flatMap_cons, lAp]; walk_at "o"⟩
theorem c_read_part {lb : List TK} {vb : V} {F : List Tk → Nat → Prop} (h6 : 6 ≤ n) (hr : RdAt H i p ts) (h0 : isKW ts p kSign (so "(") = true) (hb : Reads c n F lb vb) (hlb : HasT ts (p + 1) lb) (hF : F ts (p + 1 + lb.length)) (q : Nat) (hq : q = p + 1 + lb.length) (hc : isKW ts q kSign (so ":") = true)
  (hA : isKW ts (q + 1) kSign (so ")") = true → ∀ H', Gr [i] H H' → RdAt H' i (q + 2) ts → R (.tup [vb, .none]) H')
  (hB : isKW ts (q + 1) kSign (so ")") = false → ∀ H', Gr [i] H H' → RdAt H' i (q + 1) ts → CJ c n (.ref 648) [.obj i] H' (fun v H2 => ∃ q2, Gr [i] H' H2 ∧ RdAt H2 i q2 ts ∧ (isKW ts q2 kSign (so ")") = true → ∀ H3, Gr [i] H2 H3 → RdAt H3 i (q2 + 1) ts → R (.tup [vb, v]) H3) ∧ (isKW ts q2 kSign (so ")") = false → ∃ t, ts[if q2 < ts.length then q2 else ts.length - 1]? = some t ∧ X H2.length (H2 ++ [.exc 72 [(so "what", .str (so ")" ++ so " is asked here")), (so "at", t.pos)]]))) X) : CJ c (n + 1) (.ref 369) [.obj i, rdV] H R X := by
 subst hq
 refine hr.elim fun j l' nm hi hj hll htk => ?_
 apply p_read_part
 walk_at "b"
 apply mt_need_sign hi
 walk_at "w"
 refine C_up (by walk_at "o") (c_need_sign hr (fun _ H1 g1 r1 => ?_) fun q => by rw [h0] at q; cases q)
 walk_at "s"
 refine hb _ _ _ _ _ _ r1 hlb hF fun H2 g2 r2 => ?_
 refine r2.elim fun j2 l2 nm2 hi2 _ _ _ => ?_
 walk_at "a"
 apply mt_need_sign hi2
 walk_at "w"
 refine C_up (by walk_at "o") (c_need_sign r2 (fun _ H3 g3 r3 => ?_) fun q => by rw [hc] at q; cases q)
 refine r3.elim fun j3 l3 nm3 hi3 _ _ _ => ?_
 walk_at "s"
 apply mt_is_sign hi3
 walk_at "w"
 refine C_up (by walk_at "o") (c_is_sign0 r3 ?_)
 cases hq : isKW ts (p + 1 + lb.length + 1) kSign (so ")") with
 | true =>
  walk_at "w"
  walk_at "if"
  walk_at "w"
  walk_at "a"
  apply mt_need_sign hi3
  walk_at "w"
  refine C_up (by walk_at "o") (c_need_sign r3 (fun _ H4 g4 r4 => ?_) fun q => by rw [hq] at q; cases q)
  walk_at "s"
  exact hA hq _ (((g1.tr g2).tr g3).tr g4) r4
 | false =>
  walk_at "w"
  walk_at "if"
  walk_at "w"
  refine C_mono (fun v H4 hv => ?_) (fun _ _ q => q) (hB hq _ ((g1.tr g2).tr g3) r3)
  obtain ⟨q2, g4, r4, hv1, hv2⟩ := hv
  refine r4.elim fun j4 l4 nm4 hi4 _ _ _ => ?_
  walk_at "a"
  apply mt_need_sign hi4
  walk_at "w"
  refine C_up (by walk_at "o") (c_need_sign r4 (fun hq2 H5 g5 r5 => ?_) fun hq2 => ⟨by decide +kernel, hv2 hq2⟩)
  walk_at "s"
  exact hv1 hq2 _ g5 r5
noncomputable def isJoin (w : Str) : Bool := w == so "OF" || w == so "IN"
noncomputable def qualT (qs : List (Str × Str)) : List TK := qs.flatMap fun e => [(kWord, e.1), (kWord, e.2)]
theorem qualT_len (qs : List (Str × Str)) : (qualT qs).length = 2 * qs.length := by
 induction qs with
 | nil => rfl
 | cons e r ih => simp only [qualT, List.flatMap_cons, lAp, lCo, lNi] at ih ⊢; walk_at "o"
structure NameOk (w : Str) : Prop where
 sz : w.length ≤ 1000
 free : resd w = false
theorem c_name_at {w : Str} {r : List TK} (hr : RdAt H i p ts) (ht : HasT ts p ((kWord, w) :: r)) (hw : NameOk w) (h : ∀ H', Gr [i] H H' → RdAt H' i (p + 1) ts → R (.str w) H') : CJ c 4 (.ref 535) [.obj i] H R X := by
 obtain ⟨⟨t, h1, h2, h3⟩, _⟩ := ht
 obtain rfl : t.worth = w := h3
 exact c_name hr h1 hw.sz h2 hw.free h
theorem c_read_ref {w : Str} {qs : List (Str × Str)} (h5 : 5 ≤ n) (hr : RdAt H i p ts) (ht : HasT ts p ((kWord, w) :: qualT qs)) (hw : NameOk w) (hqs : ∀ e ∈ qs, isJoin e.1 = true ∧ NameOk e.2) (q : Nat) (hq : q = p + 1 + 2 * qs.length) (hO : isKW ts q kWord (so "OF") = false) (hI : isKW ts q kWord (so "IN") = false)
  (K : List AO → V → List AO → Prop) (hK : ∀ H' v H2, Gr [i] H H' → K H' v H2 → ∃ q2, Gr [i] H' H2 ∧ RdAt H2 i q2 ts ∧ (partNext ts q2 = true → CJ c n (.ref 369) [.obj i, rdV] H2 (fun u H3 => Gr [i] H2 H3 ∧ R (.tup [.str (so "ref"), .str w, .tup (qs.map fun e => .str e.2), v, u]) H3) X) ∧ (partNext ts q2 = false → R (.tup [.str (so "ref"), .str w, .tup (qs.map fun e => .str e.2), v, .none]) H2))
  (hA : isKW ts q kSign (so "(") = true → partNext ts q = false → ∀ H', Gr [i] H H' → RdAt H' i q ts → CJ c n (.ref 362) [.obj i, rdV] H' (K H') X)
  (hB : (isKW ts q kSign (so "(") = false ∨ partNext ts q = true) → ∀ H', Gr [i] H H' → RdAt H' i q ts → K H' (.tup []) H') (hlen : qs.length ≤ 1000) : CJ c (n + 1) (.ref 376) [.obj i, rdV] H R X := by
 refine hr.elim fun j l' nm hi hj hll htk => ?_
 apply p_read_ref
 walk_at "b"
 apply mt_name hi
 walk_at "w"
 refine C_up (by walk_at "o") (c_name_at hr ht hw fun H1 g1 r1 => ?_)
 walk_at "a"
 walk_at "asg"
 refine X_while (J := fun k ρ1 H2 => ∃ (done : List V) (rest : List (Str × Str)) (q' fo : Nat), k = rest.length ∧ (∀ x ∈ rest, x ∈ qs) ∧ done ++ rest.map (fun e => .str e.2) = qs.map (fun e => .str e.2) ∧ ρ1 = [lv "reader" (.obj i), lv "read_expr" rdV, lv "name" (.str w), lv "qualifiers" (.obj fo), l0 "subscripts", l0 "part", gv "is_part_next" (.val (.ref 355)), gv "read_subscripts" (.val (.ref 362)), gv "read_part" (.val (.ref 369)), gv "tuple" (.val (.type "tuple"))] ∧ H2[fo]? = some (.list done) ∧ H.length ≤ fo ∧ Gr [i] H H2 ∧ RdAt H2 i q' ts ∧ HasT ts q' (qualT rest) ∧ q' + 2 * rest.length = q) qs.length
  ⟨[], qs, p + 1, H1.length, rfl, fun x hx => hx, rfl, rfl, get_last, g1.len, g1.push _, r1.gr (Gr.push0 _), ht.2, hq.symm⟩ ?_
 rintro k ρ1 H2 ⟨done, rest, q', fo, rfl, hsub, hdv, rfl, hfo, hfl, g2, r2, hrt, hq'⟩
 refine r2.elim fun j2 l2 nm2 hi2 _ _ _ => ?_
 have hdl : done.length + rest.length = qs.length := by
  have := congrArg List.length hdv
  simpa using this
 walk_at "w"
 apply mt_one_of hi2
 walk_at "w"
 cases rest with
 | nil =>
  obtain rfl : q' = q := by simpa using hq'
  refine C_up (by walk_at "o") (c_one_of r2 (fun e => by rw [hO] at e; cases e) (fun e => by rw [hI] at e; cases e) fun _ _ H3 g3 => ?_)
  have hdv' : done = qs.map (fun e => .str e.2) := by simpa using hdv
  have r3 := r2.gr g3
  have hi3 := g3.get0 hi2
  have hfo3 := g3.get0 hfo
  have g23 := g2.tr g3.nil
  walk_at "w"
  refine A_strNotEq ?_
  rw [show (so "" != so "") = false by decide +kernel]
  walk_at "w"
  walk_at "i"
  walk_at "a"
  apply mt_is_sign hi3
  walk_at "w"
  refine C_up (by walk_at "o") (c_is_sign0 r3 ?_)
  have fin : ∀ v H4, K H3 v H4 → XV c n (((bodyOf (stAt 59)).drop 5)) [lv "reader" (.obj i), lv "read_expr" rdV, lv "name" (.str w), lv "qualifiers" (.obj fo), lv "subscripts" v, l0 "part", gv "is_part_next" (.val (.ref 355)), gv "read_subscripts" (.val (.ref 362)), gv "read_part" (.val (.ref 369)), gv "tuple" (.val (.type "tuple"))] H4 (RetP R) X := by
   intro v H4 hk
   obtain ⟨q2, g4, r4, hp1, hp2⟩ := hK H3 v H4 g23 hk
   have hfo4 := g4.get hfo3 (by simpa using r3.ne hfo3)
   walk_at "b"
   refine C_up (by walk_at "o") (c_is_part_next r4 ?_)
   cases hp : partNext ts q2 with
   | true =>
    walk_at "w"
    walk_at "if"
    walk_at "w"
    refine C_mono (fun u H5 hu => ?_) (fun _ _ q => q) (hp1 hp)
    walk_at "a"
    refine C_tupList (hu.1.get hfo4 (by simpa using r4.ne hfo4)) (by simp [hdv', sizeLine]; walk_at "o") ?_
    walk_at "w"
    rw [hdv']
    exact hu.2
   | false =>
    walk_at "w"
    walk_at "if"
    walk_at "w"
    walk_at "a"
    refine C_tupList hfo4 (by simp [hdv', sizeLine]; walk_at "o") ?_
    walk_at "w"
    rw [hdv']
    exact hp2 hp
  cases hs : isKW ts q' kSign (so "(") with
  | false =>
   walk_at "w"
   walk_at "if"
   walk_at "if"
   exact fin _ _ (hB (.inl hs) _ g23 r3)
  | true =>
   walk_at "w"
   walk_at "if"
   walk_at "w"
   refine C_up (by walk_at "o") (c_is_part_next r3 ?_)
   cases hp : partNext ts q' with
   | true =>
    walk_at "w"
    walk_at "if"
    walk_at "if"
    exact fin _ _ (hB (.inr hp) _ g23 r3)
   | false =>
    walk_at "w"
    walk_at "if"
    walk_at "w"
    walk_at "i"
    refine C_mono (fun v H4 hv => ?_) (fun _ _ q => q) (hA hs hp _ g23 r3)
    walk_at "asg"
    exact fin _ _ hv
 | cons e rest' =>
  have hwe := hqs e (hsub e (.head _))
  have hrt' : HasT ts q' ((kWord, e.1) :: (kWord, e.2) :: qualT rest') := hrt
  have step : ∀ H3, Gr [i] H2 H3 → RdAt H3 i (q' + 1) ts → XV c n (wBody ((bodyOf (stAt 59)).getD 2 default)) [lv "reader" (.obj i), lv "read_expr" rdV, lv "name" (.str w), lv "qualifiers" (.obj fo), l0 "subscripts", l0 "part", gv "is_part_next" (.val (.ref 355)), gv "read_subscripts" (.val (.ref 362)), gv "read_part" (.val (.ref 369)), gv "tuple" (.val (.type "tuple"))] H3 (PW (fun k ρ1 H2 => ∃ (done : List V) (rest : List (Str × Str)) (q' fo : Nat), k = rest.length ∧ (∀ x ∈ rest, x ∈ qs) ∧ done ++ rest.map (fun e => .str e.2) = qs.map (fun e => .str e.2) ∧ ρ1 = [lv "reader" (.obj i), lv "read_expr" rdV, lv "name" (.str w), lv "qualifiers" (.obj fo), l0 "subscripts", l0 "part", gv "is_part_next" (.val (.ref 355)), gv "read_subscripts" (.val (.ref 362)), gv "read_part" (.val (.ref 369)), gv "tuple" (.val (.type "tuple"))] ∧ H2[fo]? = some (.list done) ∧ H.length ≤ fo ∧ Gr [i] H H2 ∧ RdAt H2 i q' ts ∧ HasT ts q' (qualT rest) ∧ q' + 2 * rest.length = q) (e :: rest').length (RetP R)) X := by
   intro H3 g3 r3
   refine r3.elim fun j3 l3 nm3 hi3 _ _ _ => ?_
   have hfo3 := g3.get hfo (by simpa using r2.ne hfo)
   walk_at "b"
   apply mt_name hi3
   walk_at "w"
   refine C_up (by walk_at "o") (c_name_at r3 hrt'.2 hwe.2 fun H4 g4 r4 => ?_)
   walk_at "w"
   have hfo4 := g4.get hfo3 (by simpa using r3.ne hfo3)
   refine C_append hfo4 (by simp at hdl; simp [sizeLine]; walk_at "o") ?_
   walk_at "st"
   have g24 := (g2.tr g3).tr g4
   exact ⟨rest'.length, by simp, done ++ [.str e.2], rest', _, fo, rfl, fun x hx => hsub x (.tail _ hx), by rw [← hdv]; simp, rfl, by rw [gSs (get_lt hfo4)], hfl, g24.set _ (.inl hfl), hr.set g24 r4 _ hfl, hrt'.2.2, by rw [← hq']; simp only [lCo]; walk_at "o"⟩
  refine C_up (by walk_at "o") (c_one_of r2 (fun e1 H3 g3 r3 => ?_) (fun e1 H3 g3 r3 => ?_) fun e1 e2 => ?_)
  ·walk_at "w"
   refine A_strNotEq ?_
   rw [show (so "OF" != so "") = true by decide +kernel]
   walk_at "w"
   walk_at "if"
   exact step _ g3 r3
  ·walk_at "w"
   refine A_strNotEq ?_
   rw [show (so "IN" != so "") = true by decide +kernel]
   walk_at "w"
   walk_at "if"
   exact step _ g3 r3
  ·exfalso
   rw [hrt'.kw, beq_self_eq_true, Bool.true_and] at e1 e2
   have := hwe.1
   unfold isJoin at this
   rw [e1, e2] at this
   cases this
theorem c_ref_end {t : Tk} (hr : RdAt H i p ts) (ht : ts[p]? = none) (hl : ts[ts.length - 1]? = some t) (hX : X H.length (H ++ [.exc 72 [(so "what", .str (so "a name is asked here")), (so "at", t.pos)]])) : CJ c 6 (.ref 376) [.obj i, rdV] H R X := by
 refine hr.elim fun j l' nm hi hj hll htk => ?_
 apply p_read_ref
 walk_at "b"
 apply mt_name hi
 walk_at "w"
 exact c_name_end hr ht hl hX
end
structure Leaf where
 toV : V
 toks : List TK
 text : List Nat
 sg : Bool
noncomputable def strL (x : String) : List Nat := (so x).cps.toList
noncomputable def numLeaf (u s : Int) (w : List Nat) (neg : Bool) : Leaf := ⟨.tup [.str (so "number"), .tup [.int u, .int s]], if neg then [(kSign, so "-"), (kNum, S w)] else [(kNum, S w)], if neg then 45 :: w else w, neg⟩
noncomputable def dbl : List Nat → List Nat
 | [] => []
 | ch :: r => if ch = 34 then 34 :: 34 :: dbl r else ch :: dbl r
noncomputable def litText (l : List Nat) : List Nat := 34 :: (dbl l ++ [34])
noncomputable def textLeaf (l : List Nat) : Leaf := ⟨.tup [.str (so "text"), .bytes (byteArr (natI l))], [(so "literal", S l)], litText l, false⟩
noncomputable def allLeaf (l : List Nat) : Leaf := ⟨.tup [.str (so "all"), .bytes (byteArr (natI l))], [(kWord, so "ALL"), (so "literal", S l)], [65, 76, 76, 32] ++ litText l, false⟩
noncomputable def figLeaf (v w : String) : Leaf := ⟨.tup [.str (so "figure"), .str (so v)], [(kWord, so w)], strL w, false⟩
noncomputable def leaves : List Leaf := [numLeaf 0 0 [48] false, numLeaf 7 0 [55] false, numLeaf (-5) 0 [53] true, numLeaf 125 2 [49, 46, 50, 53] false, numLeaf (-15) 1 [49, 46, 53] true, numLeaf 100000000000000000 0 [49, 48, 48, 48, 48, 48, 48, 48, 48, 48, 48, 48, 48, 48, 48, 48, 48, 48] false,
 textLeaf [120, 34, 121], textLeaf [39], textLeaf [233, 32], textLeaf [40, 49, 32, 58, 32, 50, 41],
 figLeaf "ZERO" "ZERO", figLeaf "SPACE" "SPACE", figLeaf "HIGH" "HIGH-VALUE", figLeaf "LOW" "LOW-VALUE", figLeaf "QUOTE" "QUOTE",
 allLeaf [120, 34, 121], allLeaf [39], allLeaf [233, 32], allLeaf [40, 49, 32, 58, 32, 50, 41]]
noncomputable def LeafRd (c : Cx) (l : Leaf) : Prop := ∀ (H : List AO) (R : V → List AO → Prop) (X : Nat → List AO → Prop) (i p : Nat) (ts : List Tk), RdAt H i p ts → HasT ts p l.toks → (∀ H', Gr [i] H H' → RdAt H' i (p + l.toks.length) ts → R l.toV H') → CJ c 7 (.ref 397) [.obj i, rdV] H R X
theorem NumTok_int {r : List Nat} {u : Int} (hu : figVal (ch :: r) = u) (hl : ∀ x ∈ ch :: r, 48 ≤ x ∧ x ≤ 57) (hs : r.length < 1000) : NumTok (S (ch :: r)) u 0 := by
 subst hu
 intro c H R X h
 exact c_read_int hl hs h
theorem NumTok_point {r b : List Nat} {u s : Int} (hu : figVal (ch :: r ++ b) = u) (hsb : (b.length : Int) = s) (hl : ∀ x ∈ ch :: r, 48 ≤ x ∧ x ≤ 57) (hb : ∀ x ∈ b, 48 ≤ x ∧ x ≤ 57) (hbn : b ≠ []) (hs : r.length + b.length < 1000) (hm : (figVal (ch :: r ++ b)).fmod 10 ≠ 0) : NumTok (S (ch :: (r ++ 46 :: b))) u s := by
 subst hu hsb
 intro c H R X h
 exact c_read_point hl hb hbn hs hm h
theorem rd_num {u s : Int} {w : List Nat} (h : NumTok (S w) u s) : LeafRd c (numLeaf u s w false) := fun H R X i p ts hr ht hk => c_ro_num hr ht h hk
theorem rd_neg {u s : Int} {w : List Nat} (h : NumTok (S w) (-u) s) : LeafRd c (numLeaf u s w true) := fun H R X i p ts hr ht hk => c_ro_neg hr ht h (by rw [Int.neg_neg]; exact hk)
theorem rd_text {l : List Nat} (hl : ∀ ch ∈ l, ch < 256) (hs : l.length ≤ 1000) : LeafRd c (textLeaf l) := fun H R X i p ts hr ht hk => c_ro_text hr ht rfl hl hs hk
theorem rd_all {l : List Nat} (hl : ∀ ch ∈ l, ch < 256) (hs : l.length ≤ 1000) : LeafRd c (allLeaf l) := fun H R X i p ts hr ht hk => c_ro_all hr ht rfl hl hs hk
theorem rd_fig {v w : String} (hw : (so w == so "ALL") = false) (hy : dfind figNs (so w) = some (so v)) : LeafRd c (figLeaf v w) := fun H R X i p ts hr ht hk => c_ro_fig hr ht hw hy hk
theorem rd_leaves : ∀ l ∈ leaves, LeafRd c l := by
 intro l hl
 simp only [leaves, List.mem_cons, List.not_mem_nil, or_false] at hl
 rcases hl with rfl | rfl | rfl | rfl | rfl | rfl | rfl | rfl | rfl | rfl | rfl | rfl | rfl | rfl | rfl | rfl | rfl | rfl | rfl
 ·exact rd_num (NumTok_int (by decide) (by decide) (by decide))
 ·exact rd_num (NumTok_int (by decide) (by decide) (by decide))
 ·exact rd_neg (NumTok_int (by decide) (by decide) (by decide))
 ·exact rd_num (NumTok_point (r := []) (b := [50, 53]) (by decide) (by decide) (by decide) (by decide) (by decide) (by decide) (by decide))
 ·exact rd_neg (NumTok_point (r := []) (b := [53]) (by decide) (by decide) (by decide) (by decide) (by decide) (by decide) (by decide))
 ·exact rd_num (NumTok_int (by decide) (by decide) (by decide))
 ·exact rd_text (by decide) (by decide)
 ·exact rd_text (by decide) (by decide)
 ·exact rd_text (by decide) (by decide)
 ·exact rd_text (by decide) (by decide)
 ·exact rd_fig (by decide +kernel) (by decide +kernel)
 ·exact rd_fig (by decide +kernel) (by decide +kernel)
 ·exact rd_fig (by decide +kernel) (by decide +kernel)
 ·exact rd_fig (by decide +kernel) (by decide +kernel)
 ·exact rd_fig (by decide +kernel) (by decide +kernel)
 ·exact rd_all (by decide) (by decide)
 ·exact rd_all (by decide) (by decide)
 ·exact rd_all (by decide) (by decide)
 ·exact rd_all (by decide) (by decide)
theorem rd_dig (k : Nat) (hk : k < 10) : LeafRd c (numLeaf (k : Int) 0 [48 + k] false) := by
 refine rd_num (NumTok_int ?_ ?_ (by decide))
 ·show (0 : Int) * 10 + (((48 + k : Nat) : Int) - 48) = k
  walk_at "o"
 ·intro x hx
  rw [List.mem_singleton] at hx
  walk_at "o"
noncomputable def leafAt (k : Fin 19) : Leaf := leaves[k.val]'(Nat.lt_of_lt_of_eq k.isLt (by decide))
theorem rd_leaf (k : Fin 19) : LeafRd c (leafAt k) := rd_leaves _ (List.getElem_mem _)
noncomputable def whos : List Str := [so "A", so "B-2", so "C3"]
noncomputable def whoAt (k : Fin 3) : Str := whos[k.val]'k.isLt
noncomputable def arounds : List Str := [so "G", so "H-1"]
noncomputable def quals (J : Str) (q : Fin 3) : List (Str × Str) := (arounds.take q.val).map fun x => (J, x)
mutual
inductive Op
 | leaf (k : Fin 19)
 | ref (w q : Fin 3) (rows : Exs) (part : Pt)
inductive Ex
 | neg (o : Op)
 | plus (a b : Op)
 | one (o : Op)
inductive Exs
 | nil
 | cons (e : Ex) (r : Exs)
inductive Pt
 | none
 | beg (b : Ex)
 | both (b l : Ex)
end
noncomputable def Op.sg : Op → Bool
 | .leaf k => (leafAt k).sg
 | .ref .. => false
noncomputable def Ex.sg : Ex → Bool
 | .neg _ => true
 | .plus a _ => a.sg
 | .one a => a.sg
noncomputable def Exs.anySg : Exs → Bool
 | .nil => false
 | .cons e r => e.sg || r.anySg
noncomputable def Exs.wr : Exs → Bool
 | .nil => false
 | .cons _ r => r.anySg
noncomputable def Exs.len : Exs → Nat
 | .nil => 0
 | .cons _ r => r.len + 1
noncomputable abbrev tO : TK := (kSign, so "(")
noncomputable abbrev tC : TK := (kSign, so ")")
noncomputable abbrev tM : TK := (kSign, so "-")
noncomputable abbrev tP : TK := (kSign, so "+")
noncomputable abbrev tD : TK := (kSign, so ":")
mutual
noncomputable def Op.toV : Op → V
 | .leaf k => (leafAt k).toV
 | .ref w q rows part => .tup [.str (so "ref"), .str (whoAt w), .tup ((arounds.take q.val).map V.str), .tup rows.vals, part.toV]
noncomputable def Ex.toV : Ex → V
 | .neg o => .tup [.str (so "neg"), o.toV]
 | .plus a b => .tup [.str (so "+"), a.toV, b.toV]
 | .one o => o.toV
noncomputable def Exs.vals : Exs → List V
 | .nil => []
 | .cons e r => e.toV :: r.vals
noncomputable def Pt.toV : Pt → V
 | .none => .none
 | .beg b => .tup [b.toV, .none]
 | .both b l => .tup [b.toV, l.toV]
end
mutual
noncomputable def Op.toks (J : Str) : Op → List TK
 | .leaf k => (leafAt k).toks
 | .ref w q .nil part => (kWord, whoAt w) :: (qualT (quals J q) ++ part.toks J)
 | .ref w q (.cons e r) part => (kWord, whoAt w) :: (qualT (quals J q) ++ (tO :: ((if r.anySg then tO :: (e.toks J ++ [tC]) else e.toks J) ++ r.toks J r.anySg ++ [tC]) ++ part.toks J))
noncomputable def Ex.toks (J : Str) : Ex → List TK
 | .neg o => tM :: tO :: (o.toks J ++ [tC])
 | .plus a b => a.toks J ++ tP :: b.toks J
 | .one o => o.toks J
noncomputable def Exs.toks (J : Str) (wr : Bool) : Exs → List TK
 | .nil => []
 | .cons e r => (if wr then tO :: (e.toks J ++ [tC]) else e.toks J) ++ r.toks J wr
noncomputable def Pt.toks (J : Str) : Pt → List TK
 | .none => []
 | .beg b => tO :: (b.toks J ++ [tD, tC])
 | .both b l => tO :: (b.toks J ++ tD :: (l.toks J ++ [tC]))
end
mutual
noncomputable def Op.fit : Op → Nat → Prop
 | .leaf _, _ => True
 | .ref _ _ _ _, 0 => False
 | .ref _ _ rows part, d + 1 => rows.len ≤ 7 ∧ rows.fit d ∧ part.fit d
noncomputable def Ex.fit : Ex → Nat → Prop
 | .neg o, d => o.fit d
 | .plus a b, d => a.fit d ∧ b.fit d
 | .one o, d => o.fit d
noncomputable def Exs.fit : Exs → Nat → Prop
 | .nil, _ => True
 | .cons e r, d => e.fit d ∧ r.fit d
noncomputable def Pt.fit : Pt → Nat → Prop
 | .none, _ => True
 | .beg b, d => b.fit d
 | .both b l, d => b.fit d ∧ l.fit d
end
noncomputable def startB (t : TK) : Bool := !(t.1 == kSign && t.2 == so "(") && !(t.1 == kSign && t.2 == so ")") && !(t.1 == kSign && t.2 == so "+") && !(t.1 == kWord && t.2 == so "OF") && !(t.1 == kWord && t.2 == so "IN")
structure StartOk (t : TK) : Prop where
 o : (t.1 == kSign && t.2 == so "(") = false
 c : (t.1 == kSign && t.2 == so ")") = false
 p : (t.1 == kSign && t.2 == so "+") = false
 f : (t.1 == kWord && t.2 == so "OF") = false
 n : (t.1 == kWord && t.2 == so "IN") = false
theorem startOk {t : TK} (h : startB t = true) : StartOk t := by
 unfold startB at h
 rw [Bool.and_eq_true, Bool.and_eq_true, Bool.and_eq_true, Bool.and_eq_true, Bool.not_eq_true', Bool.not_eq_true', Bool.not_eq_true', Bool.not_eq_true', Bool.not_eq_true'] at h
 exact ⟨h.1.1.1.1, h.1.1.1.2, h.1.1.2, h.1.2, h.2⟩
structure FolO (ts : List Tk) (q : Nat) : Prop where
 o : isKW ts q kSign (so "(") = false
 f : isKW ts q kWord (so "OF") = false
 n : isKW ts q kWord (so "IN") = false
noncomputable def NoP (ts : List Tk) (q : Nat) : Prop := isKW ts q kSign (so "+") = false
structure FolE (ts : List Tk) (q : Nat) : Prop where
 o : FolO ts q
 p : NoP ts q
noncomputable def Rd1 (c : Cx) (g : Addr) (n : Nat) (F : List Tk → Nat → Prop) (l : List TK) (v : V) : Prop := ∀ (H : List AO) (R : V → List AO → Prop) (X : Nat → List AO → Prop) (i p : Nat) (ts : List Tk), RdAt H i p ts → HasT ts p l → F ts (p + l.length) → (∀ H', Gr [i] H H' → RdAt H' i (p + l.length) ts → R v H') → CJ c n (.ref g) [.obj i] H R X
noncomputable def RdO (c : Cx) (n : Nat) (F : List Tk → Nat → Prop) (l : List TK) (v : V) : Prop := ∀ (H : List AO) (R : V → List AO → Prop) (X : Nat → List AO → Prop) (i p : Nat) (ts : List Tk), RdAt H i p ts → HasT ts p l → F ts (p + l.length) → (∀ H', Gr [i] H H' → RdAt H' i (p + l.length) ts → R v H') → CJ c n (.ref 397) [.obj i, rdV] H R X
theorem Rd1.up {g : Addr} {F : List Tk → Nat → Prop} {l : List TK} {v : V} (h : Rd1 c g n F l v) (hm : n ≤ m) : Rd1 c g m F l v := fun H R X i p ts r t f k => C_up hm (h H R X i p ts r t f k)
theorem RdO.up {F : List Tk → Nat → Prop} {l : List TK} {v : V} (h : RdO c n F l v) (hm : n ≤ m) : RdO c m F l v := fun H R X i p ts r t f k => C_up hm (h H R X i p ts r t f k)
theorem Rd1.weak {g : Addr} {F G : List Tk → Nat → Prop} {l : List TK} {v : V} (h : Rd1 c g n F l v) (hm : ∀ ts q, G ts q → F ts q) : Rd1 c g n G l v := fun H R X i p ts r t f k => h H R X i p ts r t (hm _ _ f) k
section
variable {c : Cx} {n : Nat} {H : List AO} {R : V → List AO → Prop} {X : Nat → List AO → Prop} {i p a : Nat} {ts : List Tk} {F : List Tk → Nat → Prop} {l : List TK} {v : V}
theorem one_plain {t : TK} {r : List TK} (h4 : 4 ≤ n) (h : RdO c n F (t :: r) v) (ht : startB t = true) : Rd1 c 662 (n + 1) F (t :: r) v := by
 intro H R X i p ts hr hl hf hk
 refine hr.elim fun j l' nm hi hj hll htk => ?_
 have e : isKW ts p kSign (so "(") = false := by rw [hl.kw]; exact (startOk ht).o
 apply p_law_one
 walk_at "b"
 apply mt_skip_sign hi
 walk_at "w"
 refine C_up h4 (c_skip_sign hr (fun _ => ?_) fun q => by rw [e] at q; cases q)
 walk_at "w"
 walk_at "i"
 exact h _ _ _ _ _ _ hr hl hf hk
theorem one_end (h6 : 7 ≤ n) (hr : RdAt H i p ts) (ht : ts[p]? = none) {t : Tk} (hl : ts[ts.length - 1]? = some t) (hX : ∀ H', Gr [] H H' → X H'.length (H' ++ [.exc 72 [(so "what", .str (so "a name is asked here")), (so "at", t.pos)]])) : CJ c (n + 1) (.ref 662) [.obj i] H R X := by
 refine hr.elim fun j l' nm hi hj hll htk => ?_
 apply p_law_one
 walk_at "b"
 apply mt_skip_sign hi
 walk_at "w"
 refine C_up (by walk_at "o") (c_skip_sign hr (fun _ => ?_) fun q => by rw [isKW_none ht] at q; cases q)
 walk_at "w"
 walk_at "i"
 exact C_up h6 (c_ro_end hr ht (by decide) fun H' g r => c_ref_end r ht hl (hX _ g))
theorem one_par (h6 : 6 ≤ n) (h : Rd1 c 648 n F l v) (hF : ∀ ts q r, HasT ts q (tC :: r) → F ts q) : Rd1 c 662 (n + 1) (fun _ _ => True) (tO :: (l ++ [tC])) v := by
 intro H R X i p ts hr hl hf hk
 refine hr.elim fun j l' nm hi hj hll htk => ?_
 have e : isKW ts p kSign (so "(") = true := by rw [hl.kw, beq_self_eq_true, beq_self_eq_true]; rfl
 have hl2 := HasT_app.mp hl.tail
 have e2 : isKW ts (p + 1 + l.length) kSign (so ")") = true := by rw [hl2.2.kw, beq_self_eq_true, beq_self_eq_true]; rfl
 apply p_law_one
 walk_at "b"
 apply mt_skip_sign hi
 walk_at "w"
 refine C_up (by walk_at "o") (c_skip_sign hr (fun q => by rw [e] at q; cases q) fun _ H1 g1 r1 => ?_)
 walk_at "w"
 walk_at "i"
 refine h _ _ _ _ _ _ r1 hl2.1 (hF _ _ _ hl2.2) fun H2 g2 r2 => ?_
 refine r2.elim fun j2 l2 nm2 hi2 _ _ _ => ?_
 walk_at "a"
 apply mt_need_sign hi2
 walk_at "w"
 refine C_up (by walk_at "o") (c_need_sign r2 (fun _ H3 g3 r3 => ?_) fun q => by rw [e2] at q; cases q)
 walk_at "s"
 refine hk _ ((g1.tr g2).tr g3) ?_
 rw [show p + (tO :: (l ++ [tC])).length = p + 1 + l.length + 1 by simp; walk_at "o"]
 exact r3
noncomputable def termB : List TK → Bool
 | [] => true
 | t :: r => !(t.1 == kSign && t.2 == so "-") || match r with | u :: _ => u.1 == kNum | [] => false
theorem termB_cons (t : TK) (r : List TK) : termB (t :: r) = (!(t.1 == kSign && t.2 == so "-") || match r with | u :: _ => u.1 == kNum | [] => false) := rfl
theorem term_plain (h4 : 4 ≤ n) (h : Rd1 c 662 n F l v) (ht : termB l = true) (hne : l ≠ []) : Rd1 c 655 (n + 1) F l v := by
 intro H R X i p ts hr hl hf hk
 refine hr.elim fun j l' nm hi hj hll htk => ?_
 apply p_law_term
 walk_at "b"
 apply mt_is_sign hi
 walk_at "w"
 refine C_up (by walk_at "o") (c_is_sign0 hr ?_)
 match l, hne with
 | t :: r, _ =>
 have e := hl.kw kSign (so "-")
 cases q : (t.1 == kSign && t.2 == so "-") with
 | false =>
  rw [e, q]
  walk_at "w"
  walk_at "if"
  walk_at "i"
  exact h _ _ _ _ _ _ hr hl hf hk
 | true =>
  have e2 : isNum ts p = true := by
   rw [termB_cons, q, Bool.not_true, Bool.false_or] at ht
   match r, ht with
   | u :: r', ht =>
    unfold isNum
    rw [e, q, Bool.or_true, if_pos rfl, hl.tail.kd]
    exact ht
  rw [e, q]
  walk_at "w"
  walk_at "if"
  walk_at "w"
  apply mt_is_number hi
  walk_at "w"
  refine C_up h4 (c_is_number hr ?_)
  rw [e2]
  walk_at "w"
  walk_at "if"
  walk_at "i"
  exact h _ _ _ _ _ _ hr hl hf hk
theorem term_end (h4 : 8 ≤ n) (hr : RdAt H i p ts) (ht : ts[p]? = none) {t : Tk} (hl : ts[ts.length - 1]? = some t) (hX : ∀ H', Gr [] H H' → X H'.length (H' ++ [.exc 72 [(so "what", .str (so "a name is asked here")), (so "at", t.pos)]])) : CJ c (n + 1) (.ref 655) [.obj i] H R X := by
 refine hr.elim fun j l' nm hi hj hll htk => ?_
 apply p_law_term
 walk_at "b"
 apply mt_is_sign hi
 walk_at "w"
 refine C_up (by walk_at "o") (c_is_sign0 hr ?_)
 rw [isKW_none ht]
 walk_at "w"
 walk_at "if"
 walk_at "i"
 exact C_up h4 (one_end (n := 7) (by decide) hr ht hl hX)
theorem term_neg (h4 : 4 ≤ n) {r : List TK} (h : Rd1 c 662 n F (tO :: r) v) : Rd1 c 655 (n + 1) F (tM :: tO :: r) (.tup [.str (so "neg"), v]) := by
 intro H R X i p ts hr hl hf hk
 refine hr.elim fun j l' nm hi hj hll htk => ?_
 have e := hl.kw kSign (so "-")
 rw [beq_self_eq_true, beq_self_eq_true] at e
 have e2 : isNum ts p = false := by
  unfold isNum
  rw [e, Bool.and_self, Bool.or_true, if_pos rfl, hl.tail.kd]
  decide +kernel
 apply p_law_term
 walk_at "b"
 apply mt_is_sign hi
 walk_at "w"
 refine C_up (by walk_at "o") (c_is_sign0 hr ?_)
 rw [e]
 walk_at "w"
 walk_at "if"
 walk_at "w"
 apply mt_is_number hi
 walk_at "w"
 refine C_up h4 (c_is_number hr ?_)
 rw [e2]
 walk_at "w"
 walk_at "if"
 walk_at "w"
 walk_at "i"
 apply mt_take hi
 walk_at "w"
 obtain ⟨t, ht, _, _⟩ := hl.1
 refine C_up (by walk_at "o") (c_take hr ht fun o b H1 ho g1 r1 => ?_)
 walk_at "s"
 have ep : p + (tM :: tO :: r).length = p + 1 + (tO :: r).length := by simp; walk_at "o"
 rw [ep] at hf hk
 refine h _ _ _ _ _ _ r1 hl.tail hf fun H2 g2 r2 => ?_
 walk_at "w"
 exact hk _ (g1.tr g2) r2
theorem read_one (h4 : 4 ≤ n) (h : Rd1 c 655 n F l v) : Rd1 c 648 (n + 1) (fun ts q => F ts q ∧ NoP ts q) l v := by
 intro H R X i p ts hr hl hf hk
 refine hr.elim fun j l' nm hi hj hll htk => ?_
 apply p_law_read
 walk_at "b"
 refine h _ _ _ _ _ _ hr hl hf.1 fun H1 g1 r1 => ?_
 walk_at "asg"
 refine X_while (J := fun k ρ1 H2 => ρ1 = [lv "reader" (.obj i), lv "found" v, gv "_law_term" (.val (.ref 655))] ∧ H2 = H1) 0 ⟨rfl, rfl⟩ ?_
 rintro k ρ1 H2 ⟨rfl, rfl⟩
 refine r1.elim fun j2 l2 nm2 hi2 _ _ _ => ?_
 walk_at "w"
 apply mt_skip_sign hi2
 walk_at "w"
 refine C_up h4 (c_skip_sign r1 (fun _ => ?_) fun q => by rw [hf.2] at q; cases q)
 walk_at "w"
 walk_at "i"
 exact hk _ g1 r1
theorem read_end (h4 : 9 ≤ n) (hr : RdAt H i p ts) (ht : ts[p]? = none) {t : Tk} (hl : ts[ts.length - 1]? = some t) (hX : ∀ H', Gr [] H H' → X H'.length (H' ++ [.exc 72 [(so "what", .str (so "a name is asked here")), (so "at", t.pos)]])) : CJ c (n + 1) (.ref 648) [.obj i] H R X := by
 apply p_law_read
 walk_at "b"
 exact C_up h4 (term_end (n := 8) (by decide) hr ht hl hX)
theorem read_plus {la lb : List TK} {va vb : V} (h4 : 4 ≤ n) (ha : Rd1 c 655 n F la va) (hb : Rd1 c 655 n F lb vb) (hF : ∀ ts q r, HasT ts q (tP :: r) → F ts q) : Rd1 c 648 (n + 1) (fun ts q => F ts q ∧ NoP ts q) (la ++ tP :: lb) (.tup [.str (so "+"), va, vb]) := by
 intro H R X i p ts hr hl hf hk
 refine hr.elim fun j l' nm hi hj hll htk => ?_
 have hl2 := HasT_app.mp hl
 have ep : p + (la ++ tP :: lb).length = p + la.length + 1 + lb.length := by simp; walk_at "o"
 rw [ep] at hf hk
 have e : isKW ts (p + la.length) kSign (so "+") = true := by rw [hl2.2.kw, beq_self_eq_true, beq_self_eq_true]; rfl
 apply p_law_read
 walk_at "b"
 refine ha _ _ _ _ _ _ hr hl2.1 (hF _ _ _ hl2.2) fun H1 g1 r1 => ?_
 walk_at "asg"
 refine X_while (J := fun k ρ1 H2 => (k = 1 ∧ ρ1 = [lv "reader" (.obj i), lv "found" va, gv "_law_term" (.val (.ref 655))] ∧ Gr [i] H H2 ∧ RdAt H2 i (p + la.length) ts) ∨ (k = 0 ∧ ρ1 = [lv "reader" (.obj i), lv "found" (.tup [.str (so "+"), va, vb]), gv "_law_term" (.val (.ref 655))] ∧ Gr [i] H H2 ∧ RdAt H2 i (p + la.length + 1 + lb.length) ts)) 1 (.inl ⟨rfl, rfl, g1, r1⟩) ?_
 rintro k ρ1 H2 (⟨rfl, rfl, g2, r2⟩ | ⟨rfl, rfl, g2, r2⟩)
 ·refine r2.elim fun j2 l2 nm2 hi2 _ _ _ => ?_
  walk_at "w"
  apply mt_skip_sign hi2
  walk_at "w"
  refine C_up h4 (c_skip_sign r2 (fun q => by rw [e] at q; cases q) fun _ H3 g3 r3 => ?_)
  walk_at "w"
  walk_at "i"
  refine hb _ _ _ _ _ _ r3 hl2.2.tail hf.1 fun H4 g4 r4 => ?_
  walk_at "w"
  walk_at "asg"
  walk_at "st"
  exact ⟨0, by decide, .inr ⟨rfl, rfl, (g2.tr g3).tr g4, r4⟩⟩
 ·refine r2.elim fun j2 l2 nm2 hi2 _ _ _ => ?_
  walk_at "w"
  apply mt_skip_sign hi2
  walk_at "w"
  refine C_up h4 (c_skip_sign r2 (fun _ => ?_) fun q => by rw [hf.2] at q; cases q)
  walk_at "w"
  walk_at "i"
  exact hk _ g2 r2
end
noncomputable def Bal (l : List TK) : Prop := ∀ (ts : List Tk) (p d : Nat), HasT ts p l → scanL (ts.drop p) (d + 1) = scanL (ts.drop (p + l.length)) (d + 1)
theorem scan_at {ts : List Tk} {p : Nat} {t : TK} {r : List TK} (h : HasT ts p (t :: r)) : scanL (ts.drop p) (d + 1) = if t.1 == kSign && t.2 == so "(" then scanL (ts.drop (p + 1)) (d + 2) else if t.1 == kSign && t.2 == so ")" then scanL (ts.drop (p + 1)) d else if d == 0 && (t.1 == kSign && t.2 == so ":") then true else scanL (ts.drop (p + 1)) (d + 1) := by
 obtain ⟨⟨u, h1, h2, h3⟩, _⟩ := h
 rw [drop_at h1, scanL_succ, h2, h3]
theorem kS_o : (kSign == kSign && so "(" == so "(") = true := by decide +kernel
theorem kC_o : (kSign == kSign && so ")" == so "(") = false := by decide +kernel
theorem kC_c : (kSign == kSign && so ")" == so ")") = true := by decide +kernel
theorem kD_o : (kSign == kSign && so ":" == so "(") = false := by decide +kernel
theorem kD_c : (kSign == kSign && so ":" == so ")") = false := by decide +kernel
theorem kD_d : (kSign == kSign && so ":" == so ":") = true := by decide +kernel
theorem scan_o {ts : List Tk} {p : Nat} {r : List TK} (h : HasT ts p (tO :: r)) : scanL (ts.drop p) (d + 1) = scanL (ts.drop (p + 1)) (d + 2) := by rw [scan_at h, kS_o]; rfl
theorem scan_c {ts : List Tk} {p : Nat} {r : List TK} (h : HasT ts p (tC :: r)) : scanL (ts.drop p) (d + 1) = scanL (ts.drop (p + 1)) d := by rw [scan_at h, kC_o, kC_c]; rfl
theorem scan_d {ts : List Tk} {p : Nat} {r : List TK} (h : HasT ts p (tD :: r)) : scanL (ts.drop p) (d + 2) = scanL (ts.drop (p + 1)) (d + 2) := by rw [scan_at h, kD_o, kD_c]; rfl
theorem scan_d0 {ts : List Tk} {p : Nat} {r : List TK} (h : HasT ts p (tD :: r)) : scanL (ts.drop p) 1 = true := by rw [scan_at h, kD_o, kD_c, kD_d]; rfl
theorem Bal_nil : Bal [] := fun _ _ _ _ => rfl
theorem Bal_app {l m : List TK} (hl : Bal l) (hm : Bal m) : Bal (l ++ m) := by
 intro ts p d h
 have h2 := HasT_app.mp h
 rw [hl ts p d h2.1, hm ts _ d h2.2, lAp, Nat.add_assoc]
noncomputable def plainB (t : TK) : Bool := !(t.1 == kSign && t.2 == so "(") && !(t.1 == kSign && t.2 == so ")") && !(t.1 == kSign && t.2 == so ":")
theorem Bal_tok {t : TK} {l : List TK} (h : plainB t = true) (hl : Bal l) : Bal (t :: l) := by
 unfold plainB at h
 rw [Bool.and_eq_true, Bool.and_eq_true, Bool.not_eq_true', Bool.not_eq_true', Bool.not_eq_true'] at h
 intro ts p d ht
 rw [scan_at ht, h.1.1, h.1.2, h.2, Bool.and_false, if_neg Bool.false_ne_true, if_neg Bool.false_ne_true, if_neg Bool.false_ne_true, hl _ _ _ ht.2, lCo, show p + 1 + l.length = p + (l.length + 1) by walk_at "o"]
theorem Bal_all : ∀ {l : List TK}, l.all plainB = true → Bal l
 | [], _ => Bal_nil
 | t :: l, h => by
  rw [List.all_cons, Bool.and_eq_true] at h
  exact Bal_tok h.1 (Bal_all h.2)
theorem Bal_par {l : List TK} (hl : Bal l) : Bal (tO :: (l ++ [tC])) := by
 intro ts p d h
 have h2 := HasT_app.mp h.2
 rw [scan_o h, hl _ _ _ h2.1, scan_c h2.2]
 congr 2
 simp; walk_at "o"
theorem Bal_part {l m : List TK} (hl : Bal l) (hm : Bal m) : Bal (tO :: (l ++ tD :: (m ++ [tC]))) := by
 intro ts p d h
 have h2 := HasT_app.mp h.2
 have h3 := HasT_app.mp h2.2.2
 rw [scan_o h, hl _ _ _ h2.1, scan_d h2.2, hm _ _ _ h3.1, scan_c h3.2]
 congr 2
 simp; walk_at "o"
theorem pn_no {ts : List Tk} {q : Nat} (h : isKW ts q kSign (so "(") = false) : partNext ts q = false := by
 unfold partNext
 rw [if_neg (by rw [h]; decide)]
theorem pn_o {ts : List Tk} {q : Nat} {l : List TK} (h : HasT ts q (tO :: l)) : partNext ts q = scanL (ts.drop (q + 1)) 1 := by
 unfold partNext
 rw [if_pos (by rw [h.kw]; exact kS_o)]
theorem pn_rows {ts : List Tk} {q : Nat} {l r : List TK} (h : HasT ts q (tO :: (l ++ tC :: r))) (hl : Bal l) : partNext ts q = false := by
 have h2 := HasT_app.mp h.2
 rw [pn_o h, hl _ _ _ h2.1, scan_c h2.2, scanL_zero]
theorem pn_cut {ts : List Tk} {q : Nat} {l : List TK} (h : HasT ts q (tO :: l)) (hl : Bal l) (he : ts[q + 1 + l.length]? = none) : partNext ts q = false := by
 rw [pn_o h, hl _ _ _ h.2, List.drop_eq_nil_of_le (by
  rcases Nat.lt_or_ge (q + 1 + l.length) ts.length with x | x
  ·rw [gEg x] at he; cases he
  ·exact x)]
 rfl
theorem pn_part {ts : List Tk} {q : Nat} {l r : List TK} (h : HasT ts q (tO :: (l ++ tD :: r))) (hl : Bal l) : partNext ts q = true := by
 have h2 := HasT_app.mp h.2
 rw [pn_o h, hl _ _ _ h2.1, scan_d0 h2.2]
theorem leaf_facts : leaves.all (fun l => l.toks.all plainB && termB l.toks && match l.toks with | t :: _ => startB t | [] => false) = true := by decide +kernel
theorem leaf_fact (k : Fin 19) : (leafAt k).toks.all plainB = true ∧ termB (leafAt k).toks = true ∧ ∃ t r, (leafAt k).toks = t :: r ∧ startB t = true := by
 have h := List.all_eq_true.mp leaf_facts (leafAt k) (List.getElem_mem _)
 rw [Bool.and_eq_true, Bool.and_eq_true] at h
 refine ⟨h.1.1, h.1.2, ?_⟩
 have h3 := h.2
 split at h3
 ·exact ⟨_, _, by assumption, h3⟩
 ·cases h3
theorem who_fact : ∀ k : Fin 3, startB (kWord, whoAt k) = true ∧ plainB (kWord, whoAt k) = true ∧ (whoAt k == so "ALL") = false ∧ dfind figNs (whoAt k) = none := by decide +kernel
theorem who_term (k : Fin 3) (r : List TK) : termB ((kWord, whoAt k) :: r) = true := by
 rw [termB_cons]
 dsimp only
 rw [show (kWord == kSign) = false by decide +kernel]
 rfl
theorem word_plain (w : Str) : plainB (kWord, w) = true := by
 unfold plainB
 dsimp only
 rw [show (kWord == kSign) = false by decide +kernel]
 rfl
theorem qualT_plain (qs : List (Str × Str)) : (qualT qs).all plainB = true := by
 induction qs with
 | nil => rfl
 | cons e r ih =>
  show (plainB (kWord, e.1) && (plainB (kWord, e.2) && (qualT r).all plainB)) = true
  rw [word_plain, word_plain, ih]; rfl
theorem Op.start (J : Str) (o : Op) : ∃ t r, o.toks J = t :: r ∧ startB t = true := by
 cases o with
 | leaf k => unfold Op.toks; exact (leaf_fact k).2.2
 | ref w q rows part => cases rows <;> exact ⟨_, _, by unfold Op.toks; rfl, (who_fact w).1⟩
theorem Op.term (J : Str) (o : Op) : termB (o.toks J) = true := by
 cases o with
 | leaf k => unfold Op.toks; exact (leaf_fact k).2.1
 | ref w q rows part => cases rows <;> (unfold Op.toks; exact who_term w _)
theorem Ex.start (J : Str) (e : Ex) : ∃ t r, e.toks J = t :: r ∧ startB t = true := by
 cases e with
 | neg o => exact ⟨tM, _, by unfold Ex.toks; rfl, by decide +kernel⟩
 | plus a b =>
  obtain ⟨t, r, h, hs⟩ := a.start J
  exact ⟨t, _, by unfold Ex.toks; rw [h]; rfl, hs⟩
 | one o =>
  obtain ⟨t, r, h, hs⟩ := o.start J
  exact ⟨t, r, by unfold Ex.toks; exact h, hs⟩
mutual
theorem Op.bal (J : Str) : ∀ o : Op, Bal (o.toks J)
 | .leaf k => by unfold Op.toks; exact Bal_all (leaf_fact k).1
 | .ref w q .nil part => by
  unfold Op.toks
  exact Bal_tok (word_plain _) (Bal_app (Bal_all (qualT_plain _)) (part.bal J))
 | .ref w q (.cons e r) part => by
  unfold Op.toks
  refine Bal_tok (word_plain _) (Bal_app (Bal_all (qualT_plain _)) ?_)
  rw [← List.cons_append]
  refine Bal_app (Bal_par (Bal_app ?_ (r.bal J _))) (part.bal J)
  split
  ·exact Bal_par (e.bal J)
  ·exact e.bal J
theorem Ex.bal (J : Str) : ∀ e : Ex, Bal (e.toks J)
 | .neg o => by unfold Ex.toks; exact Bal_tok (by decide +kernel) (Bal_par (o.bal J))
 | .plus a b => by unfold Ex.toks; exact Bal_app (a.bal J) (Bal_tok (by decide +kernel) (b.bal J))
 | .one o => by unfold Ex.toks; exact o.bal J
theorem Exs.bal (J : Str) (wr : Bool) : ∀ r : Exs, Bal (r.toks J wr)
 | .nil => by unfold Exs.toks; exact Bal_nil
 | .cons e r => by
  unfold Exs.toks
  refine Bal_app ?_ (r.bal J wr)
  split
  ·exact Bal_par (e.bal J)
  ·exact e.bal J
theorem Pt.bal (J : Str) : ∀ p : Pt, Bal (p.toks J)
 | .none => by unfold Pt.toks; exact Bal_nil
 | .beg b => by unfold Pt.toks; exact Bal_part (b.bal J) Bal_nil
 | .both b l => by unfold Pt.toks; exact Bal_part (b.bal J) (l.bal J)
end
theorem FolE.one {ts : List Tk} {q : Nat} (h : FolE ts q) : FolO ts q ∧ NoP ts q := ⟨h.o, h.p⟩
theorem fol_start {ts : List Tk} {q : Nat} {t : TK} {r : List TK} (h : HasT ts q (t :: r)) (hs : startB t = true) : FolE ts q := by
 have s := startOk hs
 exact ⟨⟨by rw [h.kw]; exact s.o, by rw [h.kw]; exact s.f, by rw [h.kw]; exact s.n⟩, by unfold NoP; rw [h.kw]; exact s.p⟩
theorem fol_c {ts : List Tk} {q : Nat} {r : List TK} (h : HasT ts q (tC :: r)) : FolE ts q :=
 ⟨⟨by rw [h.kw]; decide +kernel, by rw [h.kw]; decide +kernel, by rw [h.kw]; decide +kernel⟩, by unfold NoP; rw [h.kw]; decide +kernel⟩
theorem fol_d {ts : List Tk} {q : Nat} {r : List TK} (h : HasT ts q (tD :: r)) : FolE ts q :=
 ⟨⟨by rw [h.kw]; decide +kernel, by rw [h.kw]; decide +kernel, by rw [h.kw]; decide +kernel⟩, by unfold NoP; rw [h.kw]; decide +kernel⟩
theorem fol_p {ts : List Tk} {q : Nat} {r : List TK} (h : HasT ts q (tP :: r)) : FolO ts q :=
 ⟨by rw [h.kw]; decide +kernel, by rw [h.kw]; decide +kernel, by rw [h.kw]; decide +kernel⟩
theorem fol_end {ts : List Tk} {q : Nat} (h : ts[q]? = none) : FolE ts q := ⟨⟨isKW_none h _ _, isKW_none h _ _, isKW_none h _ _⟩, isKW_none h _ _⟩
theorem nop_o {ts : List Tk} {q : Nat} {r : List TK} (h : HasT ts q (tO :: r)) : NoP ts q := by unfold NoP; rw [h.kw]; decide +kernel
theorem termB_o (r : List TK) : termB (tO :: r) = true := by
 rw [termB_cons, show (tO.1 == kSign && tO.2 == so "-") = false by decide +kernel]
 rfl
noncomputable def Fw (wr : Bool) : List Tk → Nat → Prop := match wr with | true => NoP | false => FolE
theorem Fw_of {ts : List Tk} {q : Nat} {wr : Bool} (h : FolE ts q) : Fw wr ts q := by cases wr; exact h; exact h.p
noncomputable def wrapT (wr : Bool) (l : List TK) : List TK := if wr then tO :: (l ++ [tC]) else l
noncomputable def Exs.rowL (J : Str) (wr : Bool) : Exs → List (List TK × V)
 | .nil => []
 | .cons e r => (wrapT wr (e.toks J), e.toV) :: r.rowL J wr
theorem rowL_T (J : Str) (wr : Bool) : ∀ r : Exs, rowT (r.rowL J wr) = r.toks J wr
 | .nil => by unfold Exs.rowL Exs.toks; rfl
 | .cons e r => by
  have ih := rowL_T J wr r
  unfold rowT at ih ⊢
  unfold Exs.rowL Exs.toks
  rw [List.flatMap_cons, ih]
  rfl
theorem rowL_V (J : Str) (wr : Bool) : ∀ r : Exs, (r.rowL J wr).map (·.2) = r.vals
 | .nil => by unfold Exs.rowL Exs.vals; rfl
 | .cons e r => by
  unfold Exs.rowL Exs.vals
  rw [List.map_cons, rowL_V J wr r]
theorem rowL_len (J : Str) (wr : Bool) : ∀ r : Exs, (r.rowL J wr).length = r.len
 | .nil => by unfold Exs.rowL Exs.len; rfl
 | .cons e r => by
  unfold Exs.rowL Exs.len
  rw [lCo, rowL_len J wr r]
theorem wrap_start (J : Str) (wr : Bool) (e : Ex) : ∃ t l, wrapT wr (e.toks J) = t :: l ∧ (t.1 == kSign && t.2 == so ")") = false ∧ ∀ ts q m, HasT ts q (t :: m) → Fw wr ts q := by
 cases wr with
 | true => exact ⟨tO, _, rfl, by decide +kernel, fun ts q m h => nop_o h⟩
 | false =>
  obtain ⟨t, r, h, hs⟩ := e.start J
  exact ⟨t, r, h, (startOk hs).c, fun ts q m h => fol_start h hs⟩
theorem rows_at (J : Str) (wr : Bool) (ts : List Tk) : ∀ (r : Exs) (p : Nat), HasT ts p (r.toks J wr) → Fw wr ts (p + (r.toks J wr).length) → RowsAt (Fw wr ts) ts p (r.rowL J wr)
 | .nil, _, _, _ => by unfold Exs.rowL; exact trivial
 | .cons e .nil, p, h, hF => by
  unfold Exs.toks Exs.toks at h hF
  rw [List.append_nil] at h hF
  unfold Exs.rowL Exs.rowL
  obtain ⟨t, l, e1, e2, e3⟩ := wrap_start J wr e
  refine ⟨h, hF, ?_, trivial⟩
  have h' : HasT ts p (wrapT wr (e.toks J)) := h
  rw [e1] at h'
  rw [h'.kw]
  exact e2
 | .cons e (.cons e' r), p, h, hF => by
  have ih := rows_at J wr ts (.cons e' r) (p + (wrapT wr (e.toks J)).length)
  have eT : (Exs.cons e (.cons e' r)).toks J wr = wrapT wr (e.toks J) ++ (Exs.cons e' r).toks J wr := by rw [Exs.toks]; rfl
  rw [eT] at h hF
  have h2 := HasT_app.mp h
  rw [lAp, ← Nat.add_assoc] at hF
  have ih' := ih h2.2 hF
  rw [Exs.rowL]
  obtain ⟨t, l, e1, e2, e3⟩ := wrap_start J wr e
  obtain ⟨t', l', e1', e2', e3'⟩ := wrap_start J wr e'
  refine ⟨h2.1, ?_, ?_, ih'⟩
  ·have h3 := h2.2
   have eT' : (Exs.cons e' r).toks J wr = wrapT wr (e'.toks J) ++ r.toks J wr := by rw [Exs.toks]; rfl
   rw [eT', e1'] at h3
   exact e3' _ _ _ h3
  ·have h3 := h2.1
   rw [e1] at h3
   rw [h3.kw]
   exact e2
section
variable {c : Cx} {n : Nat} {H : List AO} {R : V → List AO → Prop} {X : Nat → List AO → Prop} {i p a : Nat} {ts : List Tk} {F : List Tk → Nat → Prop} {l : List TK} {v : V}
theorem term_op {J : Str} {o : Op} (h4 : 4 ≤ n) (h : RdO c n FolO (o.toks J) o.toV) : Rd1 c 655 (n + 2) FolO (o.toks J) o.toV := by
 obtain ⟨t, r, e, hs⟩ := o.start J
 refine term_plain (by walk_at "o") ?_ (o.term J) (by rw [e]; exact List.cons_ne_nil _ _)
 rw [e] at h ⊢
 exact one_plain h4 h hs
theorem ex_rd {J : Str} {e : Ex} (h4 : 6 ≤ n) (hd : e.fit d) (h : ∀ o : Op, o.fit d → RdO c n FolO (o.toks J) o.toV) : Rd1 c 648 (n + 6) FolE (e.toks J) e.toV := by
 cases e with
 | neg o =>
  unfold Ex.toks Ex.toV
  have h1 := term_op (by walk_at "o") (h o (by unfold Ex.fit at hd; exact hd))
  have h2 := one_par (by walk_at "o") (read_one (by walk_at "o") h1) (fun ts q r k => (fol_c k).one)
  exact (read_one (by walk_at "o") (term_neg (by walk_at "o") h2)).weak fun ts q k => ⟨trivial, k.p⟩
 | plus a b =>
  unfold Ex.toks Ex.toV
  have h1 := term_op (by walk_at "o") (h a (by unfold Ex.fit at hd; exact hd.1))
  have h2 := term_op (by walk_at "o") (h b (by unfold Ex.fit at hd; exact hd.2))
  exact ((read_plus (by walk_at "o") h1 h2 (fun ts q r k => fol_p k)).weak fun ts q k => k.one).up (by walk_at "o")
 | one o =>
  unfold Ex.toks Ex.toV
  have h1 := term_op (by walk_at "o") (h o (by unfold Ex.fit at hd; exact hd))
  exact ((read_one (by walk_at "o") h1).weak fun ts q k => k.one).up (by walk_at "o")
theorem wrap_rd {J : Str} {e : Ex} (wr : Bool) (h4 : 4 ≤ n) (h : Rd1 c 648 (n + 2) FolE (e.toks J) e.toV) : Rd1 c 648 (n + 5) (Fw wr) (wrapT wr (e.toks J)) e.toV := by
 cases wr with
 | false => exact h.up (by walk_at "o")
 | true =>
  have h1 := one_par (by walk_at "o") h (fun ts q r k => fol_c k)
  have h2 := term_plain (n := n + 3) (by walk_at "o") h1 (termB_o _) (List.cons_ne_nil _ _)
  exact (read_one (by walk_at "o") h2).weak fun ts q k => ⟨trivial, k⟩
end
noncomputable def subT (J : Str) : Exs → List TK
 | .nil => []
 | .cons e r => tO :: ((Exs.cons e r).toks J r.anySg ++ [tC])
theorem Op.toks_ref (J : Str) (w q : Fin 3) (rows : Exs) (part : Pt) : (Op.ref w q rows part).toks J = (kWord, whoAt w) :: (qualT (quals J q) ++ (subT J rows ++ part.toks J)) := by
 cases rows with
 | nil => rw [Op.toks]; rfl
 | cons e r =>
  have e1 : (Exs.cons e r).toks J r.anySg = (if r.anySg then tO :: (e.toks J ++ [tC]) else e.toks J) ++ r.toks J r.anySg := by rw [Exs.toks]
  rw [Op.toks]
  show _ = (kWord, whoAt w) :: (qualT (quals J q) ++ (tO :: ((Exs.cons e r).toks J r.anySg ++ [tC]) ++ part.toks J))
  rw [e1]
structure Names : Prop where
 who : ∀ k : Fin 3, NameOk (whoAt k)
 aro : ∀ x ∈ arounds, NameOk x
theorem quals_ok {J : Str} (hJ : isJoin J = true) (N : Names) (q : Fin 3) : ∀ e ∈ quals J q, isJoin e.1 = true ∧ NameOk e.2 := by
 intro e he
 unfold quals at he
 obtain ⟨x, hx, rfl⟩ := List.mem_map.mp he
 exact ⟨hJ, N.aro x (List.mem_of_mem_take hx)⟩
theorem quals_len (J : Str) (q : Fin 3) : (quals J q).length = q.val := by
 unfold quals
 rw [lMp, List.length_take]
 have : arounds.length = 2 := rfl
 walk_at "o"
theorem quals_map (J : Str) (q : Fin 3) : ((quals J q).map fun e => V.str e.2) = (arounds.take q.val).map V.str := by
 unfold quals
 rw [List.map_map]
 rfl
theorem no_word {ts : List Tk} {q : Nat} {r : List TK} (h : HasT ts q (tO :: r)) (x : Str) : isKW ts q kWord x = false := by
 rw [h.kw, show (kSign == kWord) = false by decide +kernel]; rfl
section
variable {c : Cx} {n : Nat} {H : List AO} {R : V → List AO → Prop} {X : Nat → List AO → Prop} {i p q a : Nat} {ts : List Tk} {F : List Tk → Nat → Prop} {l : List TK} {v : V} {J : Str}
theorem pt_rd {part : Pt} (h6 : 6 ≤ n) (hd : part.fit d) (h : ∀ e : Ex, e.fit d → Rd1 c 648 n FolE (e.toks J) e.toV) (hne : part ≠ .none) (hr : RdAt H i q ts) (ht : HasT ts q (part.toks J)) (hk : ∀ H', Gr [i] H H' → RdAt H' i (q + (part.toks J).length) ts → R part.toV H') : CJ c (n + 1) (.ref 369) [.obj i, rdV] H R X := by
 cases part with
 | none => exact absurd rfl hne
 | beg b =>
  unfold Pt.toks at ht hk
  unfold Pt.toV at hk
  have ht2 := HasT_app.mp ht.2
  refine c_read_part h6 hr (by rw [ht.kw]; exact kS_o) (h b (by unfold Pt.fit at hd; exact hd)) ht2.1 (fol_d ht2.2) _ rfl (by rw [ht2.2.kw]; exact kD_d) (fun _ H' g r => hk _ g ?_) (fun e => ?_)
  ·rw [show q + (tO :: (b.toks J ++ [tD, tC])).length = q + 1 + (b.toks J).length + 2 by simp; walk_at "o"]
   exact r
  ·rw [ht2.2.tail.kw, kC_c] at e; cases e
 | both b l =>
  unfold Pt.toks at ht hk
  unfold Pt.toV at hk
  have ht2 := HasT_app.mp ht.2
  have ht3 := HasT_app.mp ht2.2.2
  obtain ⟨t, r, e1, e2⟩ := l.start J
  refine c_read_part h6 hr (by rw [ht.kw]; exact kS_o) (h b (by unfold Pt.fit at hd; exact hd.1)) ht2.1 (fol_d ht2.2) _ rfl (by rw [ht2.2.kw]; exact kD_d) (fun e => ?_) (fun e H1 g1 r1 => ?_)
  ·have h3 := ht3.1
   rw [e1] at h3
   rw [h3.kw, (startOk e2).c] at e; cases e
  ·refine h l (by unfold Pt.fit at hd; exact hd.2) _ _ _ _ _ _ r1 ht3.1 (fol_c ht3.2) fun H2 g2 r2 => ?_
   refine ⟨_, g2, r2, fun _ H3 g3 r3 => hk _ ((g1.tr g2).tr g3) ?_, fun e => ?_⟩
   ·rw [show q + (tO :: (b.toks J ++ tD :: (l.toks J ++ [tC]))).length = q + 1 + (b.toks J).length + 1 + (l.toks J).length + 1 by simp; walk_at "o"]
    exact r3
   ·rw [ht3.2.kw, kC_c] at e; cases e
theorem rows_rd {wr : Bool} (h : ∀ e : Ex, e.fit d → Rd1 c 648 n (Fw wr) (wrapT wr (e.toks J)) e.toV) : ∀ (r : Exs), r.fit d → ∀ x ∈ r.rowL J wr, Reads c n (Fw wr) x.1 x.2
 | .nil, _, x, hx => by unfold Exs.rowL at hx; cases hx
 | .cons e r, hd, x, hx => by
  unfold Exs.rowL at hx
  unfold Exs.fit at hd
  rcases List.mem_cons.mp hx with rfl | hx
  ·exact h e hd.1
  ·exact rows_rd h r hd.2 x hx
theorem sub_bal (J : Str) (e : Ex) (r : Exs) : Bal ((Exs.cons e r).toks J r.anySg) := Exs.bal J _ _
theorem ref_rd {w k : Fin 3} {rows : Exs} {part : Pt} (hJ : isJoin J = true) (N : Names) (h6 : 6 ≤ n) (hle : rows.len ≤ 7) (hd1 : rows.fit d) (hd2 : part.fit d) (h1 : ∀ e : Ex, e.fit d → Rd1 c 648 n (Fw rows.wr) (wrapT rows.wr (e.toks J)) e.toV) (h2 : ∀ e : Ex, e.fit d → Rd1 c 648 n FolE (e.toks J) e.toV) : RdO c (n + 3) FolO ((Op.ref w k rows part).toks J) (Op.ref w k rows part).toV := by
 intro H R X i p ts hr ht hf hk
 rw [Op.toks_ref] at ht hf hk
 rw [Op.toV, ← quals_map J] at hk
 have ht2 := HasT_app.mp ht.2
 have ht3 := HasT_app.mp ht2.2
 have hlq : (qualT (quals J k)).length = 2 * (quals J k).length := qualT_len _
 have hend : p + ((kWord, whoAt w) :: (qualT (quals J k) ++ (subT J rows ++ part.toks J))).length = p + 1 + (qualT (quals J k)).length + (subT J rows).length + (part.toks J).length := by simp; walk_at "o"
 rw [hend] at hf hk
 have w1 := who_fact w
 refine c_ro_ref (n := n + 2) hr ht w1.2.2.1 w1.2.2.2 (by walk_at "o") fun H1 g1 r1 => ?_
 have hword : ∀ x, (x = so "OF" ∨ x = so "IN") → isKW ts (p + 1 + (qualT (quals J k)).length) kWord x = false := by
  intro x hx
  cases rows with
  | cons e r => exact no_word ht3.1 x
  | nil =>
   have ht4 := ht3.2
   unfold subT at ht4 hf
   rw [lNi, Nat.add_zero] at ht4 hf
   cases part with
   | none =>
    unfold Pt.toks at hf
    rw [lNi, Nat.add_zero] at hf
    rcases hx with rfl | rfl
    ·exact hf.f
    ·exact hf.n
   | beg b => unfold Pt.toks at ht4; exact no_word ht4 x
   | both b l => unfold Pt.toks at ht4; exact no_word ht4 x
 refine c_read_ref (n := n + 1) (w := whoAt w) (qs := quals J k) (by walk_at "o") r1 ⟨ht.1, ht2.1⟩ (N.who w) (quals_ok hJ N k) (p + 1 + (qualT (quals J k)).length) (by rw [hlq]) (hword _ (.inl rfl)) (hword _ (.inr rfl))
  (fun H' v H2 => v = .tup rows.vals ∧ Gr [i] H' H2 ∧ RdAt H2 i (p + 1 + (qualT (quals J k)).length + (subT J rows).length) ts) (fun H' v H2 g2 hK => ?_) (fun e1 e2 H2 g2 r2 => ?_) (fun e1 H2 g2 r2 => ?_) (by rw [quals_len]; walk_at "o")
 ·obtain ⟨rfl, g3, r3⟩ := hK
  refine ⟨_, g3, r3, fun e => ?_, fun e => ?_⟩
  ·have hne : part ≠ .none := by
    rintro rfl
    unfold Pt.toks at hf
    rw [lNi, Nat.add_zero] at hf
    rw [pn_no hf.o] at e; cases e
   exact pt_rd (by walk_at "o") hd2 h2 hne r3 ht3.2 fun H4 g4 r4 => ⟨g4, hk _ ((g1.nil.tr g2).tr (g3.tr g4)) r4⟩
  ·cases part with
   | none =>
    refine hk _ ((g1.nil.tr g2).tr g3) ?_
    unfold Pt.toks
    rw [lNi, Nat.add_zero]
    exact r3
   | beg b =>
    have ht4 := ht3.2
    unfold Pt.toks at ht4
    rw [pn_part ht4 (b.bal J)] at e; cases e
   | both b l =>
    have ht4 := ht3.2
    unfold Pt.toks at ht4
    rw [pn_part ht4 (b.bal J)] at e; cases e
 ·cases rows with
  | nil =>
   exfalso
   have ht4 := ht3.2
   unfold subT at ht4 hf
   rw [lNi, Nat.add_zero] at ht4 hf
   cases part with
   | none =>
    unfold Pt.toks at hf
    rw [lNi, Nat.add_zero] at hf
    rw [hf.o] at e1; cases e1
   | beg b =>
    unfold Pt.toks at ht4
    rw [pn_part ht4 (b.bal J)] at e2; cases e2
   | both b l =>
    unfold Pt.toks at ht4
    rw [pn_part ht4 (b.bal J)] at e2; cases e2
  | cons e r =>
   have ht4 := ht3.1
   unfold subT at ht4
   have ht5 := HasT_app.mp ht4.2
   have hc : isKW ts (p + 1 + (qualT (quals J k)).length + 1 + ((Exs.cons e r).toks J r.anySg).length) kSign (so ")") = true := by rw [ht5.2.kw]; exact kC_c
   refine c_read_subscripts (F := Fw r.anySg) (rows := (Exs.cons e r).rowL J r.anySg) h6 (rows_rd h1 _ hd1) r2 e1 (by rw [Exs.rowL]; exact List.cons_ne_nil _ _) (by rw [rowL_len]; exact hle) (rows_at J _ ts _ _ ht5.1 (Fw_of (fol_c ht5.2))) _ rfl (fun _ H3 g3 r3 => ⟨by rw [rowL_V], g3, ?_⟩) (fun q => ?_) (fun q => ?_)
   ·rw [rowL_T] at r3
    unfold subT
    rw [show p + 1 + (qualT (quals J k)).length + (tO :: ((Exs.cons e r).toks J r.anySg ++ [tC])).length = p + 1 + (qualT (quals J k)).length + 1 + ((Exs.cons e r).toks J r.anySg).length + 1 by simp; walk_at "o"]
    exact r3
   ·rw [rowL_T, hc] at q; cases q
   ·rw [rowL_T, hc] at q; cases q
 ·cases rows with
  | nil =>
   refine ⟨by rw [Exs.vals], Gr.refl _ _, ?_⟩
   unfold subT
   rw [lNi, Nat.add_zero]
   exact r2
  | cons e r =>
   exfalso
   have ht4 := ht3.1
   unfold subT at ht4
   rcases e1 with e1 | e1
   ·rw [ht4.kw, kS_o] at e1; cases e1
   ·rw [pn_rows ht4 (sub_bal J e r)] at e1; cases e1
end
theorem op_rd {c : Cx} {J : Str} (hJ : isJoin J = true) (N : Names) : ∀ (d : Nat) (o : Op), o.fit d → RdO c (7 + 12 * d) FolO (o.toks J) o.toV
 | d, .leaf k, _ => by
  intro H R X i p ts hr ht hf hk
  unfold Op.toks at ht hk
  unfold Op.toV at hk
  exact C_up (by walk_at "o") (rd_leaf k H R X i p ts hr ht hk)
 | 0, .ref .., h => by unfold Op.fit at h; exact h.elim
 | d + 1, .ref w k rows part, h => by
  unfold Op.fit at h
  have ih := op_rd (c := c) hJ N d
  have hE : ∀ e : Ex, e.fit d → Rd1 c 648 (13 + 12 * d) FolE (e.toks J) e.toV := fun e he => by
   have := ex_rd (c := c) (n := 7 + 12 * d) (by walk_at "o") he ih
   exact this.up (by walk_at "o")
  have := ref_rd (c := c) (n := 16 + 12 * d) (w := w) (k := k) hJ N (by walk_at "o") h.1 h.2.1 h.2.2 (fun e he => (wrap_rd (n := 11 + 12 * d) rows.wr (by walk_at "o") ((hE e he).up (by walk_at "o"))).up (by walk_at "o")) (fun e he => (hE e he).up (by walk_at "o"))
  exact this.up (by walk_at "o")
structure ToksAt (H : List AO) (j : Nat) (ts : List Tk) : Prop where
 ex : ∃ l : List V, H[j]? = some (.list l) ∧ l.length = ts.length ∧ ∀ (k : Nat) (t : Tk), ts[k]? = some t → ∃ (o : Nat) (b : V), l[k]? = some (.obj o) ∧ H[o]? = some (.inst 192 (tkF t b))
 small : ts.length < 2 ^ 40
 hand : ∀ t ∈ ts, isHanded t.pos = true
theorem ToksAt.gr {j : Nat} {ts : List Tk} (h : ToksAt H j ts) (g : Gr [] H H') : ToksAt H' j ts := by
 obtain ⟨l, h1, h2, h3⟩ := h.ex
 refine ⟨⟨l, g.get0 h1, h2, fun k t hk => ?_⟩, h.small, h.hand⟩
 obtain ⟨o, b, h4, h5⟩ := h3 k t hk
 exact ⟨o, b, h4, g.get0 h5⟩
noncomputable def Flt (i : Nat) (H1 : List AO) (y : V) (k : Nat) (H2 : List AO) : Prop := Gr [i] H1 H2 ∧ ∃ w, H2[k]? = some (.exc 72 [(so "what", .str w), (so "at", y)])
theorem Flt.here {H2 : List AO} {y : V} (g : Gr [i] H1 H2) {w : Str} : Flt i H1 y H2.length (H2 ++ [.exc 72 [(so "what", .str w), (so "at", y)]]) := ⟨g.push _, _, get_last⟩
theorem Gr.drop {H2 : List AO} (g : Gr [] H H1) (h : H.length ≤ i) (g2 : Gr [i] H1 H2) : Gr [] H H2 := ⟨Nat.le_trans g.len g2.len, fun k hk _ => by
 rw [g2.same k (Nat.lt_of_lt_of_le hk g.len) (by rw [List.mem_singleton]; walk_at "o"), g.same k hk (fun q => nomatch q)], fun k C fs h1 => by
 obtain ⟨f1, h2, e2⟩ := g.keep k C fs h1
 obtain ⟨f2, h3, e3⟩ := g2.keep k C f1 h2
 exact ⟨f2, h3, e3.trans e2⟩⟩
section
variable {c : Cx} {n : Nat} {H : List AO} {R : V → List AO → Prop} {X : Nat → List AO → Prop} {i j p q a : Nat} {ts : List Tk}
theorem c_told (h7 : 2 ≤ n) (ht : ToksAt H j ts) (Y : V → Prop) (hY : ∀ y, Y y → isHanded y = true)
  (h : ∀ H1 i, Gr [] H H1 → H.length ≤ i → RdAt H1 i 0 ts → CJ c n (.ref 397) [.obj i, rdV] H1 (fun v H2 => Gr [i] H1 H2 ∧ RdAt H2 i ts.length ts ∧ ∀ H3, Gr [] H H3 → R v H3) (fun k H2 => ∃ y, Y y ∧ Flt i H1 y k H2))
  (hf : ∀ y, Y y → ∀ H3, Gr [] H H3 → R (.tup [.str (so "fault"), y]) H3) : CJ c (n + 1) (.ref 669) [.obj j] H R X := by
 obtain ⟨l, h1, h2, h3⟩ := ht.ex
 apply p_law_told
 walk_at "b"
 refine C_up h7 (c_Reader h1 h2 ht.small ht.hand h3 fun H1 g1 r1 => ?_)
 walk_at "asg"
 refine s_ex_tryAs (Xb := fun k H2 => ∃ y, Y y ∧ Flt H.length H1 y k H2) (by walk_at "mem") (fun e he => ?_) ?_ (fun k H2 hk => ?_)
 ·simp only [List.mem_cons, List.not_mem_nil, or_false] at he
  rcases he with rfl | rfl | rfl | rfl | rfl | rfl | rfl | rfl <;> exact fun q => nomatch q
 ·walk_at "s"
  refine C_mono (fun v H2 hv => ?_) (fun _ _ q => q) (h H1 H.length g1 (Nat.le_refl _) r1)
  obtain ⟨g2, r2, hR⟩ := hv
  have g3 := g1.drop (Nat.le_refl _) g2
  walk_at "asg"
  walk_at "st"
  show XV _ _ _ _ _ _ _
  refine r2.elim fun j2 l2 nm2 hi2 _ _ _ => ?_
  walk_at "s"
  apply mt_is_done hi2
  walk_at "w"
  refine C_up (by walk_at "o") (c_is_done r2 ?_)
  rw [decide_eq_true (Nat.le_refl _)]
  walk_at "w"
  walk_at "if"
  walk_at "w"
  exact hR _ g3
 ·obtain ⟨y, hYy, g2, w, hw⟩ := hk
  refine ⟨⟨_, hw⟩, ?_⟩
  have g3 := g1.drop (Nat.le_refl _) g2
  refine ⟨[l0 "tokens", l0 "reader", l0 "found", lv "fault" (.obj k), gv "Reader" (.val (.ref 602)), gv "read_operand" (.val (.ref 397)), gv "_law_read" rdV, gv "GrammarFault" (.val (.ref 72))], ?_, ?_⟩
  ·show Put [l0 "tokens", l0 "reader", l0 "found", l0 "fault", gv "Reader" (.val (.ref 602)), gv "read_operand" (.val (.ref 397)), gv "_law_read" rdV, gv "GrammarFault" (.val (.ref 72))] _ _ _
   walk_at "put"
  ·walk_at "st"
   apply E_tuple
   apply L_cons (by walk_at "r")
   walk_at "ev"
   apply L_cons (by walk_at "r")
   apply E_attrExc (by walk_at "ir")
   walk_at "ev"
   refine ⟨k, 72, _, y, rfl, hw, by with_unfolding_all rfl, hY y hYy, fun P => by kernel_rfl, ?_⟩
   apply L_nil
   refine ⟨by walk_at "sz", _, rfl, hf y hYy _ g3⟩
end
theorem HasT_none {ts : List Tk} {l : List TK} (hlen : ts.length = l.length) : ts[l.length]? = none := by
 rw [← hlen, List.getElem?_eq_none_iff.mpr (Nat.le_refl _)]
theorem C_to (e : n = m) (h : CJ c n g xs H R X) : CJ c m g xs H R X := e ▸ h
section
variable {c : Cx} {n : Nat} {H : List AO} {R : V → List AO → Prop} {X : Nat → List AO → Prop} {i j p q a : Nat} {ts : List Tk} {J : Str}
theorem told_ok (hJ : isJoin J = true) (N : Names) {o : Op} (hd : o.fit d) (ht : ToksAt H j ts) (hh : HasT ts 0 (o.toks J)) (hl : ts.length = (o.toks J).length) (h : ∀ H3, Gr [] H H3 → R o.toV H3) : CJ c (8 + 12 * d) (.ref 669) [.obj j] H R X := by
 have hn := HasT_none hl
 have e0 : 0 + (o.toks J).length = (o.toks J).length := Nat.zero_add _
 refine C_to (by walk_at "o") (c_told (n := 7 + 12 * d) (by walk_at "o") ht (fun _ => False) (fun _ q => q.elim) (fun H1 i g hi r => ?_) (fun _ q => q.elim))
 refine op_rd hJ N d o hd H1 _ _ i 0 ts r hh (by rw [e0]; exact (fol_end hn).o) fun H2 g2 r2 => ⟨g2, ?_, h⟩
 rw [e0, ← hl] at r2
 exact r2
theorem told_cut1 (hJ : isJoin J = true) (N : Names) {w k : Fin 3} {e : Ex} {r : Exs} (hd : (Exs.cons e r).fit d) (hle : (Exs.cons e r).len < 7) (ht : ToksAt H j ts) (hh : HasT ts 0 ((kWord, whoAt w) :: (qualT (quals J k) ++ (tO :: (Exs.cons e r).toks J r.anySg)))) (hl : ts.length = ((kWord, whoAt w) :: (qualT (quals J k) ++ (tO :: (Exs.cons e r).toks J r.anySg))).length)
  (h : ∀ y H3, Gr [] H H3 → R (.tup [.str (so "fault"), y]) H3) : CJ c (20 + 12 * d) (.ref 669) [.obj j] H R X := by
 have hn := HasT_none hl
 obtain ⟨t, htl⟩ : ∃ t, ts[ts.length - 1]? = some t := by
  have : 0 < ts.length := by rw [hl]; simp
  exact ⟨_, gEg (by walk_at "o")⟩
 have hlq : (qualT (quals J k)).length = 2 * (quals J k).length := qualT_len _
 have ht2 := HasT_app.mp hh.2
 have hend : ((kWord, whoAt w) :: (qualT (quals J k) ++ (tO :: (Exs.cons e r).toks J r.anySg))).length = 0 + 1 + (qualT (quals J k)).length + 1 + ((Exs.cons e r).toks J r.anySg).length := by simp; walk_at "o"
 rw [hend] at hn
 have w1 := who_fact w
 have hE : ∀ x : Ex, x.fit d → Rd1 c 648 (16 + 12 * d) (Fw r.anySg) (wrapT r.anySg (x.toks J)) x.toV := fun x hx => by
  have := ex_rd (c := c) (n := 7 + 12 * d) (by walk_at "o") hx (op_rd hJ N d)
  exact (wrap_rd (n := 11 + 12 * d) r.anySg (by walk_at "o") (this.up (by walk_at "o"))).up (by walk_at "o")
 refine C_to (by walk_at "o") (c_told (n := 19 + 12 * d) (by walk_at "o") ht (fun y => y = t.pos) (fun y q => q ▸ ht.hand t (mOg htl)) (fun H1 i g hi r1 => ?_) (fun y _ => h y))
 refine C_to (by walk_at "o") (c_ro_ref (n := 18 + 12 * d) r1 hh w1.2.2.1 w1.2.2.2 (by walk_at "o") fun H2 g2 r2 => ?_)
 refine C_to (by walk_at "o") (c_read_ref (n := 17 + 12 * d) (w := whoAt w) (qs := quals J k) (by walk_at "o") r2 ⟨hh.1, ht2.1⟩ (N.who w) (quals_ok hJ N k) (0 + 1 + (qualT (quals J k)).length) (by rw [hlq]) (no_word ht2.2 _) (no_word ht2.2 _) (fun _ _ _ => False) (fun _ _ _ _ q => q.elim) (fun e1 e2 H3 g3 r3 => ?_) (fun e1 H3 g3 r3 => ?_) (by rw [quals_len]; walk_at "o"))
 ·refine C_to (by walk_at "o") (c_read_subscripts (n := 16 + 12 * d) (F := Fw r.anySg) (rows := (Exs.cons e r).rowL J r.anySg) (by walk_at "o") (rows_rd hE _ hd) r3 e1 (by rw [Exs.rowL]; exact List.cons_ne_nil _ _) (by rw [rowL_len]; walk_at "o") (rows_at J _ ts _ _ ht2.2.tail (Fw_of (fol_end hn))) _ rfl (fun q => ?_) (fun q hlt H4 g4 r4 => ?_) (fun q hlt => ?_))
  ·rw [rowL_T, isKW_none hn] at q; cases q
  ·rw [rowL_T] at r4
   refine C_up (n := 10) (by walk_at "o") (read_end (by decide) r4 hn htl fun H5 g5 => ?_)
   exact ⟨_, rfl, Flt.here (((g2.nil.tr g3).tr g4).tr g5.nil)⟩
  ·rw [rowL_len] at hlt; walk_at "o"
 ·exfalso
  rcases e1 with e1 | e1
  ·rw [ht2.2.kw, kS_o] at e1; cases e1
  ·rw [pn_cut ht2.2 (sub_bal J e r) hn] at e1; cases e1
end
noncomputable def partCut (J : Str) : Pt → List TK
 | .none => []
 | .beg b => tO :: (b.toks J ++ tD :: [])
 | .both b l => tO :: (b.toks J ++ tD :: l.toks J)
theorem partCut_eq (J : Str) (p : Pt) (h : p ≠ .none) : p.toks J = partCut J p ++ [tC] := by
 cases p with
 | none => exact absurd rfl h
 | beg b => rw [Pt.toks]; simp [partCut]
 | both b l => rw [Pt.toks]; simp [partCut]
theorem partCut_bal {ts : List Tk} {q : Nat} {J : Str} {p : Pt} (h : p ≠ .none) (ht : HasT ts q (partCut J p)) : partNext ts q = true ∧ ∃ r, HasT ts q (tO :: r) := by
 cases p with
 | none => exact absurd rfl h
 | beg b => exact ⟨pn_part ht (b.bal J), _, ht⟩
 | both b l => exact ⟨pn_part ht (b.bal J), _, ht⟩
section
variable {c : Cx} {n : Nat} {H : List AO} {R : V → List AO → Prop} {X : Nat → List AO → Prop} {i j p q a : Nat} {ts : List Tk} {J : Str}
theorem pt_cut {part : Pt} {t : Tk} (h6 : 10 ≤ n) (hd : part.fit d) (h : ∀ e : Ex, e.fit d → Rd1 c 648 n FolE (e.toks J) e.toV) (hne : part ≠ .none) (hr : RdAt H i q ts) (ht : HasT ts q (partCut J part)) (hn : ts[q + (partCut J part).length]? = none) (hlen : ts.length = q + (partCut J part).length) (htl : ts[ts.length - 1]? = some t) (hX : ∀ H' w, Gr [i] H H' → X H'.length (H' ++ [.exc 72 [(so "what", .str w), (so "at", t.pos)]])) : CJ c (n + 1) (.ref 369) [.obj i, rdV] H R X := by
 cases part with
 | none => exact absurd rfl hne
 | beg b =>
  unfold partCut at ht hn hlen
  have ht2 := HasT_app.mp ht.2
  have e : q + (tO :: (b.toks J ++ [tD])).length = q + 1 + (b.toks J).length + 1 := by simp; walk_at "o"
  rw [e] at hn
  refine c_read_part (by walk_at "o") hr (by rw [ht.kw]; exact kS_o) (h b (by unfold Pt.fit at hd; exact hd)) ht2.1 (fol_d ht2.2) _ rfl (by rw [ht2.2.kw]; exact kD_d) (fun e => ?_) (fun _ H1 g1 r1 => ?_)
  ·rw [isKW_none hn] at e; cases e
  ·exact C_up (n := 10) (by walk_at "o") (read_end (by decide) r1 hn htl fun H5 g5 => hX _ _ (g1.tr g5.nil))
 | both b l =>
  unfold partCut at ht hn hlen
  have ht2 := HasT_app.mp ht.2
  have e : q + (tO :: (b.toks J ++ tD :: l.toks J)).length = q + 1 + (b.toks J).length + 1 + (l.toks J).length := by simp; walk_at "o"
  rw [e] at hn hlen
  obtain ⟨t', r, e1, e2⟩ := l.start J
  refine c_read_part (by walk_at "o") hr (by rw [ht.kw]; exact kS_o) (h b (by unfold Pt.fit at hd; exact hd.1)) ht2.1 (fol_d ht2.2) _ rfl (by rw [ht2.2.kw]; exact kD_d) (fun e => ?_) (fun _ H1 g1 r1 => ?_)
  ·have h3 := ht2.2.tail
   rw [e1] at h3
   rw [h3.kw, (startOk e2).c] at e; cases e
  ·refine h l (by unfold Pt.fit at hd; exact hd.2) _ _ _ _ _ _ r1 ht2.2.tail (fol_end hn) fun H2 g2 r2 => ?_
   refine ⟨_, g2, r2, fun e => ?_, fun _ => ⟨t, ?_, hX _ _ (g1.tr g2)⟩⟩
   ·rw [isKW_none hn] at e; cases e
   ·rw [if_neg (by walk_at "o")]; exact htl
theorem told_cut2 (hJ : isJoin J = true) (N : Names) {w k : Fin 3} {rows : Exs} {part : Pt} (hd : rows.fit d) (hd2 : part.fit d) (hne : part ≠ .none) (hle : rows.len ≤ 7) (ht : ToksAt H j ts) (hh : HasT ts 0 ((kWord, whoAt w) :: (qualT (quals J k) ++ (subT J rows ++ partCut J part)))) (hl : ts.length = ((kWord, whoAt w) :: (qualT (quals J k) ++ (subT J rows ++ partCut J part))).length)
  (h : ∀ y H3, Gr [] H H3 → R (.tup [.str (so "fault"), y]) H3) : CJ c (20 + 12 * d) (.ref 669) [.obj j] H R X := by
 have hn := HasT_none hl
 obtain ⟨t, htl⟩ : ∃ t, ts[ts.length - 1]? = some t := by
  have : 0 < ts.length := by rw [hl]; simp
  exact ⟨_, gEg (by walk_at "o")⟩
 have hlq : (qualT (quals J k)).length = 2 * (quals J k).length := qualT_len _
 have ht2 := HasT_app.mp hh.2
 have ht3 := HasT_app.mp ht2.2
 have hend : ((kWord, whoAt w) :: (qualT (quals J k) ++ (subT J rows ++ partCut J part))).length = 0 + 1 + (qualT (quals J k)).length + (subT J rows).length + (partCut J part).length := by simp; walk_at "o"
 rw [hend] at hn hl
 have w1 := who_fact w
 have hE0 : ∀ x : Ex, x.fit d → Rd1 c 648 (13 + 12 * d) FolE (x.toks J) x.toV := fun x hx => by
  have := ex_rd (c := c) (n := 7 + 12 * d) (by walk_at "o") hx (op_rd hJ N d)
  exact this.up (by walk_at "o")
 have hE : ∀ x : Ex, x.fit d → Rd1 c 648 (16 + 12 * d) (Fw rows.wr) (wrapT rows.wr (x.toks J)) x.toV := fun x hx => 
  (wrap_rd (n := 11 + 12 * d) rows.wr (by walk_at "o") ((hE0 x hx).up (by walk_at "o"))).up (by walk_at "o")
 obtain ⟨hp1, rp, hp2⟩ := partCut_bal hne ht3.2
 have hword : ∀ x, isKW ts (0 + 1 + (qualT (quals J k)).length) kWord x = false := by
  intro x
  cases rows with
  | cons e r => exact no_word ht3.1 x
  | nil => exact no_word (r := rp) hp2 x
 refine C_to (by walk_at "o") (c_told (n := 19 + 12 * d) (by walk_at "o") ht (fun y => y = t.pos) (fun y q => q ▸ ht.hand t (mOg htl)) (fun H1 i g hi r1 => ?_) (fun y _ => h y))
 refine C_to (by walk_at "o") (c_ro_ref (n := 18 + 12 * d) r1 hh w1.2.2.1 w1.2.2.2 (by walk_at "o") fun H2 g2 r2 => ?_)
 refine C_to (by walk_at "o") (c_read_ref (n := 17 + 12 * d) (w := whoAt w) (qs := quals J k) (by walk_at "o") r2 ⟨hh.1, ht2.1⟩ (N.who w) (quals_ok hJ N k) (0 + 1 + (qualT (quals J k)).length) (by rw [hlq]) (hword _) (hword _)
  (fun H' v H2 => Gr [i] H' H2 ∧ RdAt H2 i (0 + 1 + (qualT (quals J k)).length + (subT J rows).length) ts) (fun H' v H3 g3 hK => ?_) (fun e1 e2 H3 g3 r3 => ?_) (fun e1 H3 g3 r3 => ?_) (by rw [quals_len]; walk_at "o"))
 ·obtain ⟨g4, r4⟩ := hK
  refine ⟨_, g4, r4, fun _ => ?_, fun e => by rw [hp1] at e; cases e⟩
  refine C_to (by walk_at "o") (pt_cut (n := 16 + 12 * d) (by walk_at "o") hd2 (fun x hx => (hE0 x hx).up (by walk_at "o")) hne r4 ht3.2 hn hl htl fun H5 w g5 => ?_)
  exact ⟨_, rfl, Flt.here ((g2.nil.tr g3).tr (g4.tr g5))⟩
 ·cases rows with
  | nil =>
   exfalso
   have hp3 : partNext ts (0 + 1 + (qualT (quals J k)).length) = true := hp1
   rw [hp3] at e2; cases e2
  | cons e r =>
   have ht4 := ht3.1
   unfold subT at ht4
   have ht5 := HasT_app.mp ht4.2
   have hc : isKW ts (0 + 1 + (qualT (quals J k)).length + 1 + ((Exs.cons e r).toks J r.anySg).length) kSign (so ")") = true := by rw [ht5.2.kw]; exact kC_c
   refine C_to (by walk_at "o") (c_read_subscripts (n := 16 + 12 * d) (F := Fw r.anySg) (rows := (Exs.cons e r).rowL J r.anySg) (by walk_at "o") (rows_rd hE _ hd) r3 e1 (by rw [Exs.rowL]; exact List.cons_ne_nil _ _) (by rw [rowL_len]; exact hle) (rows_at J _ ts _ _ ht5.1 (Fw_of (fol_c ht5.2))) _ rfl (fun _ H4 g4 r4 => ⟨g4, ?_⟩) (fun q => ?_) (fun q => ?_))
   ·rw [rowL_T] at r4
    unfold subT
    rw [show 0 + 1 + (qualT (quals J k)).length + (tO :: ((Exs.cons e r).toks J r.anySg ++ [tC])).length = 0 + 1 + (qualT (quals J k)).length + 1 + ((Exs.cons e r).toks J r.anySg).length + 1 by simp; walk_at "o"]
    exact r4
   ·rw [rowL_T, hc] at q; cases q
   ·rw [rowL_T, hc] at q; cases q
 ·cases rows with
  | nil =>
   refine ⟨Gr.refl _ _, ?_⟩
   unfold subT
   rw [lNi, Nat.add_zero]
   exact r3
  | cons e r =>
   exfalso
   have ht4 := ht3.1
   unfold subT at ht4
   rcases e1 with e1 | e1
   ·rw [ht4.kw, kS_o] at e1; cases e1
   ·rw [pn_rows ht4 (sub_bal J e r)] at e1; cases e1
theorem num_start (w : Str) : startB (kNum, w) = true := by
 unfold startB
 dsimp only
 rw [show (kNum == kSign) = false by decide +kernel, show (kNum == kWord) = false by decide +kernel]
 rfl
theorem num_plain (w : Str) : plainB (kNum, w) = true := by
 unfold plainB
 dsimp only
 rw [show (kNum == kSign) = false by decide +kernel]
 rfl
theorem dig_rd (x : Nat) (hx : x < 10) : Rd1 c 648 10 FolE [(kNum, S [48 + x])] (V.tup [.str (so "number"), .tup [.int (x : Int), .int 0]]) := by
 have h1 : RdO c 7 FolO [(kNum, S [48 + x])] (V.tup [.str (so "number"), .tup [.int (x : Int), .int 0]]) := fun H R X i p ts hr ht hf hk => rd_dig x hx H R X i p ts hr ht hk
 have h2 := one_plain (by decide) h1 (num_start _)
 have h3 := term_plain (n := 8) (by decide) h2 (by rw [termB_cons]; dsimp only; rw [show (kNum == kSign) = false by decide +kernel]; rfl) (List.cons_ne_nil _ _)
 exact (read_one (by decide) h3).weak fun ts q k => k.one
end
noncomputable abbrev digTok (x : Nat) : TK := (kNum, S [48 + x])
noncomputable abbrev digVal (x : Nat) : V := V.tup [.str (so "number"), .tup [.int (x : Int), .int 0]]
theorem digs_at {ts : List Tk} {tail : List TK} : ∀ (xs : List Nat) (p : Nat), HasT ts p (xs.map digTok ++ tail) → FolE ts (p + xs.length) → RowsAt (FolE ts) ts p (xs.map fun x => ([digTok x], digVal x))
 | [], _, _, _ => trivial
 | x :: xs, p, h, hF => by
  have ih := digs_at xs (p + 1) h.2 (by rw [Nat.add_assoc, Nat.add_comm 1]; exact hF)
  refine ⟨⟨h.1, trivial⟩, ?_, by rw [HasT.kw (r := []) ⟨h.1, trivial⟩]; exact (startOk (num_start _)).c, ih⟩
  cases xs with
  | nil => exact hF
  | cons y ys => exact fol_start (r := []) ⟨h.2.1, trivial⟩ (num_start _)
theorem digs_rowT (xs : List Nat) : rowT (xs.map fun x => ([digTok x], digVal x)) = xs.map digTok := by
 unfold rowT
 induction xs with
 | nil => rfl
 | cons x xs ih => rw [List.map_cons, List.flatMap_cons, ih]; rfl
theorem digs_bal (xs : List Nat) : Bal (xs.map digTok) := Bal_all (List.all_eq_true.mpr fun t ht => by
 obtain ⟨x, _, rfl⟩ := List.mem_map.mp ht
 exact num_plain _)
section
variable {c : Cx} {n : Nat} {H : List AO} {R : V → List AO → Prop} {X : Nat → List AO → Prop} {i j p q a : Nat} {ts : List Tk}
theorem told_row (N : Names) {xs : List Nat} (hx : ∀ x ∈ xs, x < 10) (hne : xs ≠ []) (hle : xs.length ≤ 7) (ht : ToksAt H j ts) {u : TK} {r : List TK} (hh : HasT ts 0 ((kWord, whoAt 0) :: tO :: (xs.map digTok ++ u :: r))) (hu : FolE ts (2 + xs.length)) (hpn : partNext ts 1 = false) (Y : V → Prop) (hY : ∀ y, Y y → isHanded y = true)
  (h1 : u = tC → r = [] ∧ ts.length = 3 + xs.length ∧ ∀ H3, Gr [] H H3 → R (.tup [.str (so "ref"), .str (so "A"), .tup [], .tup (xs.map digVal), .none]) H3)
  (h2 : u ≠ tC → isKW ts (2 + xs.length) kSign (so ")") = false ∧ xs.length = 7 ∧ ∃ t, ts[2 + xs.length]? = some t ∧ Y t.pos)
  (hf : ∀ y, Y y → ∀ H3, Gr [] H H3 → R (.tup [.str (so "fault"), y]) H3) : CJ c 14 (.ref 669) [.obj j] H R X := by
 have ht2 := HasT_app.mp hh.2.2
 rw [lMp] at ht2
 have w1 := who_fact 0
 refine c_told (n := 13) (by walk_at "o") ht Y hY (fun H1 i g hi r1 => ?_) hf
 refine c_ro_ref (n := 12) r1 hh w1.2.2.1 w1.2.2.2 (by walk_at "o") fun H2 g2 r2 => ?_
 refine c_read_ref (n := 11) (w := whoAt 0) (qs := []) (by walk_at "o") r2 ⟨hh.1, trivial⟩ (N.who 0) (fun _ he => nomatch he) 1 rfl (no_word hh.2 _) (no_word hh.2 _)
  (fun H' v H3 => v = .tup (xs.map digVal) ∧ u = tC ∧ Gr [i] H' H3 ∧ RdAt H3 i (3 + xs.length) ts) (fun H' v H3 g3 hK => ?_) (fun e1 e2 H3 g3 r3 => ?_) (fun e1 H3 g3 r3 => ?_) (by decide)
 ·obtain ⟨rfl, hc, g4, r4⟩ := hK
  obtain ⟨_, hlen, hR⟩ := h1 hc
  have hn : ts[3 + xs.length]? = none := by rw [← hlen, List.getElem?_eq_none_iff.mpr (Nat.le_refl _)]
  refine ⟨_, g4, r4, fun e => ?_, fun e => ?_⟩
  ·rw [pn_no (isKW_none hn _ _)] at e; cases e
  ·refine ⟨(g2.nil.tr g3).tr g4, by rw [hlen]; exact r4, hR⟩
 ·refine c_read_subscripts (n := 10) (F := FolE) (rows := xs.map fun x => ([digTok x], digVal x)) (by walk_at "o") (fun e he => ?_) r3 e1 (by simpa using hne) (by simpa using hle) (digs_at xs 2 hh.2.2 hu) (2 + xs.length) (by rw [digs_rowT, lMp]) (fun e H4 g4 r4 => ?_) (fun e hlt => ?_) (fun e hlt => ?_)
  ·obtain ⟨x, hx', rfl⟩ := List.mem_map.mp he
   exact dig_rd x (hx x hx')
  ·have hc : u = tC := by
    refine Classical.byContradiction fun q => ?_
    rw [(h2 q).1] at e; cases e
   refine ⟨by rw [List.map_map]; rfl, hc, g4, ?_⟩
   rw [show 2 + xs.length + 1 = 3 + xs.length by walk_at "o"] at r4
   exact r4
  ·have hc : u ≠ tC := by
    rintro rfl
    rw [ht2.2.kw, kC_c] at e; cases e
   rw [lMp, (h2 hc).2.1] at hlt
   walk_at "o"
  ·have hc : u ≠ tC := by
    rintro rfl
    rw [ht2.2.kw, kC_c] at e; cases e
   obtain ⟨_, _, t, ht0, hYt⟩ := h2 hc
   exact ⟨t, ht0, fun H4 g4 => ⟨t.pos, hYt, Flt.here ((g2.nil.tr g3).tr g4)⟩⟩
 ·exfalso
  rcases e1 with e1 | e1
  ·rw [HasT.kw (r := xs.map digTok ++ u :: r) hh.2, kS_o] at e1; cases e1
  ·rw [hpn] at e1; cases e1
theorem told_row_ok (N : Names) (h1 : 1 ≤ m) (h7 : m ≤ 7) (ht : ToksAt H j ts) (hh : HasT ts 0 ((kWord, whoAt 0) :: tO :: ((List.range m).map digTok ++ [tC]))) (hlen : ts.length = 3 + m) (h : ∀ H3, Gr [] H H3 → R (.tup [.str (so "ref"), .str (so "A"), .tup [], .tup ((List.range m).map digVal), .none]) H3) : CJ c 14 (.ref 669) [.obj j] H R X := by
 have ht2 := HasT_app.mp hh.2.2
 rw [lMp, lRa] at ht2
 refine told_row N (xs := List.range m) (u := tC) (r := []) (fun x hx => by rw [List.mem_range] at hx; walk_at "o") (by intro q; have := congrArg List.length q; rw [lRa] at this; simp at this; walk_at "o") (by rw [lRa]; exact h7) ht hh ?_ (pn_rows hh.2 (digs_bal _)) (fun _ => False) (fun _ q => q.elim) (fun _ => ⟨rfl, by rw [lRa]; exact hlen, h⟩) (fun q => absurd rfl q) (fun _ q => q.elim)
 rw [lRa]
 exact fol_c ht2.2
theorem told_row_many (N : Names) {r : List TK} (ht : ToksAt H j ts) (hh : HasT ts 0 ((kWord, whoAt 0) :: tO :: ((List.range 7).map digTok ++ digTok 7 :: (r ++ [tC])))) (hr : Bal r) {t : Tk} (h9 : ts[9]? = some t) (h : ∀ H3, Gr [] H H3 → R (.tup [.str (so "fault"), t.pos]) H3) : CJ c 14 (.ref 669) [.obj j] H R X := by
 have ht2 := HasT_app.mp hh.2.2
 rw [lMp, lRa] at ht2
 have hp : partNext ts 1 = false := by
  have hb : Bal ((List.range 7).map digTok ++ digTok 7 :: r) := Bal_app (digs_bal _) (Bal_tok (num_plain _) hr)
  refine pn_rows (l := (List.range 7).map digTok ++ digTok 7 :: r) (r := []) ?_ hb
  rw [aAs, List.cons_append]
  exact hh.2
 refine told_row N (xs := List.range 7) (u := digTok 7) (r := r ++ [tC]) (fun x hx => by rw [List.mem_range] at hx; walk_at "o") (by decide) (by decide) ht hh (fol_start ht2.2 (num_start _)) hp (fun y => y = t.pos) (fun y q => q ▸ ht.hand t (mOg h9)) (fun q => ?_) (fun _ => ⟨?_, by decide, t, h9, rfl⟩) (fun y q => q ▸ h)
 ·exfalso
  have := congrArg Prod.fst q
  revert this
  decide +kernel
 ·have h3 := ht2.2.kw kSign (so ")")
  rw [(startOk (num_start _)).c] at h3
  exact h3
end
noncomputable abbrev shV : V := .val (.ref 641)
structure TextOk (l : List Nat) : Prop where
 byt : (byteArr (natI l)).toList.map UInt8.toNat = l
 rep : Txt.replace (S l) (so "\"") (so "\"\"") = S (dbl l)
 join : Txt.join (so "") (l.map fun ch => (⟨#[ch]⟩ : Str)) = S l
 jok : JoinOk (so "") (l.map fun ch => (⟨#[ch]⟩ : Str)) = true
 sz : l.length ≤ 100
 dsz : (dbl l).length ≤ 200
 chr : ∀ ch ∈ l, ch ≤ 1114111
section
variable {c : Cx} {n : Nat} {H : List AO} {R : V → List AO → Prop} {X : Nat → List AO → Prop} {i j p q a : Nat}
theorem c_quoted {l : List Nat} (ok : TextOk l) (h : R (.str (S (litText l))) H) : CJ c 1 (.ref 346) [.str (S l)] H R X := by
 have e1 : so "\"" = S [34] := by decide +kernel
 have hs := ok.sz
 have hd := ok.dsz
 apply pq_quoted
 walk_at "bodyQ"
 apply XQ_ret
 apply EQ_binop
 apply EQ_binop
 apply EQ_of
 walk_at "w"
 apply EQ_replace (by decide) (by decide +kernel) (by walk_at "ir") (by walk_at "r") (by walk_at "r")
 apply EQ_of
 walk_at "w"
 refine ⟨by rw [S_len, show (so "\"\"").length = 2 by decide +kernel]; walk_at "o", ?_⟩
 rw [ok.rep]
 refine s_KAddS (l := [34]) e1 (by simp [sizeLine]; walk_at "o") ?_
 apply EQ_of
 walk_at "w"
 refine s_SAddK e1 (by simp [sizeLine]; walk_at "o") ?_
 exact h
theorem c_shown_octets {l : List Nat} (ok : TextOk l) (h : ∀ H', Gr [] H H' → R (.str (S (litText l))) H') : CJ c 2 (.ref 402) [.bytes (byteArr (natI l))] H R X := by
 have hs := ok.sz
 apply p_shown_octets
 walk_at "b"
 refine E_comp0 (ρc := [gv "chr" (.val (.builtin "chr"))]) (compOk (by walk_at "r") ⟨g_chr, trivial⟩ trivial) (by decide) (by walk_at "ir") ?_
 apply I_bytes
 walk_at "w"
 have eb : ((byteArr (natI l)).toList.map fun ch => V.int (ch.toNat : Int)) = l.map fun (ch : Nat) => V.int (ch : Int) := by
  conv => rhs; rw [← ok.byt]
  rw [List.map_map]; rfl
 rw [eb]
 refine ⟨by rw [lMp]; simp [sizeLine]; walk_at "o", fun k acc H1 => H1 = H ∧ acc = ((l.take k).map fun ch => (⟨#[ch]⟩ : Str)).map V.str, ⟨rfl, rfl⟩, ?_, ?_⟩
 ·rintro k y acc H2 hy ⟨rfl, rfl⟩ hli
  rw [List.getElem?_map, Option.map_eq_some_iff] at hy
  obtain ⟨ch, hch, rfl⟩ := hy
  have := ok.chr ch (mOg hch)
  walk_at "w"
  refine C_chr (by walk_at "o") (by walk_at "o") ?_
  refine ⟨⟨rfl, ?_⟩, hli⟩
  rw [List.take_add_one, hch]
  simp
 ·rintro acc H2 ⟨rfl, rfl⟩ ha
  rw [lMp, List.take_length]
  walk_at "w"
  refine C_join get_last ok.jok ?_
  rw [ok.join]
  walk_at "w"
  exact c_quoted ok (h _ (Gr.push0 _))
noncomputable def LeafSh (c : Cx) (l : Leaf) : Prop := ∀ (H : List AO) (R : V → List AO → Prop) (X : Nat → List AO → Prop), (∀ H', Gr [] H H' → R (.str (S l.text)) H') → CJ c 3 (.ref 421) [l.toV, shV] H R X
theorem sh_text {l : List Nat} (ok : TextOk l) : LeafSh c (textLeaf l) := by
 intro H R X h
 show CJ c 3 (.ref 421) [.tup [.str (so "text"), .bytes (byteArr (natI l))], shV] H R X
 apply p_show_operand
 walk_at "b"
 refine A_strEq ?_
 rw [show (so "text" == so "ref") = false by decide +kernel]
 walk_at "w"
 walk_at "i"
 refine A_strEq ?_
 rw [show (so "text" == so "number") = false by decide +kernel]
 walk_at "w"
 walk_at "i"
 refine A_strEq ?_
 rw [show (so "text" == so "figure") = false by decide +kernel]
 walk_at "w"
 walk_at "i"
 refine A_strEq ?_
 rw [show (so "text" == so "all") = false by decide +kernel]
 walk_at "w"
 walk_at "if"
 walk_at "w"
 refine c_shown_octets ok fun H' g => ?_
 have := ok.dsz
 refine s_KAddS (l := []) (by decide +kernel) (by simp [litText, sizeLine]; walk_at "o") ?_
 exact h _ g
theorem sh_all {l : List Nat} (ok : TextOk l) : LeafSh c (allLeaf l) := by
 intro H R X h
 show CJ c 3 (.ref 421) [.tup [.str (so "all"), .bytes (byteArr (natI l))], shV] H R X
 apply p_show_operand
 walk_at "b"
 refine A_strEq ?_
 rw [show (so "all" == so "ref") = false by decide +kernel]
 walk_at "w"
 walk_at "i"
 refine A_strEq ?_
 rw [show (so "all" == so "number") = false by decide +kernel]
 walk_at "w"
 walk_at "i"
 refine A_strEq ?_
 rw [show (so "all" == so "figure") = false by decide +kernel]
 walk_at "w"
 walk_at "i"
 refine A_strEq ?_
 rw [show (so "all" == so "all") = true by decide +kernel]
 walk_at "w"
 walk_at "if"
 walk_at "w"
 refine c_shown_octets ok fun H' g => ?_
 have := ok.dsz
 refine s_KAddS (l := [65, 76, 76, 32]) (by decide +kernel) (by simp [litText, sizeLine]; walk_at "o") ?_
 exact h _ g
theorem sh_fig {v w : String} (hw : dfind figSs (so v) = some (so w)) : LeafSh c (figLeaf v w) := by
 intro H R X h
 show CJ c 3 (.ref 421) [.tup [.str (so "figure"), .str (so v)], shV] H R X
 apply p_show_operand
 walk_at "b"
 refine A_strEq ?_
 rw [show (so "figure" == so "ref") = false by decide +kernel]
 walk_at "w"
 walk_at "i"
 refine A_strEq ?_
 rw [show (so "figure" == so "number") = false by decide +kernel]
 walk_at "w"
 walk_at "i"
 refine A_strEq ?_
 rw [show (so "figure" == so "figure") = true by decide +kernel]
 walk_at "w"
 walk_at "i"
 refine S_inD figSs_at hw ?_
 have := h H (Gr.refl _ _)
 unfold figLeaf strL at this
 rw [← S_eta] at this
 exact this
theorem sh_num {u s : Int} {w : List Nat} {neg : Bool} (hw : ∀ (H : List AO) (R : V → List AO → Prop) (X : Nat → List AO → Prop), R (.str (S (if neg then 45 :: w else w))) H → CJ c 1 (.ref 138) [.tup [.int u, .int s]] H R X) : LeafSh c (numLeaf u s w neg) := by
 intro H R X h
 show CJ c 3 (.ref 421) [.tup [.str (so "number"), .tup [.int u, .int s]], shV] H R X
 apply p_show_operand
 walk_at "b"
 refine A_strEq ?_
 rw [show (so "number" == so "ref") = false by decide +kernel]
 walk_at "w"
 walk_at "i"
 refine A_strEq ?_
 rw [show (so "number" == so "number") = true by decide +kernel]
 walk_at "w"
 walk_at "i"
 exact C_up (by decide) (hw _ _ _ (h H (Gr.refl _ _)))
theorem sh_leaves : ∀ l ∈ leaves, LeafSh c l := by
 intro l hl
 simp only [leaves, List.mem_cons, List.not_mem_nil, or_false] at hl
 have t1 : TextOk [120, 34, 121] := ⟨by decide +kernel, by decide +kernel, by decide +kernel, by decide +kernel, by decide, by decide, by decide⟩
 have t2 : TextOk [39] := ⟨by decide +kernel, by decide +kernel, by decide +kernel, by decide +kernel, by decide, by decide, by decide⟩
 have t3 : TextOk [233, 32] := ⟨by decide +kernel, by decide +kernel, by decide +kernel, by decide +kernel, by decide, by decide, by decide⟩
 have t4 : TextOk [40, 49, 32, 58, 32, 50, 41] := ⟨by decide +kernel, by decide +kernel, by decide +kernel, by decide +kernel, by decide, by decide, by decide⟩
 rcases hl with rfl | rfl | rfl | rfl | rfl | rfl | rfl | rfl | rfl | rfl | rfl | rfl | rfl | rfl | rfl | rfl | rfl | rfl | rfl
 ·exact sh_num fun H R X h => c_write0 (D := [48]) (by decide +kernel) (by decide) (by decide) h
 ·exact sh_num fun H R X h => c_write0 (D := [55]) (by decide +kernel) (by decide) (by decide) h
 ·exact sh_num fun H R X h => c_write0 (D := [53]) (by decide +kernel) (by decide) (by decide) h
 ·exact sh_num fun H R X h => c_writep (A := [49]) (B := [50, 53]) (by decide +kernel) (by decide) (by decide) (by decide) (by decide) h
 ·exact sh_num fun H R X h => c_writep (A := [49]) (B := [53]) (by decide +kernel) (by decide) (by decide) (by decide) (by decide) h
 ·exact sh_num fun H R X h => c_write0 (D := [49, 48, 48, 48, 48, 48, 48, 48, 48, 48, 48, 48, 48, 48, 48, 48, 48, 48]) (by decide +kernel) (by decide +kernel) (by decide) h
 ·exact sh_text t1
 ·exact sh_text t2
 ·exact sh_text t3
 ·exact sh_text t4
 ·exact sh_fig (by decide +kernel)
 ·exact sh_fig (by decide +kernel)
 ·exact sh_fig (by decide +kernel)
 ·exact sh_fig (by decide +kernel)
 ·exact sh_fig (by decide +kernel)
 ·exact sh_all t1
 ·exact sh_all t2
 ·exact sh_all t3
 ·exact sh_all t4
theorem sh_leaf (k : Fin 19) : LeafSh c (leafAt k) := sh_leaves _ (List.getElem_mem _)
end
theorem pick_noV {α : Type} (l : List α) (a : Nat) : pick l (some (a : Int)) none = l.drop a := by
 unfold pick
 simp only [Option.elim, clip_nat]
 rcases Nat.le_total a l.length with h | h
 ·rw [Nat.min_eq_left h, List.take_of_length_le (by simp)]
 ·rw [Nat.min_eq_right h, List.drop_eq_nil_of_le (Nat.le_refl _), List.drop_eq_nil_of_le h]; simp
theorem clip_m1 : ∀ n : Nat, clipAt n (-1) = n - 1
 | 0 => rfl
 | k + 1 => by
  have e : (-1 : Int) + ((k + 1 : Nat) : Int) = (k : Int) := by walk_at "o"
  unfold clipAt
  rw [if_pos (by decide), e, Int.min_eq_left (Int.ofNat_le.mpr (Nat.le_succ k)), Int.max_eq_right (Int.natCast_nonneg k)]
  rfl
theorem pick_last {α : Type} (l : List α) : pick l none (some (-1)) = l.dropLast := by
 unfold pick
 have e := clip_m1 l.length
 simp only [Option.elim, e, List.drop_zero, Nat.sub_zero]
 rw [List.dropLast_eq_take]
section
variable {c : Cx} {n : Nat} {ρ : Loc} {H : List AO} {R : V → List AO → Prop} {X : Nat → List AO → Prop}
theorem s_slL_no {v lo : Expr} (h : EV c n v ρ H (fun o H1 => ∃ i, o = .obj i ∧ EV c n lo ρ H1 (fun a H2 => ∃ k : Nat, a = .int (k : Int) ∧ ∃ l, H2[i]? = some (.list l) ∧ l.length ≤ sizeLine ∧ R (.obj H2.length) (H2 ++ [.list (l.drop k)])) X) X) : EV c n (.Subscript v (.Slice (some lo) none none p) pos) ρ H R X := by
 simp only [eEV] at *
 refine ev_sliceL (TrE.mono h (fun o H1 h1 => ?_) fun _ _ q => q)
 obtain ⟨i, rfl, h1⟩ := h1
 refine ⟨i, rfl, TrE.mono (R := fun a H2 => ∃ k : Nat, a = .int (k : Int) ∧ ∃ l, H2[i]? = some (.list l) ∧ l.length ≤ sizeLine ∧ R (.obj H2.length) (H2 ++ [.list (l.drop k)])) h1 (fun a H2 h2 => ?_) fun _ _ q => q⟩
 obtain ⟨k, rfl, l, h3, h4, h5⟩ := h2
 exact ⟨_, rfl, l, h3, h4, by rw [pick_noV]; exact h5⟩
theorem s_slL_last {v hi : Expr} (h : EV c n v ρ H (fun o H1 => ∃ i, o = .obj i ∧ EV c n hi ρ H1 (fun a H2 => a = .int (-1) ∧ ∃ l, H2[i]? = some (.list l) ∧ l.length ≤ sizeLine ∧ R (.obj H2.length) (H2 ++ [.list l.dropLast])) X) X) : EV c n (.Subscript v (.Slice none (some hi) none p) pos) ρ H R X := by
 simp only [eEV] at *
 refine ev_sliceL (TrE.mono h (fun o H1 h1 => ?_) fun _ _ q => q)
 obtain ⟨i, rfl, h1⟩ := h1
 refine ⟨i, rfl, TrE.mono (R := fun a H2 => a = .int (-1) ∧ ∃ l, H2[i]? = some (.list l) ∧ l.length ≤ sizeLine ∧ R (.obj H2.length) (H2 ++ [.list l.dropLast])) h1 (fun a H2 h2 => ?_) fun _ _ q => q⟩
 obtain ⟨rfl, l, h3, h4, h5⟩ := h2
 exact ⟨_, rfl, l, h3, h4, by rw [pick_last]; exact h5⟩
end
noncomputable def jn (g : List Nat) : List (List Nat) → List Nat
 | [] => []
 | a :: r => a ++ r.flatMap fun b => g ++ b
theorem jn_fold (g : Str) : ∀ (r : List (List Nat)) (A : Array Nat), ((r.map S).foldl (fun acc p => acc ++ g.cps ++ p.cps) A).toList = A.toList ++ r.flatMap (fun b => g.cps.toList ++ b)
 | [], A => by simp
 | a :: r, A => by
  rw [List.map_cons, List.foldl_cons, jn_fold g r, List.flatMap_cons, Array.toList_append, Array.toList_append, S_cps]
  simp
theorem jn_eq (g : Str) (ls : List (List Nat)) : Txt.join g (ls.map S) = S (jn g.cps.toList ls) := by
 unfold Txt.join Builtin.Str.glued
 cases ls with
 | nil => rfl
 | cons a r =>
  have := jn_fold g r (S a).cps
  rw [List.map_cons, List.drop_one, List.tail_cons, List.headD_cons]
  rw [S_cps] at this
  show (⟨List.foldl (fun acc p => acc ++ g.cps ++ p.cps) (S a).cps (r.map S)⟩ : Str) = S (a ++ r.flatMap fun b => g.cps.toList ++ b)
  rw [← this]
  exact S_eta ⟨_⟩
theorem jok_fold (k : Nat) : ∀ (r : List (List Nat)) (a : Nat), (r.map S).foldl (fun x y => x + y.length + k) a = a + (r.map fun l => l.length + k).sum
 | [], a => by simp
 | x :: r, a => by rw [List.map_cons, List.foldl_cons, jok_fold k r, S_len, List.map_cons, List.sum_cons]; walk_at "o"
theorem jok {g : Str} {ls : List (List Nat)} (h : (ls.map fun l => l.length + g.length).sum ≤ sizeLine) : JoinOk g (ls.map S) = true := by
 unfold JoinOk Builtin.Str.tooLong
 rw [List.foldl_toArray, jok_fold, Nat.zero_add]
 simp
 exact h
theorem sum_le {B : Nat} : ∀ {ls : List Nat}, (∀ x ∈ ls, x ≤ B) → ls.sum ≤ ls.length * B
 | [], _ => by simp
 | x :: r, h => by
  have h1 := h x (.head _)
  have h2 := sum_le (ls := r) fun y hy => h y (.tail _ hy)
  rw [List.sum_cons, lCo, Nat.add_mul]
  walk_at "o"
noncomputable def spec (t : List Nat) : Bool := match t with
 | ch :: _ => decide (ch ∈ (so "(+-").cps.toList)
 | [] => false
noncomputable def wrapX (wr : Bool) (t : List Nat) : List Nat := if wr then 40 :: (t ++ [41]) else t
noncomputable def rowsX (ts : List (List Nat)) : List Nat := [32, 40] ++ jn [32] (ts.map (wrapX ((ts.drop 1).any spec))) ++ [41]
noncomputable def ShE (c : Cx) (n : Nat) (v : V) (t : List Nat) : Prop := ∀ (H : List AO) (R : V → List AO → Prop) (X : Nat → List AO → Prop), (∀ H', Gr [] H H' → R (.str (S t)) H') → CJ c n (.ref 641) [v] H R X
theorem jn_len (g : List Nat) (ls : List (List Nat)) : (jn g ls).length ≤ (ls.map fun l => l.length + g.length).sum := by
 cases ls with
 | nil => simp [jn]
 | cons a r =>
  unfold jn
  rw [lAp, List.map_cons, List.sum_cons]
  have : (r.flatMap fun b => g ++ b).length = (r.map fun l => l.length + g.length).sum := by
   induction r with
   | nil => rfl
   | cons b r ih => rw [List.flatMap_cons, lAp, ih, List.map_cons, List.sum_cons, lAp]; walk_at "o"
  walk_at "o"
section
variable {c : Cx} {n : Nat} {H : List AO} {R : V → List AO → Prop} {X : Nat → List AO → Prop} {i j p q a : Nat}
theorem c_shown_subscripts {es : List (V × List Nat)} (hn : 1 ≤ n) (hes : ∀ x ∈ es, ShE c n x.1 x.2) (hne : ∀ x ∈ es, x.2 ≠ []) (hsz : ∀ x ∈ es, x.2.length ≤ 1000000) (hlen : es.length ≤ 7) (h : ∀ H', Gr [] H H' → R (.str (S (rowsX (es.map (·.2))))) H') : CJ c (n + 1) (.ref 407) [.tup (es.map (·.1)), shV] H R X := by
 apply p_shown_subscripts
 walk_at "body"
 refine X_comp0 (ρc := [(so "show_expr", Kd.cell, some shV)]) (compOk (by walk_at "r") trivial ⟨by walk_at "mem", trivial⟩) (by walk_at "o") (by walk_at "ir") (by walk_at "r") (by walk_at "r") ⟨_, by walk_at "mem"⟩ ?_
 apply I_tup
 walk_at "w"
 refine ⟨by rw [lMp]; simp [sizeLine]; walk_at "o", fun k acc H1 => Gr [] H H1 ∧ acc = (es.take k).map (fun x => V.str (S x.2)), ⟨Gr.refl _ _, rfl⟩, ?_, ?_⟩
 ·rintro k y acc H2 hy ⟨g2, rfl⟩ hli
  rw [List.getElem?_map, Option.map_eq_some_iff] at hy
  obtain ⟨x, hx, rfl⟩ := hy
  walk_at "w"
  refine hes x (mOg hx) _ _ _ fun H3 g3 => ⟨⟨g2.tr g3, ?_⟩, fun j' e => by cases e⟩
  rw [List.take_add_one, hx]
  simp
 ·rintro acc H2 ⟨g2, rfl⟩ ha
  rw [lMp, List.take_length]
  walk_at "a"
  refine E_comp1 (ρc := []) (compOk (by walk_at "r") trivial trivial) (by walk_at "o") (by walk_at "ir") ?_
  apply I_list
  apply s_slL_no
  walk_at "w"
  refine ⟨_, get_last, by rw [lMp]; simp [sizeLine]; walk_at "o", ?_⟩
  rw [← List.map_drop]
  have g3 : Gr [] H ((H2 ++ [.list (es.map fun x => V.str (S x.2))]) ++ [.list ((es.drop 1).map fun x => V.str (S x.2))]) := (g2.push _).push _
  refine ⟨_, _, rfl, get_last, by rw [lMp]; simp [sizeLine]; walk_at "o", fun k acc H1 => H1 = (H2 ++ [.list (es.map fun x => V.str (S x.2))]) ++ [.list ((es.drop 1).map fun x => V.str (S x.2))] ∧ acc = (((es.drop 1).take k).filter fun x => spec x.2).map (fun x => V.str (S x.2)), ⟨rfl, rfl⟩, ?_, ?_⟩
  ·rintro k y acc H3 hy ⟨rfl, rfl⟩ hli
   rw [List.getElem?_map, Option.map_eq_some_iff] at hy
   obtain ⟨x, hx, rfl⟩ := hy
   have hmem := List.mem_of_mem_drop (mOg hx)
   have hx1 := hne x hmem
   have hx2 := hsz x hmem
   match hq : x.2, hx1 with
   | ch :: t, _ =>
   rw [hq] at hx2
   walk_at "w"
   refine S_strS (i := 0) (ch := ch) rfl (by walk_at "o") ?_
   walk_at "w"
   cases hs : decide (ch ∈ (so "(+-").cps.toList) with
   | false =>
    refine ⟨fun _ => ⟨⟨rfl, ?_⟩, hli⟩, fun q => Bool.noConfusion q⟩
    rw [List.take_add_one, hx, List.filter_append, List.map_append]
    have : spec x.2 = false := by rw [hq]; exact hs
    simp [this]
   | true =>
    refine ⟨fun q => Bool.noConfusion q, fun _ => ⟨hli, ?_⟩⟩
    walk_at "w"
    refine ⟨⟨rfl, ?_⟩, hli⟩
    rw [List.take_add_one, hx, List.filter_append, List.map_append]
    have hsp : spec x.2 = true := by rw [hq]; exact hs
    have e : (((some x).toList).filter fun x => spec x.2) = [x] := by
     show List.filter _ [x] = [x]
     simp only [List.filter, hsp]
    rw [e, List.map_cons, List.map_nil, hq]
  ·rintro acc H3 ⟨rfl, rfl⟩ ha2
   rw [lMp, List.take_length]
   have hw : (!(((es.drop 1).filter fun x => spec x.2).map (fun x => V.str (S x.2))).isEmpty) = ((es.map (·.2)).drop 1).any spec := by
    rw [← List.map_drop, List.any_map, List.isEmpty_map]
    show _ = (es.drop 1).any fun x => spec x.2
    cases hb : (es.drop 1).any (fun x => spec x.2) with
    | false =>
     rw [List.any_eq_false] at hb
     rw [List.filter_eq_nil_iff.mpr hb]; rfl
    | true =>
     obtain ⟨x, hx, hs⟩ := List.any_eq_true.mp hb
     have : x ∈ (es.drop 1).filter fun x => spec x.2 := List.mem_filter.mpr ⟨hx, hs⟩
     cases hc : (es.drop 1).filter fun x => spec x.2 with
     | nil => rw [hc] at this; cases this
     | cons _ _ => rfl
   walk_at "w"
   have g4 := (Gr.push0 (H := H2) (.list (es.map fun x => V.str (S x.2)))).push (.list ((es.drop 1).map fun x => V.str (S x.2)))
   refine A_listNeNil (l := ((es.drop 1).filter fun x => spec x.2).map (fun x => V.str (S x.2))) ((Gr.push0 _).get0 get_last) get_last ?_
   rw [hw]
   have fin : ∀ (H5 : List AO) (ti : Nat) (ls : List (List Nat)), Gr [] H H5 → H5[ti]? = some (.list ((ls.map S).map V.str)) → ls = (es.map (·.2)).map (wrapX (((es.map (·.2)).drop 1).any spec)) → XV c n ((bodyOf (stAt 64)).drop 2) [lv "subscripts" (.tup (es.map (·.1))), (so "show_expr", Kd.cell, some shV), lv "texts" (.obj ti)] H5 (RetP R) X := by
    intro H5 ti ls g5 hti els
    have hB : ∀ x ∈ ls, x.length ≤ 1000002 := by
     rw [els]
     intro x hx
     obtain ⟨y, hy, rfl⟩ := List.mem_map.mp hx
     obtain ⟨z, hz, rfl⟩ := List.mem_map.mp hy
     have := hsz z hz
     unfold wrapX
     split <;> simp <;> walk_at "o"
    have hl : ls.length = es.length := by rw [els]; simp
    have hsum : (ls.map fun l => l.length + (so " ").length).sum ≤ 7 * 1000003 := by
     have := sum_le (B := 1000003) (ls := ls.map fun l => l.length + (so " ").length) (fun x hx => by
      obtain ⟨y, hy, rfl⟩ := List.mem_map.mp hx
      have := hB y hy
      rw [show (so " ").length = 1 by decide +kernel]
      walk_at "o")
     rw [lMp, hl] at this
     exact Nat.le_trans this (Nat.mul_le_mul_right _ hlen)
    have e1 : (so " ").cps.toList = [32] := by decide +kernel
    have hjl : (jn [32] ls).length ≤ 7 * 1000003 := by
     refine Nat.le_trans (jn_len _ _) ?_
     rw [show [32].length = (so " ").length by decide +kernel]
     exact hsum
    walk_at "b"
    refine C_join hti (jok (Nat.le_trans hsum (by decide))) ?_
    rw [jn_eq, e1]
    refine s_KAddS (l := [32, 40]) (by decide +kernel) (by simp [sizeLine]; walk_at "o") ?_
    walk_at "w"
    refine s_SAddK (m := [41]) (by decide +kernel) (by simp [sizeLine]; walk_at "o") ?_
    have := h H5 g5
    unfold rowsX at this
    rw [← els] at this
    exact this
   have hT : ∀ o1 o2 o3 : AO, ((((H2 ++ [.list (es.map fun x => V.str (S x.2))]) ++ [o1]) ++ [o2]) ++ [o3])[H2.length]? = some (.list (es.map fun x => V.str (S x.2))) := fun o1 o2 o3 => (((Gr.push0 _).push _).push _).get0 get_last
   have g5 : ∀ o1 o2 o3 : AO, Gr [] H ((((H2 ++ [.list (es.map fun x => V.str (S x.2))]) ++ [o1]) ++ [o2]) ++ [o3]) := fun o1 o2 o3 => ((((g2.push _).push _).push _).push _)
   cases hwr : ((es.map (·.2)).drop 1).any spec with
   | false =>
    rw [hwr] at fin
    walk_at "w"
    walk_at "if"
    refine fin _ _ (es.map (·.2)) (g5 _ _ _) (by rw [List.map_map, List.map_map]; exact hT _ _ _) ?_
    rw [show wrapX false = id from rfl, List.map_id]
   | true =>
    rw [hwr] at fin
    walk_at "w"
    walk_at "if"
    refine X_comp0 (ρc := []) (compOk (by walk_at "r") trivial trivial) (by walk_at "o") (by walk_at "ir") (by walk_at "r") (by walk_at "r") ⟨_, by walk_at "mem"⟩ ?_
    apply I_list
    walk_at "w"
    refine ⟨_, _, rfl, hT _ _ _, by rw [lMp]; simp [sizeLine]; walk_at "o", fun k acc H1 => Gr [] H H1 ∧ acc = (es.take k).map (fun x => V.str (S (40 :: (x.2 ++ [41])))), ⟨g5 _ _ _, rfl⟩, ?_, ?_⟩
    ·rintro k y acc H6 hy ⟨g6, rfl⟩ hli
     rw [List.getElem?_map, Option.map_eq_some_iff] at hy
     obtain ⟨x, hx, rfl⟩ := hy
     have := hsz x (mOg hx)
     walk_at "w"
     refine s_KAddS (l := [40]) (by decide +kernel) (by simp [sizeLine]; walk_at "o") ?_
     walk_at "w"
     refine s_SAddK (m := [41]) (by decide +kernel) (by simp [sizeLine]; walk_at "o") ?_
     refine ⟨⟨g6, ?_⟩, hli⟩
     rw [List.take_add_one, hx]
     simp
    ·rintro acc H6 ⟨g6, rfl⟩ ha6
     rw [lMp, List.take_length]
     walk_at "asg"
     refine fin _ _ ((es.map (·.2)).map (wrapX true)) (g6.push _) ?_ rfl
     rw [List.map_map, List.map_map, List.map_map]
     exact get_last
end
noncomputable abbrev VT := V × List Nat
noncomputable def ptV : Option (VT × Option VT) → V
 | none => .none
 | some (b, none) => .tup [b.1, .none]
 | some (b, some l) => .tup [b.1, l.1]
noncomputable def ptX : Option (VT × Option VT) → List Nat
 | none => []
 | some (b, none) => [32, 40] ++ b.2 ++ [32, 58] ++ [41]
 | some (b, some l) => [32, 40] ++ b.2 ++ [32, 58] ++ (32 :: l.2) ++ [41]
noncomputable def sbX (es : List VT) : List Nat := if es.isEmpty then [] else rowsX (es.map (·.2))
theorem rowsX_len {es : List VT} (hsz : ∀ x ∈ es, x.2.length ≤ 1000000) (hlen : es.length ≤ 7) : (rowsX (es.map (·.2))).length ≤ 7 * 1000003 + 3 := by
 unfold rowsX
 have h1 := jn_len [32] ((es.map (·.2)).map (wrapX (((es.map (·.2)).drop 1).any spec)))
 have h2 := sum_le (B := 1000003) (ls := ((es.map (·.2)).map (wrapX (((es.map (·.2)).drop 1).any spec))).map fun l => l.length + [32].length) (fun x hx => by
  obtain ⟨y, hy, rfl⟩ := List.mem_map.mp hx
  obtain ⟨z, hz, rfl⟩ := List.mem_map.mp hy
  obtain ⟨w, hw, rfl⟩ := List.mem_map.mp hz
  have := hsz w hw
  unfold wrapX
  split <;> simp <;> walk_at "o")
 simp only [lMp] at h2
 have h3 : es.length * 1000003 ≤ 7 * 1000003 := Nat.mul_le_mul_right _ hlen
 simp only [lAp, lCo, lNi]
 walk_at "o"
section
variable {c : Cx} {n : Nat} {H : List AO} {R : V → List AO → Prop} {X : Nat → List AO → Prop} {i j p q a : Nat}
theorem c_show_ref {wl : List Nat} {ar : List (List Nat)} {es : List VT} {P : Option (VT × Option VT)} (hn : 2 ≤ n) (hwl : wl.length ≤ 100) (har : ∀ x ∈ ar, x.length ≤ 100) (harl : ar.length ≤ 2) (hes : ∀ x ∈ es, ShE c (n - 1) x.1 x.2) (hne : ∀ x ∈ es, x.2 ≠ []) (hsz : ∀ x ∈ es, x.2.length ≤ 1000000) (hlen : es.length ≤ 7)
  (hP : ∀ b l, P = some (b, l) → ShE c n b.1 b.2 ∧ b.2.length ≤ 1000000 ∧ ∀ l', l = some l' → ShE c n l'.1 l'.2 ∧ l'.2.length ≤ 1000000 ∧ notAny l'.1 = true ∧ isNoneV l'.1 = false)
  (h : ∀ H', Gr [] H H' → R (.str (S (jn [32, 79, 70, 32] (wl :: ar) ++ sbX es ++ ptX P))) H') : CJ c (n + 1) (.ref 414) [.tup [.str (so "ref"), .str (S wl), .tup (ar.map fun l => .str (S l)), .tup (es.map (·.1)), ptV P], shV] H R X := by
 have hof : (so " OF ").cps.toList = [32, 79, 70, 32] := by decide +kernel
 have hofl : (so " OF ").length = 4 := by decide +kernel
 have hsum : ((wl :: ar).map fun l => l.length + (so " OF ").length).sum ≤ 312 := by
  have := sum_le (B := 104) (ls := (wl :: ar).map fun l => l.length + (so " OF ").length) (fun x hx => by
   obtain ⟨y, hy, rfl⟩ := List.mem_map.mp hx
   rcases List.mem_cons.mp hy with rfl | hy
   ·walk_at "o"
   ·have := har y hy; walk_at "o")
  rw [lMp, lCo] at this
  walk_at "o"
 have hjl : (jn [32, 79, 70, 32] (wl :: ar)).length ≤ 312 := by
  refine Nat.le_trans (jn_len _ _) ?_
  rw [show [32, 79, 70, 32].length = (so " OF ").length by decide +kernel]
  exact hsum
 have hsub : (sbX es).length ≤ 7000024 := by
  unfold sbX
  split
  ·simp
  ·have := rowsX_len hsz hlen; walk_at "o"
 apply p_show_ref
 walk_at "b"
 have stop : True := trivial
 refine C_listTup (by rw [lMp]; simp [sizeLine]; walk_at "o") ?_
 have gA := (Gr.push0 (H := H) (.list [V.str (S wl)])).push (.list (ar.map fun l => V.str (S l)))
 refine A_listAdd (l := [V.str (S wl)]) (l' := ar.map fun l => V.str (S l)) ((Gr.push0 _).get0 get_last) get_last (by rw [lMp]; simp [sizeLine]; walk_at "o") ?_
 walk_at "w"
 refine C_join (ys := (wl :: ar).map S) (by rw [List.map_map]; exact get_last) (jok (Nat.le_trans hsum (by decide))) ?_
 rw [jn_eq, hof]
 walk_at "asg"
 have g1 : Gr [] H (((H ++ [.list [V.str (S wl)]]) ++ [.list (ar.map fun l => V.str (S l))]) ++ [.list ([V.str (S wl)] ++ ar.map fun l => V.str (S l))]) := gA.push _
 generalize hH1 : (((H ++ [AO.list [V.str (S wl)]]) ++ [AO.list (ar.map fun l => V.str (S l))]) ++ [AO.list ([V.str (S wl)] ++ ar.map fun l => V.str (S l))]) = H1 at g1
 walk_at "s"
 refine A_tupNeNil ?_
 have fin2 : ∀ (H2 : List AO), Gr [] H H2 → XV c n ((bodyOf (stAt 65)).drop 2) [lv "ref" (.tup [.str (so "ref"), .str (S wl), .tup (ar.map fun l => .str (S l)), .tup (es.map (·.1)), ptV P]), lv "show_expr" shV, lv "found" (.str (S (jn [32, 79, 70, 32] (wl :: ar) ++ sbX es))), l0 "length", gv "list" (.val (.type "list")), gv "shown_subscripts" (.val (.ref 407))] H2 (RetP R) X := by
  intro H2 g2
  have hA : (jn [32, 79, 70, 32] (wl :: ar) ++ sbX es).length ≤ 7000336 := by rw [lAp]; walk_at "o"
  generalize hT : jn [32, 79, 70, 32] (wl :: ar) ++ sbX es = T at hA h ⊢
  walk_at "body"
  match P, hP, h with
  | none, _, h =>
   rw [show ptX none = [] from rfl, List.append_nil] at h
   walk_at "s"
   rw [show isNoneV (ptV none) = true from rfl]
   walk_at "i"
   exact h _ g2
  | some (b, none), hP, h =>
   obtain ⟨hb, hbl, _⟩ := hP b none rfl
   walk_at "s"
   rw [show isNoneV (ptV (some (b, none))) = false from rfl]
   walk_at "i"
   refine S_tupI (l := [b.1, .none]) (x := .none) (by decide) (by decide) rfl ?_
   walk_at "w"
   walk_at "if"
   walk_at "w"
   walk_at "a"
   refine s_SAddK (m := [32, 40]) (by decide +kernel) (by simp only [sizeLine, lCo, lNi]; walk_at "o") ?_
   walk_at "w"
   refine S_tupI (l := [b.1, .none]) (x := b.1) (by decide) (by decide) rfl ?_
   walk_at "w"
   refine hb _ _ _ fun H3 g3 => ?_
   walk_at "w"
   refine A_SAdd (by simp only [sizeLine, lAp, lCo, lNi]; walk_at "o") ?_
   walk_at "w"
   refine s_SAddK (m := [32, 58]) (by decide +kernel) (by simp only [sizeLine, lAp, lCo, lNi]; walk_at "o") ?_
   walk_at "w"
   refine s_SAddK (m := []) (by decide +kernel) (by simp only [sizeLine, lAp, lCo, lNi]; walk_at "o") ?_
   walk_at "w"
   refine s_SAddK (m := [41]) (by decide +kernel) (by simp only [sizeLine, lAp, lCo, lNi]; walk_at "o") ?_
   walk_at "a"
   have := h _ (g2.tr g3)
   rw [show T ++ ptX (some (b, none)) = T ++ [32, 40] ++ b.2 ++ [32, 58] ++ [] ++ [41] by simp [ptX]] at this
   exact this
  | some (b, some l), hP, h =>
   obtain ⟨hb, hbl, hL⟩ := hP b (some l) rfl
   obtain ⟨hl1, hl2, hl3, hl4⟩ := hL l rfl
   walk_at "s"
   rw [show isNoneV (ptV (some (b, some l))) = false from rfl]
   walk_at "i"
   refine S_tupI (l := [b.1, l.1]) (x := l.1) (by decide) (by decide) rfl ?_
   walk_at "w"
   refine A_isNone hl3 ?_
   rw [hl4]
   walk_at "w"
   walk_at "if"
   walk_at "w"
   refine S_tupI (l := [b.1, l.1]) (x := l.1) (by decide) (by decide) rfl ?_
   walk_at "w"
   refine hl1 _ _ _ fun H3 g3 => ?_
   walk_at "w"
   refine s_KAddS (l := [32]) (by decide +kernel) (by simp only [sizeLine, lAp, lCo, lNi]; walk_at "o") ?_
   walk_at "a"
   refine s_SAddK (m := [32, 40]) (by decide +kernel) (by simp only [sizeLine, lCo, lNi]; walk_at "o") ?_
   walk_at "w"
   refine S_tupI (l := [b.1, l.1]) (x := b.1) (by decide) (by decide) rfl ?_
   walk_at "w"
   refine hb _ _ _ fun H4 g4 => ?_
   walk_at "w"
   refine A_SAdd (by simp only [sizeLine, lAp, lCo, lNi]; walk_at "o") ?_
   walk_at "w"
   refine s_SAddK (m := [32, 58]) (by decide +kernel) (by simp only [sizeLine, lAp, lCo, lNi]; walk_at "o") ?_
   walk_at "w"
   refine A_SAdd (by simp only [sizeLine, lAp, lCo, lNi]; walk_at "o") ?_
   walk_at "w"
   refine s_SAddK (m := [41]) (by decide +kernel) (by simp only [sizeLine, lAp, lCo, lNi]; walk_at "o") ?_
   walk_at "a"
   have := h _ ((g2.tr g3).tr g4)
   rw [show T ++ ptX (some (b, some l)) = T ++ [32, 40] ++ b.2 ++ [32, 58] ++ ([32] ++ l.2) ++ [41] by simp [ptX]] at this
   exact this
 cases hemp : es.isEmpty with
 | true =>
  obtain rfl : es = [] := List.isEmpty_iff.mp hemp
  rw [show (!(List.map (fun (x : VT) => x.1) []).isEmpty) = false from rfl]
  walk_at "w"
  walk_at "if"
  have := fin2 H1 g1
  rw [show jn [32, 79, 70, 32] (wl :: ar) ++ sbX [] = jn [32, 79, 70, 32] (wl :: ar) from List.append_nil _] at this
  exact this
 | false =>
  rw [show (!(List.map (fun (x : VT) => x.1) es).isEmpty) = true by rw [List.isEmpty_map, hemp]; rfl]
  walk_at "w"
  walk_at "i"
  obtain ⟨m, rfl⟩ : ∃ m, n = m + 1 := ⟨n - 1, by walk_at "o"⟩
  refine c_shown_subscripts (by walk_at "o") hes hne hsz hlen fun H2 g2 => ?_
  have hl2 := rowsX_len hsz hlen
  refine A_SAdd (Nat.le_trans (Nat.add_le_add hjl hl2) (by decide)) ?_
  walk_at "asg"
  have := fin2 H2 (g1.tr g2)
  rw [show sbX es = rowsX (es.map (·.2)) by unfold sbX; rw [hemp]; rfl] at this
  exact this
end
noncomputable def whoL (k : Fin 3) : List Nat := (whoAt k).cps.toList
noncomputable def arL (q : Fin 3) : List (List Nat) := (arounds.take q.val).map fun x => x.cps.toList
mutual
noncomputable def Op.text : Op → List Nat
 | .leaf k => (leafAt k).text
 | .ref w q rows part => jn [32, 79, 70, 32] (whoL w :: arL q) ++ (if rows.texts.isEmpty then [] else rowsX rows.texts) ++ part.text
noncomputable def Ex.text : Ex → List Nat
 | .neg o => [45, 32, 40] ++ o.text ++ [41]
 | .plus a b => a.text ++ [32, 43, 32] ++ b.text
 | .one o => o.text
noncomputable def Exs.texts : Exs → List (List Nat)
 | .nil => []
 | .cons e r => e.text :: r.texts
noncomputable def Pt.text : Pt → List Nat
 | .none => []
 | .beg b => [32, 40] ++ b.text ++ [32, 58] ++ [41]
 | .both b l => [32, 40] ++ b.text ++ [32, 58] ++ (32 :: l.text) ++ [41]
end
noncomputable def Exs.vts : Exs → List VT
 | .nil => []
 | .cons e r => (e.toV, e.text) :: r.vts
theorem vts_1 : ∀ r : Exs, r.vts.map (·.1) = r.vals
 | .nil => by rw [Exs.vts, Exs.vals]; rfl
 | .cons e r => by rw [Exs.vts, Exs.vals, List.map_cons, vts_1 r]
theorem vts_2 : ∀ r : Exs, r.vts.map (·.2) = r.texts
 | .nil => by rw [Exs.vts, Exs.texts]; rfl
 | .cons e r => by rw [Exs.vts, Exs.texts, List.map_cons, vts_2 r]
theorem vts_len : ∀ r : Exs, r.vts.length = r.len
 | .nil => by rw [Exs.vts, Exs.len]; rfl
 | .cons e r => by rw [Exs.vts, Exs.len, lCo, vts_len r]
noncomputable def tagOk (t : Str) : Bool := !(t == so "neg") && !(t == so "+")
theorem leaf_shape : ∀ l ∈ leaves, ∃ tag y, l.toV = .tup [.str tag, y] ∧ tagOk tag = true := by
 intro l hl
 simp only [leaves, List.mem_cons, List.not_mem_nil, or_false] at hl
 rcases hl with rfl | rfl | rfl | rfl | rfl | rfl | rfl | rfl | rfl | rfl | rfl | rfl | rfl | rfl | rfl | rfl | rfl | rfl | rfl <;> exact ⟨_, _, rfl, by decide +kernel⟩
theorem Op.shape (o : Op) : ∃ tag l, o.toV = .tup (.str tag :: l) ∧ tagOk tag = true := by
 cases o with
 | leaf k =>
  obtain ⟨tag, y, h1, h2⟩ := leaf_shape (leafAt k) (List.getElem_mem _)
  exact ⟨tag, [y], by rw [Op.toV]; exact h1, h2⟩
 | ref w q rows part => exact ⟨_, _, by rw [Op.toV], by decide +kernel⟩
theorem Ex.shape (e : Ex) : notAny e.toV = true ∧ isNoneV e.toV = false := by
 cases e with
 | neg o => rw [Ex.toV]; exact ⟨rfl, rfl⟩
 | plus a b => rw [Ex.toV]; exact ⟨rfl, rfl⟩
 | one o =>
  obtain ⟨tag, l, h, _⟩ := o.shape
  rw [Ex.toV, h]; exact ⟨rfl, rfl⟩
theorem leaf_text : leaves.all (fun l => decide (l.text.length ≤ 25) && !l.text.isEmpty) = true := by decide +kernel
theorem rowsX_len2 {B : Nat} {ts : List (List Nat)} (hsz : ∀ x ∈ ts, x.length ≤ B) (hlen : ts.length ≤ 7) : (rowsX ts).length ≤ 7 * (B + 3) + 3 := by
 unfold rowsX
 have h1 := jn_len [32] (ts.map (wrapX ((ts.drop 1).any spec)))
 have h2 := sum_le (B := B + 3) (ls := (ts.map (wrapX ((ts.drop 1).any spec))).map fun l => l.length + [32].length) (fun x hx => by
  obtain ⟨y, hy, rfl⟩ := List.mem_map.mp hx
  obtain ⟨w, hw, rfl⟩ := List.mem_map.mp hy
  have := hsz w hw
  unfold wrapX
  split <;> simp <;> walk_at "o")
 simp only [lMp] at h2
 have h3 : ts.length * (B + 3) ≤ 7 * (B + 3) := Nat.mul_le_mul_right _ hlen
 simp only [lAp, lCo, lNi]
 walk_at "o"
section
variable {c : Cx} {n : Nat} {H : List AO} {R : V → List AO → Prop} {X : Nat → List AO → Prop} {i j p q a : Nat}
noncomputable def ShO (c : Cx) (n : Nat) (v : V) (t : List Nat) : Prop := ∀ (H : List AO) (R : V → List AO → Prop) (X : Nat → List AO → Prop), (∀ H', Gr [] H H' → R (.str (S t)) H') → CJ c n (.ref 421) [v, shV] H R X
theorem ShE.up {v : V} {t : List Nat} (h : ShE c n v t) (hm : n ≤ m) : ShE c m v t := fun H R X k => C_up hm (h H R X k)
theorem ShO.up {v : V} {t : List Nat} (h : ShO c n v t) (hm : n ≤ m) : ShO c m v t := fun H R X k => C_up hm (h H R X k)
theorem sh_ref {t : List Nat} (h : ∀ (H : List AO) (R : V → List AO → Prop) (X : Nat → List AO → Prop), (∀ H', Gr [] H H' → R (.str (S t)) H') → CJ c n (.ref 414) [.tup (.str (so "ref") :: l), shV] H R X) : ShO c (n + 1) (.tup (.str (so "ref") :: l)) t := by
 intro H R X k
 apply p_show_operand
 walk_at "b"
 refine A_strEq ?_
 rw [show (so "ref" == so "ref") = true by decide +kernel]
 walk_at "w"
 walk_at "i"
 exact h _ _ _ k
theorem sh_one {tag : Str} {t : List Nat} (ht : tagOk tag = true) (h : ShO c n (.tup (.str tag :: l)) t) : ShE c (n + 1) (.tup (.str tag :: l)) t := by
 intro H R X k
 unfold tagOk at ht
 rw [Bool.and_eq_true, Bool.not_eq_true', Bool.not_eq_true'] at ht
 apply p_law_show
 walk_at "b"
 refine A_strEq ?_
 rw [ht.1]
 walk_at "w"
 walk_at "i"
 refine A_strEq ?_
 rw [ht.2]
 walk_at "w"
 walk_at "i"
 exact h _ _ _ k
theorem sh_neg' {v : V} {t : List Nat} (hl : t.length ≤ 1000000) (h : ShE c n v t) : ShE c (n + 1) (.tup [.str (so "neg"), v]) ([45, 32, 40] ++ t ++ [41]) := by
 intro H R X k
 apply p_law_show
 walk_at "b"
 refine A_strEq ?_
 rw [show (so "neg" == so "neg") = true by decide +kernel]
 walk_at "w"
 walk_at "i"
 refine h _ _ _ fun H1 g1 => ?_
 refine s_KAddS (l := [45, 32, 40]) (by decide +kernel) (by simp only [sizeLine, lCo, lNi]; walk_at "o") ?_
 walk_at "w"
 refine s_SAddK (m := [41]) (by decide +kernel) (by simp only [sizeLine, lAp, lCo, lNi]; walk_at "o") ?_
 exact k _ g1
theorem sh_plus {v w : V} {t u : List Nat} (hl : t.length ≤ 1000000) (hl2 : u.length ≤ 1000000) (h : ShE c n v t) (h2 : ShE c n w u) : ShE c (n + 1) (.tup [.str (so "+"), v, w]) (t ++ [32, 43, 32] ++ u) := by
 intro H R X k
 apply p_law_show
 walk_at "b"
 refine A_strEq ?_
 rw [show (so "+" == so "neg") = false by decide +kernel]
 walk_at "w"
 walk_at "i"
 refine A_strEq ?_
 rw [show (so "+" == so "+") = true by decide +kernel]
 walk_at "w"
 walk_at "i"
 refine h _ _ _ fun H1 g1 => ?_
 walk_at "w"
 refine s_SAddK (m := [32, 43, 32]) (by decide +kernel) (by simp only [sizeLine, lCo, lNi]; walk_at "o") ?_
 walk_at "w"
 refine h2 _ _ _ fun H2 g2 => ?_
 refine A_SAdd (by simp only [sizeLine, lAp, lCo, lNi]; walk_at "o") ?_
 exact k _ (g1.tr g2)
theorem ex_sh {e : Ex} {B : Nat} (hB : B ≤ 400000) (hd : e.fit d) (h : ∀ o : Op, o.fit d → o.text.length ≤ B ∧ o.text ≠ [] ∧ ShO c n o.toV o.text) : e.text.length ≤ 2 * B + 5 ∧ e.text ≠ [] ∧ ShE c (n + 2) e.toV e.text := by
 have hone : ∀ o : Op, o.fit d → ShE c (n + 1) o.toV o.text := fun o ho => by
  obtain ⟨tag, l, e1, e2⟩ := o.shape
  have := (h o ho).2.2
  rw [e1] at this ⊢
  exact sh_one e2 this
 cases e with
 | neg o =>
  unfold Ex.fit at hd
  have h1 := h o hd
  rw [Ex.text, Ex.toV]
  exact ⟨by simp only [lAp, lCo, lNi]; walk_at "o", by simp, sh_neg' (by walk_at "o") (hone o hd)⟩
 | plus a b =>
  unfold Ex.fit at hd
  have h1 := h a hd.1
  have h2 := h b hd.2
  rw [Ex.text, Ex.toV]
  exact ⟨by simp only [lAp, lCo, lNi]; walk_at "o", by simp, sh_plus (by walk_at "o") (by walk_at "o") (hone a hd.1) (hone b hd.2)⟩
 | one o =>
  unfold Ex.fit at hd
  have h1 := h o hd
  rw [Ex.text, Ex.toV]
  exact ⟨by walk_at "o", h1.2.1, (hone o hd).up (by walk_at "o")⟩
theorem exs_sh {B : Nat} (h : ∀ e : Ex, e.fit d → e.text.length ≤ B ∧ e.text ≠ [] ∧ ShE c n e.toV e.text) : ∀ (r : Exs), r.fit d → ∀ x ∈ r.vts, x.2.length ≤ B ∧ x.2 ≠ [] ∧ ShE c n x.1 x.2
 | .nil, _, x, hx => by rw [Exs.vts] at hx; cases hx
 | .cons e r, hd, x, hx => by
  rw [Exs.vts] at hx
  unfold Exs.fit at hd
  rcases List.mem_cons.mp hx with rfl | hx
  ·exact h e hd.1
  ·exact exs_sh h r hd.2 x hx
noncomputable def Pt.vt : Pt → Option (VT × Option VT)
 | .none => Option.none
 | .beg b => some ((b.toV, b.text), Option.none)
 | .both b l => some ((b.toV, b.text), some (l.toV, l.text))
theorem vt_1 (p : Pt) : ptV p.vt = p.toV := by cases p <;> rw [Pt.toV] <;> rfl
theorem vt_2 (p : Pt) : ptX p.vt = p.text := by cases p <;> rw [Pt.text] <;> rfl
theorem who_len : ∀ k : Fin 3, (whoL k).length ≤ 3 := by decide +kernel
theorem who_pos : ∀ k : Fin 3, 0 < (whoL k).length := by decide +kernel
theorem ar_len : ∀ q : Fin 3, (arL q).length ≤ 2 ∧ ∀ x ∈ arL q, x.length ≤ 3 := by decide +kernel
theorem op_sh (c : Cx) : ∀ (d : Nat), d ≤ 3 → ∀ (o : Op), o.fit d → o.text.length ≤ 25 ^ (d + 1) ∧ o.text ≠ [] ∧ ShO c (3 + 6 * d) o.toV o.text
 | d, _, .leaf k, _ => by
  have h := List.all_eq_true.mp leaf_text (leafAt k) (List.getElem_mem _)
  rw [Bool.and_eq_true] at h
  rw [Op.text, Op.toV]
  refine ⟨?_, ?_, fun H R X kk => C_up (by walk_at "o") (sh_leaf k H R X kk)⟩
  ·have h1 := of_decide_eq_true h.1
   have : 25 ^ 1 ≤ 25 ^ (d + 1) := Nat.pow_le_pow_right (by decide) (by walk_at "o")
   walk_at "o"
  ·intro q
   rw [q] at h
   exact absurd h.2 (by decide)
 | 0, _, .ref .., h => by unfold Op.fit at h; exact h.elim
 | d + 1, hd3, .ref w q rows part, h => by
  unfold Op.fit at h
  have ih := op_sh c d (by walk_at "o")
  have hB : 25 ^ (d + 1) ≤ 15625 := Nat.le_trans (Nat.pow_le_pow_right (by decide) (show d + 1 ≤ 3 by walk_at "o")) (by decide)
  have hB1 : 25 ≤ 25 ^ (d + 1) := Nat.le_trans (by decide) (Nat.pow_le_pow_right (n := 25) (by decide) (show 1 ≤ d + 1 by walk_at "o"))
  have hE : ∀ e : Ex, e.fit d → e.text.length ≤ 2 * 25 ^ (d + 1) + 5 ∧ e.text ≠ [] ∧ ShE c (3 + 6 * d + 2) e.toV e.text := fun e he => ex_sh (by walk_at "o") he ih
  have hR := exs_sh hE rows h.2.1
  have e1 : 25 ^ (d + 1 + 1) = 25 * 25 ^ (d + 1) := by rw [Nat.pow_succ]; walk_at "o"
  have hw := who_len w
  have ha := ar_len q
  have hjl : (jn [32, 79, 70, 32] (whoL w :: arL q)).length ≤ 21 := by
   have := sum_le (B := 7) (ls := (whoL w :: arL q).map fun l => l.length + [32, 79, 70, 32].length) (fun x hx => by
    obtain ⟨y, hy, rfl⟩ := List.mem_map.mp hx
    rcases List.mem_cons.mp hy with rfl | hy
    ·simp; walk_at "o"
    ·have := ha.2 y hy; simp; walk_at "o")
   have hl : ((whoL w :: arL q).map fun l => l.length + [32, 79, 70, 32].length).length ≤ 3 := by rw [lMp, lCo]; walk_at "o"
   exact Nat.le_trans (jn_len _ _) (Nat.le_trans this (Nat.le_trans (Nat.mul_le_mul_right _ hl) (by decide)))
  have hrl : rows.texts.length ≤ 7 := by rw [← vts_2, lMp, vts_len]; exact h.1
  have hrt : ∀ x ∈ rows.texts, x.length ≤ 2 * 25 ^ (d + 1) + 5 := fun x hx => by
   rw [← vts_2] at hx
   obtain ⟨y, hy, rfl⟩ := List.mem_map.mp hx
   exact (hR y hy).1
  have hsub : (if rows.texts.isEmpty then [] else rowsX rows.texts).length ≤ 7 * (2 * 25 ^ (d + 1) + 5 + 3) + 3 := by
   split
   ·simp
   ·exact rowsX_len2 hrt hrl
  have hpt : part.text.length ≤ 2 * (2 * 25 ^ (d + 1) + 5) + 6 := by
   have h3 := h.2.2
   cases part with
   | none => rw [Pt.text]; simp
   | beg b =>
    unfold Pt.fit at h3
    have := (hE b h3).1
    rw [Pt.text]; simp only [lAp, lCo, lNi]; walk_at "o"
   | both b l =>
    unfold Pt.fit at h3
    have h4 := (hE b h3.1).1
    have h5 := (hE l h3.2).1
    rw [Pt.text]; simp only [lAp, lCo, lNi]; walk_at "o"
  have htext : (Op.ref w q rows part).text = jn [32, 79, 70, 32] (whoL w :: arL q) ++ (if rows.texts.isEmpty then [] else rowsX rows.texts) ++ part.text := by rw [Op.text]
  refine ⟨?_, ?_, ?_⟩
  ·rw [htext, e1]
   simp only [lAp]
   walk_at "o"
  ·rw [htext]
   intro q'
   have h0 : 0 < (whoL w).length := who_pos w
   have := congrArg List.length q'
   simp only [lAp, lNi, jn] at this
   walk_at "o"
  ·rw [Op.toV]
   refine ShO.up (n := 3 + 6 * d + 5) ?_ (by walk_at "o")
   refine sh_ref (n := 3 + 6 * d + 4) fun H R X k => ?_
   have := c_show_ref (c := c) (n := 3 + 6 * d + 3) (H := H) (R := R) (X := X) (wl := whoL w) (ar := arL q) (es := rows.vts) (P := part.vt) (by walk_at "o") (by walk_at "o") (fun x hx => by have := ha.2 x hx; walk_at "o") ha.1 (fun x hx => (hR x hx).2.2.up (by walk_at "o")) (fun x hx => (hR x hx).2.1) (fun x hx => by have := (hR x hx).1; walk_at "o") (by rw [vts_len]; exact h.1) (fun b l hbl => ?_) (fun H' g => ?_)
   ·rw [vts_1, vt_1] at this
    have e2 : (arounds.take q.val).map V.str = (arL q).map fun l => V.str (S l) := by
     unfold arL
     rw [List.map_map]
     exact List.map_congr_left fun x _ => by show V.str x = V.str (S x.cps.toList); rw [← S_eta]
    have e3 : whoAt w = S (whoL w) := S_eta _
    rw [e2, e3]
    exact this
   ·have h3 := h.2.2
    cases part with
    | none => cases hbl
    | beg b' =>
     unfold Pt.fit at h3
     cases hbl
     have h4 := hE b' h3
     exact ⟨h4.2.2.up (by walk_at "o"), by show b'.text.length ≤ _; walk_at "o", fun l' q => by cases q⟩
    | both b' l' =>
     unfold Pt.fit at h3
     cases hbl
     have h4 := hE b' h3.1
     have h5 := hE l' h3.2
     refine ⟨h4.2.2.up (by walk_at "o"), by show b'.text.length ≤ _; walk_at "o", fun l'' q => ?_⟩
     cases q
     exact ⟨h5.2.2.up (by walk_at "o"), by show l'.text.length ≤ _; walk_at "o", l'.shape.1, l'.shape.2⟩
   ·have h5 := k H' g
    rw [htext] at h5
    unfold sbX
    rw [vts_2, vt_2]
    have e4 : rows.vts.isEmpty = rows.texts.isEmpty := by rw [← vts_2, List.isEmpty_map]
    rw [e4]
    exact h5
end
section
variable {c : Cx} {n : Nat} {H : List AO} {R : V → List AO → Prop} {X : Nat → List AO → Prop} {i j p q a : Nat}
noncomputable def Cap (ch : Nat) : Prop := ch < 97 ∨ 122 < ch
theorem c_capital_of (hc : Cap ch) (h : R (.str ⟨#[ch]⟩) H) : CJ c 1 (.ref 203) [.str ⟨#[ch]⟩] H R X := by
 apply p_capital_of
 walk_at "b"
 walk_at "r"
 walk_at "w"
 refine A_strLtE ?_
 have e1 : (so "a").cps.toList = [97] := by decide +kernel
 have e2 : (so "z").cps.toList = [122] := by decide +kernel
 rw [e1]
 have q1 : decide (([ch] : List Nat) < [97]) = decide (ch < 97) := by rw [decide_eq_decide, List.cons_lt_cons_iff]; simp
 have q2 : decide (([122] : List Nat) < [ch]) = decide (122 < ch) := by rw [decide_eq_decide, List.cons_lt_cons_iff]; simp
 rw [show ((⟨#[ch]⟩ : Str).cps.toList) = [ch] from rfl, q1]
 rcases hc with hc | hc
 ·rw [decide_eq_true hc]
  walk_at "w"
  walk_at "if"
  walk_at "if"
  walk_at "w"
  exact h
 ·rw [decide_eq_false (show ¬ ch < 97 by walk_at "o")]
  walk_at "w"
  walk_at "if"
  walk_at "w"
  refine A_strLtE ?_
  rw [e2, show ((⟨#[ch]⟩ : Str).cps.toList) = [ch] from rfl, q2, decide_eq_true hc]
  walk_at "w"
  walk_at "if"
  walk_at "w"
  exact h
noncomputable def StopAt (r : List Nat) (sg : List Nat) : Prop := ∀ ch r', r = ch :: r' → Cap ch ∧ ch ∉ sg
theorem c_run_end {pre run r : List Nat} {sg : Str} (hrun : ∀ ch ∈ run, Cap ch ∧ ch ∈ sg.cps.toList) (hr : StopAt r sg.cps.toList) (hs : (pre ++ run ++ r).length ≤ sizeLine) (h : R (.int ((pre.length + run.length : Nat) : Int)) H) : CJ c 2 (.ref 236) [.str (S (pre ++ run ++ r)), .int (pre.length : Int), .str sg] H R X := by
 have hs2 : (pre ++ run ++ r).length < 2 ^ 62 := Nat.lt_of_le_of_lt hs (by decide)
 apply p_run_end
 walk_at "body"
 refine X_while (J := fun k ρ1 H1 => H1 = H ∧ ∃ m : Nat, k + m = run.length ∧ ρ1 = [lv "text" (.str (S (pre ++ run ++ r))), lv "at" (.int ((pre.length + m : Nat) : Int)), lv "signs" (.str sg), gv "len" (.val (.builtin "len")), gv "capital_of" (.val (.ref 203))]) run.length ⟨rfl, 0, rfl, rfl⟩ ?_
 rintro k ρ1 H1 ⟨rfl, m, hm, rfl⟩
 walk_at "w"
 refine C_lenS hs2 ?_
 walk_at "w"
 rcases Nat.lt_or_ge (pre.length + m) (pre ++ run ++ r).length with hlt | hge
 ·rw [decide_eq_true (show ((pre.length + m : Nat) : Int) < ((pre ++ run ++ r).length : Int) by walk_at "o")]
  walk_at "if"
  walk_at "w"
  rcases Nat.lt_or_ge m run.length with h1 | h1
  ·have hch : (pre ++ run ++ r)[pre.length + m]? = some run[m] := by
    rw [aAs, gAr (by walk_at "o"), Nat.add_sub_cancel_left, gAl h1, gEg h1]
   have hm' := hrun _ (List.getElem_mem h1)
   refine S_strS hch hs2 ?_
   walk_at "w"
   refine c_capital_of hm'.1 ?_
   walk_at "w"
   rw [decide_eq_true hm'.2]
   walk_at "if"
   walk_at "w"
   walk_at "i"
   walk_at "asg"
   walk_at "st"
   exact ⟨k - 1, by walk_at "o", rfl, m + 1, by walk_at "o", by rw [show ((pre.length + (m + 1) : Nat) : Int) = ((pre.length + m : Nat) : Int) + 1 by walk_at "o"]⟩
  ·obtain rfl : m = run.length := by walk_at "o"
   cases r with
   | nil => exfalso; simp at hlt
   | cons ch r' =>
    have hch : (pre ++ run ++ ch :: r')[pre.length + run.length]? = some ch := by
     rw [gAr (by simp), lAp, Nat.sub_self]; rfl
    have hm' := hr ch r' rfl
    refine S_strS hch hs2 ?_
    walk_at "w"
    refine c_capital_of hm'.1 ?_
    walk_at "w"
    rw [decide_eq_false hm'.2]
    walk_at "if"
    walk_at "i"
    exact h
 ·rw [decide_eq_false (show ¬ ((pre.length + m : Nat) : Int) < ((pre ++ run ++ r).length : Int) by walk_at "o")]
  walk_at "if"
  walk_at "i"
  obtain rfl : m = run.length := by
   simp only [lAp] at hge; walk_at "o"
  exact h
end
noncomputable def lnF (T : List Nat) (pj : Nat) : List (Str × V) := [(so "text", .str (S T)), (so "places", .obj pj)]
theorem at_text {R : V → Prop} {T : List Nat} (hi : H[ln]? = some (.inst 162 (lnF T pj))) (h : R (.str (S T))) : ∃ i' C fs y, V.obj ln = .obj i' ∧ (H[i']? = some (.inst C fs) ∨ H[i']? = some (.exc C fs)) ∧ fs.lookup (so "text") = some y ∧ isHanded y = true ∧ (∀ P, attrOk (kFrag P) C (so "text") = true) ∧ R y :=
 ⟨ln, 162, _, _, rfl, .inl hi, (by with_unfolding_all rfl), rfl, fun P => by kernel_rfl, h⟩
theorem at_places {R : V → Prop} {T : List Nat} (hi : H[ln]? = some (.inst 162 (lnF T pj))) (h : R (.obj pj)) : ∃ i' C fs y, V.obj ln = .obj i' ∧ (H[i']? = some (.inst C fs) ∨ H[i']? = some (.exc C fs)) ∧ fs.lookup (so "places") = some y ∧ isHanded y = true ∧ (∀ P, attrOk (kFrag P) C (so "places") = true) ∧ R y :=
 ⟨ln, 162, _, _, rfl, .inl hi, (by with_unfolding_all rfl), rfl, fun P => by kernel_rfl, h⟩
theorem sl_at {p r : List Nat} {e : Nat} (h : p.length = e) : ((p ++ r).drop e).take (e + k - e) = r.take k := by
 subst h
 rw [List.drop_left, Nat.add_sub_cancel_left]
theorem X_retN {P : Fl → List AO → Prop} (h : P (.ret .none) H) : XV c n (.Return none p :: r) ρ H P X := by
 rw [eXV]
 refine ExS.cons (P' := fun fl H1 => fl = .ret .none ∧ P (.ret .none) H1) (fun A env fr μ s S ow Q E hQ hE => ?_) fun fl H1 h1 => by obtain ⟨rfl, h⟩ := h1; exact h
 exact wpAny_Return_none (hQ (.ret .none) H μ _ s ⟨rfl, h⟩ Ext.refl S.st ⟨_, rfl, rfl⟩)
section
variable {c : Cx} {n : Nat} {H : List AO} {R : V → List AO → Prop} {X : Nat → List AO → Prop} {i j p q a : Nat}
theorem c_number_end {pre run r : List Nat} (hrun : ∀ ch ∈ run, 48 ≤ ch ∧ ch ≤ 57) (hr : StopAt r (so "0123456789").cps.toList) (hd : r.take 1 ≠ [46]) (hs : (pre ++ run ++ r).length ≤ sizeLine) (h : R (.int ((pre.length + run.length : Nat) : Int)) H) : CJ c 3 (.ref 243) [.str (S (pre ++ run ++ r)), .int (pre.length : Int)] H R X := by
 apply p_number_end
 walk_at "b"
 refine c_run_end (fun ch hc => ⟨.inl (by have := hrun ch hc; walk_at "o"), isFig.mpr (hrun ch hc)⟩) hr hs ?_
 walk_at "a"
 rw [sl_at (by simp)]
 walk_at "w"
 refine s_SEqK (m := [46]) (by decide +kernel) ?_
 rw [show (List.take 1 r == [46]) = false by simpa using hd]
 walk_at "w"
 walk_at "if"
 walk_at "i"
 exact h
theorem c_number_point {pre a b r : List Nat} (ha : ∀ ch ∈ a, 48 ≤ ch ∧ ch ≤ 57) (hb : ∀ ch ∈ d :: b, 48 ≤ ch ∧ ch ≤ 57) (hr : StopAt r (so "0123456789").cps.toList) (hs : (pre ++ (a ++ 46 :: d :: b) ++ r).length ≤ sizeLine) (h : R (.int ((pre.length + (a ++ 46 :: d :: b).length : Nat) : Int)) H) : CJ c 3 (.ref 243) [.str (S (pre ++ (a ++ 46 :: d :: b) ++ r)), .int (pre.length : Int)] H R X := by
 have e1 : pre ++ (a ++ 46 :: d :: b) ++ r = pre ++ a ++ (46 :: d :: (b ++ r)) := by simp
 have e2 : pre ++ (a ++ 46 :: d :: b) ++ r = (pre ++ a ++ [46]) ++ (d :: b) ++ r := by simp
 have hs2 : (pre ++ (a ++ 46 :: d :: b) ++ r).length < 2 ^ 62 := Nat.lt_of_le_of_lt hs (by decide)
 have e3 : (pre ++ (a ++ 46 :: d :: b) ++ r).drop (pre.length + a.length) = 46 :: d :: (b ++ r) := by rw [e1]; exact List.drop_left' (by simp)
 have e4 : (pre ++ a ++ [46]).length = pre.length + a.length + 1 := by simp; walk_at "o"
 have e5 : (pre ++ a ++ [46]).length + (d :: b).length = pre.length + (a ++ 46 :: d :: b).length := by rw [e4]; simp; walk_at "o"
 apply p_number_end
 walk_at "b"
 rw [e1] at hs ⊢
 refine c_run_end (fun ch hc => ⟨.inl (by have := ha ch hc; walk_at "o"), isFig.mpr (ha ch hc)⟩) (fun ch r' q => by cases q; exact ⟨.inl (by decide), by rw [figs_list]; decide⟩) hs ?_
 rw [← e1] at hs ⊢
 walk_at "a"
 rw [e3, Nat.add_sub_cancel_left]
 walk_at "w"
 refine s_SEqK (m := [46]) (by decide +kernel) ?_
 rw [show (List.take 1 (46 :: d :: (b ++ r)) == [46]) = true by simp]
 walk_at "w"
 walk_at "if"
 walk_at "w"
 rw [show pre.length + a.length + 1 = (pre.length + a.length) + 1 from rfl, ← List.drop_drop, e3, show pre.length + a.length + 2 - (pre.length + a.length + 1) = 1 by walk_at "o"]
 walk_at "w"
 refine s_SNeK (m := []) (by decide +kernel) ?_
 rw [show (List.take 1 (List.drop 1 (46 :: d :: (b ++ r))) != []) = true by simp]
 walk_at "w"
 walk_at "if"
 walk_at "w"
 refine S_strS (i := pre.length + a.length + 1) (ch := d) (by rw [e2, aAs, gAr (by rw [e4]; exact Nat.le_refl _), e4, Nat.sub_self]; rfl) hs2 ?_
 walk_at "w"
 rw [decide_eq_true (isFig.mpr (hb d (.head _)))]
 walk_at "if"
 walk_at "w"
 walk_at "i"
 rw [show ((pre.length + a.length : Nat) : Int) + 1 = ((pre ++ a ++ [46]).length : Int) by rw [e4]; rfl]
 rw [e2] at hs ⊢
 refine c_run_end (fun ch hc => ⟨.inl (by have := hb ch hc; walk_at "o"), isFig.mpr (hb ch hc)⟩) hr hs ?_
 walk_at "a"
 rw [← e5] at h
 exact h
noncomputable def WS : List Nat := (so "ABCDEFGHIJKLMNOPQRSTUVWXYZ0123456789-").cps.toList
theorem c_is_word_sign (hc : Cap ch) (h : R (.bool (decide (ch ∈ WS))) H) : CJ c 2 (.ref 215) [.str ⟨#[ch]⟩] H R X := by
 apply p_is_word_sign
 walk_at "b"
 refine c_capital_of hc ?_
 walk_at "w"
 exact h
noncomputable def Fo (r : List Nat) : Prop := ∀ ch r', r = ch :: r' → ch = 32 ∨ ch = 41
theorem c_need_apart {pre r : List Nat} (hl : H[ln]? = some (.inst 162 (lnF (pre ++ r) pj))) (hf : Fo r) (hs : (pre ++ r).length ≤ sizeLine) (h : R .none H) : CJ c 3 (.ref 290) [.obj ln, .int (pre.length : Int)] H R X := by
 apply p_need_apart
 walk_at "b"
 refine at_text hl ?_
 walk_at "w"
 rw [sl_at rfl]
 walk_at "a"
 refine s_SEqK (m := []) (by decide +kernel) ?_
 cases r with
 | nil =>
  rw [show (List.take 2 ([] : List Nat) == []) = true from rfl]
  walk_at "w"
  walk_at "if"
  exact X_retN h
 | cons ch r' =>
  have hch := hf ch r' rfl
  have hcap : Cap ch := .inl (by walk_at "o")
  have hws : ch ∉ WS := by rcases hch with rfl | rfl <;> decide +kernel
  have hqt : ch ∉ (so "\"'").cps.toList := by rcases hch with rfl | rfl <;> decide +kernel
  rw [show (List.take 2 (ch :: r') == []) = false from rfl]
  walk_at "w"
  walk_at "i"
  have h0 : (List.take 2 (ch :: r'))[0]? = some ch := rfl
  have hlt : (List.take 2 (ch :: r')).length < 2 ^ 62 := by
   have : (List.take 2 (ch :: r')).length ≤ 2 := List.length_take_le _ _
   walk_at "o"
  refine S_strS (i := 0) (ch := ch) h0 hlt ?_
  walk_at "w"
  refine c_is_word_sign hcap ?_
  rw [decide_eq_false hws]
  walk_at "w"
  walk_at "if"
  walk_at "if"
  walk_at "w"
  refine S_strS (i := 0) (ch := ch) h0 hlt ?_
  walk_at "w"
  rw [decide_eq_false hqt]
  walk_at "if"
  walk_at "w"
  walk_at "i"
  refine S_strS (i := 0) (ch := ch) h0 hlt ?_
  walk_at "w"
  refine s_chEqK (b := 46) (by decide +kernel) ?_
  rw [show (ch == 46) = false by rcases hch with rfl | rfl <;> rfl]
  walk_at "w"
  walk_at "if"
  walk_at "if"
  walk_at "st"
  exact h
end
theorem jn_one (w : List Nat) : jn [] (w.map fun ch => [ch]) = w := by
 cases w with
 | nil => rfl
 | cons a r =>
  show [a] ++ (r.map fun ch => [ch]).flatMap (fun b => [] ++ b) = a :: r
  have : ∀ r : List Nat, (r.map fun ch => [ch]).flatMap (fun b => [] ++ b) = r := by
   intro r
   induction r with
   | nil => rfl
   | cons b r ih => rw [List.map_cons, List.flatMap_cons, ih]; rfl
  rw [this]; rfl
section
variable {c : Cx} {n : Nat} {H : List AO} {R : V → List AO → Prop} {X : Nat → List AO → Prop} {i j p q a : Nat}
theorem mid_at {pre r : List Nat} : (pre ++ ch :: r)[pre.length]? = some ch := by rw [gAr (Nat.le_refl _), Nat.sub_self]; rfl
theorem c_is_blank_at {pre r : List Nat} (h1 : ch ≠ 44) (h2 : ch ≠ 59) (hs : (pre ++ ch :: r).length ≤ sizeLine) (h : R (.bool (ch == 32)) H) : CJ c 2 (.ref 311) [.str (S (pre ++ ch :: r)), .int (pre.length : Int)] H R X := by
 have hs2 : (pre ++ ch :: r).length < 2 ^ 62 := Nat.lt_of_le_of_lt hs (by decide)
 have e1 : (so ",;").cps.toList = [44, 59] := by decide +kernel
 apply p_is_blank_at
 walk_at "b"
 refine S_strS mid_at hs2 ?_
 walk_at "w"
 refine s_chEqK (b := 32) (by decide +kernel) ?_
 cases hq : (ch == 32) with
 | true =>
  rw [hq] at h
  walk_at "w"
  refine ⟨fun _ => h, fun q => Bool.noConfusion q⟩
 | false =>
  rw [hq] at h
  walk_at "w"
  refine ⟨fun q => Bool.noConfusion q, fun _ => ?_⟩
  walk_at "w"
  refine S_strS mid_at hs2 ?_
  walk_at "w"
  rw [e1, decide_eq_false (show ch ∉ [44, 59] by simp; exact ⟨h1, h2⟩)]
  walk_at "w"
  exact ⟨fun _ => h, fun q => Bool.noConfusion q⟩
noncomputable def dblS : List Str := [so "**", so "<=", so ">="]
theorem dbl_split : Txt.split (so "** <= >=") (so " ") = dblS := by decide +kernel
theorem c_mark_at {pre r : List Nat} (hl : H[ln]? = some (.inst 162 (lnF (pre ++ ch :: r) pj))) (hc : ch ∈ [40, 41, 43, 45, 58]) (hs : (pre ++ ch :: r).length ≤ sizeLine) (h : ∀ H', Gr [] H H' → R (.tup [.str (so "sign"), .str ⟨#[ch]⟩]) H') : CJ c 2 (.ref 297) [.obj ln, .int (pre.length : Int)] H R X := by
 have hs2 : (pre ++ ch :: r).length < 2 ^ 62 := Nat.lt_of_le_of_lt hs (by decide)
 have hsg : ∀ ch ∈ [40, 41, 43, 45, 58], ch ∈ (so "():+-*/=<>").cps.toList := by decide +kernel
 have hne : ∀ x ∈ [40, 41, 43, 45, 58], x ≠ 61 ∧ x ≠ 42 ∧ x ≠ 60 ∧ x ≠ 62 := by decide
 have hne' := hne ch hc
 have e2 : dblS = [S [42, 42], S [60, 61], S [62, 61]] := by decide +kernel
 have hany : dblS.any (· == S (List.take 2 (ch :: r))) = false := by
  rw [e2, List.any_cons, List.any_cons, List.any_cons, List.any_nil, S_beq, S_beq, S_beq]
  have f : ∀ a b : Nat, ch ≠ a → ([a, b] == List.take 2 (ch :: r)) = false := fun a b q => by
   rw [beq_eq_false_iff_ne]
   intro e
   have := congrArg List.head? e
   simp at this
   exact q this.symm
  rw [f 42 42 hne'.2.1, f 60 61 hne'.2.2.1, f 62 61 hne'.2.2.2]
  rfl
 apply p_mark_at
 walk_at "b"
 refine at_text hl ?_
 walk_at "w"
 rw [sl_at rfl]
 walk_at "a"
 refine s_SEqK (m := [61, 61]) (by decide +kernel) ?_
 rw [show (List.take 2 (ch :: r) == [61, 61]) = false by
  rw [beq_eq_false_iff_ne]
  intro e
  have := congrArg List.head? e
  simp at this
  exact hne'.1 this]
 walk_at "w"
 walk_at "i"
 refine C_split sp_one (by decide +kernel) (by decide +kernel) ?_
 rw [dbl_split]
 refine A_inList get_last ?_
 rw [hany]
 walk_at "w"
 walk_at "i"
 have g1 : Gr [] H (H ++ [.list (dblS.map V.str)]) := Gr.push0 _
 refine at_text (g1.get0 hl) ?_
 walk_at "w"
 refine S_strS mid_at hs2 ?_
 walk_at "a"
 rw [decide_eq_true (hsg ch hc)]
 walk_at "if"
 walk_at "i"
 exact h _ g1
theorem c_capitals {w : List Nat} (hcap : ∀ ch ∈ w, Cap ch) (hs : w.length ≤ 1000) (h : ∀ H', Gr [] H H' → R (.str (S w)) H') : CJ c 2 (.ref 208) [.str (S w)] H R X := by
 apply p_capitals
 walk_at "b"
 refine E_comp0 (ρc := [gv "capital_of" (.val (.ref 203))]) (compOk (by walk_at "r") ⟨g_capital_of, trivial⟩ trivial) (by decide) (by walk_at "ir") ?_
 apply I_str
 walk_at "w"
 rw [S_cps]
 refine ⟨by rw [lMp]; simp [sizeLine]; walk_at "o", fun k acc H1 => H1 = H ∧ acc = (((w.take k).map fun ch => [ch]).map S).map V.str, ⟨rfl, rfl⟩, ?_, ?_⟩
 ·rintro k y acc H2 hy ⟨rfl, rfl⟩ hli
  rw [List.getElem?_map, Option.map_eq_some_iff] at hy
  obtain ⟨ch, hch, rfl⟩ := hy
  walk_at "w"
  refine c_capital_of (hcap ch (mOg hch)) ⟨⟨rfl, ?_⟩, hli⟩
  rw [List.take_add_one, hch]
  simp
  rfl
 ·rintro acc H2 ⟨rfl, rfl⟩ ha
  rw [lMp, List.take_length]
  have hsum : ((w.map fun ch => [ch]).map fun l => l.length + (so "").length).sum ≤ sizeLine := by
   have := sum_le (B := 1) (ls := (w.map fun ch => [ch]).map fun l => l.length + (so "").length) (fun x hx => by
    obtain ⟨y, hy, rfl⟩ := List.mem_map.mp hx
    obtain ⟨z, hz, rfl⟩ := List.mem_map.mp hy
    rw [show (so "").length = 0 by decide +kernel]; simp)
   rw [lMp, lMp] at this
   refine Nat.le_trans this ?_
   simp [sizeLine]; walk_at "o"
  walk_at "w"
  refine C_join get_last (jok hsum) ?_
  rw [jn_eq, show (so "").cps.toList = [] by decide +kernel, jn_one]
  exact h _ (Gr.push0 _)
theorem c_checked_word {pre w r : List Nat} {l : Nat} (hl : H[ln]? = some (.inst 162 (lnF (pre ++ w ++ r) pj))) (hcap : ∀ ch ∈ w, Cap ch) (hlet : ∃ ch ∈ w, 65 ≤ ch ∧ ch ≤ 90) (hlast : w.getLast? = some l) (hl45 : l ≠ 45) (hlen : w.length ≤ 30) (hs : (pre ++ w ++ r).length ≤ sizeLine) (h : ∀ H', Gr [] H H' → R (.str (S w)) H') : CJ c 3 (.ref 262) [.obj ln, .int (pre.length : Int), .int ((pre.length + w.length : Nat) : Int)] H R X := by
 have esl : ((pre ++ w ++ r).drop pre.length).take (pre.length + w.length - pre.length) = w := by
  rw [aAs, sl_at rfl, List.take_left]
 apply p_checked_word
 walk_at "b"
 refine at_text hl ?_
 walk_at "w"
 rw [esl]
 refine c_capitals hcap (by walk_at "o") fun H1 g1 => ?_
 walk_at "a"
 refine E_comp1 (ρc := [gv "LETTERS" (.str (so "ABCDEFGHIJKLMNOPQRSTUVWXYZ"))]) (compOk (by walk_at "r") ⟨g_LETTERS, trivial⟩ trivial) (by decide) (by walk_at "ir") ?_
 apply I_str
 walk_at "w"
 rw [S_cps]
 refine ⟨by rw [lMp]; simp [sizeLine]; walk_at "o", fun k acc H2 => H2 = H1 ∧ ((∃ ch ∈ w.take k, 65 ≤ ch ∧ ch ≤ 90) → acc ≠ []), ⟨rfl, fun q => by simp at q⟩, ?_, ?_⟩
 ·rintro k y acc H2 hy ⟨rfl, hacc⟩ hli
  rw [List.getElem?_map, Option.map_eq_some_iff] at hy
  obtain ⟨ch, hch, rfl⟩ := hy
  walk_at "w"
  cases hq : decide (ch ∈ (so "ABCDEFGHIJKLMNOPQRSTUVWXYZ").cps.toList) with
  | false =>
   refine ⟨fun _ => ⟨⟨rfl, fun q => hacc ?_⟩, hli⟩, fun q => Bool.noConfusion q⟩
   obtain ⟨x, hx, hx2⟩ := q
   rw [List.take_add_one, hch] at hx
   rcases List.mem_append.mp hx with hx | hx
   ·exact ⟨x, hx, hx2⟩
   ·exfalso
    simp at hx
    subst hx
    exact of_decide_eq_false hq (isLetter.mpr hx2)
  | true =>
   refine ⟨fun q => Bool.noConfusion q, fun _ => ⟨hli, ?_⟩⟩
   walk_at "w"
   exact ⟨⟨rfl, fun _ => by simp⟩, hli⟩
 ·rintro acc H2 ⟨rfl, hacc⟩ ha
  rw [lMp, List.take_length] at hacc
  have hne := hacc hlet
  walk_at "w"
  refine A_listEqNil ((Gr.push0 _).get0 get_last) get_last ?_
  rw [show acc.isEmpty = false by cases acc with | nil => exact absurd rfl hne | cons _ _ => rfl]
  walk_at "w"
  walk_at "i"
  refine S_strLast (by rw [S_cps]; exact hlast) (by rw [S_len]; walk_at "o") ?_
  walk_at "w"
  refine s_chEqK (b := 45) (by decide +kernel) ?_
  rw [show (l == 45) = false by simpa using hl45]
  walk_at "w"
  walk_at "i"
  refine C_lenS (by walk_at "o") ?_
  walk_at "w"
  rw [decide_eq_false (show ¬ ((w.length : Int) > 30) by walk_at "o")]
  walk_at "i"
  exact h _ ((g1.push _).push _)
end
theorem sl_at2 {p r : List Nat} {e f : Nat} (h : p.length = e) (hf : f = e + k) : ((p ++ r).drop e).take (f - e) = r.take k := by
 subst hf; exact sl_at h
section
variable {c : Cx} {n : Nat} {H : List AO} {R : V → List AO → Prop} {X : Nat → List AO → Prop} {i j p q a : Nat}
theorem c_checked_number {pre w r : List Nat} (hl : H[ln]? = some (.inst 162 (lnF (pre ++ w ++ r) pj))) (hrep : (Txt.replace (S w) (so ".") (so "")).length ≤ 18) (hlen : w.length ≤ 100) (hs : (pre ++ w ++ r).length ≤ sizeLine) (h : R (.str (S w)) H) : CJ c 2 (.ref 269) [.obj ln, .int (pre.length : Int), .int ((pre.length + w.length : Nat) : Int)] H R X := by
 have esl : ((pre ++ w ++ r).drop pre.length).take (pre.length + w.length - pre.length) = w := by
  rw [aAs, sl_at rfl, List.take_left]
 apply pq_checked_number
 walk_at "bodyQ"
 apply XQ_step
 walk_at "s"
 refine at_text hl ?_
 walk_at "w"
 rw [esl]
 walk_at "asg"
 walk_at "st"
 refine ⟨_, rfl, ?_⟩
 apply XQ_ifS
 apply BQ_cmp (by walk_at "r")
 apply EQ_len (by walk_at "mem") (by walk_at "r")
 apply EQ_replace (by decide) (by decide +kernel) (by walk_at "ir") (by walk_at "r") (by walk_at "r")
 apply EQ_of
 walk_at "w"
 refine ⟨by rw [S_len, show (so "").length = 0 by decide +kernel]; walk_at "o", ?_⟩
 refine C_lenStr (by walk_at "o") ?_
 walk_at "w"
 rw [decide_eq_false (show ¬ ((Txt.replace (S w) (so ".") (so "")).length : Int) > 18 by walk_at "o")]
 walk_at "i"
 exact h
theorem c_checked_literal {pre l r : List Nat} (hl : H[ln]? = some (.inst 162 (lnF (pre ++ litText l ++ r) pj))) (hrep : Txt.replace (S (dbl l)) ⟨#[34, 34]⟩ ⟨#[34]⟩ = S l) (hlen : 1 ≤ l.length) (hlen2 : l.length ≤ 160) (hd : (dbl l).length ≤ 1000) (hs : (pre ++ litText l ++ r).length ≤ sizeLine) (h : R (.str (S l)) H) : CJ c 2 (.ref 276) [.obj ln, .int (pre.length : Int), .int ((pre.length + (litText l).length : Nat) : Int)] H R X := by
 have hs2 : (pre ++ litText l ++ r).length < 2 ^ 62 := Nat.lt_of_le_of_lt hs (by decide)
 have hll : (litText l).length = (dbl l).length + 2 := by simp [litText]
 have esl : ((pre ++ litText l ++ r).drop (pre.length + 1)).take (pre.length + (litText l).length - 1 - (pre.length + 1)) = dbl l := by
  have e0 : (pre ++ [34]).length = pre.length + 1 := by simp
  rw [show pre ++ litText l ++ r = (pre ++ [34]) ++ (dbl l ++ ([34] ++ r)) by simp [litText], ← e0, List.drop_left, hll, e0, show pre.length + ((dbl l).length + 2) - 1 - (pre.length + 1) = (dbl l).length by walk_at "o", List.take_left]
 apply pq_checked_literal
 walk_at "bodyQ"
 apply s_ex_replaceQ (by decide) (by decide) (by walk_at "ir") (by walk_at "r") (by kernel_rfl)
 walk_at "w"
 refine at_text hl ?_
 refine ⟨_, rfl, ?_⟩
 walk_at "w"
 refine ⟨pre.length, 34, rfl, ?_, by rw [S_len]; exact hs2, fun t => ?_⟩
 ·rw [S_get, aAs]; exact mid_at
 refine ⟨_, by walk_at "put", ⟨_, by walk_at "mem"⟩, ?_⟩
 walk_at "w"
 refine at_text hl ?_
 walk_at "w"
 refine ⟨pre.length + (litText l).length - 1, congrArg V.int (by walk_at "o"), hs, _, rfl, ?_, ?_⟩
 ·rw [esl, S_len]; walk_at "o"
 rw [esl, hrep]
 refine ⟨_, by walk_at "put", ?_⟩
 walk_at "s"
 walk_at "r"
 walk_at "w"
 refine C_lenS (by walk_at "o") ?_
 walk_at "w"
 rw [decide_eq_true (show (1 : Int) ≤ (l.length : Int) by walk_at "o")]
 walk_at "if"
 walk_at "w"
 rw [decide_eq_true (show (l.length : Int) ≤ 160 by walk_at "o")]
 walk_at "i"
 exact h
theorem dbl_step (ch : Nat) (r : List Nat) : dbl (ch :: r) = if ch = 34 then 34 :: 34 :: dbl r else ch :: dbl r := by rw [dbl]
theorem c_literal_end {pre l r : List Nat} (hl : H[ln]? = some (.inst 162 (lnF (pre ++ litText l ++ r) pj))) (hr : r.take 1 ≠ [34]) (hs : (pre ++ litText l ++ r).length ≤ sizeLine) (h : R (.int ((pre.length + (litText l).length : Nat) : Int)) H) : CJ c 1 (.ref 250) [.obj ln, .int (pre.length : Int)] H R X := by
 have hs2 : (pre ++ litText l ++ r).length < 2 ^ 62 := Nat.lt_of_le_of_lt hs (by decide)
 have hll : (litText l).length = (dbl l).length + 2 := by simp [litText]
 apply p_literal_end
 walk_at "b"
 refine at_text hl ?_
 walk_at "w"
 refine S_strS (ch := 34) (by rw [aAs]; exact mid_at) hs2 ?_
 walk_at "a"
 walk_at "asg"
 refine X_while (J := fun k ρ1 H1 => H1 = H ∧ ∃ (p rest : List Nat) (e : Int), k = rest.length ∧ e = (p.length : Int) ∧ pre ++ litText l ++ r = p ++ (dbl rest ++ 34 :: r) ∧ ρ1 = [lv "line" (.obj ln), lv "at" (.int (pre.length : Int)), lv "quote" (.str ⟨#[34]⟩), lv "end" (.int e), gv "len" (.val (.builtin "len")), gv "line_fault" (.val (.ref 229))]) l.length ⟨rfl, pre ++ [34], l, _, rfl, by simp, by simp [litText], rfl⟩ ?_
 rintro k ρ1 H1 ⟨rfl, p, rest, e, rfl, rfl, hp, rfl⟩
 have hplen : (pre ++ litText l ++ r).length = p.length + (dbl rest).length + 1 + r.length := by rw [hp]; simp; walk_at "o"
 walk_at "w"
 refine at_text hl ?_
 walk_at "w"
 refine C_lenS hs2 ?_
 walk_at "w"
 rw [decide_eq_true (show (p.length : Int) < ((pre ++ litText l ++ r).length : Int) by walk_at "o")]
 walk_at "i"
 refine at_text hl ?_
 walk_at "w"
 cases rest with
 | nil =>
  have hp' : pre ++ litText l ++ r = p ++ 34 :: r := hp
  refine S_strS (ch := 34) (by rw [hp']; exact mid_at) hs2 ?_
  walk_at "w"
  refine A_strNotEq ?_
  rw [show ((⟨#[34]⟩ : Str) != ⟨#[34]⟩) = false by decide]
  walk_at "w"
  walk_at "i"
  refine at_text hl ?_
  walk_at "w"
  rw [show pre ++ litText l ++ r = (p ++ [34]) ++ r by rw [hp']; simp, show p.length + 1 = (p ++ [34]).length by simp, sl_at2 (k := 1) rfl (by simp)]
  refine s_SEqK (m := [34]) rfl ?_
  rw [show (List.take 1 r == [34]) = false by simpa using hr]
  walk_at "w"
  walk_at "i"
  rw [show ((p.length : Int) + 1) = ((pre.length + (litText l).length : Nat) : Int) by
   have := congrArg List.length hp'
   simp only [lAp, lCo] at this
   walk_at "o"]
  exact h
 | cons ch rest =>
  rw [dbl_step] at hp
  by_cases hch : ch = 34
  ·subst hch
   rw [if_pos rfl] at hp
   have hp' : pre ++ litText l ++ r = p ++ 34 :: (34 :: (dbl rest ++ 34 :: r)) := hp
   refine S_strS (ch := 34) (by rw [hp']; exact mid_at) hs2 ?_
   walk_at "w"
   refine A_strNotEq ?_
   rw [show ((⟨#[34]⟩ : Str) != ⟨#[34]⟩) = false by decide]
   walk_at "w"
   walk_at "i"
   refine at_text hl ?_
   walk_at "w"
   rw [show pre ++ litText l ++ r = (p ++ [34]) ++ (34 :: (dbl rest ++ 34 :: r)) by rw [hp']; simp, show p.length + 1 = (p ++ [34]).length by simp, sl_at2 (k := 1) rfl (by simp)]
   refine s_SEqK (m := [34]) rfl ?_
   rw [show (List.take 1 (34 :: (dbl rest ++ 34 :: r)) == [34]) = true from rfl]
   walk_at "w"
   walk_at "i"
   walk_at "asg"
   walk_at "st"
   exact ⟨rest.length, by simp, rfl, p ++ [34, 34], rest, _, rfl, by simp, by first | (rw [hp']; simp; done) | simp, rfl⟩
  ·rw [if_neg hch] at hp
   have hp' : pre ++ litText l ++ r = p ++ ch :: (dbl rest ++ 34 :: r) := hp
   refine S_strS (ch := ch) (by rw [hp']; exact mid_at) hs2 ?_
   walk_at "w"
   refine A_strNotEq ?_
   rw [show ((⟨#[ch]⟩ : Str) != ⟨#[34]⟩) = true by
    rw [bne, S_one, S_one, S_beq]
    simpa using hch]
   walk_at "w"
   walk_at "i"
   walk_at "asg"
   walk_at "st"
   exact ⟨rest.length, by simp, rfl, p ++ [ch], rest, _, rfl, by simp, by first | (rw [hp']; simp; done) | simp, rfl⟩
end
theorem ws_list : WS = ((List.range 26).map (65 + ·)) ++ [48, 49, 50, 51, 52, 53, 54, 55, 56, 57, 45] := by decide +kernel
theorem isWS : ch ∈ WS ↔ (65 ≤ ch ∧ ch ≤ 90) ∨ (48 ≤ ch ∧ ch ≤ 57) ∨ ch = 45 := by
 rw [ws_list]
 refine ⟨fun h => (by decide : ∀ x ∈ ((List.range 26).map (65 + ·)) ++ [48, 49, 50, 51, 52, 53, 54, 55, 56, 57, 45], (65 ≤ x ∧ x ≤ 90) ∨ (48 ≤ x ∧ x ≤ 57) ∨ x = 45) ch h, fun h => h.elim (fun h => ?_) fun h => h.elim (fun h => ?_) fun h => ?_⟩
 ·exact Nat.sub_add_cancel h.1 ▸ (by decide : ∀ k < 26, k + 65 ∈ ((List.range 26).map (65 + ·)) ++ [48, 49, 50, 51, 52, 53, 54, 55, 56, 57, 45]) (ch - 65) (by have := h.2; lia)
 ·exact Nat.sub_add_cancel h.1 ▸ (by decide : ∀ k < 10, k + 48 ∈ ((List.range 26).map (65 + ·)) ++ [48, 49, 50, 51, 52, 53, 54, 55, 56, 57, 45]) (ch - 48) (by have := h.2; lia)
 ·rw [h]; decide
theorem fo_ws {r : List Nat} (hf : Fo r) : StopAt r WS := fun ch r' e => by
 have := hf ch r' e
 exact ⟨.inl (by walk_at "o"), fun q => by rw [isWS] at q; walk_at "o"⟩
theorem fo_fig {r : List Nat} (hf : Fo r) : StopAt r (so "0123456789").cps.toList := fun ch r' e => by
 have := hf ch r' e
 exact ⟨.inl (by walk_at "o"), fun q => by rw [isFig] at q; walk_at "o"⟩
theorem fo_46 {r : List Nat} (hf : Fo r) : r.take 1 ≠ [46] := by
 cases r with
 | nil => simp
 | cons ch r' => have := hf ch r' rfl; simp; walk_at "o"
theorem fo_34 {r : List Nat} (hf : Fo r) : r.take 1 ≠ [34] := by
 cases r with
 | nil => simp
 | cons ch r' => have := hf ch r' rfl; simp; walk_at "o"
structure WordRaw (w : List Nat) : Prop where
 all : ∀ ch ∈ w, (65 ≤ ch ∧ ch ≤ 90) ∨ (48 ≤ ch ∧ ch ≤ 57) ∨ ch = 45
 head : ∃ ch r, w = ch :: r ∧ 65 ≤ ch ∧ ch ≤ 90
 last : ∃ l, w.getLast? = some l ∧ l ≠ 45
 len : w.length ≤ 30
section
variable {c : Cx} {n : Nat} {H : List AO} {R : V → List AO → Prop} {X : Nat → List AO → Prop} {i j p q a : Nat}
theorem worth_word {pre w r : List Nat} (hl : H[ln]? = some (.inst 162 (lnF (pre ++ w ++ r) pj))) (hw : WordRaw w) (hf : Fo r) (hs : (pre ++ w ++ r).length ≤ sizeLine) (h : ∀ H', Gr [] H H' → R (.tup [.str kWord, .str (S w), .int ((pre.length + w.length : Nat) : Int)]) H') : CJ c 4 (.ref 304) [.obj ln, .int (pre.length : Int)] H R X := by
 obtain ⟨ch, w', hw', hc1, hc2⟩ := hw.head
 obtain ⟨l, hlast, hl45⟩ := hw.last
 have hs2 : (pre ++ w ++ r).length < 2 ^ 62 := Nat.lt_of_le_of_lt hs (by decide)
 have hcap : ∀ x ∈ w, Cap x := fun x hx => .inl (by have := hw.all x hx; walk_at "o")
 have e0 : pre ++ w ++ r = pre ++ [] ++ (w ++ r) := by simp
 apply p_worth_at
 walk_at "b"
 refine at_text hl ?_
 walk_at "w"
 refine S_strS (ch := ch) (by rw [hw', aAs]; exact mid_at) hs2 ?_
 walk_at "w"
 refine C_up (by decide) (c_capital_of (.inl (by walk_at "o")) ?_)
 walk_at "a"
 rw [decide_eq_true (isLetter.mpr ⟨hc1, hc2⟩)]
 walk_at "if"
 walk_at "i"
 refine at_text hl ?_
 walk_at "w"
 refine C_up (by decide) (c_run_end (fun x hx => ⟨hcap x hx, isWS.mpr (hw.all x hx)⟩) (fo_ws hf) hs ?_)
 walk_at "a"
 refine at_text hl ?_
 walk_at "w"
 have c2 : CJ c 3 (.ref 243) [.str (S (pre ++ w ++ r)), .int (pre.length : Int)] H (fun v H' => v = .int (pre.length : Int) ∧ H' = H) X := by
  rw [e0]
  rw [e0] at hs
  exact c_number_end (run := []) (fun x hx => nomatch hx) (fun x r' q => by rw [hw'] at q; cases q; exact ⟨.inl (by walk_at "o"), fun q => by rw [isFig] at q; walk_at "o"⟩) (by rw [hw']; simp; walk_at "o") hs ⟨rfl, rfl⟩
 refine C_mono (fun v H' hv => ?_) (fun _ _ q => q) c2
 obtain ⟨rfl, rfl⟩ := hv
 walk_at "a"
 rw [decide_eq_false (fun q => by rw [isFig] at q; walk_at "o")]
 walk_at "if"
 walk_at "i"
 have e1 : ((pre.length + w.length : Nat) : Int) = ((pre ++ w).length : Int) := by simp
 rw [e1]
 refine c_need_apart hl hf hs ?_
 walk_at "s"
 rw [← e1]
 refine c_checked_word hl hcap ⟨ch, by rw [hw']; exact .head _, hc1, hc2⟩ hlast hl45 hw.len hs fun H' g => ?_
 walk_at "w"
 exact h _ g
theorem worth_num {pre w r : List Nat} (hl : H[ln]? = some (.inst 162 (lnF (pre ++ w ++ r) pj))) (hw : ∃ w', w = ch :: w') (hc : 48 ≤ ch ∧ ch ≤ 57) (hf : Fo r) (hs : (pre ++ w ++ r).length ≤ sizeLine) (hrep : (Txt.replace (S w) (so ".") (so "")).length ≤ 18) (hlen : w.length ≤ 100)
  (m : Nat) (hm : m ≤ w.length) (hrun : ∀ (R : V → List AO → Prop), R (.int ((pre.length + m : Nat) : Int)) H → CJ c 2 (.ref 236) [.str (S (pre ++ w ++ r)), .int (pre.length : Int), .str (so "ABCDEFGHIJKLMNOPQRSTUVWXYZ0123456789-")] H R X)
  (hnum : ∀ (R : V → List AO → Prop), R (.int ((pre.length + w.length : Nat) : Int)) H → CJ c 3 (.ref 243) [.str (S (pre ++ w ++ r)), .int (pre.length : Int)] H R X)
  (h : ∀ H', Gr [] H H' → R (.tup [.str kNum, .str (S w), .int ((pre.length + w.length : Nat) : Int)]) H') : CJ c 4 (.ref 304) [.obj ln, .int (pre.length : Int)] H R X := by
 obtain ⟨w', hw'⟩ := hw
 have hs2 : (pre ++ w ++ r).length < 2 ^ 62 := Nat.lt_of_le_of_lt hs (by decide)
 apply p_worth_at
 walk_at "b"
 refine at_text hl ?_
 walk_at "w"
 refine S_strS (ch := ch) (by rw [hw', aAs]; exact mid_at) hs2 ?_
 walk_at "w"
 refine C_up (by decide) (c_capital_of (.inl (by walk_at "o")) ?_)
 walk_at "a"
 rw [decide_eq_false (fun q => by rw [isLetter] at q; walk_at "o")]
 walk_at "if"
 walk_at "w"
 rw [decide_eq_true (isFig.mpr hc)]
 walk_at "if"
 walk_at "i"
 refine at_text hl ?_
 walk_at "w"
 refine C_up (by decide) (hrun _ ?_)
 walk_at "a"
 refine at_text hl ?_
 walk_at "w"
 refine hnum _ ?_
 walk_at "a"
 rw [decide_eq_true (isFig.mpr hc)]
 walk_at "if"
 walk_at "w"
 rw [decide_eq_true (show ((pre.length + w.length : Nat) : Int) ≥ ((pre.length + m : Nat) : Int) by walk_at "o")]
 walk_at "if"
 walk_at "w"
 walk_at "i"
 have e1 : ((pre.length + w.length : Nat) : Int) = ((pre ++ w).length : Int) := by simp
 rw [e1]
 refine c_need_apart hl hf hs ?_
 walk_at "s"
 rw [← e1]
 refine C_up (by decide) (c_checked_number hl hrep hlen hs ?_)
 walk_at "w"
 exact h _ (Gr.refl _ _)
theorem worth_int {pre w r : List Nat} (hl : H[ln]? = some (.inst 162 (lnF (pre ++ w ++ r) pj))) (hne : w ≠ []) (hw : ∀ ch ∈ w, 48 ≤ ch ∧ ch ≤ 57) (hf : Fo r) (hs : (pre ++ w ++ r).length ≤ sizeLine) (hrep : (Txt.replace (S w) (so ".") (so "")).length ≤ 18) (hlen : w.length ≤ 100) (h : ∀ H', Gr [] H H' → R (.tup [.str kNum, .str (S w), .int ((pre.length + w.length : Nat) : Int)]) H') : CJ c 4 (.ref 304) [.obj ln, .int (pre.length : Int)] H R X := by
 match w, hne with
 | ch :: w', _ =>
 exact worth_num hl ⟨w', rfl⟩ (hw ch (.head _)) hf hs hrep hlen _ (Nat.le_refl _) (fun R k => c_run_end (fun x hx => ⟨.inl (by have := hw x hx; walk_at "o"), isWS.mpr (.inr (.inl (hw x hx)))⟩) (fo_ws hf) hs k) (fun R k => c_number_end hw (fo_fig hf) (fo_46 hf) hs k) h
theorem worth_point {pre a b r : List Nat} (hl : H[ln]? = some (.inst 162 (lnF (pre ++ (ch :: a ++ 46 :: d :: b) ++ r) pj))) (hwa : ∀ x ∈ ch :: a, 48 ≤ x ∧ x ≤ 57) (hwb : ∀ x ∈ d :: b, 48 ≤ x ∧ x ≤ 57) (hf : Fo r) (hs : (pre ++ (ch :: a ++ 46 :: d :: b) ++ r).length ≤ sizeLine) (hrep : (Txt.replace (S (ch :: a ++ 46 :: d :: b)) (so ".") (so "")).length ≤ 18) (hlen : (ch :: a ++ 46 :: d :: b).length ≤ 100) (h : ∀ H', Gr [] H H' → R (.tup [.str kNum, .str (S (ch :: a ++ 46 :: d :: b)), .int ((pre.length + (ch :: a ++ 46 :: d :: b).length : Nat) : Int)]) H') : CJ c 4 (.ref 304) [.obj ln, .int (pre.length : Int)] H R X := by
 have e1 : pre ++ (ch :: a ++ 46 :: d :: b) ++ r = pre ++ (ch :: a) ++ (46 :: d :: (b ++ r)) := by simp
 refine worth_num hl ⟨_, rfl⟩ (hwa ch (.head _)) hf hs hrep hlen (ch :: a).length (by simp) (fun R k => ?_) (fun R k => c_number_point hwa hwb (fo_fig hf) hs k) h
 rw [e1] at hs ⊢
 exact c_run_end (fun x hx => ⟨.inl (by have := hwa x hx; walk_at "o"), isWS.mpr (.inr (.inl (hwa x hx)))⟩) (fun x r' q => by cases q; exact ⟨.inl (by decide), fun q => by have : (46 : Nat) ∈ WS := q; rw [isWS] at this; walk_at "o"⟩) hs k
theorem worth_lit {pre l r : List Nat} (hl : H[ln]? = some (.inst 162 (lnF (pre ++ litText l ++ r) pj))) (hrep : Txt.replace (S (dbl l)) ⟨#[34, 34]⟩ ⟨#[34]⟩ = S l) (hlen : 1 ≤ l.length) (hlen2 : l.length ≤ 160) (hd : (dbl l).length ≤ 1000) (hf : Fo r) (hs : (pre ++ litText l ++ r).length ≤ sizeLine) (h : ∀ H', Gr [] H H' → R (.tup [.str (so "literal"), .str (S l), .int ((pre.length + (litText l).length : Nat) : Int)]) H') : CJ c 4 (.ref 304) [.obj ln, .int (pre.length : Int)] H R X := by
 have hs2 : (pre ++ litText l ++ r).length < 2 ^ 62 := Nat.lt_of_le_of_lt hs (by decide)
 apply p_worth_at
 walk_at "b"
 refine at_text hl ?_
 walk_at "w"
 refine S_strS (ch := 34) (by rw [aAs]; exact mid_at) hs2 ?_
 walk_at "w"
 refine C_up (by decide) (c_capital_of (.inl (by walk_at "o")) ?_)
 walk_at "a"
 rw [decide_eq_false (show ¬ 34 ∈ (so "ABCDEFGHIJKLMNOPQRSTUVWXYZ").cps.toList from fun q => by rw [isLetter] at q; walk_at "o")]
 walk_at "if"
 walk_at "w"
 rw [decide_eq_false (show ¬ 34 ∈ (so "0123456789").cps.toList from fun q => by rw [isFig] at q; walk_at "o")]
 walk_at "if"
 walk_at "w"
 walk_at "i"
 refine s_chEqK (b := 46) (by decide +kernel) ?_
 rw [show ((34 : Nat) == 46) = false by decide]
 walk_at "w"
 walk_at "if"
 walk_at "i"
 rw [decide_eq_true (show 34 ∈ (so "\"'").cps.toList by decide +kernel)]
 walk_at "i"
 refine C_up (by decide) (c_literal_end hl (fo_34 hf) hs ?_)
 walk_at "a"
 have e1 : ((pre.length + (litText l).length : Nat) : Int) = ((pre ++ litText l).length : Int) := by simp
 rw [e1]
 refine c_need_apart hl hf hs ?_
 walk_at "s"
 rw [← e1]
 refine C_up (by decide) (c_checked_literal hl hrep hlen hlen2 hd hs ?_)
 walk_at "w"
 exact h _ (Gr.refl _ _)
theorem worth_mark {pre r : List Nat} (hl : H[ln]? = some (.inst 162 (lnF (pre ++ ch :: r) pj))) (hc : ch ∈ [40, 41, 43, 45, 58]) (hs : (pre ++ ch :: r).length ≤ sizeLine) (h : ∀ H', Gr [] H H' → R (.tup [.str kSign, .str ⟨#[ch]⟩, .int ((pre.length + 1 : Nat) : Int)]) H') : CJ c 4 (.ref 304) [.obj ln, .int (pre.length : Int)] H R X := by
 have hs2 : (pre ++ ch :: r).length < 2 ^ 62 := Nat.lt_of_le_of_lt hs (by decide)
 have hcc : ∀ x ∈ [40, 41, 43, 45, 58], x < 46 ∨ x = 58 := by decide
 have hc0 := hcc ch hc
 have hne : ∀ x ∈ [40, 41, 43, 45, 58], x ∉ (so "\"'").cps.toList ∧ x ∉ (so "0123456789").cps.toList ∧ x ∉ (so "ABCDEFGHIJKLMNOPQRSTUVWXYZ").cps.toList ∧ (x == 46) = false := by decide +kernel
 obtain ⟨h1, h2, h3, h4⟩ := hne ch hc
 apply p_worth_at
 walk_at "b"
 refine at_text hl ?_
 walk_at "w"
 refine S_strS (ch := ch) mid_at hs2 ?_
 walk_at "w"
 refine C_up (by decide) (c_capital_of (.inl (by walk_at "o")) ?_)
 walk_at "a"
 rw [decide_eq_false h3]
 walk_at "if"
 walk_at "w"
 rw [decide_eq_false h2]
 walk_at "if"
 walk_at "w"
 walk_at "i"
 refine s_chEqK (b := 46) (by decide +kernel) ?_
 rw [h4]
 walk_at "w"
 walk_at "if"
 walk_at "i"
 rw [decide_eq_false h1]
 walk_at "if"
 apply s_asgT (.cons (.cons .nil)) (by decide) (by walk_at "ir") (by walk_at "ir")
 walk_at "w"
 refine C_up (by decide) (c_mark_at hl hc hs fun H' g => ?_)
 refine ⟨_, _, rfl, rfl, ⟨_, (by walk_at "put" : Put _ (so "kind") _ _), _, (by walk_at "put" : Put _ (so "worth") _ _), rfl⟩, ?_⟩
 walk_at "s"
 refine C_lenStr (show (1 : Nat) < 2 ^ 62 by decide) ?_
 walk_at "w"
 exact h _ g
end
section
variable {c : Cx} {n : Nat} {H : List AO} {R : V → List AO → Prop} {X : Nat → List AO → Prop} {i j p q a : Nat} {ts : List Tk}
theorem c_Line {T : List Nat} (h : R (.obj H.length) (H ++ [.inst 162 (lnF T pj)])) : CJ c 2 (.ref 162) [.str (S T), .obj pj] H R X := by
 refine C_make (fI := 152) (fun P => by kernel_rfl) (fun P => by kernel_rfl) (fun P => by kernel_rfl) ?_
 apply pc_line_init
 walk_at "b"
 refine ⟨H.length, 162, [], rfl, (by decide), fun P => by kernel_rfl, .inl ⟨get_last, ?_⟩⟩
 walk_at "s"
 refine ⟨H.length, 162, _, rfl, Nat.lt_of_le_of_lt (Nat.le_of_eq (show _ = 1 by kernel_rfl)) (by decide), fun P => by kernel_rfl, .inl ⟨by rw [gSs (by simp)], ?_⟩⟩
 walk_at "st"
 have e : fput (fput [] (so "text") (.str (S T))) (so "places") (.obj pj) = lnF T pj := by
  have e1 : (so "text" == so "places") = false := by decide +kernel
  simp only [lnF, fput, e1, Bool.false_eq_true, if_false]
 rw [e, List.set_set, List.set_append_right _ _ (Nat.le_refl _), Nat.sub_self]
 exact ⟨rfl, h⟩
theorem tk_init {k w : Str} {y b : V} (h : R .none (H ++ [.inst 192 (tkF ⟨k, w, y⟩ b)])) : XV c n (bodyOf (clsSt 29 0)) [lv "self" (.obj H.length), lv "kind" (.str k), lv "worth" (.str w), lv "at" y, lv "is_in_a" b] (H ++ [.inst 192 []]) (RetP R) X := by
 walk_at "b"
 refine ⟨H.length, 192, [], rfl, (by decide), fun P => by kernel_rfl, .inl ⟨get_last, ?_⟩⟩
 walk_at "s"
 refine ⟨H.length, 192, _, rfl, Nat.lt_of_le_of_lt (Nat.le_of_eq (show _ = 1 by kernel_rfl)) (by decide), fun P => by kernel_rfl, .inl ⟨by rw [gSs (by simp)], ?_⟩⟩
 walk_at "s"
 refine ⟨H.length, 192, _, rfl, Nat.lt_of_le_of_lt (Nat.le_of_eq (show _ = 2 by kernel_rfl)) (by decide), fun P => by kernel_rfl, .inl ⟨by rw [gSs (by simp)], ?_⟩⟩
 walk_at "s"
 refine ⟨H.length, 192, _, rfl, Nat.lt_of_le_of_lt (Nat.le_of_eq (show _ = 3 by kernel_rfl)) (by decide), fun P => by kernel_rfl, .inl ⟨by rw [gSs (by simp)], ?_⟩⟩
 walk_at "st"
 have e : fput (fput (fput (fput [] (so "kind") (.str k)) (so "worth") (.str w)) (so "at") y) (so "is_in_a") b = tkF ⟨k, w, y⟩ b := by
  have e1 : (so "kind" == so "worth") = false := by decide +kernel
  have e2 : (so "kind" == so "at") = false := by decide +kernel
  have e3 : (so "kind" == so "is_in_a") = false := by decide +kernel
  have e4 : (so "worth" == so "at") = false := by decide +kernel
  have e5 : (so "worth" == so "is_in_a") = false := by decide +kernel
  have e6 : (so "at" == so "is_in_a") = false := by decide +kernel
  simp only [tkF, fput, e1, e2, e3, e4, e5, e6, Bool.false_eq_true, if_false]
 rw [e, List.set_set, List.set_set, List.set_set, List.set_append_right _ _ (Nat.le_refl _), Nat.sub_self]
 exact h
theorem c_Token4 {k w : Str} {y b : V} (h : R (.obj H.length) (H ++ [.inst 192 (tkF ⟨k, w, y⟩ b)])) : CJ c 2 (.ref 192) [.str k, .str w, y, b] H R X := by
 refine C_make (fI := 182) (fun P => by kernel_rfl) (fun P => by kernel_rfl) (fun P => by kernel_rfl) ?_
 exact pc_token_init (tk_init ⟨rfl, h⟩)
theorem c_Token3 {k w : Str} {y : V} (h : R (.obj H.length) (H ++ [.inst 192 (tkF ⟨k, w, y⟩ (.bool false))])) : CJ c 2 (.ref 192) [.str k, .str w, y] H R X := by
 refine C_make (fI := 182) (fun P => by kernel_rfl) (fun P => by kernel_rfl) (fun P => by kernel_rfl) ?_
 exact pc_token_init_4 (tk_init ⟨rfl, h⟩)
end
noncomputable def noPic (t : Tk) : Bool := !(t.kind == kWord && (t.worth == so "PIC" || t.worth == so "PICTURE"))
noncomputable def TL (H : List AO) (j : Nat) (ts : List Tk) : Prop := ∃ l : List V, H[j]? = some (.list l) ∧ l.length = ts.length ∧ ∀ (k : Nat) (t : Tk), ts[k]? = some t → ∃ (o : Nat) (b : V), l[k]? = some (.obj o) ∧ H[o]? = some (.inst 192 (tkF t b))
section
variable {c : Cx} {n : Nat} {H : List AO} {R : V → List AO → Prop} {X : Nat → List AO → Prop} {i j p q a : Nat} {ts : List Tk}
theorem c_is_picture_next (ht : TL H j ts) (hsz : ts.length < 2 ^ 40) (hno : ∀ t, ts.getLast? = some t → noPic t = true) (h : R (.bool false) H) : CJ c 1 (.ref 318) [.obj j] H R X := by
 obtain ⟨l, h1, h2, h3⟩ := ht
 apply p_is_picture_next
 walk_at "b"
 refine C_lenList h1 (by walk_at "o") ?_
 walk_at "w"
 rcases Nat.eq_zero_or_pos l.length with h0 | h0
 ·rw [decide_eq_false (show ¬ ((l.length : Int) > 0) by walk_at "o")]
  exact ⟨fun _ => h, fun q => Bool.noConfusion q⟩
 ·rw [decide_eq_true (show (l.length : Int) > 0 by walk_at "o")]
  refine ⟨fun q => Bool.noConfusion q, fun _ => ?_⟩
  obtain ⟨t, hlast⟩ : ∃ t, ts.getLast? = some t := by
   cases hts : ts.getLast? with
   | none => rw [List.getLast?_eq_none_iff] at hts; rw [hts] at h2; have h20 : l.length = 0 := h2; walk_at "o"
   | some t => exact ⟨t, rfl⟩
  have hn := hno t hlast
  rw [List.getLast?_eq_getElem?] at hlast
  obtain ⟨o, b, h4, h5⟩ := h3 _ _ hlast
  have h6 : l.getLast? = some (.obj o) := by rw [List.getLast?_eq_getElem?, h2]; exact h4
  walk_at "w"
  refine S_listLast h1 h6 (by walk_at "o") ?_
  refine at_kind h5 ?_
  walk_at "w"
  refine A_strEq ?_
  unfold noPic at hn
  cases hk : (t.kind == kWord) with
  | false =>
   walk_at "w"
   exact ⟨fun _ => h, fun q => Bool.noConfusion q⟩
  | true =>
   walk_at "w"
   refine ⟨fun q => Bool.noConfusion q, fun _ => ?_⟩
   rw [hk, Bool.true_and, Bool.not_eq_true', Bool.or_eq_false_iff] at hn
   walk_at "w"
   refine S_listLast h1 h6 (by walk_at "o") ?_
   refine at_worth h5 ?_
   walk_at "w"
   refine A_inTup2 (ys := [so "PIC", so "PICTURE"]) rfl ?_
   have : ([so "PIC", so "PICTURE"].any (· == t.worth)) = false := by
    rw [List.any_cons, List.any_cons, List.any_nil, show (so "PIC" == t.worth) = (t.worth == so "PIC") from Bool.beq_comm, show (so "PICTURE" == t.worth) = (t.worth == so "PICTURE") from Bool.beq_comm, hn.1, hn.2]
    rfl
   rw [this]
   exact h
end
noncomputable def WorthAt (raw : List Nat) (t : TK) (F : List Nat → Prop) : Prop := ∀ (c : Cx) (H : List AO) (R : V → List AO → Prop) (X : Nat → List AO → Prop) (pre r : List Nat) (ln pj : Nat), H[ln]? = some (.inst 162 (lnF (pre ++ raw ++ r) pj)) → F r → (pre ++ raw ++ r).length ≤ sizeLine → (∀ H', Gr [] H H' → R (.tup [.str t.1, .str t.2, .int ((pre.length + raw.length : Nat) : Int)]) H') → CJ c 4 (.ref 304) [.obj ln, .int (pre.length : Int)] H R X
noncomputable def picB (t : TK) : Bool := !(t.1 == kWord && (t.2 == so "PIC" || t.2 == so "PICTURE"))
inductive Lx : List Nat → List TK → Prop
 | nil : Lx [] []
 | blank {r : List Nat} {l : List TK} : Lx r l → Lx (32 :: r) l
 | tok {ch : Nat} {raw r : List Nat} {t : TK} {l : List TK} {F : List Nat → Prop} : WorthAt (ch :: raw) t F → ch ≠ 32 → ch ≠ 44 → ch ≠ 59 → picB t = true → F r → Lx r l → Lx (ch :: raw ++ r) (t :: l)
noncomputable def kw (t : Tk) : TK := (t.kind, t.worth)
noncomputable def PlAt (H : List AO) (pj : Nat) (m : Nat) : Prop := ∃ pl : List V, H[pj]? = some (.list pl) ∧ ∀ k, k < m → ∃ x y : Int, pl[k]? = some (.tup [.int x, .int y])
section
variable {c : Cx} {n : Nat} {H : List AO} {R : V → List AO → Prop} {X : Nat → List AO → Prop} {i j p q a : Nat} {ts : List Tk}
theorem TL.gr (h : TL H j ts) (g : Gr [] H H') : TL H' j ts := by
 obtain ⟨l, h1, h2, h3⟩ := h
 refine ⟨l, g.get0 h1, h2, fun k t hk => ?_⟩
 obtain ⟨o, b, h4, h5⟩ := h3 k t hk
 exact ⟨o, b, h4, g.get0 h5⟩
theorem TL.app {t : Tk} {b : V} {o : Nat} (h1 : H[j]? = some (.list l)) (h2 : l.length = ts.length) (h3 : ∀ (k : Nat) (t : Tk), ts[k]? = some t → ∃ (o : Nat) (b : V), l[k]? = some (.obj o) ∧ H[o]? = some (.inst 192 (tkF t b))) (ho : H[o]? = some (.inst 192 (tkF t b))) : TL (H.set j (.list (l ++ [.obj o]))) j (ts ++ [t]) := by
 have hne : ∀ o' t' b', H[o']? = some (.inst 192 (tkF t' b')) → j ≠ o' := fun o' t' b' e q => by subst q; rw [h1] at e; cases e
 refine ⟨l ++ [.obj o], by rw [gSs (get_lt h1)], by simp [h2], fun k t' hk => ?_⟩
 rcases Nat.lt_or_ge k ts.length with hlt | hge
 ·rw [gAl hlt] at hk
  obtain ⟨o', b', h4, h5⟩ := h3 k t' hk
  exact ⟨o', b', by rw [gAl (by walk_at "o")]; exact h4, by rw [List.getElem?_set_ne (hne _ _ _ h5)]; exact h5⟩
 ·rw [gAr hge] at hk
  have hk0 : k - ts.length = 0 := by
   have := (gsi.mp hk).1
   simp at this; exact this
  rw [hk0] at hk
  cases hk
  exact ⟨o, b, by rw [gAr (by walk_at "o"), show k - l.length = 0 by walk_at "o"]; rfl, by rw [List.getElem?_set_ne (hne _ _ _ ho)]; exact ho⟩
theorem c_add_tokens {T : List Nat} {l : List TK} (hlx : Lx T l) (hT : T.length ≤ sizeLine) (hj : H[j]? = some (.list [])) (hl : H[ln]? = some (.inst 162 (lnF T pj))) (hp : PlAt H pj T.length) (hpj : pj ≠ j) (h : ∀ H' ts, Gr [j] H H' → TL H' j ts → ts.map kw = l → (∀ t ∈ ts, isHanded t.pos = true) → ts.length ≤ T.length → R .none H') : CJ c 6 (.ref 325) [.obj j, .obj ln] H R X := by
 have hlnj : ln ≠ j := fun q => by subst q; rw [hl] at hj; cases hj
 apply p_add_tokens
 walk_at "b"
 walk_at "a"
 walk_at "asg"
 refine X_while (J := fun k ρ1 H1 => ∃ (pre r : List Nat) (l' : List TK) (ts : List Tk) (e : Int) (f1 f2 f3 f4 : Option V), k = r.length ∧ e = (pre.length : Int) ∧ T = pre ++ r ∧ Lx r l' ∧ ts.map kw ++ l' = l ∧ (∀ t ∈ ts, isHanded t.pos = true ∧ noPic t = true) ∧ ts.length ≤ pre.length ∧ TL H1 j ts ∧ Gr [j] H H1 ∧
  ρ1 = [lv "tokens" (.obj j), lv "line" (.obj ln), lv "at" (.int e), lv "was_is" (.bool false), lo "place" f1, lo "kind" f2, lo "worth" f3, lo "end" f4, gv "len" (.val (.builtin "len")), gv "is_blank_at" (.val (.ref 311)), gv "is_picture_next" (.val (.ref 318)), gv "is_word_is" (.val (.ref 332)), gv "checked_picture" (.val (.ref 283)), gv "worth_at" (.val (.ref 304)), gv "Token" (.val (.ref 192))]) T.length
  ⟨[], T, l, [], _, none, none, none, none, rfl, rfl, rfl, hlx, rfl, (fun _ q => nomatch q), Nat.le_refl _, ⟨[], hj, rfl, fun k t hk => by simp at hk⟩, Gr.refl _ _, rfl⟩ ?_
 rintro k ρ1 H1 ⟨pre, r, l', ts, e, f1, f2, f3, f4, rfl, rfl, hTe, hlx', hkw, hts, htl, htl2, g1, rfl⟩
 have hl1 := g1.get hl (by simpa using hlnj)
 have hT2 : T.length < 2 ^ 62 := Nat.lt_of_le_of_lt hT (by decide)
 have hlen : T.length = pre.length + r.length := by rw [hTe]; simp
 walk_at "w"
 refine at_text hl1 ?_
 walk_at "w"
 refine C_lenS hT2 ?_
 walk_at "w"
 cases hlx' with
 | nil =>
  rw [decide_eq_false (show ¬ (pre.length : Int) < (T.length : Int) by simp at hlen; walk_at "o")]
  walk_at "if"
  walk_at "st"
  refine h H1 ts g1 htl2 (by simpa using hkw) (fun t ht => (hts t ht).1) (by walk_at "o")
 | blank hlx2 =>
  rename_i r2
  subst hTe
  rw [decide_eq_true (show (pre.length : Int) < ((pre ++ 32 :: r2).length : Int) by simp; walk_at "o")]
  walk_at "i"
  refine at_text hl1 ?_
  walk_at "w"
  refine C_up (by decide) (c_is_blank_at (by decide) (by decide) hT ?_)
  walk_at "w"
  walk_at "i"
  walk_at "asg"
  walk_at "st"
  exact ⟨r2.length, by simp, pre ++ [32], r2, l', ts, _, f1, f2, f3, f4, rfl, by simp, by simp, hlx2, hkw, hts, by simp; walk_at "o", htl2, g1, rfl⟩
 | tok hw hc1 hc2 hc3 hpic hF hlx2 =>
  rename_i ch raw r2 t l2 F
  subst hTe
  rw [decide_eq_true (show (pre.length : Int) < ((pre ++ (ch :: raw ++ r2)).length : Int) by simp; walk_at "o")]
  walk_at "i"
  refine at_text hl1 ?_
  walk_at "w"
  refine C_up (by decide) (c_is_blank_at hc2 hc3 hT ?_)
  rw [show (ch == 32) = false by simpa using hc1]
  walk_at "w"
  walk_at "i"
  refine at_places hl1 ?_
  walk_at "w"
  obtain ⟨pl, hpl, hpk⟩ := hp
  obtain ⟨x, y, hxy⟩ := hpk pre.length (by simp)
  have hpl1 := g1.get hpl (by simpa using hpj)
  refine S_list hpl1 hxy (by walk_at "o") ?_
  walk_at "a"
  have hts40 : ts.length < 2 ^ 40 := by
   have : sizeLine < 2 ^ 40 := by decide
   walk_at "o"
  have hts41 : ts.length ≤ sizeLine := by simp only [lAp, lCo] at hT; walk_at "o"
  have hnp : ∀ t, ts.getLast? = some t → noPic t = true := fun t ht => (hts t (List.mem_of_getLast? ht)).2
  refine C_up (by decide) (c_is_picture_next htl2 hts40 hnp ?_)
  walk_at "w"
  walk_at "if"
  walk_at "i"
  refine C_up (by decide) (c_is_picture_next htl2 hts40 hnp ?_)
  walk_at "w"
  walk_at "if"
  apply s_asgT (.cons (.cons (.cons .nil))) (by decide) (by walk_at "ir") (by walk_at "ir")
  walk_at "w"
  have hl1' : H1[ln]? = some (.inst 162 (lnF (pre ++ (ch :: raw) ++ r2) pj)) := by rw [aAs]; exact hl1
  have hT' : (pre ++ (ch :: raw) ++ r2).length ≤ sizeLine := by rw [aAs]; exact hT
  refine C_up (by decide) (hw _ _ _ _ _ _ _ _ hl1' hF hT' fun H2 g2 => ?_)
  refine ⟨_, _, rfl, rfl, ⟨_, (by walk_at "put" : Put _ (so "kind") _ _), _, (by walk_at "put" : Put _ (so "worth") _ _), _, (by walk_at "put" : Put _ (so "end") _ _), rfl⟩, ?_⟩
  have htl3 := htl2.gr g2
  obtain ⟨tl, h1, h2, h3⟩ := htl3
  have g12 : Gr [j] H H2 := g1.tr g2.nil
  have fin : ∀ b : V, XV c 5 ((wBody ((bodyOf (stAt 48)).getD 2 default)).drop 5) [lv "tokens" (.obj j), lv "line" (.obj ln), lv "at" (.int (pre.length : Int)), lv "was_is" (.bool false), lv "place" (.tup [.int x, .int y]), lv "kind" (.str t.1), lv "worth" (.str t.2), lv "end" (.int ((pre.length + (ch :: raw).length : Nat) : Int)), gv "len" (.val (.builtin "len")), gv "is_blank_at" (.val (.ref 311)), gv "is_picture_next" (.val (.ref 318)), gv "is_word_is" (.val (.ref 332)), gv "checked_picture" (.val (.ref 283)), gv "worth_at" (.val (.ref 304)), gv "Token" (.val (.ref 192))] ((H2 ++ [AO.inst 192 (tkF ⟨t.1, t.2, .tup [.int x, .int y]⟩ b)]).set j (AO.list (tl ++ [V.obj H2.length]))) (PW (fun k ρ1 H1 => ∃ (pre_1 r : List Nat) (l' : List TK) (ts : List Tk) (e : Int) (f1 f2 f3 f4 : Option V), k = r.length ∧ e = (pre_1.length : Int) ∧ pre ++ (ch :: raw ++ r2) = pre_1 ++ r ∧ Lx r l' ∧ ts.map kw ++ l' = l ∧ (∀ t ∈ ts, isHanded t.pos = true ∧ noPic t = true) ∧ ts.length ≤ pre_1.length ∧ TL H1 j ts ∧ Gr [j] H H1 ∧
  ρ1 = [lv "tokens" (.obj j), lv "line" (.obj ln), lv "at" (.int e), lv "was_is" (.bool false), lo "place" f1, lo "kind" f2, lo "worth" f3, lo "end" f4, gv "len" (.val (.builtin "len")), gv "is_blank_at" (.val (.ref 311)), gv "is_picture_next" (.val (.ref 318)), gv "is_word_is" (.val (.ref 332)), gv "checked_picture" (.val (.ref 283)), gv "worth_at" (.val (.ref 304)), gv "Token" (.val (.ref 192))]) (ch :: raw ++ r2).length (RetP R)) X := by
   intro b
   have g3 := Gr.push0 (H := H2) (.inst 192 (tkF ⟨t.1, t.2, .tup [.int x, .int y]⟩ b))
   walk_at "b"
   walk_at "a"
   walk_at "asg"
   walk_at "st"
   have hlj : H.length > j := get_lt hj
   refine ⟨r2.length, by simp; walk_at "o", pre ++ (ch :: raw), r2, l2, ts ++ [⟨t.1, t.2, .tup [.int x, .int y]⟩], _, _, _, _, _, rfl, by simp, by simp, hlx2, ?_, ?_, ?_, ?_, ?_, rfl⟩
   ·rw [← hkw]; simp [kw]
   ·intro u hu
    rcases List.mem_append.mp hu with hu | hu
    ·exact hts u hu
    ·rw [List.mem_singleton] at hu
     subst hu
     exact ⟨rfl, hpic⟩
   ·simp; walk_at "o"
   ·refine TL.app (g3.get0 h1) h2 (fun k t' hk => ?_) get_last
    obtain ⟨o, b', h4, h5⟩ := h3 k t' hk
    exact ⟨o, b', h4, g3.get0 h5⟩
   ·exact (g12.tr g3.nil).set _ (.inr ⟨.head _, fun C fs q => by rw [g3.get0 h1] at q; cases q⟩)
  walk_at "s"
  walk_at "r"
  walk_at "w"
  refine ⟨fun hq => ?_, fun hq => ?_⟩
  ·walk_at "w"
   refine C_up (by decide) (c_Token4 ?_)
   walk_at "w"
   refine C_append ((Gr.push0 _).get0 h1) (by rw [h2]; exact hts41) ?_
   exact fin _
  ·walk_at "w"
   refine C_up (by decide) (c_Token4 ?_)
   walk_at "w"
   refine C_append ((Gr.push0 _).get0 h1) (by rw [h2]; exact hts41) ?_
   exact fin _
end
section
variable {c : Cx} {n : Nat} {H : List AO} {R : V → List AO → Prop} {X : Nat → List AO → Prop} {i j p q a : Nat} {ts : List Tk}
theorem c_tokens_of {T : List Nat} {l : List TK} {li : Nat} (hlx : Lx T l) (hT : T.length ≤ sizeLine) (hli : H[li]? = some (.list [.obj ln])) (hl : H[ln]? = some (.inst 162 (lnF T pj))) (hp : PlAt H pj T.length) (h : ∀ H' j ts, Gr [] H H' → TL H' j ts → ts.map kw = l → (∀ t ∈ ts, isHanded t.pos = true) → ts.length ≤ T.length → R (.obj j) H') : CJ c 7 (.ref 339) [.obj li] H R X := by
 obtain ⟨pl, hpl, hpk⟩ := hp
 apply p_tokens_of
 walk_at "b"
 walk_at "asg"
 have g1 : Gr [] H (H ++ [.list []]) := Gr.push0 _
 walk_at "for"
 apply I_list
 walk_at "w"
 refine ⟨_, _, rfl, g1.get0 hli, ?_⟩
 refine ⟨fun k ρ1 H1 => ∃ f, ρ1 = [lv "lines" (.obj li), lv "tokens" (.obj H.length), lo "line" f, gv "add_tokens" (.val (.ref 325))] ∧ ((k = 0 ∧ H1 = H ++ [.list []]) ∨ (k = 1 ∧ ∃ ts, Gr [] H H1 ∧ TL H1 H.length ts ∧ ts.map kw = l ∧ (∀ t ∈ ts, isHanded t.pos = true) ∧ ts.length ≤ T.length)), ⟨none, rfl, .inl ⟨rfl, rfl⟩⟩, ?_, ?_⟩
 ·rintro k y ρ1 H2 hy ⟨f, rfl, hk⟩ hli2
  rcases hk with ⟨rfl, rfl⟩ | ⟨rfl, _⟩
  ·obtain rfl : V.obj ln = y := Option.some.inj hy
   walk_at "a"
   refine C_up (by decide) (c_add_tokens hlx hT get_last (g1.get0 hl) ⟨pl, g1.get0 hpl, hpk⟩ (by have := get_lt hpl; walk_at "o") fun H3 ts g3 htl hkw hh hlen => ?_)
   walk_at "st"
   have g13 := g1.drop (Nat.le_refl _) g3
   exact ⟨⟨_, rfl, .inr ⟨rfl, ts, g13, htl, hkw, hh, hlen⟩⟩, fun j' e => by cases e; exact g13.get0 hli⟩
  ·cases hy
 ·rintro ρ1 H2 ⟨f, rfl, hk⟩
  rcases hk with ⟨hk, _⟩ | ⟨_, ts, g2, htl, hkw, hh, hlen⟩
  ·cases hk
  ·walk_at "s"
   exact h _ _ ts g2 htl hkw hh hlen
end
noncomputable def LxC (t : List Nat) (l : List TK) (G : List Nat → Prop) : Prop := ∀ r m, G r → Lx r m → Lx (t ++ r) (l ++ m)
noncomputable def Tr (_ : List Nat) : Prop := True
theorem LxC_nil {G : List Nat → Prop} : LxC [] [] G := fun _ _ _ h => h
theorem LxC_app {t t' : List Nat} {l l' : List TK} {G G' : List Nat → Prop} (h : LxC t l G) (h' : LxC t' l' G') (hg : ∀ r, G' r → G (t' ++ r)) : LxC (t ++ t') (l ++ l') G' := fun r m hr hm => by
 rw [aAs, aAs]
 exact h _ _ (hg r hr) (h' r m hr hm)
theorem LxC_blank : LxC [32] [] Tr := fun _ _ _ h => Lx.blank h
theorem LxC_weak {t : List Nat} {l : List TK} {G G' : List Nat → Prop} (h : LxC t l G) (hg : ∀ r, G' r → G r) : LxC t l G' := fun r m hr hm => h r m (hg r hr) hm
theorem Fo_32 (r : List Nat) : Fo (32 :: r) := fun ch r' e => by cases e; exact .inl rfl
theorem Fo_41 (r : List Nat) : Fo (41 :: r) := fun ch r' e => by cases e; exact .inr rfl
theorem Fo_nil : Fo [] := fun ch r' e => nomatch e
theorem LxC_mark (hc : ch ∈ [40, 41, 43, 45, 58]) : LxC [ch] [(kSign, S [ch])] Tr := fun r m _ hm => by
 have h0 : ∀ x ∈ [40, 41, 43, 45, 58], x ≠ 32 ∧ x ≠ 44 ∧ x ≠ 59 := by decide
 obtain ⟨h1, h2, h3⟩ := h0 ch hc
 exact Lx.tok (F := Tr) (raw := []) (t := (kSign, S [ch])) (fun c H R X pre r ln pj hl _ hs h => by
  have e : pre ++ [ch] ++ r = pre ++ ch :: r := by simp
  rw [e] at hl hs
  exact worth_mark hl hc hs h) h1 h2 h3 (by unfold picB; dsimp only; rw [show (kSign == kWord) = false by decide +kernel]; rfl) trivial hm
theorem LxC_word {w : List Nat} (hw : WordRaw w) (hp : picB (kWord, S w) = true) : LxC w [(kWord, S w)] Fo := fun r m hr hm => by
 obtain ⟨ch, w', rfl, h1, h2⟩ := hw.head
 exact Lx.tok (F := Fo) (fun c H R X pre r ln pj hl hf hs h => worth_word hl hw hf hs h) (by walk_at "o") (by walk_at "o") (by walk_at "o") hp hr hm
theorem pic_num (w : Str) : picB (kNum, w) = true := by unfold picB; dsimp only; rw [show (kNum == kWord) = false by decide +kernel]; rfl
theorem pic_lit (w : Str) : picB (so "literal", w) = true := by unfold picB; dsimp only; rw [show (so "literal" == kWord) = false by decide +kernel]; rfl
theorem LxC_int {w : List Nat} (hw : ∀ x ∈ ch :: w, 48 ≤ x ∧ x ≤ 57) (hrep : (Txt.replace (S (ch :: w)) (so ".") (so "")).length ≤ 18) (hlen : (ch :: w).length ≤ 100) : LxC (ch :: w) [(kNum, S (ch :: w))] Fo := fun r m hr hm => by
 have h0 := hw ch (.head _)
 exact Lx.tok (F := Fo) (fun c H R X pre r ln pj hl hf hs h => worth_int hl (List.cons_ne_nil _ _) hw hf hs hrep hlen h) (by walk_at "o") (by walk_at "o") (by walk_at "o") (pic_num _) hr hm
theorem LxC_point {a b : List Nat} (hwa : ∀ x ∈ ch :: a, 48 ≤ x ∧ x ≤ 57) (hwb : ∀ x ∈ d :: b, 48 ≤ x ∧ x ≤ 57) (hrep : (Txt.replace (S (ch :: a ++ 46 :: d :: b)) (so ".") (so "")).length ≤ 18) (hlen : (ch :: a ++ 46 :: d :: b).length ≤ 100) : LxC (ch :: a ++ 46 :: d :: b) [(kNum, S (ch :: a ++ 46 :: d :: b))] Fo := fun r m hr hm => by
 have h0 := hwa ch (.head _)
 exact Lx.tok (F := Fo) (raw := a ++ 46 :: d :: b) (fun c H R X pre r ln pj hl hf hs h => worth_point hl hwa hwb hf hs hrep hlen h) (by walk_at "o") (by walk_at "o") (by walk_at "o") (pic_num _) hr hm
theorem LxC_lit {l : List Nat} (hrep : Txt.replace (S (dbl l)) ⟨#[34, 34]⟩ ⟨#[34]⟩ = S l) (hlen : 1 ≤ l.length) (hlen2 : l.length ≤ 160) (hd : (dbl l).length ≤ 1000) : LxC (litText l) [(so "literal", S l)] Fo := fun r m hr hm => by
 exact Lx.tok (F := Fo) (ch := 34) (raw := dbl l ++ [34]) (fun c H R X pre r ln pj hl hf hs h => worth_lit hl hrep hlen hlen2 hd hf hs h) (by decide) (by decide) (by decide) (pic_lit _) hr hm
noncomputable def wordB (w : List Nat) : Bool := w.all (fun ch => decide ((65 ≤ ch ∧ ch ≤ 90) ∨ (48 ≤ ch ∧ ch ≤ 57) ∨ ch = 45)) && ((match w with | ch :: _ => decide (65 ≤ ch ∧ ch ≤ 90) | [] => false) && ((match w.getLast? with | some l => l != 45 | none => false) && decide (w.length ≤ 30)))
theorem wordRaw {w : List Nat} (h : wordB w = true) : WordRaw w := by
 unfold wordB at h
 rw [Bool.and_eq_true, Bool.and_eq_true, Bool.and_eq_true] at h
 obtain ⟨h1, h2, h3, h4⟩ := h
 refine ⟨fun ch hc => of_decide_eq_true (List.all_eq_true.mp h1 ch hc), ?_, ?_, of_decide_eq_true h4⟩
 ·cases w with
  | nil => cases h2
  | cons ch r => exact ⟨ch, r, rfl, of_decide_eq_true h2⟩
 ·cases hq : w.getLast? with
  | none => rw [hq] at h3; cases h3
  | some l => rw [hq] at h3; exact ⟨l, rfl, by simpa using h3⟩
theorem LxC_str (h : wordB x.cps.toList = true) (hp : picB (kWord, x) = true) : LxC x.cps.toList [(kWord, x)] Fo := by
 have := LxC_word (wordRaw h) (by rw [← S_eta]; exact hp)
 rw [← S_eta] at this
 exact this
theorem lx_text {l : List Nat} (hrep : Txt.replace (S (dbl l)) ⟨#[34, 34]⟩ ⟨#[34]⟩ = S l) (hlen : 1 ≤ l.length) (hlen2 : l.length ≤ 160) (hd : (dbl l).length ≤ 1000) : LxC (textLeaf l).text (textLeaf l).toks Fo := LxC_lit hrep hlen hlen2 hd
theorem lx_all {l : List Nat} (hrep : Txt.replace (S (dbl l)) ⟨#[34, 34]⟩ ⟨#[34]⟩ = S l) (hlen : 1 ≤ l.length) (hlen2 : l.length ≤ 160) (hd : (dbl l).length ≤ 1000) : LxC (allLeaf l).text (allLeaf l).toks Fo := by
 have e : (so "ALL").cps.toList = [65, 76, 76] := by decide +kernel
 have h1 := LxC_str (x := so "ALL") (by decide +kernel) (by decide +kernel)
 rw [e] at h1
 exact LxC_app (LxC_app h1 LxC_blank (fun r _ => Fo_32 r)) (LxC_lit hrep hlen hlen2 hd) (fun _ _ => trivial)
theorem lx_neg {w : List Nat} {u s : Int} (h : LxC (ch :: w) [(kNum, S (ch :: w))] Fo) : LxC (numLeaf u s (ch :: w) true).text (numLeaf u s (ch :: w) true).toks Fo := by
 have h1 := LxC_mark (ch := 45) (by decide)
 have e : S [45] = so "-" := by decide +kernel
 rw [e] at h1
 exact LxC_app h1 h (fun _ _ => trivial)
theorem lx_leaves : ∀ l ∈ leaves, LxC l.text l.toks Fo := by
 intro l hl
 simp only [leaves, List.mem_cons, List.not_mem_nil, or_false] at hl
 rcases hl with rfl | rfl | rfl | rfl | rfl | rfl | rfl | rfl | rfl | rfl | rfl | rfl | rfl | rfl | rfl | rfl | rfl | rfl | rfl
 ·exact LxC_int (by decide) (by decide +kernel) (by decide)
 ·exact LxC_int (by decide) (by decide +kernel) (by decide)
 ·exact lx_neg (LxC_int (by decide) (by decide +kernel) (by decide))
 ·exact LxC_point (ch := 49) (a := []) (d := 50) (b := [53]) (by decide) (by decide) (by decide +kernel) (by decide)
 ·exact lx_neg (LxC_point (ch := 49) (a := []) (d := 53) (b := []) (by decide) (by decide) (by decide +kernel) (by decide))
 ·exact LxC_int (by decide) (by decide +kernel) (by decide)
 ·exact lx_text (by decide +kernel) (by decide) (by decide) (by decide)
 ·exact lx_text (by decide +kernel) (by decide) (by decide) (by decide)
 ·exact lx_text (by decide +kernel) (by decide) (by decide) (by decide)
 ·exact lx_text (by decide +kernel) (by decide) (by decide) (by decide)
 ·exact LxC_str (by decide +kernel) (by decide +kernel)
 ·exact LxC_str (by decide +kernel) (by decide +kernel)
 ·exact LxC_str (by decide +kernel) (by decide +kernel)
 ·exact LxC_str (by decide +kernel) (by decide +kernel)
 ·exact LxC_str (by decide +kernel) (by decide +kernel)
 ·exact lx_all (by decide +kernel) (by decide) (by decide) (by decide)
 ·exact lx_all (by decide +kernel) (by decide) (by decide) (by decide)
 ·exact lx_all (by decide +kernel) (by decide) (by decide) (by decide)
 ·exact lx_all (by decide +kernel) (by decide) (by decide) (by decide)
noncomputable abbrev OFs : Str := so "OF"
theorem lx_qual (hx : wordB x.cps.toList = true) (hp : picB (kWord, x) = true) : LxC ([32, 79, 70, 32] ++ x.cps.toList) [(kWord, OFs), (kWord, x)] Fo := by
 have e : OFs.cps.toList = [79, 70] := by decide +kernel
 have h1 := LxC_str (x := OFs) (by decide +kernel) (by decide +kernel)
 rw [e] at h1
 exact LxC_app (LxC_app (LxC_app LxC_blank h1 (fun _ _ => trivial)) LxC_blank (fun r _ => Fo_32 r)) (LxC_str hx hp) (fun _ _ => trivial)
theorem lx_quals : ∀ (xs : List Str), (∀ x ∈ xs, wordB x.cps.toList = true ∧ picB (kWord, x) = true) → LxC ((xs.map fun x => x.cps.toList).flatMap fun b => [32, 79, 70, 32] ++ b) (qualT (xs.map fun x => (OFs, x))) Fo
 | [], _ => LxC_nil
 | x :: xs, h => by
  have ih := lx_quals xs fun y hy => h y (.tail _ hy)
  have hx := h x (.head _)
  refine LxC_app (lx_qual hx.1 hx.2) ih (fun r hr => ?_)
  cases xs with
  | nil => exact hr
  | cons y ys => exact Fo_32 _
theorem who_word : ∀ k : Fin 3, wordB (whoAt k).cps.toList = true ∧ picB (kWord, whoAt k) = true := by decide +kernel
theorem ar_word : ∀ x ∈ arounds, wordB x.cps.toList = true ∧ picB (kWord, x) = true := by decide +kernel
theorem lx_head (w q : Fin 3) : LxC (jn [32, 79, 70, 32] (whoL w :: arL q)) ((kWord, whoAt w) :: qualT (quals OFs q)) Fo := by
 have h1 := who_word w
 have h2 := lx_quals (arounds.take q.val) fun x hx => ar_word x (List.mem_of_mem_take hx)
 refine LxC_app (l := [(kWord, whoAt w)]) (LxC_str h1.1 h1.2) h2 (fun r hr => ?_)
 unfold arL
 cases hq : arounds.take q.val with
 | nil => exact hr
 | cons y ys => exact Fo_32 _
theorem spec_app {t u : List Nat} (h : t ≠ []) : spec (t ++ u) = spec t := by cases t with | nil => exact absurd rfl h | cons a r => rfl
theorem leaf_spec : leaves.all (fun l => spec l.text == l.sg && !l.text.isEmpty) = true := by decide +kernel
theorem who_spec : ∀ k : Fin 3, spec (whoL k) = false := by decide +kernel
theorem Op.ne (o : Op) : o.text ≠ [] := by
 cases o with
 | leaf k =>
  have h := List.all_eq_true.mp leaf_spec (leafAt k) (List.getElem_mem _)
  rw [Bool.and_eq_true] at h
  rw [Op.text]
  intro q
  rw [q] at h
  exact absurd h.2 (by decide)
 | ref w q rows part =>
  rw [Op.text]
  intro q'
  have h0 := who_pos w
  have := congrArg List.length q'
  simp only [lAp, lNi, jn] at this
  walk_at "o"
theorem Op.spec (o : Op) : Mine.spec o.text = o.sg := by
 cases o with
 | leaf k =>
  have h := List.all_eq_true.mp leaf_spec (leafAt k) (List.getElem_mem _)
  rw [Bool.and_eq_true] at h
  rw [Op.text, Op.sg]
  exact eq_of_beq h.1
 | ref w q rows part =>
  have h0 : whoL w ≠ [] := fun q => by have := who_pos w; rw [q] at this; cases this
  rw [Op.text, Op.sg, jn, aAs, aAs, spec_app h0]
  exact who_spec w
theorem Ex.spec (e : Ex) : Mine.spec e.text = e.sg := by
 cases e with
 | neg o =>
  rw [Ex.text, Ex.sg, aAs, spec_app (by decide)]
  decide +kernel
 | plus a b => rw [Ex.text, Ex.sg, aAs, spec_app a.ne]; exact a.spec
 | one o => rw [Ex.text, Ex.sg]; exact o.spec
theorem Exs.spec : ∀ r : Exs, r.texts.any Mine.spec = r.anySg
 | .nil => by rw [Exs.texts, Exs.anySg]; rfl
 | .cons e r => by rw [Exs.texts, Exs.anySg, List.any_cons, e.spec, Exs.spec r]
theorem lx_wrap {t : List Nat} {l : List TK} (wr : Bool) (h : LxC t l Fo) : LxC (wrapX wr t) (wrapT wr l) Fo := by
 cases wr with
 | false => exact h
 | true =>
  have h1 := LxC_mark (ch := 40) (by decide)
  have h2 := LxC_mark (ch := 41) (by decide)
  have e1 : S [40] = so "(" := by decide +kernel
  have e2 : S [41] = so ")" := by decide +kernel
  rw [e1] at h1
  rw [e2] at h2
  have := LxC_app h1 (LxC_app h h2 (fun r _ => Fo_41 r)) (fun _ _ => trivial)
  exact LxC_weak this (fun _ _ => trivial)
theorem S_o : S [40] = so "(" := by decide +kernel
theorem S_c : S [41] = so ")" := by decide +kernel
theorem S_p : S [43] = so "+" := by decide +kernel
theorem S_m : S [45] = so "-" := by decide +kernel
theorem S_d : S [58] = so ":" := by decide +kernel
theorem lx_o : LxC [40] [tO] Tr := by have := LxC_mark (ch := 40) (by decide); rw [S_o] at this; exact this
theorem lx_c : LxC [41] [tC] Tr := by have := LxC_mark (ch := 41) (by decide); rw [S_c] at this; exact this
theorem lx_p : LxC [43] [tP] Tr := by have := LxC_mark (ch := 43) (by decide); rw [S_p] at this; exact this
theorem lx_m : LxC [45] [tM] Tr := by have := LxC_mark (ch := 45) (by decide); rw [S_m] at this; exact this
theorem lx_d : LxC [58] [tD] Tr := by have := LxC_mark (ch := 58) (by decide); rw [S_d] at this; exact this
theorem LxC_tr {t : List Nat} {l : List TK} {G : List Nat → Prop} (h : LxC t l Tr) : LxC t l G := LxC_weak h fun _ _ => trivial
mutual
theorem Op.lx : ∀ o : Op, LxC o.text (o.toks OFs) Fo
 | .leaf k => by rw [Op.text, Op.toks]; exact lx_leaves _ (List.getElem_mem _)
 | .ref w q .nil part => by
  rw [Op.text, Op.toks_ref, Exs.texts]
  have h1 := lx_head w q
  have h2 := Pt.lx part
  have := LxC_app h1 h2 (fun r hr => by
   cases part with
   | none => rw [Pt.text]; exact hr
   | beg b => rw [Pt.text]; exact Fo_32 _
   | both b l => rw [Pt.text]; exact Fo_32 _)
  rw [show jn [32, 79, 70, 32] (whoL w :: arL q) ++ (if ([] : List (List Nat)).isEmpty then [] else rowsX []) = jn [32, 79, 70, 32] (whoL w :: arL q) from List.append_nil _]
  exact this
 | .ref w q (.cons e r) part => by
  rw [Op.text, Op.toks_ref, Exs.texts]
  have h1 := lx_head w q
  have h2 := Pt.lx part
  have h3 := lx_wrap r.anySg (Ex.lx e)
  have h4 := Exs.lx r r.anySg
  have h5 : LxC (rowsX (e.text :: r.texts)) (subT OFs (.cons e r)) Tr := by
   rw [show subT OFs (.cons e r) = tO :: ((Exs.cons e r).toks OFs r.anySg ++ [tC]) from rfl]
   unfold rowsX
   rw [List.drop_one, List.tail_cons, Exs.spec r, List.map_cons, jn]
   have e1 : (Exs.cons e r).toks OFs r.anySg = wrapT r.anySg (e.toks OFs) ++ r.toks OFs r.anySg := by rw [Exs.toks]; rfl
   rw [e1]
   have h6 := LxC_app h3 h4 (fun x hx => by
    cases r with
    | nil => rw [Exs.texts]; exact hx
    | cons e' r' => rw [Exs.texts]; exact Fo_32 _)
   have h7 := LxC_app (LxC_app (LxC_app LxC_blank lx_o (fun _ _ => trivial)) h6 (fun _ _ => trivial)) lx_c (fun x _ => Fo_41 x)
   exact h7
  have h8 := LxC_app (LxC_app h1 h5 (fun x _ => Fo_32 _)) h2 (fun _ _ => trivial)
  rw [show (if (e.text :: r.texts).isEmpty then [] else rowsX (e.text :: r.texts)) = rowsX (e.text :: r.texts) from rfl]
  simpa using h8
theorem Ex.lx : ∀ e : Ex, LxC e.text (e.toks OFs) Fo
 | .neg o => by
  rw [Ex.text, Ex.toks]
  have h := LxC_app (LxC_app (LxC_app (LxC_app lx_m LxC_blank (fun _ _ => trivial)) lx_o (fun _ _ => trivial)) (Op.lx o) (fun _ _ => trivial)) lx_c (fun x _ => Fo_41 x)
  exact LxC_tr h
 | .plus a b => by
  rw [Ex.text, Ex.toks]
  have h := LxC_app (LxC_app (LxC_app (LxC_app (Op.lx a) LxC_blank (fun x _ => Fo_32 x)) lx_p (fun _ _ => trivial)) LxC_blank (fun _ _ => trivial)) (Op.lx b) (fun _ _ => trivial)
  simpa using h
 | .one o => by rw [Ex.text, Ex.toks]; exact Op.lx o
theorem Exs.lx : ∀ (r : Exs) (wr : Bool), LxC ((r.texts.map (wrapX wr)).flatMap fun b => [32] ++ b) (r.toks OFs wr) Fo
 | .nil, wr => by rw [Exs.texts, Exs.toks]; exact LxC_nil
 | .cons e r, wr => by
  have e1 : (Exs.cons e r).toks OFs wr = wrapT wr (e.toks OFs) ++ r.toks OFs wr := by rw [Exs.toks]; rfl
  rw [Exs.texts, e1, List.map_cons, List.flatMap_cons]
  have h := LxC_app (LxC_app LxC_blank (lx_wrap wr (Ex.lx e)) (fun _ _ => trivial)) (Exs.lx r wr) (fun x hx => by
   cases r with
   | nil => rw [Exs.texts]; exact hx
   | cons e' r' => rw [Exs.texts]; exact Fo_32 _)
  exact h
theorem Pt.lx : ∀ p : Pt, LxC p.text (p.toks OFs) Fo
 | .none => by rw [Pt.text, Pt.toks]; exact LxC_nil
 | .beg b => by
  rw [Pt.text, Pt.toks]
  have h := LxC_app (LxC_app (LxC_app (LxC_app LxC_blank lx_o (fun _ _ => trivial)) (Ex.lx b) (fun _ _ => trivial)) (LxC_app LxC_blank lx_d (fun _ _ => trivial)) (fun x _ => Fo_32 _)) lx_c (fun _ _ => trivial)
  refine LxC_tr ?_
  simpa using h
 | .both b l => by
  rw [Pt.text, Pt.toks]
  have h := LxC_app (LxC_app (LxC_app (LxC_app (LxC_app LxC_blank lx_o (fun _ _ => trivial)) (Ex.lx b) (fun _ _ => trivial)) (LxC_app LxC_blank lx_d (fun _ _ => trivial)) (fun x _ => Fo_32 _)) (LxC_app LxC_blank (Ex.lx l) (fun _ _ => trivial)) (fun _ _ => trivial)) lx_c (fun x _ => Fo_41 x)
  refine LxC_tr ?_
  simpa using h
end
theorem op_lx (o : Op) : Lx o.text (o.toks OFs) := by
 have := Op.lx o [] [] Fo_nil Lx.nil
 rwa [List.append_nil, List.append_nil] at this
noncomputable def TapeAt (H : List AO) (tj cj : Nat) : Prop := ∃ (cs : List Int) (t : Nat), H[tj]? = some (.list [.obj cj, .int (t : Int)]) ∧ H[cj]? = some (.list (cs.map V.int)) ∧ cs ≠ [] ∧ cs.length ≤ 60
theorem pylong_no {x y : Int} (h : y.natAbs < 100) : Builtin.divisionGoesByPylong x y = false := by
 unfold Builtin.divisionGoesByPylong
 have : (if (y == 0) = true then 0 else y.natAbs.log2 / 30 + 1) ≤ 300 := by
  split
  ·walk_at "o"
  ·have : y.natAbs.log2 < 7 := by
    by_cases h0 : y.natAbs = 0
    ·rw [h0]; decide
    ·exact (Nat.log2_lt h0).mpr (by walk_at "o")
   walk_at "o"
 simp only [Bool.and_eq_false_iff, decide_eq_false_iff_not]
 left
 walk_at "o"
theorem tape_ne {tj cj : Nat} {cs : List Int} {x y : V} (h1 : H[tj]? = some (.list [.obj cj, y])) (h2 : H[cj]? = some (.list (cs.map V.int))) : tj ≠ cj := fun q => by
 subst q
 rw [h1] at h2
 have := Option.some.inj h2
 simp only [AO.list.injEq] at this
 cases cs with
 | nil => simp at this
 | cons a r => simp at this
section
variable {c : Cx} {n : Nat} {H : List AO} {R : V → List AO → Prop} {X : Nat → List AO → Prop} {i j p q a : Nat}
theorem c_draw {tj cj : Nat} {lim : Int} (hm : lim = (m : Int)) (hl : 1 ≤ m) (hl2 : m ≤ 60) (ht : TapeAt H tj cj) (h : ∀ H' (v : Nat), v < m → Gr [tj, cj] H H' → TapeAt H' tj cj → R (.int (v : Int)) H') : CJ c 1 (.ref 613) [.obj tj, .int lim] H R X := by
 obtain ⟨cs, t, h1, h2, h3, h4⟩ := ht
 have hne : tj ≠ cj := tape_ne (x := .none) h1 h2
 have hpos : 0 < cs.length := by cases cs with | nil => exact absurd rfl h3 | cons _ _ => simp
 have hspot : t % cs.length < cs.length := Nat.mod_lt _ hpos
 obtain ⟨cell, hcell⟩ : ∃ cell, cs[t % cs.length]? = some cell := ⟨_, gEg hspot⟩
 have hlim : lim ≠ 0 := by walk_at "o"
 apply p_law_draw
 walk_at "b"
 refine S_listI (i := 0) (x := .obj cj) h1 (by decide) (by decide) rfl ?_
 walk_at "a"
 refine S_listI (i := 1) (x := .int (t : Int)) h1 (by decide) (by decide) rfl ?_
 walk_at "w"
 refine C_lenList h2 (by rw [lMp]; walk_at "o") ?_
 rw [lMp]
 refine A_intMod (by walk_at "o") ?_
 rw [Int.fmod_eq_emod_of_nonneg _ (by walk_at "o"), ← Int.natCast_emod]
 walk_at "asg"
 apply s_ex_assignSub (by walk_at "r")
 walk_at "w"
 refine S_listI (i := 1) (x := .int (t : Int)) h1 (by decide) (by decide) rfl ?_
 walk_at "w"
 refine ⟨1, _, rfl, h1, by simp, by decide, ?_⟩
 have h1' : (H.set tj (.list [V.obj cj, V.int ((t : Int) + 1)]))[tj]? = some (.list [V.obj cj, V.int ((t : Int) + 1)]) := by rw [gSs (get_lt h1)]
 have h2' : (H.set tj (.list [V.obj cj, V.int ((t : Int) + 1)]))[cj]? = some (.list (cs.map V.int)) := by rw [List.getElem?_set_ne hne]; exact h2
 show XV _ _ _ _ (H.set tj (.list [V.obj cj, V.int ((t : Int) + 1)])) _ _
 have g1 : Gr [tj, cj] H (H.set tj (.list [V.obj cj, V.int ((t : Int) + 1)])) := (Gr.refl _ _).set _ (.inr ⟨.head _, fun C fs e => by rw [h1] at e; cases e⟩)
 generalize H.set tj (.list [V.obj cj, V.int ((t : Int) + 1)]) = H1 at h1' h2' g1 ⊢
 have fin : ∀ z : Int, R (.int (cell % (m : Int))) (H1.set cj (.list ((cs.map V.int).set (t % cs.length) (.int z)))) := by
  intro z
  have hv : cell % (m : Int) = ((cell % (m : Int)).toNat : Int) := (Int.toNat_of_nonneg (Int.emod_nonneg _ (by walk_at "o"))).symm
  rw [hv]
  refine h _ _ ?_ (g1.tr ((Gr.refl _ _).set _ (.inr ⟨.tail _ (.head _), fun C fs e => by rw [h2'] at e; cases e⟩))) ?_
  ·have := Int.emod_lt_of_pos cell (show (0 : Int) < (m : Int) by walk_at "o")
   walk_at "o"
  ·refine ⟨cs.set (t % cs.length) z, t + 1, ?_, ?_, ?_, by rw [List.length_set]; exact h4⟩
   ·rw [List.getElem?_set_ne (Ne.symm hne)]; exact h1'
   ·rw [gSs (get_lt h2'), List.map_set]
   ·intro q
    have := congrArg List.length q
    rw [List.length_set] at this
    simp at this
    exact h3 this
 walk_at "s"
 refine S_list (i := t % cs.length) (x := .int cell) h2' (by rw [List.getElem?_map, hcell]; rfl) (by walk_at "o") ?_
 walk_at "asg"
 have hm2 : ∀ i : Int, i.fmod lim = i % (m : Int) := fun i => by rw [hm, Int.fmod_eq_emod_of_nonneg _ (by walk_at "o")]
 apply s_ex_assignSub (by walk_at "r")
 walk_at "w"
 refine C_abs ?_
 walk_at "w"
 refine ⟨fun _ => ?_, fun _ => ?_⟩
 ·walk_at "w"
  refine A_intDiv hlim (pylong_no (by walk_at "o")) ?_
  walk_at "w"
  refine ⟨t % cs.length, _, rfl, h2', by rw [lMp]; exact hspot, by walk_at "o", ?_⟩
  walk_at "s"
  refine A_intMod hlim ?_
  rw [hm2]
  exact fin _
 ·walk_at "w"
  refine S_listI (i := 1) (x := .int ((t : Int) + 1)) h1' (by decide) (by decide) rfl ?_
  walk_at "w"
  refine ⟨t % cs.length, _, rfl, h2', by rw [lMp]; exact hspot, by walk_at "o", ?_⟩
  walk_at "s"
  refine A_intMod hlim ?_
  rw [hm2]
  exact fin _
end
noncomputable def Op.few : Op → Prop
 | .leaf _ => True
 | .ref _ _ rows _ => rows.len ≤ 6
noncomputable def numVs : List V := [.tup [.int 0, .int 0], .tup [.int 7, .int 0], .tup [.int (-5), .int 0], .tup [.int 125, .int 2], .tup [.int (-15), .int 1], .tup [.int 100000000000000000, .int 0]]
noncomputable def texVs : List V := [.bytes #[120, 34, 121], .bytes #[39], .bytes #[233, 32], .bytes #[40, 49, 32, 58, 32, 50, 41]]
noncomputable def figVs : List V := [.str (so "ZERO"), .str (so "SPACE"), .str (so "HIGH"), .str (so "LOW"), .str (so "QUOTE")]
theorem num_leaf : ∀ v : Nat, v < 6 → ∃ (x : V) (o : Op), numVs[v]? = some x ∧ ((∀ d, o.fit d) ∧ o.few) ∧ o.toV = .tup [.str (so "number"), x]
 | 0, _ => ⟨_, .leaf 0, rfl, ⟨fun d => by unfold Op.fit; trivial, trivial⟩, by rw [Op.toV]; rfl⟩
 | 1, _ => ⟨_, .leaf 1, rfl, ⟨fun d => by unfold Op.fit; trivial, trivial⟩, by rw [Op.toV]; rfl⟩
 | 2, _ => ⟨_, .leaf 2, rfl, ⟨fun d => by unfold Op.fit; trivial, trivial⟩, by rw [Op.toV]; rfl⟩
 | 3, _ => ⟨_, .leaf 3, rfl, ⟨fun d => by unfold Op.fit; trivial, trivial⟩, by rw [Op.toV]; rfl⟩
 | 4, _ => ⟨_, .leaf 4, rfl, ⟨fun d => by unfold Op.fit; trivial, trivial⟩, by rw [Op.toV]; rfl⟩
 | 5, _ => ⟨_, .leaf 5, rfl, ⟨fun d => by unfold Op.fit; trivial, trivial⟩, by rw [Op.toV]; rfl⟩
 | n + 6, h => by walk_at "o"
theorem b_0 : byteArr (natI [120, 34, 121]) = #[120, 34, 121] := by decide +kernel
theorem b_1 : byteArr (natI [39]) = #[39] := by decide +kernel
theorem b_2 : byteArr (natI [233, 32]) = #[233, 32] := by decide +kernel
theorem b_3 : byteArr (natI [40, 49, 32, 58, 32, 50, 41]) = #[40, 49, 32, 58, 32, 50, 41] := by decide +kernel
theorem tex_leaf : ∀ v : Nat, v < 4 → ∃ (x : V) (o : Op), texVs[v]? = some x ∧ ((∀ d, o.fit d) ∧ o.few) ∧ o.toV = .tup [.str (so "text"), x]
 | 0, _ => ⟨_, .leaf 6, rfl, ⟨fun d => by unfold Op.fit; trivial, trivial⟩, by rw [Op.toV, ← b_0]; rfl⟩
 | 1, _ => ⟨_, .leaf 7, rfl, ⟨fun d => by unfold Op.fit; trivial, trivial⟩, by rw [Op.toV, ← b_1]; rfl⟩
 | 2, _ => ⟨_, .leaf 8, rfl, ⟨fun d => by unfold Op.fit; trivial, trivial⟩, by rw [Op.toV, ← b_2]; rfl⟩
 | 3, _ => ⟨_, .leaf 9, rfl, ⟨fun d => by unfold Op.fit; trivial, trivial⟩, by rw [Op.toV, ← b_3]; rfl⟩
 | n + 4, h => by walk_at "o"
theorem fig_leaf : ∀ v : Nat, v < 5 → ∃ (x : V) (o : Op), figVs[v]? = some x ∧ ((∀ d, o.fit d) ∧ o.few) ∧ o.toV = .tup [.str (so "figure"), x]
 | 0, _ => ⟨_, .leaf 10, rfl, ⟨fun d => by unfold Op.fit; trivial, trivial⟩, by rw [Op.toV]; rfl⟩
 | 1, _ => ⟨_, .leaf 11, rfl, ⟨fun d => by unfold Op.fit; trivial, trivial⟩, by rw [Op.toV]; rfl⟩
 | 2, _ => ⟨_, .leaf 12, rfl, ⟨fun d => by unfold Op.fit; trivial, trivial⟩, by rw [Op.toV]; rfl⟩
 | 3, _ => ⟨_, .leaf 13, rfl, ⟨fun d => by unfold Op.fit; trivial, trivial⟩, by rw [Op.toV]; rfl⟩
 | 4, _ => ⟨_, .leaf 14, rfl, ⟨fun d => by unfold Op.fit; trivial, trivial⟩, by rw [Op.toV]; rfl⟩
 | n + 5, h => by walk_at "o"
theorem all_leaf : ∀ v : Nat, v < 4 → ∃ (x : V) (o : Op), texVs[v]? = some x ∧ ((∀ d, o.fit d) ∧ o.few) ∧ o.toV = .tup [.str (so "all"), x]
 | 0, _ => ⟨_, .leaf 15, rfl, ⟨fun d => by unfold Op.fit; trivial, trivial⟩, by rw [Op.toV, ← b_0]; rfl⟩
 | 1, _ => ⟨_, .leaf 16, rfl, ⟨fun d => by unfold Op.fit; trivial, trivial⟩, by rw [Op.toV, ← b_1]; rfl⟩
 | 2, _ => ⟨_, .leaf 17, rfl, ⟨fun d => by unfold Op.fit; trivial, trivial⟩, by rw [Op.toV, ← b_2]; rfl⟩
 | 3, _ => ⟨_, .leaf 18, rfl, ⟨fun d => by unfold Op.fit; trivial, trivial⟩, by rw [Op.toV, ← b_3]; rfl⟩
 | n + 4, h => by walk_at "o"
noncomputable def GenO (c : Cx) (n d : Nat) : Prop := ∀ (H : List AO) (R : V → List AO → Prop) (X : Nat → List AO → Prop) (tj cj : Nat) (x : Int), x = (d : Int) → TapeAt H tj cj → (∀ H' (o : Op), o.fit (d + 1) → o.few → Gr [tj, cj] H H' → TapeAt H' tj cj → R o.toV H') → CJ c n (.ref 627) [.obj tj, .int x] H R X
noncomputable def GenE (c : Cx) (n d : Nat) : Prop := ∀ (H : List AO) (R : V → List AO → Prop) (X : Nat → List AO → Prop) (tj cj : Nat) (x : Int), x = (d : Int) → TapeAt H tj cj → (∀ H' (e : Ex), e.fit (d + 1) → Gr [tj, cj] H H' → TapeAt H' tj cj → R e.toV H') → CJ c n (.ref 634) [.obj tj, .int x] H R X
section
variable {c : Cx} {n : Nat} {H : List AO} {R : V → List AO → Prop} {X : Nat → List AO → Prop} {i j p q a : Nat}
theorem c_numbers (h : R (.tup numVs) H) : CJ c 1 (.ref 620) [] H R X := by
 apply p_law_numbers
 walk_at "b"
 refine A_intPow (by decide) (by decide +kernel) ?_
 rw [show (10 : Int) ^ (17 : Int).toNat = 100000000000000000 by decide +kernel]
 walk_at "w"
 exact h
theorem gen_ex (hn : 1 ≤ n) (hO : GenO c n d) : GenE c (n + 1) d := by
 intro H R X tj cj x hx ht h
 apply p_law_expr
 walk_at "b"
 refine C_up hn (c_draw (m := 4) rfl (by decide) (by decide) ht fun H1 v hv g1 ht1 => ?_)
 walk_at "a"
 walk_at "if"
 ·walk_at "s"
  refine hO _ _ _ _ _ _ hx ht1 fun H2 o ho _ g2 ht2 => ?_
  walk_at "w"
  have := h H2 (.neg o) (by unfold Ex.fit; exact ho) (g1.tr g2) ht2
  rw [Ex.toV] at this
  exact this
 ·walk_at "s"
  walk_at "if"
  ·walk_at "s"
   refine hO _ _ _ _ _ _ hx ht1 fun H2 o ho _ g2 ht2 => ?_
   walk_at "a"
   refine hO _ _ _ _ _ _ hx ht2 fun H3 o' ho' _ g3 ht3 => ?_
   walk_at "w"
   have := h H3 (.plus o o') (by unfold Ex.fit; exact ⟨ho, ho'⟩) ((g1.tr g2).tr g3) ht3
   rw [Ex.toV] at this
   exact this
  ·walk_at "s"
   refine hO _ _ _ _ _ _ hx ht1 fun H2 o ho _ g2 ht2 => ?_
   have := h H2 (.one o) (by unfold Ex.fit; exact ho) (g1.tr g2) ht2
   rw [Ex.toV] at this
   exact this
end
theorem take_ar (b : Nat) (hb : b < 3) : [V.str (so "G"), V.str (so "H-1")].take b = (arounds.take b).map V.str := by
 rw [List.map_take]
 rfl
theorem who_get : ∀ (w : Nat) (hw : w < 3), [V.str (so "A"), V.str (so "B-2"), V.str (so "C3")][w]? = some (V.str (whoAt ⟨w, hw⟩))
 | 0, _ => rfl
 | 1, _ => rfl
 | 2, _ => rfl
 | n + 3, h => by walk_at "o"
noncomputable def Exs.snoc : Exs → Ex → Exs
 | .nil, e => .cons e .nil
 | .cons x r, e => .cons x (r.snoc e)
theorem snoc_len (e : Ex) : ∀ r : Exs, (r.snoc e).len = r.len + 1
 | .nil => rfl
 | .cons x r => by rw [Exs.snoc, Exs.len, Exs.len, snoc_len e r]
theorem snoc_vals (e : Ex) : ∀ r : Exs, (r.snoc e).vals = r.vals ++ [e.toV]
 | .nil => by rw [Exs.snoc, Exs.vals, Exs.vals]; rfl
 | .cons x r => by rw [Exs.snoc, Exs.vals, Exs.vals, snoc_vals e r]; rfl
theorem snoc_fit {e : Ex} (he : e.fit d) : ∀ r : Exs, r.fit d → (r.snoc e).fit d
 | .nil, h => by unfold Exs.snoc Exs.fit; exact ⟨he, h⟩
 | .cons x r, h => by unfold Exs.fit at h; unfold Exs.snoc Exs.fit; exact ⟨h.1, snoc_fit he r h.2⟩
theorem rangeL_0 (m : Nat) : rangeL 0 (m : Int) = (List.range m).map fun k : Nat => V.int (k : Int) := by
 unfold rangeL
 rw [show ((m : Int) - 0).toNat = m by walk_at "o"]
 exact List.map_congr_left fun k _ => by rw [Int.zero_add]
theorem vals_len : ∀ r : Exs, r.vals.length = r.len
 | .nil => by rw [Exs.vals, Exs.len]; rfl
 | .cons e r => by rw [Exs.vals, Exs.len, lCo, vals_len r]
theorem TapeAt.gr {tj cj : Nat} (h : TapeAt H tj cj) (g : Gr [] H H') : TapeAt H' tj cj := by
 obtain ⟨cs, t, h1, h2, h3, h4⟩ := h
 exact ⟨cs, t, g.get0 h1, g.get0 h2, h3, h4⟩
section
variable {c : Cx} {n : Nat} {H : List AO} {R : V → List AO → Prop} {X : Nat → List AO → Prop} {i j p q a : Nat}
theorem B_mono {RB RB' : Bool → List AO → Prop} (h : BV c m e ρ H RB X) (hR : ∀ b H, RB b H → RB' b H) : BV c m e ρ H RB' X :=
 ⟨fun A env fr μ s S Q E hQ hE => h.un A env fr μ s S Q E (fun b H' μ' s' hb => hQ b H' μ' s' (hR _ _ hb)) hE⟩
theorem gen_op (hn : 1 ≤ n) (hd : d ≤ 2) (hE : ∀ k, k + 1 = d → GenE c n k) : GenO c (n + 1) d := by
 intro H R X tj cj x hx ht h
 apply p_law_operand
 walk_at "b"
 refine C_up hn (c_draw (m := 8) rfl (by decide) (by decide) ht fun H1 v hv g1 ht1 => ?_)
 walk_at "a"
 walk_at "if"
 ·walk_at "s"
  refine C_up hn (c_numbers ?_)
  walk_at "w"
  refine C_up hn (c_draw (m := 6) rfl (by decide) (by decide) ht1 fun H2 u hu g2 ht2 => ?_)
  obtain ⟨y, o, e1, e2, e3⟩ := num_leaf u hu
  refine S_tup e1 (by walk_at "o") ?_
  walk_at "w"
  have := h H2 o (e2.1 _) e2.2 (g1.tr g2) ht2
  rw [e3] at this
  exact this
 ·walk_at "s"
  walk_at "if"
  ·walk_at "s"
   refine C_up hn (c_draw (m := 4) rfl (by decide) (by decide) ht1 fun H2 u hu g2 ht2 => ?_)
   obtain ⟨y, o, e1, e2, e3⟩ := tex_leaf u hu
   refine S_tup e1 (by walk_at "o") ?_
   walk_at "w"
   have := h H2 o (e2.1 _) e2.2 (g1.tr g2) ht2
   rw [e3] at this
   exact this
  ·walk_at "s"
   walk_at "if"
   ·walk_at "s"
    refine C_up hn (c_draw (m := 5) rfl (by decide) (by decide) ht1 fun H2 u hu g2 ht2 => ?_)
    obtain ⟨y, o, e1, e2, e3⟩ := fig_leaf u hu
    refine S_tup e1 (by walk_at "o") ?_
    walk_at "w"
    have := h H2 o (e2.1 _) e2.2 (g1.tr g2) ht2
    rw [e3] at this
    exact this
   ·walk_at "s"
    walk_at "if"
    ·walk_at "s"
     refine C_up hn (c_draw (m := 4) rfl (by decide) (by decide) ht1 fun H2 u hu g2 ht2 => ?_)
     obtain ⟨y, o, e1, e2, e3⟩ := all_leaf u hu
     refine S_tup e1 (by walk_at "o") ?_
     walk_at "w"
     have := h H2 o (e2.1 _) e2.2 (g1.tr g2) ht2
     rw [e3] at this
     exact this
    ·walk_at "s"
     refine C_up hn (c_draw (m := 3) rfl (by decide) (by decide) ht1 fun H2 w hw g2 ht2 => ?_)
     refine S_tup (who_get w hw) (by walk_at "o") ?_
     walk_at "asg"
     walk_at "st"
     apply s_ev_sliceT
     walk_at "w"
     refine ⟨_, _, rfl, ?_⟩
     walk_at "w"
     refine C_up hn (c_draw (m := 3) rfl (by decide) (by decide) ht2 fun H3 b hb g3 ht3 => ?_)
     refine ⟨b, rfl, by walk_at "o", ?_⟩
     rw [take_ar b hb]
     walk_at "a"
     refine C_up hn (c_draw (m := d + 1) (by walk_at "o") (by walk_at "o") (by walk_at "o") ht3 fun H4 m hm g4 ht4 => ?_)
     walk_at "a"
     refine E_comp0 (ρc := [(so "tape", Kd.cell, some (V.obj tj)), (so "depth", Kd.cell, some (V.int x)), gv "_law_expr" (.val (.ref 634))]) (compOk (by walk_at "r") ⟨g_law_expr, trivial⟩ ⟨by walk_at "mem", by walk_at "mem", trivial⟩) (by walk_at "o") (by walk_at "ir") ?_
     walk_at "range"
     walk_at "w"
     refine ⟨0, (m : Int), .inl ⟨rfl, rfl⟩, by decide, by decide, by walk_at "o", by walk_at "o", ?_⟩
     rw [rangeL_0]
     refine ⟨by rw [lMp, lRa]; simp only [sizeLine]; walk_at "o", fun k acc H5 => ∃ r : Exs, r.len = k ∧ r.fit d ∧ acc = r.vals ∧ Gr [tj, cj] H H5 ∧ TapeAt H5 tj cj, ⟨.nil, rfl, by unfold Exs.fit; trivial, by rw [Exs.vals], ((g1.tr g2).tr g3).tr g4, ht4⟩, ?_, ?_⟩
     ·rintro k y acc H5 hy ⟨r, rfl, hr, rfl, g5, ht5⟩ hli
      have hlt : r.len < m := by
       have := (gsi.mp hy).1
       rwa [lMp, lRa] at this
      obtain ⟨d', rfl⟩ : ∃ d', d = d' + 1 := ⟨d - 1, by walk_at "o"⟩
      walk_at "w"
      refine hE d' rfl _ _ _ _ _ _ (by walk_at "o") ht5 fun H6 e he g6 ht6 => ?_
      refine ⟨⟨r.snoc e, snoc_len _ _, snoc_fit he _ hr, (snoc_vals _ _).symm, g5.tr g6, ht6⟩, fun j' q => by cases q⟩
     ·rintro acc H5 ⟨r, hrl, hr, rfl, g5, ht5⟩ hal
      rw [lMp, lRa] at hrl
      walk_at "w"
      refine C_tupList get_last (by simp only [sizeLine]; rw [vals_len, hrl]; walk_at "o") ?_
      have g6 : Gr [tj, cj] H (H5 ++ [AO.list r.vals]) := g5.push _
      have ht6 : TapeAt (H5 ++ [AO.list r.vals]) tj cj := ht5.gr (Gr.push0 _)
      generalize H5 ++ [AO.list r.vals] = H6 at g6 ht6 ⊢
      walk_at "a"
      walk_at "asg"
      walk_at "st"
      refine B_mono (RB := fun q H7 => (q = true → 0 < d) ∧ Gr [tj, cj] H H7 ∧ TapeAt H7 tj cj) ?_ (fun q H7 hq7 => ?_)
      ·walk_at "w"
       walk_at "if"
       ·exact ⟨fun q => (by cases q), g6, ht6⟩
       ·have hd0 : 0 < d := by walk_at "o"
        walk_at "w"
        refine C_up hn (c_draw (m := 3) rfl (by decide) (by decide) ht6 fun H7 u hu g7 ht7 => ?_)
        walk_at "w"
        have g67 := g6.tr g7
        walk_at "if"
        ·exact ⟨fun _ => hd0, g67, ht7⟩
        ·apply B_and
         refine B_mono (RB := fun q H8 => H8 = H7) ?_ (fun q H8 e8 => ?_)
         ·walk_at "w"
          walk_at "if"
          walk_at "w"
          walk_at "if"
          walk_at "w"
          rfl
         ·subst e8
          refine ⟨fun _ => ⟨fun _ => hd0, g67, ht7⟩, fun _ => ?_⟩
          walk_at "w"
          exact ⟨fun _ => hd0, g67, ht7⟩
      ·obtain ⟨hq0, g7, ht7⟩ := hq7
       refine ⟨fun hq => ?_, fun hq => ?_⟩
       ·obtain ⟨d', rfl⟩ : ∃ d', d = d' + 1 := ⟨d - 1, by have := hq0 hq; walk_at "o"⟩
        walk_at "s"
        refine hE d' rfl _ _ _ _ _ _ (by walk_at "o") ht7 fun H8 e he g8 ht8 => ?_
        walk_at "asg"
        walk_at "st"
        apply E_tuple
        apply L_cons (by walk_at "r")
        walk_at "ev"
        apply L_cons (by walk_at "r")
        apply E_ifexp
        refine B_mono (RB := fun q H9 => Gr [tj, cj] H H9 ∧ TapeAt H9 tj cj) ?_ (fun q H9 hq9 => ?_)
        ·have g78 := g7.tr g8
         walk_at "w"
         walk_at "if"
         ·exact ⟨g78, ht8⟩
         ·walk_at "w"
          refine C_up hn (c_draw (m := 2) rfl (by decide) (by decide) ht8 fun H9 u hu g9 ht9 => ?_)
          walk_at "w"
          walk_at "if"
          ·exact ⟨g78.tr g9, ht9⟩
          ·walk_at "w"
           exact ⟨g78.tr g9, ht9⟩
        ·obtain ⟨g9, ht9⟩ := hq9
         refine ⟨fun _ => ?_, fun _ => ?_⟩
         ·walk_at "w"
          refine hE d' rfl _ _ _ _ _ _ (by walk_at "o") ht9 fun H10 e' he' g10 ht10 => ?_
          walk_at "w"
          walk_at "a"
          have := h H10 (.ref ⟨w, hw⟩ ⟨b, hb⟩ r (.both e e')) (by unfold Op.fit; exact ⟨by walk_at "o", hr, by unfold Pt.fit; exact ⟨he, he'⟩⟩) (show Exs.len _ ≤ 6 by walk_at "o") (g9.tr g10) ht10
          rw [Op.toV, Pt.toV] at this
          exact this
         ·walk_at "w"
          walk_at "a"
          have := h H9 (.ref ⟨w, hw⟩ ⟨b, hb⟩ r (.beg e)) (by unfold Op.fit; exact ⟨by walk_at "o", hr, by unfold Pt.fit; exact he⟩) (show Exs.len _ ≤ 6 by walk_at "o") g9 ht9
          rw [Op.toV, Pt.toV] at this
          exact this
       ·walk_at "s"
        cases d with
        | zero =>
         have hr0 : r = .nil := by
          cases r with
          | nil => rfl
          | cons e r => rw [Exs.len] at hrl; walk_at "o"
         subst hr0
         have := h H7 (.ref ⟨w, hw⟩ ⟨b, hb⟩ .nil .none) (by unfold Op.fit; exact ⟨by rw [Exs.len]; walk_at "o", hr, by unfold Pt.fit; trivial⟩) (show Exs.len _ ≤ 6 by rw [Exs.len]; walk_at "o") g7 ht7
         rw [Op.toV, Pt.toV] at this
         exact this
        | succ d =>
         have := h H7 (.ref ⟨w, hw⟩ ⟨b, hb⟩ r .none) (by unfold Op.fit; exact ⟨by walk_at "o", hr, by unfold Pt.fit; trivial⟩) (show Exs.len _ ≤ 6 by walk_at "o") g7 ht7
         rw [Op.toV, Pt.toV] at this
         exact this
theorem gen_all : GenO c 6 2 := gen_op (n := 5) (by walk_at "o") (by walk_at "o") fun k hk => by
 obtain rfl : k = 1 := by walk_at "o"
 exact gen_ex (n := 4) (by walk_at "o") (gen_op (n := 3) (by walk_at "o") (by walk_at "o") fun k hk => by
  obtain rfl : k = 0 := by walk_at "o"
  exact gen_ex (n := 2) (by walk_at "o") (gen_op (n := 1) (by walk_at "o") (by walk_at "o") fun k hk => by walk_at "o"))
end
noncomputable def noIn (p : List Nat) : List Nat → Bool
 | [] => true
 | x :: l => !(p.isPrefixOf (x :: l)) && noIn p l
theorem noIn_drop {p : List Nat} (hp : p ≠ []) : ∀ (l : List Nat) (i : Nat), noIn p l = true → (l.drop i).take p.length ≠ p
 | [], i, _, q => hp (by rw [List.drop_nil, List.take_nil] at q; exact q.symm)
 | x :: l, 0, h, q => by
  unfold noIn at h
  rw [Bool.and_eq_true] at h
  have : p.isPrefixOf (x :: l) = true := by
   rw [List.isPrefixOf_iff_prefix]
   rw [List.drop_zero] at q
   exact ⟨(x :: l).drop p.length, by
    have := tAd p.length (x :: l)
    rwa [q] at this⟩
  rw [this] at h
  exact absurd h.1 (by decide)
 | x :: l, i + 1, h, q => by
  unfold noIn at h
  rw [Bool.and_eq_true] at h
  exact noIn_drop hp l i h.2 q
noncomputable def nameL : List (List Nat) := [[32, 65, 32], [32, 66, 45, 50, 32], [32, 67, 51, 32], [32, 71, 32], [32, 72, 45, 49, 32]]
theorem resN_ex : ∃ cs : List Char, resS = so (String.ofList cs) ∧ (nameL.all fun p => noIn p (cs.map Char.toNat)) = true := by
 refine ⟨_, rfl, ?_⟩
 decide +kernel
theorem resd_no {w : Str} {p : List Nat} (hp : p ∈ nameL) (e : (so " " ++ w ++ so " ").cps.toList = p) : resd w = false := by
 obtain ⟨cs, e1, h1⟩ := resN_ex
 have e2 : resS.cps.toList = cs.map Char.toNat := by
  rw [e1, Fast.ofString_ofList cs]
 have h2 := List.all_eq_true.mp h1 p hp
 have hne : p ≠ [] := by
  intro q
  subst q
  revert hp
  decide
 unfold resd
 cases hq : !(Builtin.Str.occurrences resS (so " " ++ w ++ so " ") 0 resS.length 1).isEmpty with
 | false => rfl
 | true =>
  obtain ⟨i, _, h3⟩ := (StrLaws.found_iff _ _).mp hq
  rw [StrLaws.subAt_eq, e2, e] at h3
  exfalso
  refine noIn_drop hne _ i h2 ?_
  have e3 : (so " " ++ w ++ so " ").length = p.length := by
   rw [← e]
   simp [Str.length]
  rw [e3] at h3
  exact beq_iff_eq.mp h3
theorem names : Names where
 who
  | ⟨0, _⟩ => show NameOk (so "A") from ⟨by decide +kernel, resd_no (p := [32, 65, 32]) (by decide) (by decide +kernel)⟩
  | ⟨1, _⟩ => show NameOk (so "B-2") from ⟨by decide +kernel, resd_no (p := [32, 66, 45, 50, 32]) (by decide) (by decide +kernel)⟩
  | ⟨2, _⟩ => show NameOk (so "C3") from ⟨by decide +kernel, resd_no (p := [32, 67, 51, 32]) (by decide) (by decide +kernel)⟩
 aro := by
  intro x hx
  simp only [arounds, List.mem_cons, List.not_mem_nil, or_false] at hx
  rcases hx with rfl | rfl
  ·exact ⟨by decide +kernel, resd_no (p := [32, 71, 32]) (by decide) (by decide +kernel)⟩
  ·exact ⟨by decide +kernel, resd_no (p := [32, 72, 45, 49, 32]) (by decide) (by decide +kernel)⟩
noncomputable abbrev INs : Str := so "IN"
noncomputable def toIN (t : TK) : TK := if (t.2 == OFs) = true then (kWord, INs) else t
theorem toIN_of {t : TK} (h : (t.2 == OFs) = false) : toIN t = t := by unfold toIN; rw [h]; rfl
theorem leaf_in : leaves.all (fun l => l.toks.all fun t => !(t.2 == OFs)) = true := by decide +kernel
theorem in_o : toIN tO = tO := toIN_of (by decide +kernel)
theorem in_c : toIN tC = tC := toIN_of (by decide +kernel)
theorem in_m : toIN tM = tM := toIN_of (by decide +kernel)
theorem in_p : toIN tP = tP := toIN_of (by decide +kernel)
theorem in_d : toIN tD = tD := toIN_of (by decide +kernel)
theorem in_who : ∀ w : Fin 3, toIN (kWord, whoAt w) = (kWord, whoAt w) := fun w => toIN_of (by revert w; decide +kernel)
theorem in_quals : ∀ q : Fin 3, (qualT (quals OFs q)).map toIN = qualT (quals INs q) := by decide +kernel
theorem in_all : ∀ {l : List TK}, (l.all fun t => !(t.2 == OFs)) = true → l.map toIN = l
 | [], _ => rfl
 | t :: l, h => by
  rw [List.all_cons, Bool.and_eq_true, Bool.not_eq_true'] at h
  rw [List.map_cons, toIN_of h.1, in_all h.2]
mutual
theorem Op.inT : ∀ o : Op, (o.toks OFs).map toIN = o.toks INs
 | .leaf k => by
  rw [Op.toks, Op.toks]
  exact in_all (List.all_eq_true.mp leaf_in (leafAt k) (List.getElem_mem _))
 | .ref w q .nil part => by
  rw [Op.toks, Op.toks, List.map_cons, List.map_append, in_who, in_quals, Pt.inT]
 | .ref w q (.cons e r) part => by
  rw [Op.toks, Op.toks, List.map_cons, List.map_append, List.map_append, List.map_cons, List.map_append, List.map_append, in_who, in_quals, Pt.inT, in_o, Exs.inT r, List.map_cons, List.map_nil, in_c]
  cases r.anySg with
  | false => simp only [Bool.false_eq_true, if_false]; rw [Ex.inT e]
  | true => simp only [if_true, List.map_cons, List.map_append, List.map_nil]; rw [Ex.inT e, in_o, in_c]
theorem Ex.inT : ∀ e : Ex, (e.toks OFs).map toIN = e.toks INs
 | .neg o => by rw [Ex.toks, Ex.toks, List.map_cons, List.map_cons, List.map_append, List.map_cons, List.map_nil, in_m, in_o, in_c, Op.inT o]
 | .plus a b => by rw [Ex.toks, Ex.toks, List.map_append, List.map_cons, in_p, Op.inT a, Op.inT b]
 | .one o => by rw [Ex.toks, Ex.toks, Op.inT o]
theorem Exs.inT : ∀ (r : Exs) (wr : Bool), (r.toks OFs wr).map toIN = r.toks INs wr
 | .nil, wr => by rw [Exs.toks, Exs.toks]; rfl
 | .cons e r, wr => by
  rw [Exs.toks, Exs.toks, List.map_append, Exs.inT r wr]
  cases wr with
  | false => simp only [Bool.false_eq_true, if_false]; rw [Ex.inT e]
  | true => simp only [if_true, List.map_cons, List.map_append, List.map_nil]; rw [Ex.inT e, in_o, in_c]
theorem Pt.inT : ∀ p : Pt, (p.toks OFs).map toIN = p.toks INs
 | .none => by rw [Pt.toks, Pt.toks]; rfl
 | .beg b => by rw [Pt.toks, Pt.toks, List.map_cons, List.map_append, List.map_cons, List.map_cons, List.map_nil, in_o, in_d, in_c, Ex.inT b]
 | .both b l => by rw [Pt.toks, Pt.toks, List.map_cons, List.map_append, List.map_cons, List.map_append, List.map_cons, List.map_nil, in_o, in_d, in_c, Ex.inT b, Ex.inT l]
end
theorem leaf_last : leaves.all (fun l => !(l.text.getLast? == some 41)) = true := by decide +kernel
theorem head_last : ∀ w q : Fin 3, (jn [32, 79, 70, 32] (whoL w :: arL q)).getLast? ≠ some 41 := by decide +kernel
theorem last_ref {o : Op} (h : o.text.getLast? = some 41) : ∃ w q rows part, o = .ref w q rows part ∧ ((part = .none ∧ ∃ e r, rows = .cons e r) ∨ part ≠ .none) := by
 cases o with
 | leaf k =>
  exfalso
  have := List.all_eq_true.mp leaf_last (leafAt k) (List.getElem_mem _)
  rw [Op.text] at h
  rw [h] at this
  exact absurd this (by decide)
 | ref w q rows part =>
  refine ⟨w, q, rows, part, rfl, ?_⟩
  cases part with
  | beg b => exact .inr (by intro q; cases q)
  | both b l => exact .inr (by intro q; cases q)
  | none =>
   refine .inl ⟨rfl, ?_⟩
   cases rows with
   | cons e r => exact ⟨e, r, rfl⟩
   | nil =>
    exfalso
    rw [Op.text, Exs.texts, Pt.text] at h
    refine head_last w q ?_
    simpa using h
theorem leaf_dep : ∀ k : Fin 19, ∃ l, (leafAt k).toV = .tup l ∧ depL l = some 1 ∨ (leafAt k).toV = .tup l ∧ depL l = some 0
 | ⟨0, _⟩ => ⟨_, .inl ⟨rfl, rfl⟩⟩
 | ⟨1, _⟩ => ⟨_, .inl ⟨rfl, rfl⟩⟩
 | ⟨2, _⟩ => ⟨_, .inl ⟨rfl, rfl⟩⟩
 | ⟨3, _⟩ => ⟨_, .inl ⟨rfl, rfl⟩⟩
 | ⟨4, _⟩ => ⟨_, .inl ⟨rfl, rfl⟩⟩
 | ⟨5, _⟩ => ⟨_, .inl ⟨rfl, rfl⟩⟩
 | ⟨6, _⟩ => ⟨_, .inr ⟨rfl, rfl⟩⟩
 | ⟨7, _⟩ => ⟨_, .inr ⟨rfl, rfl⟩⟩
 | ⟨8, _⟩ => ⟨_, .inr ⟨rfl, rfl⟩⟩
 | ⟨9, _⟩ => ⟨_, .inr ⟨rfl, rfl⟩⟩
 | ⟨10, _⟩ => ⟨_, .inr ⟨rfl, rfl⟩⟩
 | ⟨11, _⟩ => ⟨_, .inr ⟨rfl, rfl⟩⟩
 | ⟨12, _⟩ => ⟨_, .inr ⟨rfl, rfl⟩⟩
 | ⟨13, _⟩ => ⟨_, .inr ⟨rfl, rfl⟩⟩
 | ⟨14, _⟩ => ⟨_, .inr ⟨rfl, rfl⟩⟩
 | ⟨15, _⟩ => ⟨_, .inr ⟨rfl, rfl⟩⟩
 | ⟨16, _⟩ => ⟨_, .inr ⟨rfl, rfl⟩⟩
 | ⟨17, _⟩ => ⟨_, .inr ⟨rfl, rfl⟩⟩
 | ⟨18, _⟩ => ⟨_, .inr ⟨rfl, rfl⟩⟩
 | ⟨n + 19, h⟩ => absurd h (by walk_at "o")
noncomputable def dLe (x : V) (k : Nat) : Prop := ∃ m, dep x = some m ∧ m ≤ k
noncomputable def dLeL (l : List V) (k : Nat) : Prop := ∃ m, depL l = some m ∧ m ≤ k
theorem dLe.tup (h : dLeL l k) : dLe (.tup l) (k + 1) := by
 obtain ⟨m, h1, h2⟩ := h
 exact ⟨m + 1, by show (depL l).map (· + 1) = _; rw [h1]; rfl, by walk_at "o"⟩
theorem dLe.le {x : V} {j : Nat} (h : dLe x k) (hk : k ≤ j) : dLe x j := by
 obtain ⟨m, h1, h2⟩ := h
 exact ⟨m, h1, by walk_at "o"⟩
theorem dLeL.nil : dLeL [] k := ⟨0, rfl, Nat.zero_le _⟩
theorem dLeL.cons {x : V} (h : dLe x k) (hl : dLeL l k) : dLeL (x :: l) k := by
 obtain ⟨m, h1, h2⟩ := h
 obtain ⟨j, h3, h4⟩ := hl
 exact ⟨max m j, by unfold depL; rw [h1, h3], by walk_at "o"⟩
theorem dLe.str : dLe (.str x) k := ⟨0, rfl, Nat.zero_le _⟩
theorem dLe.none : dLe .none k := ⟨0, rfl, Nat.zero_le _⟩
theorem dLeL.strs : ∀ {xs : List Str}, dLeL (xs.map V.str) k
 | [] => dLeL.nil
 | _ :: _ => dLeL.cons dLe.str dLeL.strs
theorem ex_dep {B : Nat} (h : ∀ o : Op, o.fit d → dLe o.toV B) : ∀ e : Ex, e.fit d → dLe e.toV (B + 1)
 | .neg o, he => by rw [Ex.toV]; unfold Ex.fit at he; exact dLe.tup (.cons dLe.str (.cons (h o he) .nil))
 | .plus a b, he => by rw [Ex.toV]; unfold Ex.fit at he; exact dLe.tup (.cons dLe.str (.cons (h a he.1) (.cons (h b he.2) .nil)))
 | .one o, he => by rw [Ex.toV]; unfold Ex.fit at he; exact (h o he).le (by walk_at "o")
theorem exs_dep {B : Nat} (h : ∀ e : Ex, e.fit d → dLe e.toV B) : ∀ r : Exs, r.fit d → dLeL r.vals B
 | .nil, _ => by rw [Exs.vals]; exact .nil
 | .cons e r, hr => by rw [Exs.vals]; unfold Exs.fit at hr; exact .cons (h e hr.1) (exs_dep h r hr.2)
theorem op_dep : ∀ (d : Nat) (o : Op), o.fit d → ∃ l, o.toV = .tup l ∧ dLeL l (1 + 3 * d)
 | d, .leaf k, _ => by
  obtain ⟨l, h | h⟩ := leaf_dep k
  ·exact ⟨l, by rw [Op.toV]; exact h.1, _, h.2, by walk_at "o"⟩
  ·exact ⟨l, by rw [Op.toV]; exact h.1, _, h.2, by walk_at "o"⟩
 | 0, .ref .., h => by unfold Op.fit at h; exact h.elim
 | d + 1, .ref w q rows part, h => by
  unfold Op.fit at h
  have hE := ex_dep (d := d) (B := 1 + 3 * d + 1) (fun o ho => by
   obtain ⟨l, e, hl⟩ := op_dep d o ho
   rw [e]
   exact dLe.tup hl)
  refine ⟨_, by rw [Op.toV], .cons .str (.cons .str (.cons (dLe.le (dLe.tup (k := 0) .strs) (by walk_at "o")) (.cons (dLe.le (dLe.tup (exs_dep hE rows h.2.1)) (by walk_at "o")) (.cons ?_ .nil))))⟩
  have h3 := h.2.2
  cases part with
  | none => rw [Pt.toV]; exact .none
  | beg b => rw [Pt.toV]; unfold Pt.fit at h3; exact dLe.le (dLe.tup (.cons (hE b h3) (.cons .none .nil))) (by walk_at "o")
  | both b l => rw [Pt.toV]; unfold Pt.fit at h3; exact dLe.le (dLe.tup (.cons (hE b h3.1) (.cons (hE l h3.2) .nil))) (by walk_at "o")
section
variable {c : Cx} {n : Nat} {ρ : Loc} {H : List AO} {R : V → List AO → Prop} {X : Nat → List AO → Prop}
theorem pick_onA {α : Type} (l : List α) (a : Nat) : pick l none (some (a : Int)) = l.take a := by
 unfold pick
 simp only [Option.elim, clip_nat, List.drop_zero, Nat.sub_zero]
 rcases Nat.le_total a l.length with h | h
 ·rw [Nat.min_eq_left h]
 ·rw [Nat.min_eq_right h, List.take_of_length_le h, List.take_of_length_le (Nat.le_refl _)]
theorem s_slBase {v hi : Expr} (h : EV c n v ρ H (fun o H1 => ∃ sa vs l, o = .val (.ref sa) ∧ c.base.IsList sa (vs : List Value).toArray ∧ RepL c.base [] l vs ∧ EV c n hi ρ H1 (fun b H2 => ∃ k : Nat, b = .int (k : Int) ∧ l.length ≤ sizeLine ∧ R (.obj H2.length) (H2 ++ [.list (l.take k)])) X) X) : EV c n (.Subscript v (.Slice none (some hi) none p) pos) ρ H R X := by
 simp only [eEV] at *
 intro A env fr μ s S Q E hQ hE
 refine listSliceX (h A env fr μ s S _ E (fun o H1 μ1 va s1 h1 x1 S1 r1 => ?_) hE)
 obtain ⟨sa, vs, l, rfl, hb, hr, h1⟩ := h1
 have hF : EvE c n hi ρ H1 (fun v H2 => ∃ i, v = .int i ∧ ((none : Option Int) = none ∧ ∃ k : Nat, some i = some (k : Int) ∧ l.length ≤ sizeLine ∧ R (.obj H2.length) (H2 ++ [.list (l.take k)]))) X := TrE.mono h1 (fun b H2 h2 => by
  obtain ⟨k, rfl, h3⟩ := h2
  exact ⟨_, rfl, rfl, k, rfl, h3⟩) fun _ _ q => q
 have hG : PaE c n none ρ H1 (fun a H2 => PaE c n (some hi) ρ H2 (fun b H3 => a = none ∧ ∃ k : Nat, b = some (k : Int) ∧ l.length ≤ sizeLine ∧ R (.obj H3.length) (H3 ++ [.list (l.take k)])) X) X := hF
 refine go_parts (F := fun a b H2 => a = none ∧ ∃ k : Nat, b = some (k : Int) ∧ l.length ≤ sizeLine ∧ R (.obj H2.length) (H2 ++ [.list (l.take k)])) (o := .val (.ref sa)) (va := va) S hE hG x1 S1 r1 fun a b H3 μ3 s3 h3 x3 S3 r3 => ?_
 obtain ⟨ha, k, hbk, hs, hR⟩ := h3
 obtain rfl : va = .ref sa := r3
 have hv : s3.heap.IsList sa vs.toArray := by
  obtain ⟨o, ho, hh⟩ := hb
  exact ⟨o, S3.stays _ _ ho, hh⟩
 have rl : RepL s3.heap μ3 l vs := hr.mono (F := NoF) (D := NoF) (Kept.of_keeps S3.stays) noTup_none List.nil_prefix
 have pp : ∀ o : Option (Int × Tok), IsPart (partValue o) (o.map (·.1)) := fun o => by cases o with | none => exact .none | some z => exact .int z.1 z.2
 refine ⟨sa, vs.toArray, a.map (·.1), b.map (·.1), rfl, hv, by rw [List.size_toArray, rl.length]; exact hs, pp a, pp b, ?_⟩
 have hsp : (s3.heap.push { cls := .type "slice", data := .fields #[partValue a, partValue b, .none] }).objs.size = s3.heap.objs.size + 1 := Heap.size_push _ _
 have n1' : s3.heap.get? (s3.heap.objs.size + 1) = none := by
  cases q : s3.heap.get? (s3.heap.objs.size + 1) with
  | none => rfl
  | some o => exact absurd (Heap.lt_size q) (Nat.not_lt.mpr (Nat.le_succ _))
 have hk : ∀ b' o, s3.heap.get? b' = some o → ((s3.heap.push { cls := .type "slice", data := .fields #[partValue a, partValue b, .none] }).push { cls := .type "list", data := .seq (slicePick vs.toArray (a.map (·.1)) (b.map (·.1)) none) }).get? b' = some o := fun _ _ q => gPs _ (gPs _ q)
 have ho : ((s3.heap.push { cls := .type "slice", data := .fields #[partValue a, partValue b, .none] }).push { cls := .type "list", data := .seq (slicePick vs.toArray (a.map (·.1)) (b.map (·.1)) none) }).get? (s3.heap.objs.size + 1) = some { cls := .type "list", data := .seq (pick vs (a.map (·.1)) (b.map (·.1))).toArray } := by
  rw [← hsp, gPz _ rfl, slicePick_plain]
  simp only [pick, List.size_toArray]
 have e : pick l (a.map (·.1)) (b.map (·.1)) = l.take k := by rw [ha, hbk, pick_onA]
 rw [← e] at hR
 refine (hQ.next x3 S3) (.obj H3.length) (H3 ++ [.list (pick l (a.map (·.1)) (b.map (·.1)))]) (μ3 ++ [(s3.heap.objs.size + 1, s3.heap.objs.size + 1)]) _ _ hR (Ext.alloc (tk := s3.toks) hk n1' n1') (S3.alloc (o := .list (pick l (a.map (·.1)) (b.map (·.1)))) hk n1' n1' ⟨rfl, _, 0, ho, (rl.pick _ _).mono (F := NoF) (D := NoF) (Kept.of_keeps hk) noTup_none (List.prefix_append _ _)⟩) ⟨(s3.heap.objs.size + 1, s3.heap.objs.size + 1), ?_, rfl⟩
 rw [← S3.len, gAr (Nat.le_refl _), Nat.sub_self]; rfl
end
theorem HasT_map : ∀ (ts pre : List Tk), HasT (pre ++ ts) pre.length (ts.map kw)
 | [], pre => trivial
 | t :: ts, pre => by
  have := HasT_map ts (pre ++ [t])
  rw [aAs, lAp] at this
  exact ⟨⟨t, by rw [gAr (Nat.le_refl _), Nat.sub_self]; rfl, rfl, rfl⟩, this⟩
theorem HasT_of {ts : List Tk} {l : List TK} (h : ts.map kw = l) : HasT ts 0 l := h ▸ HasT_map ts []
theorem ToksAt.of {j : Nat} {ts : List Tk} (h : TL H j ts) (hs : ts.length < 2 ^ 40) (hh : ∀ t ∈ ts, isHanded t.pos = true) : ToksAt H j ts := ⟨h, hs, hh⟩
noncomputable def inTk (t : Tk) : Tk := if (t.worth == OFs) = true then ⟨kWord, INs, t.pos⟩ else t
theorem kw_in (t : Tk) : kw (inTk t) = toIN (kw t) := by
 unfold inTk toIN kw
 dsimp only
 split <;> rfl
theorem in_pos (t : Tk) : (inTk t).pos = t.pos := by
 unfold inTk
 split <;> rfl
theorem map_in {ts : List Tk} : (ts.map inTk).map kw = (ts.map kw).map toIN := by
 rw [List.map_map, List.map_map]
 exact List.map_congr_left fun t _ => kw_in t
theorem TL.dropLast {j : Nat} {ts : List Tk} (h2 : l.length = ts.length) (h3 : ∀ (k : Nat) (t : Tk), ts[k]? = some t → ∃ (o : Nat) (b : V), l[k]? = some (.obj o) ∧ H[o]? = some (.inst 192 (tkF t b))) (hj : H[j]? = some (.list l.dropLast)) : TL H j ts.dropLast := by
 refine ⟨_, hj, by rw [List.length_dropLast, List.length_dropLast, h2], fun k t hk => ?_⟩
 rw [List.getElem?_dropLast] at hk
 split at hk
 ·rename_i hlt
  obtain ⟨o, b, h4, h5⟩ := h3 k t hk
  exact ⟨o, b, by rw [List.getElem?_dropLast, if_pos (by walk_at "o")]; exact h4, h5⟩
 ·cases hk
noncomputable def TLs (H : List AO) (l : List V) (ts : List Tk) : Prop := l.length = ts.length ∧ ∀ (k : Nat) (t : Tk), ts[k]? = some t → ∃ (o : Nat) (b : V), l[k]? = some (.obj o) ∧ H[o]? = some (.inst 192 (tkF t b))
theorem TLs.app {l' : List V} {ts ts' : List Tk} (h : TLs H l ts) (h' : TLs H l' ts') : TLs H (l ++ l') (ts ++ ts') := by
 refine ⟨by rw [lAp, lAp, h.1, h'.1], fun k t hk => ?_⟩
 rcases Nat.lt_or_ge k ts.length with hlt | hge
 ·rw [gAl hlt] at hk
  obtain ⟨o, b, h1, h2⟩ := h.2 k t hk
  exact ⟨o, b, by rw [gAl (by rw [h.1]; exact hlt)]; exact h1, h2⟩
 ·rw [gAr hge] at hk
  obtain ⟨o, b, h1, h2⟩ := h'.2 _ t hk
  exact ⟨o, b, by rw [gAr (by rw [h.1]; exact hge), h.1]; exact h1, h2⟩
theorem TLs.one {o : Nat} {b : V} {t : Tk} (h : H[o]? = some (.inst 192 (tkF t b))) : TLs H [.obj o] [t] := ⟨rfl, fun k t' hk => by
 cases k with
 | zero => cases hk; exact ⟨o, b, rfl, h⟩
 | succ k => cases hk⟩
theorem TLs.nil : TLs H [] [] := ⟨rfl, fun k t hk => by cases hk⟩
theorem TLs.gr {ts : List Tk} (h : TLs H l ts) (g : Gr [] H H') : TLs H' l ts := ⟨h.1, fun k t hk => by
 obtain ⟨o, b, h1, h2⟩ := h.2 k t hk
 exact ⟨o, b, h1, g.get0 h2⟩⟩
noncomputable def tkA : Tk := ⟨kWord, so "A", .tup [.int 1, .int 8]⟩
noncomputable def tkO : Tk := ⟨kSign, so "(", .tup [.int 1, .int 10]⟩
noncomputable def tkC : Tk := ⟨kSign, so ")", .tup [.int 1, .int 40]⟩
noncomputable def tkD (k : Nat) : Tk := ⟨kNum, S [48 + k], .tup [.int 1, .int (11 + 2 * (k : Int))]⟩
noncomputable def rowTs (m : Nat) : List Tk := [tkA, tkO] ++ (List.range m).map tkD ++ [tkC]
theorem rowTs_kw (m : Nat) : (rowTs m).map kw = (kWord, whoAt 0) :: tO :: ((List.range m).map digTok ++ [tC]) := by
 unfold rowTs
 rw [List.map_append, List.map_append, List.map_map]
 rfl
theorem rowTs_hand (m : Nat) : ∀ t ∈ rowTs m, isHanded t.pos = true := by
 intro t ht
 unfold rowTs at ht
 simp only [List.mem_append, List.mem_cons, List.mem_map, List.not_mem_nil, or_false] at ht
 rcases ht with ((rfl | rfl) | ⟨k, _, rfl⟩) | rfl
 ·rfl
 ·rfl
 ·rfl
 ·rfl
theorem str_dig : ∀ k : Fin 10, so (toString ((k.val : Nat) : Int)) = S [48 + k.val] := by decide +kernel
theorem dig_dep (m : Nat) : dLeL [.str (so "ref"), .str (so "A"), .tup [], .tup ((List.range m).map digVal), .none] 5 := by
 have h : ∀ l : List Nat, dLeL (l.map digVal) 4 := fun l => by
  induction l with
  | nil => exact .nil
  | cons x l ih => exact .cons (dLe.tup (.cons .str (.cons (dLe.tup (.cons ⟨0, rfl, Nat.zero_le _⟩ (.cons ⟨0, rfl, Nat.zero_le _⟩ .nil))) .nil))) ih
 exact .cons .str (.cons .str (.cons (dLe.tup .nil) (.cons (dLe.tup (h _)) (.cons .none .nil))))
theorem fault_ne : (so "fault" != so "fault") = false := by decide +kernel
theorem flt_dep : depL [.str (so "fault"), .tup [.int 1, .int 25]] = some 1 := rfl
section
variable {c : Cx} {n : Nat} {ρ : Loc} {H : List AO} {R : V → List AO → Prop} {X : Nat → List AO → Prop}
theorem told_rowTs {j : Nat} (h5 : 5 ≤ m) (h9 : m ≤ 9) (ht : ToksAt H j (rowTs m)) (h1 : m < 8 → ∀ H3, R (.tup [.str (so "ref"), .str (so "A"), .tup [], .tup ((List.range m).map digVal), .none]) H3) (h2 : ¬ m < 8 → ∀ H3, R (.tup [.str (so "fault"), .tup [.int 1, .int 25]]) H3) : CJ c 14 (.ref 669) [.obj j] H R X := by
 by_cases h8 : m < 8
 ·exact told_row_ok names (by walk_at "o") (by walk_at "o") ht (HasT_of (rowTs_kw m)) (by unfold rowTs; simp; walk_at "o") fun H3 _ => h1 h8 H3
 ·rcases (by walk_at "o" : m = 8 ∨ m = 9) with rfl | rfl
  ·exact told_row_many names (r := []) (t := tkD 7) ht (HasT_of (rowTs_kw 8)) (Bal_all rfl) rfl fun H3 _ => h2 h8 H3
  ·exact told_row_many names (r := [digTok 8]) (t := tkD 7) ht (HasT_of (rowTs_kw 9)) (Bal_all (by decide +kernel)) rfl fun H3 _ => h2 h8 H3
theorem E_mono {R' : V → List AO → Prop} (h : EV c n e ρ H R X) (hR : ∀ v H, R v H → R' v H) : EV c n e ρ H R' X := ⟨TrE.mono h.un hR fun _ _ q => q⟩
noncomputable abbrev lawR (a b d e f g i j k : Option V) : Loc := [lo "script" a, lo "tape" b, lo "operand" d, lo "text" e, lo "tokens" f, lo "others" g, lo "many" i, lo "row" j, lo "due" k, gv "list" (.val (.type "list")), gv "_law_operand" (.val (.ref 627)), gv "show_operand" (.val (.ref 421)), gv "_law_show" (.val (.ref 641)), gv "tokens_of" (.val (.ref 339)), gv "Line" (.val (.ref 162)), gv "range" (.val (.type "range")), gv "len" (.val (.builtin "len")), gv "_law_told" (.val (.ref 669)), gv "_law_draw" (.val (.ref 613)), gv "Token" (.val (.ref 192)), gv "tuple" (.val (.type "tuple"))]
theorem law_d {v je : Nat} {He : List AO} {x1 x2 x3 x4 x5 x6 : Option V} (hv : v < 5) (htk : ToksAt He je (rowTs (5 + v))) (h : ∀ H', R (.bool true) H') : XV c 60 ((bodyOf (stAt 85)).drop 11) (lawR x1 x2 x3 x4 x5 x6 (some (.int ((5 + v : Nat) : Int))) (some (.obj je)) none) He (RetP R) X := by
 walk_at "b"
 refine E_comp0 (ρc := []) (compOk (by walk_at "r") trivial trivial) (by walk_at "o") (by walk_at "ir") ?_
 walk_at "range"
 walk_at "w"
 refine ⟨0, ((5 + v : Nat) : Int), .inl ⟨rfl, rfl⟩, by decide, by decide, by walk_at "o", by walk_at "o", ?_⟩
 rw [rangeL_0]
 refine ⟨by rw [lMp, lRa]; simp only [sizeLine]; walk_at "o", fun k acc H5 => Gr [] He H5 ∧ acc = (List.range k).map digVal, ⟨Gr.refl _ _, rfl⟩, ?_, ?_⟩
 ·rintro k y acc H5 hy ⟨g5, rfl⟩ hli
  obtain ⟨hlt, hy⟩ := gsi.mp hy
  rw [List.getElem_map, List.getElem_range] at hy
  subst hy
  walk_at "w"
  refine ⟨⟨g5, ?_⟩, hli⟩
  rw [List.range_succ, List.map_append]
  rfl
 ·rintro acc H5 ⟨g5, rfl⟩ ha2
  rw [lMp, lRa]
  walk_at "w"
  refine C_tupList get_last (by rw [lMp, lRa]; simp only [sizeLine]; walk_at "o") ?_
  have htk2 : ToksAt (H5 ++ [.list ((List.range (5 + v)).map digVal)]) je (rowTs (5 + v)) := htk.gr (g5.push _)
  generalize H5 ++ [AO.list ((List.range (5 + v)).map digVal)] = Hf at htk2 ⊢
  walk_at "w"
  walk_at "a"
  refine C_up (by walk_at "o") (told_rowTs (m := 5 + v) (by walk_at "o") (by walk_at "o") htk2 (fun h8 H13 => ?_) (fun h8 H13 => ?_))
  ·walk_at "w"
   refine ⟨fun _ => ?_, fun q => ?_⟩
   ·walk_at "w"
    obtain ⟨dm, hd1, hd2⟩ := dig_dep (5 + v)
    refine A_tupEq hd1 (by walk_at "o") ?_
    exact h _
   ·exfalso
    rw [decide_eq_false_iff_not] at q
    walk_at "o"
  ·walk_at "w"
   refine ⟨fun q => ?_, fun _ => ?_⟩
   ·exfalso
    rw [decide_eq_true_eq] at q
    walk_at "o"
   ·walk_at "w"
    refine A_tupEq flt_dep (by decide) ?_
    exact h _
theorem law_c {v jr : Nat} {Hz : List AO} {lr : List V} {x1 x2 x3 x4 x5 x6 : Option V} (hv : v < 5) (hr1 : TLs Hz lr [tkA, tkO]) (hr2 : Hz[jr]? = some (.list lr)) (h : ∀ H', R (.bool true) H') : XV c 60 ((bodyOf (stAt 85)).drop 10) (lawR x1 x2 x3 x4 x5 x6 (some (.int ((5 + v : Nat) : Int))) (some (.obj jr)) none) Hz (RetP R) X := by
 walk_at "b"
 refine E_comp0 (ρc := [gv "Token" (.val (.ref 192)), gv "str" (.val (.type "str"))]) (compOk (by walk_at "r") ⟨g_Token, g_str, trivial⟩ trivial) (by walk_at "o") (by walk_at "ir") ?_
 walk_at "range"
 walk_at "w"
 refine ⟨0, ((5 + v : Nat) : Int), .inl ⟨rfl, rfl⟩, by decide, by decide, by walk_at "o", by walk_at "o", ?_⟩
 rw [rangeL_0]
 refine ⟨by rw [lMp, lRa]; simp only [sizeLine]; walk_at "o", fun k acc H5 => Gr [] Hz H5 ∧ TLs H5 acc ((List.range k).map tkD), ⟨Gr.refl _ _, TLs.nil⟩, ?_, ?_⟩
 ·rintro k y acc H5 hy ⟨g5, hacc⟩ hli
  obtain ⟨hlt, hy⟩ := gsi.mp hy
  rw [List.getElem_map, List.getElem_range] at hy
  rw [lMp, lRa] at hlt
  subst hy
  walk_at "w"
  refine C_strInt (by rw [Int.natAbs_natCast]; have : k.log2 < 10 := (by by_cases h0 : k = 0; (subst h0; decide); exact (Nat.log2_lt h0).mpr (by walk_at "o")); walk_at "o") ?_
  rw [str_dig ⟨k, by walk_at "o"⟩]
  walk_at "w"
  refine C_up (by walk_at "o") (c_Token3 ?_)
  refine ⟨⟨g5.push _, ?_⟩, fun j' e => by cases e⟩
  rw [List.range_succ, List.map_append]
  exact TLs.app (hacc.gr (Gr.push0 _)) (.one (t := tkD k) get_last)
 ·rintro acc H5 ⟨g5, hacc⟩ ha2
  rw [lMp, lRa] at hacc
  have hal : acc.length = 5 + v := by rw [hacc.1, lMp, lRa]
  have hlr : lr.length = 2 := hr1.1
  refine A_listAdd ((g5.push _).get0 hr2) get_last (by simp only [sizeLine]; walk_at "o") ?_
  walk_at "w"
  have hB : (H5 ++ [AO.list acc] ++ [AO.list (lr ++ acc)])[(H5 ++ [AO.list acc]).length]? = some (.list (lr ++ acc)) := get_last
  have hT : TLs (H5 ++ [AO.list acc] ++ [AO.list (lr ++ acc)]) (lr ++ acc) ([tkA, tkO] ++ (List.range (5 + v)).map tkD) := TLs.app (hr1.gr ((g5.push _).push _)) (hacc.gr (((Gr.refl [] H5).push _).push _))
  have hL : (lr ++ acc).length = 7 + v := by rw [lAp]; walk_at "o"
  generalize (H5 ++ [AO.list acc]).length = jb at hB ⊢
  generalize H5 ++ [AO.list acc] ++ [AO.list (lr ++ acc)] = Hb at hB hT ⊢
  generalize lr ++ acc = lb at hB hT hL ⊢
  refine C_up (by walk_at "o") (c_Token3 ?_)
  walk_at "w"
  refine A_listAdd (((Gr.refl [] Hb).push _ |>.push _).get0 hB) get_last (by rw [hL]; simp only [sizeLine, lCo, lNi]; walk_at "o") ?_
  have hE : TLs (Hb ++ [AO.inst 192 (tkF tkC (V.bool false))] ++ [AO.list [V.obj Hb.length]] ++ [AO.list (lb ++ [V.obj Hb.length])]) (lb ++ [V.obj Hb.length]) (rowTs (5 + v)) := TLs.app (hT.gr (((Gr.refl [] Hb).push _).push _ |>.push _)) (.one (((Gr.refl [] _).push _ |>.push _).get0 get_last))
  have hF : (Hb ++ [AO.inst 192 (tkF tkC (V.bool false))] ++ [AO.list [V.obj Hb.length]] ++ [AO.list (lb ++ [V.obj Hb.length])])[(Hb ++ [AO.inst 192 (tkF tkC (V.bool false))] ++ [AO.list [V.obj Hb.length]]).length]? = some (.list (lb ++ [V.obj Hb.length])) := get_last
  show ∃ ρ1, Put _ _ (V.obj (Hb ++ [AO.inst 192 (tkF tkC (V.bool false))] ++ [AO.list [V.obj Hb.length]]).length) ρ1 ∧ XV c 60 _ ρ1 (Hb ++ [AO.inst 192 (tkF tkC (V.bool false))] ++ [AO.list [V.obj Hb.length]] ++ [AO.list (lb ++ [V.obj Hb.length])]) (RetP R) X
  generalize (Hb ++ [AO.inst 192 (tkF tkC (V.bool false))] ++ [AO.list [V.obj Hb.length]]).length = je at hF ⊢
  generalize Hb ++ [AO.inst 192 (tkF tkC (V.bool false))] ++ [AO.list [V.obj Hb.length]] ++ [AO.list (lb ++ [V.obj Hb.length])] = He at hE hF ⊢
  have htk : ToksAt He je (rowTs (5 + v)) := .of ⟨_, hF, hE.1, hE.2⟩ (by rw [← hE.1, lAp, hL]; simp only [lCo, lNi]; walk_at "o") (rowTs_hand _)
  clear hF hE hB hT hL hr1 hr2 hacc ha2 hal hlr g5
  walk_at "asg"
  with_unfolding_all exact law_d hv htk h
theorem law_b {tj cj : Nat} {H11 : List AO} {x1 x3 x4 x5 x6 : Option V} (ht11 : TapeAt H11 tj cj) (h : ∀ H', R (.bool true) H') : XV c 60 ((bodyOf (stAt 85)).drop 8) (lawR x1 (some (.obj tj)) x3 x4 x5 x6 none none none) H11 (RetP R) X := by
 walk_at "b"
 refine C_up (by walk_at "o") (c_draw (m := 5) rfl (by decide) (by decide) ht11 fun H12 v hv _ _ => ?_)
 walk_at "w"
 rw [show (5 : Int) + (v : Int) = ((5 + v : Nat) : Int) by walk_at "o"]
 walk_at "asg"
 clear ht11
 walk_at "s"
 refine C_up (by walk_at "o") (c_Token3 ?_)
 walk_at "w"
 refine C_up (by walk_at "o") (c_Token3 ?_)
 walk_at "w"
 walk_at "asg"
 obtain ⟨Hx, hHx⟩ : ∃ Hx, Hx = (H12 ++ [AO.inst 192 (tkF { kind := so "word", worth := so "A", pos := V.tup [V.int 1, V.int 8] } (V.bool false))]) := ⟨_, rfl⟩
 rw [← hHx]
 have hA : Hx[H12.length]? = some (AO.inst 192 (tkF tkA (V.bool false))) := by rw [hHx]; exact get_last
 obtain ⟨Hy, hHy⟩ : ∃ Hy, Hy = (Hx ++ [AO.inst 192 (tkF { kind := so "sign", worth := so "(", pos := V.tup [V.int 1, V.int 10] } (V.bool false))]) := ⟨_, rfl⟩
 rw [← hHy]
 have hO : Hy[Hx.length]? = some (AO.inst 192 (tkF tkO (V.bool false))) := by rw [hHy]; exact get_last
 have gxy : Gr [] Hx Hy := by rw [hHy]; exact Gr.push0 _
 have hr1 : TLs (Hy ++ [.list [V.obj H12.length, V.obj Hx.length]]) [V.obj H12.length, V.obj Hx.length] [tkA, tkO] := TLs.app (.one ((Gr.push0 _).get0 (gxy.get0 hA))) (.one ((Gr.push0 _).get0 hO))
 have hr2 : (Hy ++ [AO.list [V.obj H12.length, V.obj Hx.length]])[Hy.length]? = some (.list [V.obj H12.length, V.obj Hx.length]) := get_last
 generalize [V.obj H12.length, V.obj Hx.length] = lr at hr1 hr2 ⊢
 generalize Hy.length = jr at hr2 ⊢
 generalize Hy ++ [AO.list lr] = Hz at hr1 hr2 ⊢
 clear hO hHy gxy hA hHx
 with_unfolding_all exact law_c hv hr1 hr2 h
theorem law_7 {o : Op} {j tj cj : Nat} {ts : List Tk} {H10 : List AO} {x1 x3 x6 : Option V} (ho : o.fit 3) (hf : o.few) (hT1 : o.text.length ≤ 390625) (hT2 : o.text ≠ []) (hl6 : ts.length ≤ o.text.length) (htk0 : ToksAt H10 j ts) (hkw : ts.map kw = o.toks OFs) (ht10 : TapeAt H10 tj cj) (h : ∀ H', R (.bool true) H') : XV c 60 ((bodyOf (stAt 85)).drop 7) (lawR x1 (some (.obj tj)) x3 (some (.str (S o.text))) (some (.obj j)) x6 none none none) H10 (RetP R) X := by
 have htl : TL H10 j ts := htk0.ex
 have hlen7 := htk0.small
 have hpos := htk0.hand
 walk_at "body"
 walk_at "st"
 refine B_mono (RB := fun q H11 => q = false ∧ Gr [] H10 H11) ?_ (fun q H11 hq11 => ?_)
 ·have g69 := Gr.refl [] H10
  obtain ⟨ch, hch⟩ : ∃ ch, o.text.getLast? = some ch := by
   cases hl : o.text.getLast? with
   | none => exact absurd (List.getLast?_eq_none_iff.mp hl) hT2
   | some ch => exact ⟨ch, rfl⟩
  walk_at "w"
  refine S_strLast (ch := ch) (by rw [S_cps]; exact hch) (by rw [S_len]; walk_at "o") ?_
  walk_at "w"
  refine s_chEqK (b := 41) (by decide +kernel) ?_
  refine ⟨_, rfl, fun hq => ⟨rfl, g69⟩, fun hq => ?_⟩
  have hch' : o.text.getLast? = some 41 := by rw [hch, beq_iff_eq.mp hq]
  obtain ⟨w, k, rows, part, rfl, hcase⟩ := last_ref hch'
  unfold Op.fit at ho
  walk_at "bv"
  walk_at "bv"
  walk_at "ev"
  walk_at "ev"
  apply L_cons (by walk_at "r")
  apply s_slL_last
  walk_at "w"
  obtain ⟨tl2, e1, e2, e3⟩ := htl.gr g69
  refine ⟨rfl, tl2, e1, by rw [e2]; simp only [sizeLine]; walk_at "o", ?_⟩
  have htl2 : TL (H10 ++ [.list tl2.dropLast]) H10.length ts.dropLast := TL.dropLast e2 (fun k t hk => by
   obtain ⟨o1, b1, h1, h2⟩ := e3 k t hk
   exact ⟨o1, b1, h1, (Gr.push0 _).get0 h2⟩) get_last
  have htk2 : ToksAt (H10 ++ [.list tl2.dropLast]) H10.length ts.dropLast := .of htl2 (by rw [List.length_dropLast]; walk_at "o") (fun t ht' => hpos t ((List.dropLast_sublist ts).subset ht'))
  have g610 : Gr [] H10 (H10 ++ [.list tl2.dropLast]) := g69.push _
  generalize H8' : H10.length = j10 at htk2 ⊢
  generalize H10 ++ [.list tl2.dropLast] = H11 at htk2 g610 ⊢
  walk_at "w"
  have cut : ∀ L, ts.map kw = L ++ [tC] → HasT ts.dropLast 0 L ∧ ts.dropLast.length = L.length := fun L e => by
   have e4 : ts.dropLast.map kw = L := by rw [List.map_dropLast, e, List.dropLast_concat]
   exact ⟨HasT_of e4, by rw [← e4, lMp]⟩
  rcases hcase with ⟨rfl, e, r, rfl⟩ | hne
  ·obtain ⟨c1, c2⟩ := cut ((kWord, whoAt w) :: (qualT (quals OFs k) ++ (tO :: (Exs.cons e r).toks OFs r.anySg))) (by
    rw [hkw, Op.toks_ref, Pt.toks, List.append_nil]
    unfold subT
    rw [List.cons_append, aAs, List.cons_append])
   refine C_up (by walk_at "o") (told_cut1 (J := OFs) (d := 2) (by decide +kernel) names ho.2.1 (show _ < 7 from Nat.lt_succ_of_le hf) htk2 c1 c2 fun y H12 g12 => ?_)
   walk_at "w"
   refine A_strNotEq ?_
   rw [fault_ne]
   exact ⟨_, rfl, fun _ => ⟨rfl, g610.tr g12⟩, fun q => by cases q⟩
  ·obtain ⟨c1, c2⟩ := cut ((kWord, whoAt w) :: (qualT (quals OFs k) ++ (subT OFs rows ++ partCut OFs part))) (by
    rw [hkw, Op.toks_ref, partCut_eq _ _ hne, List.cons_append, aAs, aAs])
   refine C_up (by walk_at "o") (told_cut2 (J := OFs) (d := 2) (by decide +kernel) names ho.2.1 ho.2.2 hne ho.1 htk2 c1 c2 fun y H12 g12 => ?_)
   walk_at "w"
   refine A_strNotEq ?_
   rw [fault_ne]
   exact ⟨_, rfl, fun _ => ⟨rfl, g610.tr g12⟩, fun q => by cases q⟩
 ·obtain ⟨rfl, g11⟩ := hq11
  exact ⟨fun q => (by cases q), fun _ => by with_unfolding_all exact law_b (ht10.gr g11) h⟩
theorem law_5 {o : Op} {j tj cj vd : Nat} {vl : List V} {ts : List Tk} {H7 : List AO} {x1 : Option V} (ho : o.fit 3) (hf : o.few) (hT1 : o.text.length ≤ 390625) (hT2 : o.text ≠ []) (hvl : o.toV = .tup vl) (hvd : depL vl = some vd) (hvd2 : vd ≤ 10) (hl6 : ts.length ≤ o.text.length) (htk0 : ToksAt H7 j ts) (hkw : ts.map kw = o.toks OFs) (ht7 : TapeAt H7 tj cj) (h : ∀ H', R (.bool true) H') : XV c 60 ((bodyOf (stAt 85)).drop 5) (lawR x1 (some (.obj tj)) (some (.tup vl)) (some (.str (S o.text))) (some (.obj j)) none none none none) H7 (RetP R) X := by
 have htl : TL H7 j ts := htk0.ex
 have hlen7 := htk0.small
 have hpos := htk0.hand
 walk_at "body"
 obtain ⟨tl, e1, e2, e3⟩ := htl
 refine X_comp0 (ρc := [gv "Token" (.val (.ref 192))]) (compOk (by walk_at "r") ⟨g_Token, trivial⟩ trivial) (by walk_at "o") (by walk_at "ir") (by walk_at "r") (by walk_at "r") ⟨_, by walk_at "mem"⟩ ?_
 apply I_list
 walk_at "w"
 refine ⟨j, tl, rfl, e1, by rw [e2]; simp only [sizeLine]; walk_at "o", fun k acc H8 => Gr [] H7 H8 ∧ acc.length = k ∧ ∀ (m : Nat) (t : Tk), m < k → ts[m]? = some t → ∃ (o : Nat) (b : V), acc[m]? = some (.obj o) ∧ H8[o]? = some (.inst 192 (tkF (inTk t) b)), ⟨Gr.refl _ _, rfl, fun m t hm => absurd hm (Nat.not_lt_zero _)⟩, ?_, ?_⟩
 ·rintro k y acc H8 hy ⟨g8, hk, hacc⟩ hli
  have hlt := (gsi.mp hy).1
  obtain ⟨t, ht0⟩ : ∃ t, ts[k]? = some t := ⟨_, gEg (by walk_at "o")⟩
  obtain ⟨ob, b, e4, e5⟩ := e3 k t ht0
  obtain rfl : V.obj ob = y := by rw [e4] at hy; exact Option.some.inj hy
  have e6 := g8.get0 e5
  have hpt := hpos t (mOg ht0)
  have step : ∀ (H9 : List AO) (ob' : Nat) (b' : V), Gr [] H8 H9 → H9[ob']? = some (.inst 192 (tkF (inTk t) b')) → (Gr [] H7 H9 ∧ (acc ++ [V.obj ob']).length = k + 1 ∧ ∀ (m : Nat) (t : Tk), m < k + 1 → ts[m]? = some t → ∃ (o : Nat) (b : V), (acc ++ [V.obj ob'])[m]? = some (.obj o) ∧ H9[o]? = some (.inst 192 (tkF (inTk t) b))) ∧ LiOk (some j) tl H9 := by
   intro H9 ob' b' g9 h9
   refine ⟨⟨g8.tr g9, by simp [hk], fun m t' hm hmt => ?_⟩, fun j' e => by cases e; exact (g8.tr g9).get0 e1⟩
   rcases Nat.lt_or_ge m k with hm2 | hm2
   ·obtain ⟨o1, b1, e7, e8⟩ := hacc m t' hm2 hmt
    exact ⟨o1, b1, by rw [gAl (by walk_at "o")]; exact e7, g9.get0 e8⟩
   ·obtain rfl : m = k := by walk_at "o"
    obtain rfl : t' = t := by rw [ht0] at hmt; exact (Option.some.inj hmt).symm
    exact ⟨ob', b', by rw [gAr (by walk_at "o"), hk, Nat.sub_self]; rfl, h9⟩
  walk_at "w"
  walk_at "at"
  walk_at "w"
  refine A_strEq ?_
  refine ⟨_, rfl, fun hq => ?_, fun hq => ?_⟩
  ·walk_at "w"
   walk_at "at"
   walk_at "w"
   refine C_up (by walk_at "o") (c_Token3 ?_)
   refine step _ _ (.bool false) (Gr.push0 _) ?_
   unfold inTk
   rw [if_pos hq]
   exact get_last
  ·walk_at "w"
   refine step _ _ b (Gr.refl _ _) ?_
   unfold inTk
   rw [hq]
   exact e6
 ·rintro acc H8 ⟨g8, hk, hacc⟩ ha
  have htl8 : TL (H8 ++ [.list acc]) H8.length (ts.map inTk) := ⟨acc, get_last, by rw [hk, lMp, e2], fun k t hk2 => by
   rw [List.getElem?_map] at hk2
   obtain ⟨t0, h0, rfl⟩ := Option.map_eq_some_iff.mp hk2
   obtain ⟨o1, b1, e7, e8⟩ := hacc k t0 (by rw [e2]; exact (gsi.mp h0).1) h0
   exact ⟨o1, b1, e7, (Gr.push0 _).get0 e8⟩⟩
  have g9 : Gr [] H7 (H8 ++ [.list acc]) := g8.push _
  have htk8 : ToksAt (H8 ++ [.list acc]) H8.length (ts.map inTk) := .of htl8 (by rw [lMp]; exact hlen7) (fun t ht' => by
   obtain ⟨t0, h0, rfl⟩ := List.mem_map.mp ht'
   rw [in_pos]; exact hpos t0 h0)
  generalize H8.length = j8 at htk8 ⊢
  generalize H8 ++ [.list acc] = H9 at htk8 g9 ⊢
  clear htl8 hacc hk ha g8 e3 e2 e1
  walk_at "a"
  refine C_up (by walk_at "o") (told_ok (J := INs) (by decide +kernel) names ho htk8 (HasT_of (by rw [map_in, hkw, Op.inT])) (by rw [← Op.inT, ← hkw, lMp, lMp, lMp]) fun H10 g10 => ?_)
  walk_at "w"
  rw [hvl]
  refine A_tupNe hvd (by walk_at "o") ?_
  walk_at "w"
  walk_at "if"
  with_unfolding_all exact law_7 ho hf hT1 hT2 hl6 (htk0.gr (g9.tr g10)) hkw (ht7.gr (g9.tr g10)) h
theorem c_law {sa : Nat} {cs : List Int} (hb : ∃ vs : List Value, c.base.IsList sa vs.toArray ∧ RepL c.base [] (cs.map V.int) vs) (hlen : cs.length ≤ 1000) (h : ∀ H', R (.bool true) H') : CJ c 61 (.ref 674) [.val (.ref sa)] H R X := by
 obtain ⟨vs, hb1, hb2⟩ := hb
 apply p_law
 walk_at "body"
 walk_at "st"
 refine E_mono (R := fun v H2 => ∃ tj cj, v = .obj tj ∧ TapeAt H2 tj cj) ?_ (fun v H2 hv => ?_)
 ·have tape : ∀ (H2 : List AO) (cj : Nat) (ds : List Int), H2[cj]? = some (.list (ds.map V.int)) → ds ≠ [] → ds.length ≤ 60 → TapeAt (H2 ++ [.list [.obj cj, .int 0]]) H2.length cj := fun H2 cj ds e1 e2 e3 => ⟨ds, 0, get_last, (Gr.push0 _).get0 e1, e2, e3⟩
  have hl60 : ((cs.map V.int).take 60).length ≤ 60 := by rw [List.length_take]; walk_at "o"
  apply E_list
  apply L_cons (by walk_at "r")
  apply E_orE
  walk_at "ev"
  apply L_cons (by walk_at "r")
  apply s_slBase
  walk_at "w"
  refine ⟨sa, vs, _, rfl, hb1, hb2, ?_⟩
  walk_at "w"
  refine ⟨by rw [lMp]; simp only [sizeLine]; walk_at "o", ?_⟩
  walk_at "w"
  refine C_listList get_last (by simp only [sizeLine]; walk_at "o") ?_
  generalize H ++ [AO.list (List.take 60 (List.map V.int cs))] = H1
  refine ⟨_, tru_list get_last (Nat.lt_of_le_of_lt hl60 (by decide)), fun hq => ?_, fun hq => ?_⟩
  ·walk_at "w"
   refine ⟨_, H1.length, rfl, ?_⟩
   rw [← List.map_take] at hq ⊢
   refine tape _ H1.length (cs.take 60) get_last ?_ (by rw [List.length_take]; walk_at "o")
   intro q
   rw [q] at hq
   cases hq
  ·walk_at "w"
   exact ⟨_, _, rfl, tape _ _ [0] get_last (by simp) (by decide)⟩
 ·obtain ⟨tj, cj, rfl, ht⟩ := hv
  walk_at "a"
  refine C_up (by walk_at "o") (gen_all _ _ _ _ _ _ rfl ht fun H3 o ho hf g3 ht3 => ?_)
  walk_at "a"
  obtain ⟨hT1, hT2, hsh⟩ := op_sh c 3 (by walk_at "o") o ho
  refine hsh.up (by walk_at "o") _ _ _ fun H4 g4 => ?_
  walk_at "a"
  have hTs : o.text.length ≤ 390625 := hT1
  refine E_comp0 (ρc := []) (compOk (by walk_at "r") trivial trivial) (by walk_at "o") (by walk_at "ir") ?_
  walk_at "range"
  walk_at "w"
  refine C_lenS (by walk_at "o") ?_
  walk_at "w"
  refine ⟨0, (o.text.length : Int), .inl ⟨rfl, rfl⟩, by decide, by decide, by walk_at "o", by walk_at "o", ?_⟩
  rw [rangeL_0]
  refine ⟨by rw [lMp, lRa]; simp only [sizeLine]; walk_at "o", fun k acc H5 => H5 = H4 ∧ acc = (List.range k).map fun j : Nat => V.tup [.int 1, .int (8 + (j : Int))], ⟨rfl, rfl⟩, ?_, ?_⟩
  ·rintro k y acc H5 hy ⟨rfl, rfl⟩ hli
   obtain ⟨hlt, hy⟩ := gsi.mp hy
   rw [List.getElem_map, List.getElem_range] at hy
   subst hy
   walk_at "w"
   refine ⟨⟨rfl, ?_⟩, hli⟩
   rw [List.range_succ, List.map_append]
   rfl
  ·rintro acc H5 ⟨rfl, rfl⟩ ha
   rw [lMp, lRa]
   walk_at "w"
   refine C_up (by walk_at "o") (c_Line ?_)
   walk_at "w"
   generalize hpl : (List.range o.text.length).map (fun j : Nat => V.tup [.int 1, .int (8 + (j : Int))]) = pl
   have hp : PlAt (H5 ++ [.list pl]) H5.length o.text.length := ⟨pl, get_last, fun k hk => ⟨1, 8 + (k : Int), by rw [← hpl, List.getElem?_map, List.getElem?_range hk]; rfl⟩⟩
   refine C_up (by walk_at "o") (c_tokens_of (op_lx o) (by simp only [sizeLine]; walk_at "o") get_last ((Gr.push0 _).get0 get_last) ?_ fun H6 j ts g6 htl hkw hh hlen6 => ?_)
   ·obtain ⟨pl', h1, h2⟩ := hp
    exact ⟨pl', (Gr.push0 _).get0 ((Gr.push0 _).get0 h1), h2⟩
   have g56 : Gr [] H5 H6 := ((((Gr.refl [] H5).push _).push _).push _).tr g6
   have ht6 : TapeAt H6 tj cj := (ht3.gr g4).gr g56
   clear g56 g6 hp hpl ht ht3 g3 g4 hsh
   have hlen7 : ts.length < 2 ^ 40 := by walk_at "o"
   have htk : ToksAt H6 j ts := .of htl hlen7 hh
   obtain ⟨vl, hvl, hdl⟩ := op_dep 3 o ho
   obtain ⟨vd, hvd, hvd2⟩ := hdl
   walk_at "a"
   refine C_up (by walk_at "o") (told_ok (J := OFs) (by decide +kernel) names ho htk (HasT_of hkw) (by rw [← hkw, lMp]) fun H7 g7 => ?_)
   walk_at "w"
   rw [hvl]
   refine A_tupNe hvd (by walk_at "o") ?_
   walk_at "w"
   walk_at "if"
   with_unfolding_all exact law_5 ho hf hTs hT2 hvl hvd hvd2 hlen6 (htk.gr g7) hkw (ht6.gr g7) h
end
theorem repl_ints : ∀ {vs : List Value} {ns : List Int}, IntsAre vs ns → RepL h μ (ns.map V.int) vs
 | _, _, .nil => rfl
 | _, _, .cons i t r => ⟨_, _, rfl, ⟨t, rfl⟩, repl_ints r⟩
theorem g_law : GOk c (so "law") (.val (.ref 674)) := gok_g (fun P => by kernel_rfl)
theorem walk : WalkT := by
 intro w s₁ mg mb fa sa vs ns hK hg hb hnl hbi hlaw hl hi hn Q E hQ
 let c : Cx := { w := w, base := s₁.heap, mg := mg, mb := mb, X := hK, g := hg, b := hb, nl := hnl, bi := hbi }
 have hfa : (Value.ref fa) = .ref 674 := by
  obtain ⟨v, hv, rv⟩ := g_law (c := c)
  have rv' : v = .ref 674 := rv
  subst rv'
  rcases hv with hv | hv
  ·have : mg (so "law") = some (.ref 674) := hv
   rw [hlaw] at this
   exact Option.some.inj this
  ·have : mg (so "law") = none := hv.1
   rw [hlaw] at this
   cases this
 rw [hfa]
 have J := (c_law (c := c) (H := []) (R := fun v _ => v = .bool true) (X := fun _ _ => False) (sa := sa) (cs := ns) ⟨vs, hl, repl_ints hi⟩ (by walk_at "o") (fun _ => rfl)).un
 refine J callerA [] [] s₁ [.ref sa] ⟨by decide, by decide, .inr rfl⟩ rfl ?_ ?_ Q E ?_ ?_
 ·exact ⟨fun _ _ e => e, trivial, rfl, fun i o a h1 => by simp at h1, .nil, fun L hL => by simp at hL, fun b hb => by obtain ⟨a, ha, _⟩ := hb; simp at ha, fun L hL => by simp at hL⟩
 ·exact ⟨_, _, rfl, rfl, rfl⟩
 ·intro x H' μ' v s' hx ex S' r
  subst hx
  have rv : v = .bool true := r
  subst rv
  refine hQ s' (fun b o e => ?_) ex.rest.1 ex.rest.2.2
  exact ex.keep.get e (fun h => h.elim (fun ⟨a, ha, _⟩ => by simp at ha) id) (fun h => by unfold InFr at h; simp at h)
 ·intro i H' μ' v s' hx
  exact hx.elim
end Mine
theorem PySem.Challenge.cw_og0102_01_holds : PySem.Challenge.rw_og0102_01.Holds :=
 Mine.hd Mine.said Mine.walk
