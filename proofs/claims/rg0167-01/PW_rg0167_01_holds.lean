import PyProof.Rows.All
import Wide.All
import OpenK.AllK
import Wide.FinOn
import PySem.Challenge.RW_rg0167_01
set_option Elab.async false
set_option maxRecDepth 100000
set_option maxHeartbeats 8000000
set_option linter.unusedVariables false
set_option linter.unusedSimpArgs false
set_option genSizeOf false
set_option genInjectivity false
set_option bootstrap.genMatcherCode false
section
open PySem PySem.W PyProof.Rows
namespace Mine
noncomputable abbrev S (s : String) : Str := Str.ofString s
noncomputable abbrev pw : Program := PySem.Challenge.pw_rg0167_01
noncomputable def noSt : Stmt := .Pass ⟨0,0,0,0⟩
noncomputable def fa (i : Nat) : Stmt := (pw.main.body[i]?).getD noSt
noncomputable def fm (i j : Nat) : Stmt := match fa i with
  | .ClassDef _ _ _ b .. => (b[j]?).getD noSt
  | _ => noSt
noncomputable def en (P : Params) (x : Str) (t : Nat) (v : Value) : DictEntry := ⟨PyData.keyHash P x,.str x t,v⟩
noncomputable def fd (st : Stmt) (q : Str) (dV kV doc pm cd ct : Value) : FuncData := match st with
  | .FunctionDef n args body _ _ _ sc _ _ _ => { name := n,qualname := q,params := args,body := .stmts body,scope := sc,globals := mainGlobals,closure := [],defaults := dV,kwdefaults := kV,doc,pyModule := pm,annotations := none,code := cd,closureTuple := ct,builtins := builtinsNs }
  | _ => default
noncomputable def kCo (a : Nat) (n q : String) (t : Nat) (l c x : Int) : Obj := ⟨.type "code",none,.fields #[.str (S n) t,.str (S q) (t + 1),.str (S "/claim/cut.py") (t + 2),.int l 0,.int c 0,.int 0 0,.int 0 0,.int 3 0,.ref (a - 5),.bool true,.int 181 0,.ref (a - 4),.none,.ref (a - 3),.ref (a - 2),.ref (a - 1),.int x 0,.int l 0,.str (S "/claim/cut.py") (x.toNat + 1)],#[]⟩
noncomputable def kC1 (a : Nat) (n : String) (t : Nat) (l c x : Int) : Obj := kCo a n n t l c x
noncomputable def kFo (a : Nat) (st : Stmt) (q : String) (dV : Value) (m : String) (t : Nat) : Obj := ⟨.type "function",none,.func (fd st (S q) dV .none .none (.str (S m) t) (.ref (a - 1)) .none),#[]⟩
noncomputable def kCl (a : Nat) (n : String) (t u : Nat) : Obj := ⟨.type "type",none,.cls { name := S n,bases := [.type "object"],mro := [.ref a,.type "object"],ns := a - 1,qualname := S n,hasDict := true,slotNames := [],subclasses := [],abstract := false,collection := none,hasDel := false },#[none,none,some (.str (S n) t),some (.str (S n) u),some (.builtin "object.__new__"),some (.bool true)]⟩
noncomputable def K (P : Params) : Frag :=
  let e := fun (x : String) => en P (S x)
  [(3,⟨.type "dict",none,(.dict #[e "__name__" 165 (.str (S "law_rg0167_01") 1665),e "__doc__" 166 (.none),e "__package__" 167 (.none),e "__loader__" 168 (.builtin "__main__.__loader__#opaque"),e "__spec__" 169 (.none),e "__annotations__" 170 (.ref 6),e "__builtins__" 171 (.ref 4),e "__file__" 173 (.str (S "/claim/cut.py") 172),e "__cached__" 174 (.none),e "_wall" 193 (.ref 21),e "PageError" 223 (.ref 39),e "BadArgument" 239 (.ref 52),e "Overflow" 255 (.ref 64),e "BadFont" 271 (.ref 76),e "TooDeep" 287 (.ref 88),e "UNITY" 291 (.int 65536 290),e "MAX_DIMEN" 297 (.int 1073741823 296),e "MAX_NUMBER" 303 (.int 2147483647 302),e "INF_BAD" 305 (.int 10000 304),e "NORMAL" 310 (.int 0 306),e "FIL" 311 (.int 1 307),e "FILL" 312 (.int 2 308),e "FILLL" 313 (.int 3 309),e "is_whole" 322 (.ref 101),e "check_whole" 329 (.ref 108),e "check_number" 336 (.ref 115),e "check_dimen" 343 (.ref 122),e "rounded" 351 (.ref 129),e "reading" 359 (.ref 136),e "decimal_text" 372 (.ref 143),e "times" 381 (.ref 150),e "times_scaled" 382 (.ref 150),e "over" 392 (.ref 157),e "over_scaled" 393 (.ref 157),e "badness" 402 (.ref 164),e "order_text" 409 (.ref 171),e "part_text" 418 (.ref 178),e "Glue" 520 (.ref 246),e "top_order" 528 (.ref 257),e "Totals" 595 (.ref 309),e "CHAR" 606 (.int 0 598),e "LIGATURE" 607 (.int 1 599),e "HBOX" 608 (.int 2 600),e "VBOX" 609 (.int 3 601),e "RULE" 610 (.int 4 602),e "KERN" 611 (.int 5 603),e "GLUE" 612 (.int 6 604),e "PENALTY" 613 (.int 7 605),e "DISC" 621 (.int 8 614),e "MARK" 622 (.int 9 615),e "INSERT" 623 (.int 10 616),e "ADJUST" 624 (.int 11 617),e "MATH" 625 (.int 12 618),e "SPECIAL" 626 (.int 13 619),e "UNSET" 627 (.int 14 620),e "NATURAL" 631 (.int 0 628),e "STRETCHED" 632 (.int 1 629),e "SHRUNK" 633 (.int 2 630),e "FONT_KERN" 638 (.int 0 634),e "EXPLICIT" 639 (.int 1 635),e "ACCENT_KERN" 640 (.int 2 636),e "MU_KERN" 641 (.int 3 637),e "PLAIN" 649 (.int 0 642),e "ALEADERS" 650 (.int 1 643),e "CLEADERS" 651 (.int 2 644),e "XLEADERS" 652 (.int 3 645),e "MU_SKIP" 653 (.int 4 646),e "NONSCRIPT" 654 (.int 5 647),e "NAMED" 655 (.int 100 648),e "DEEPEST" 657 (.int 60 656),e "check_code" 664 (.ref 340),e "check_short" 672 (.ref 347),e "Char" 704 (.ref 364),e "Ligature" 736 (.ref 384),e "Box" 777 (.ref 405),e "Rule" 812 (.ref 426),e "Kern" 844 (.ref 447),e "Skip" 878 (.ref 469),e "Penalty" 908 (.ref 490),e "Disc" 942 (.ref 511),e "Mark" 972 (.ref 532),e "Insert" 1012 (.ref 553),e "Adjust" 1042 (.ref 574),e "MathEdge" 1074 (.ref 595),e "Special" 1105 (.ref 616),e "Unset" 1147 (.ref 638),e "check_depth" 1154 (.ref 649),e "described_rest" 1165 (.ref 656),e "described" 1172 (.ref 662),e "described_list" 1179 (.ref 668),e "width_of" 1185 (.ref 673),e "height_of" 1191 (.ref 678),e "depth_of" 1197 (.ref 683),e "line_height" 1204 (.ref 690),e "line_depth" 1211 (.ref 697),e "EXACTLY" 1216 (.int 0 1214),e "SPREAD" 1217 (.int 1 1215),e "FINE" 1222 (.int 0 1218),e "LOOSE" 1223 (.int 1 1219),e "TIGHT" 1224 (.int 2 1220),e "OVERFULL" 1225 (.int 3 1221),e "natural_line" 1236 (.ref 712),e "across" 1243 (.ref 719),e "check_column" 1251 (.ref 726),e "natural_column" 1262 (.ref 733),e "quotient" 1270 (.ref 740),e "set_glue" 1281 (.ref 747),e "flex" 1289 (.ref 754),e "set_part" 1297 (.ref 761),e "glue_size" 1307 (.ref 768),e "part_size" 1315 (.ref 775),e "places" 1326 (.ref 782),e "moved" 1336 (.ref 789),e "goal_size" 1345 (.ref 796),e "set_box" 1355 (.ref 803),e "hpack" 1373 (.ref 811),e "vpack" 1389 (.ref 819),e "EDGE" 1393 (.int 256 1392),e "MOST_FONTS" 1395 (.int 255 1394),e "MOST_PARAMS" 1397 (.int 64 1396),e "MOST_SIZE" 1403 (.int 134217727 1402),e "PLAIN_SORT" 1408 (.int 0 1404),e "PROGRAM_SORT" 1409 (.int 1 1405),e "LARGER_SORT" 1410 (.int 2 1406),e "PIECES_SORT" 1411 (.int 3 1407),e "STOP_SKIP" 1415 (.int 128 1412),e "KERN_OP" 1416 (.int 128 1413),e "LEAD" 1417 (.int 255 1414),e "NO_CHARACTER" 1424 (.ref 828),e "LETTERS" 1426 (.str (S "abcdefghjklmnopqrstuvwxyz") 1425),e "SMALL_PARAMS" 1434 (.ref 829),e "is_size" 1441 (.ref 836),e "check_sizes" 1449 (.ref 843),e "check_pieces" 1459 (.ref 850),e "check_chars" 1471 (.ref 857),e "check_larger" 1481 (.ref 864),e "check_program" 1499 (.ref 871),e "left_start" 1510 (.ref 878),e "Font" 1641 (.ref 968),e "font_name" 1650 (.ref 979),e "font_of_rows" 1664 (.ref 989),e "_law_letters" 1679 (.ref 993),e "_law_heap" 1688 (.ref 1000),e "_law_take" 1697 (.ref 1007),e "_law_size" 1705 (.ref 1014),e "_law_glue" 1719 (.ref 1021),e "_law_shut" 1727 (.ref 1028),e "_law_stands" 1738 (.ref 1035),e "_law_flow" 1753 (.ref 1042),e "_law_gone" 1764 (.ref 1049),e "_law_letter" 1778 (.ref 1056),e "_law_part" 1784 (.ref 1061),e "_law_top" 1790 (.ref 1066),e "_law_bad" 1799 (.ref 1073),e "_law_amount" 1812 (.ref 1080),e "_law_told" 1825 (.ref 1087),e "_law_near" 1835 (.ref 1094),e "_law_placed" 1858 (.ref 1101),e "law" 1864 (.ref 1106)] 159),#[]⟩),
  (6,⟨.type "dict",none,(.dict #[] 0),#[]⟩),
  (29,⟨.type "tuple",none,(.seq #[.str (S "") 208] 0),#[]⟩),
  (35,kCo 35 "__init__" "PageError.__init__" 209 7 2 214),
  (36,kFo 36 (fm 2 0) "PageError.__init__" (.ref 29) "gluepage.errors" 194),
  (38,⟨.type "dict",none,(.dict #[e "__module__" 203 (.str (S "gluepage.errors") 194),e "__firstlineno__" 207 (.int 5 206),e "__init__" 216 (.ref 36),e "__static_attributes__" 218 (.ref 37),e "__weakref__" 220 (.ref 40),e "__doc__" 221 (.none)] 3),#[]⟩),
  (39,⟨.type "type",none,(.cls { name := (S "PageError"),bases := [.type "ValueError"],mro := [.ref 39,.type "ValueError",.type "Exception",.type "BaseException",.type "object"],ns := 38,qualname := (S "PageError"),hasDict := true,slotNames := [],subclasses := [.ref 52,.ref 64,.ref 76,.ref 88],abstract := false,collection := none,hasDel := false }),#[some (.ref 22),none,some (.str (S "PageError") 196),some (.str (S "PageError") 204),some (.builtin "ValueError.__new__"),some (.bool true)]⟩),
  (51,⟨.type "dict",none,(.dict #[e "__module__" 231 (.str (S "gluepage.errors") 194),e "__firstlineno__" 235 (.int 9 234),e "__static_attributes__" 236 (.ref 50),e "__doc__" 237 (.none)] 2),#[]⟩),
  (52,⟨.type "type",none,(.cls { name := (S "BadArgument"),bases := [.ref 39],mro := [.ref 52,.ref 39,.type "ValueError",.type "Exception",.type "BaseException",.type "object"],ns := 51,qualname := (S "BadArgument"),hasDict := true,slotNames := [],subclasses := [],abstract := false,collection := none,hasDel := false }),#[some (.ref 43),none,some (.str (S "BadArgument") 224),some (.str (S "BadArgument") 232),some (.builtin "ValueError.__new__"),some (.bool true)]⟩),
  (63,⟨.type "dict",none,(.dict #[e "__module__" 247 (.str (S "gluepage.errors") 194),e "__firstlineno__" 251 (.int 11 250),e "__static_attributes__" 252 (.ref 62),e "__doc__" 253 (.none)] 2),#[]⟩),
  (64,⟨.type "type",none,(.cls { name := (S "Overflow"),bases := [.ref 39],mro := [.ref 64,.ref 39,.type "ValueError",.type "Exception",.type "BaseException",.type "object"],ns := 63,qualname := (S "Overflow"),hasDict := true,slotNames := [],subclasses := [],abstract := false,collection := none,hasDel := false }),#[some (.ref 55),none,some (.str (S "Overflow") 240),some (.str (S "Overflow") 248),some (.builtin "ValueError.__new__"),some (.bool true)]⟩),
  (75,⟨.type "dict",none,(.dict #[e "__module__" 263 (.str (S "gluepage.errors") 194),e "__firstlineno__" 267 (.int 13 266),e "__static_attributes__" 268 (.ref 74),e "__doc__" 269 (.none)] 2),#[]⟩),
  (76,⟨.type "type",none,(.cls { name := (S "BadFont"),bases := [.ref 39],mro := [.ref 76,.ref 39,.type "ValueError",.type "Exception",.type "BaseException",.type "object"],ns := 75,qualname := (S "BadFont"),hasDict := true,slotNames := [],subclasses := [],abstract := false,collection := none,hasDel := false }),#[some (.ref 67),none,some (.str (S "BadFont") 256),some (.str (S "BadFont") 264),some (.builtin "ValueError.__new__"),some (.bool true)]⟩),
  (87,⟨.type "dict",none,(.dict #[e "__module__" 279 (.str (S "gluepage.errors") 194),e "__firstlineno__" 283 (.int 15 282),e "__static_attributes__" 284 (.ref 86),e "__doc__" 285 (.none)] 2),#[]⟩),
  (88,⟨.type "type",none,(.cls { name := (S "TooDeep"),bases := [.ref 39],mro := [.ref 88,.ref 39,.type "ValueError",.type "Exception",.type "BaseException",.type "object"],ns := 87,qualname := (S "TooDeep"),hasDict := true,slotNames := [],subclasses := [],abstract := false,collection := none,hasDel := false }),#[some (.ref 79),none,some (.str (S "TooDeep") 272),some (.str (S "TooDeep") 280),some (.builtin "ValueError.__new__"),some (.bool true)]⟩),
  (100,kC1 100 "is_whole" 314 23 3 320),
  (101,kFo 101 (fa 13) "is_whole" (.none) "gluepage.scaled" 288),
  (107,kC1 107 "check_whole" 323 25 1 327),
  (108,kFo 108 (fa 14) "check_whole" (.none) "gluepage.scaled" 288),
  (114,kC1 114 "check_number" 330 29 1 334),
  (115,kFo 115 (fa 15) "check_number" (.none) "gluepage.scaled" 288),
  (121,kC1 121 "check_dimen" 337 33 1 341),
  (122,kFo 122 (fa 16) "check_dimen" (.none) "gluepage.scaled" 288),
  (128,kC1 128 "rounded" 344 37 2 349),
  (129,kFo 129 (fa 17) "rounded" (.none) "gluepage.scaled" 288),
  (163,kC1 163 "badness" 394 69 2 400),
  (164,kFo 164 (fa 24) "badness" (.none) "gluepage.scaled" 288),
  (186,⟨.type "tuple",none,(.seq #[.int 0 431,.int 0 432,.int 0 433,.int 0 434,.int 0 435] 0),#[]⟩),
  (192,kCo 192 "__init__" "Glue.__init__" 436 91 6 445),
  (193,kFo 193 (fm 27 0) "Glue.__init__" (.ref 186) "gluepage.scaled" 288),
  (199,kCo 199 "parts" "Glue.parts" 448 100 1 452),
  (200,kFo 200 (fm 27 1) "Glue.parts" (.none) "gluepage.scaled" 288),
  (236,⟨.type "tuple",none,(.seq #[.str (S "pt") 498] 0),#[]⟩),
  (245,⟨.type "dict",none,(.dict #[e "__module__" 426 (.str (S "gluepage.scaled") 288),e "__firstlineno__" 430 (.int 89 429),e "__init__" 447 (.ref 193),e "parts" 454 (.ref 200),e "same" 462 (.ref 207),e "added" 470 (.ref 214),e "times" 480 (.ref 221),e "over" 490 (.ref 228),e "negated" 497 (.ref 235),e "text" 507 (.ref 243),e "__static_attributes__" 513 (.ref 244),e "__dict__" 515 (.ref 247),e "__weakref__" 517 (.ref 248),e "__doc__" 518 (.none)] 4),#[]⟩),
  (246,kCl 246 "Glue" 419 427),
  (256,kC1 256 "top_order" 521 127 1 526),
  (257,kFo 257 (fa 28) "top_order" (.none) "gluepage.scaled" 288),
  (270,kCo 270 "__init__" "Totals.__init__" 541 134 1 545),
  (271,kFo 271 (fm 29 0) "Totals.__init__" (.none) "gluepage.scaled" 288),
  (277,kCo 277 "add" "Totals.add" 548 139 2 553),
  (278,kFo 278 (fm 29 1) "Totals.add" (.none) "gluepage.scaled" 288),
  (284,kCo 284 "widen" "Totals.widen" 556 144 2 561),
  (285,kFo 285 (fm 29 2) "Totals.widen" (.none) "gluepage.scaled" 288),
  (291,kCo 291 "stretch_top" "Totals.stretch_top" 564 147 1 568),
  (292,kFo 292 (fm 29 3) "Totals.stretch_top" (.none) "gluepage.scaled" 288),
  (298,kCo 298 "shrink_top" "Totals.shrink_top" 571 150 1 575),
  (299,kFo 299 (fm 29 4) "Totals.shrink_top" (.none) "gluepage.scaled" 288),
  (308,⟨.type "dict",none,(.dict #[e "__module__" 536 (.str (S "gluepage.scaled") 288),e "__firstlineno__" 540 (.int 132 539),e "__init__" 547 (.ref 271),e "add" 555 (.ref 278),e "widen" 563 (.ref 285),e "stretch_top" 570 (.ref 292),e "shrink_top" 577 (.ref 299),e "copy" 584 (.ref 306),e "__static_attributes__" 588 (.ref 307),e "__dict__" 590 (.ref 310),e "__weakref__" 592 (.ref 311),e "__doc__" 593 (.none)] 4),#[]⟩),
  (309,kCl 309 "Totals" 529 537),
  (339,kC1 339 "check_code" 658 162 1 662),
  (340,kFo 340 (fa 37) "check_code" (.none) "gluepage.nodes" 596),
  (346,kC1 346 "check_short" 665 166 1 670),
  (347,kFo 347 (fa 38) "check_short" (.none) "gluepage.nodes" 596),
  (360,kCo 360 "__init__" "Char.__init__" 686 174 3 692),
  (361,kFo 361 (fm 39 1) "Char.__init__" (.none) "gluepage.nodes" 596),
  (363,⟨.type "dict",none,(.dict #[e "__module__" 680 (.str (S "gluepage.nodes") 596),e "__firstlineno__" 684 (.int 171 683),e "kind" 685 (.int 0 598),e "__init__" 694 (.ref 361),e "__static_attributes__" 697 (.ref 362),e "__dict__" 699 (.ref 365),e "__weakref__" 701 (.ref 366),e "__doc__" 702 (.none)] 4),#[]⟩),
  (364,kCl 364 "Char" 673 681),
  (376,⟨.type "tuple",none,(.seq #[.bool false,.bool false] 0),#[]⟩),
  (380,⟨.type "code",none,(.fields #[.str (S "__init__") 718,.str (S "Ligature.__init__") 719,.str (S "/claim/cut.py") 720,.int 180 0,.int 6 0,.int 0 0,.int 0 0,.int 3 0,.ref 377,.bool true,.int 181 0,.ref 378,.none,.none,.none,.ref 379,.int 721 0,.int 180 0,.str (S "/claim/cut.py") 722]),#[]⟩),
  (381,kFo 381 (fm 40 1) "Ligature.__init__" (.ref 376) "gluepage.nodes" 596),
  (383,⟨.type "dict",none,(.dict #[e "__module__" 712 (.str (S "gluepage.nodes") 596),e "__firstlineno__" 716 (.int 177 715),e "kind" 717 (.int 1 599),e "__init__" 723 (.ref 381),e "__static_attributes__" 729 (.ref 382),e "__dict__" 731 (.ref 385),e "__weakref__" 733 (.ref 386),e "__doc__" 734 (.none)] 4),#[]⟩),
  (384,kCl 384 "Ligature" 705 713),
  (401,kCo 401 "__init__" "Box.__init__" 749 188 6 758),
  (402,kFo 402 (fm 41 0) "Box.__init__" (.none) "gluepage.nodes" 596),
  (404,⟨.type "dict",none,(.dict #[e "__module__" 744 (.str (S "gluepage.nodes") 596),e "__firstlineno__" 748 (.int 186 747),e "__init__" 760 (.ref 402),e "__static_attributes__" 770 (.ref 403),e "__dict__" 772 (.ref 406),e "__weakref__" 774 (.ref 407),e "__doc__" 775 (.none)] 4),#[]⟩),
  (405,kCl 405 "Box" 737 745),
  (422,kCo 422 "__init__" "Rule.__init__" 791 203 4 799),
  (423,kFo 423 (fm 42 1) "Rule.__init__" (.none) "gluepage.nodes" 596),
  (425,⟨.type "dict",none,(.dict #[e "__module__" 785 (.str (S "gluepage.nodes") 596),e "__firstlineno__" 789 (.int 200 788),e "kind" 790 (.int 4 602),e "__init__" 801 (.ref 423),e "__static_attributes__" 805 (.ref 424),e "__dict__" 807 (.ref 427),e "__weakref__" 809 (.ref 428),e "__doc__" 810 (.none)] 4),#[]⟩),
  (426,kCl 426 "Rule" 778 786),
  (443,kCo 443 "__init__" "Kern.__init__" 826 213 3 832),
  (444,kFo 444 (fm 43 1) "Kern.__init__" (.none) "gluepage.nodes" 596),
  (446,⟨.type "dict",none,(.dict #[e "__module__" 820 (.str (S "gluepage.nodes") 596),e "__firstlineno__" 824 (.int 210 823),e "kind" 825 (.int 5 603),e "__init__" 834 (.ref 444),e "__static_attributes__" 837 (.ref 445),e "__dict__" 839 (.ref 448),e "__weakref__" 841 (.ref 449),e "__doc__" 842 (.none)] 4),#[]⟩),
  (447,kCl 447 "Kern" 813 821),
  (459,⟨.type "tuple",none,(.seq #[.none] 0),#[]⟩),
  (465,kCo 465 "__init__" "Skip.__init__" 858 221 4 865),
  (466,kFo 466 (fm 44 1) "Skip.__init__" (.ref 459) "gluepage.nodes" 596),
  (468,⟨.type "dict",none,(.dict #[e "__module__" 852 (.str (S "gluepage.nodes") 596),e "__firstlineno__" 856 (.int 218 855),e "kind" 857 (.int 6 604),e "__init__" 867 (.ref 466),e "__static_attributes__" 871 (.ref 467),e "__dict__" 873 (.ref 470),e "__weakref__" 875 (.ref 471),e "__doc__" 876 (.none)] 4),#[]⟩),
  (469,kCl 469 "Skip" 845 853),
  (486,kCo 486 "__init__" "Penalty.__init__" 892 234 2 897),
  (487,kFo 487 (fm 45 1) "Penalty.__init__" (.none) "gluepage.nodes" 596),
  (489,⟨.type "dict",none,(.dict #[e "__module__" 886 (.str (S "gluepage.nodes") 596),e "__firstlineno__" 890 (.int 231 889),e "kind" 891 (.int 7 605),e "__init__" 899 (.ref 487),e "__static_attributes__" 901 (.ref 488),e "__dict__" 903 (.ref 491),e "__weakref__" 905 (.ref 492),e "__doc__" 906 (.none)] 4),#[]⟩),
  (490,kCl 490 "Penalty" 879 887),
  (507,kCo 507 "__init__" "Disc.__init__" 922 239 4 929),
  (508,kFo 508 (fm 46 1) "Disc.__init__" (.none) "gluepage.nodes" 596),
  (510,⟨.type "dict",none,(.dict #[e "__module__" 916 (.str (S "gluepage.nodes") 596),e "__firstlineno__" 920 (.int 236 919),e "kind" 921 (.int 8 614),e "__init__" 931 (.ref 508),e "__static_attributes__" 935 (.ref 509),e "__dict__" 937 (.ref 512),e "__weakref__" 939 (.ref 513),e "__doc__" 940 (.none)] 4),#[]⟩),
  (511,kCl 511 "Disc" 909 917),
  (528,kCo 528 "__init__" "Mark.__init__" 956 246 2 961),
  (529,kFo 529 (fm 47 1) "Mark.__init__" (.none) "gluepage.nodes" 596),
  (531,⟨.type "dict",none,(.dict #[e "__module__" 950 (.str (S "gluepage.nodes") 596),e "__firstlineno__" 954 (.int 243 953),e "kind" 955 (.int 9 615),e "__init__" 963 (.ref 529),e "__static_attributes__" 965 (.ref 530),e "__dict__" 967 (.ref 533),e "__weakref__" 969 (.ref 534),e "__doc__" 970 (.none)] 4),#[]⟩),
  (532,kCl 532 "Mark" 943 951),
  (549,kCo 549 "__init__" "Insert.__init__" 986 251 7 996),
  (550,kFo 550 (fm 48 1) "Insert.__init__" (.none) "gluepage.nodes" 596),
  (552,⟨.type "dict",none,(.dict #[e "__module__" 980 (.str (S "gluepage.nodes") 596),e "__firstlineno__" 984 (.int 248 983),e "kind" 985 (.int 10 616),e "__init__" 998 (.ref 550),e "__static_attributes__" 1005 (.ref 551),e "__dict__" 1007 (.ref 554),e "__weakref__" 1009 (.ref 555),e "__doc__" 1010 (.none)] 4),#[]⟩),
  (553,kCl 553 "Insert" 973 981),
  (570,kCo 570 "__init__" "Adjust.__init__" 1026 263 2 1031),
  (571,kFo 571 (fm 49 1) "Adjust.__init__" (.none) "gluepage.nodes" 596),
  (573,⟨.type "dict",none,(.dict #[e "__module__" 1020 (.str (S "gluepage.nodes") 596),e "__firstlineno__" 1024 (.int 260 1023),e "kind" 1025 (.int 11 617),e "__init__" 1033 (.ref 571),e "__static_attributes__" 1035 (.ref 572),e "__dict__" 1037 (.ref 575),e "__weakref__" 1039 (.ref 576),e "__doc__" 1040 (.none)] 4),#[]⟩),
  (574,kCl 574 "Adjust" 1013 1021),
  (591,kCo 591 "__init__" "MathEdge.__init__" 1056 268 3 1062),
  (592,kFo 592 (fm 50 1) "MathEdge.__init__" (.none) "gluepage.nodes" 596),
  (594,⟨.type "dict",none,(.dict #[e "__module__" 1050 (.str (S "gluepage.nodes") 596),e "__firstlineno__" 1054 (.int 265 1053),e "kind" 1055 (.int 12 618),e "__init__" 1064 (.ref 592),e "__static_attributes__" 1067 (.ref 593),e "__dict__" 1069 (.ref 596),e "__weakref__" 1071 (.ref 597),e "__doc__" 1072 (.none)] 4),#[]⟩),
  (595,kCl 595 "MathEdge" 1043 1051),
  (612,kCo 612 "__init__" "Special.__init__" 1088 274 2 1094),
  (613,kFo 613 (fm 51 1) "Special.__init__" (.none) "gluepage.nodes" 596),
  (615,⟨.type "dict",none,(.dict #[e "__module__" 1082 (.str (S "gluepage.nodes") 596),e "__firstlineno__" 1086 (.int 271 1085),e "kind" 1087 (.int 13 619),e "__init__" 1096 (.ref 613),e "__static_attributes__" 1098 (.ref 614),e "__dict__" 1100 (.ref 617),e "__weakref__" 1102 (.ref 618),e "__doc__" 1103 (.none)] 4),#[]⟩),
  (616,kCl 616 "Special" 1075 1083),
  (628,⟨.type "tuple",none,(.seq #[.bool false] 0),#[]⟩),
  (634,kCo 634 "__init__" "Unset.__init__" 1119 282 8 1130),
  (635,kFo 635 (fm 52 1) "Unset.__init__" (.ref 628) "gluepage.nodes" 596),
  (637,⟨.type "dict",none,(.dict #[e "__module__" 1113 (.str (S "gluepage.nodes") 596),e "__firstlineno__" 1117 (.int 279 1116),e "kind" 1118 (.int 14 620),e "__init__" 1132 (.ref 635),e "__static_attributes__" 1140 (.ref 636),e "__dict__" 1142 (.ref 639),e "__weakref__" 1144 (.ref 640),e "__doc__" 1145 (.none)] 4),#[]⟩),
  (638,kCl 638 "Unset" 1106 1114),
  (648,kC1 648 "check_depth" 1148 292 1 1152),
  (649,kFo 649 (fa 53) "check_depth" (.none) "gluepage.nodes" 596),
  (655,kC1 655 "described_rest" 1155 295 2 1163),
  (656,kFo 656 (fa 54) "described_rest" (.none) "gluepage.nodes" 596),
  (657,⟨.type "tuple",none,(.seq #[.int 0 1166] 0),#[]⟩),
  (661,⟨.type "code",none,(.fields #[.str (S "described") 1167,.str (S "described") 1168,.str (S "/claim/cut.py") 1169,.int 310 0,.int 2 0,.int 0 0,.int 0 0,.int 3 0,.ref 658,.bool true,.int 181 0,.ref 659,.none,.none,.none,.ref 660,.int 1170 0,.int 310 0,.str (S "/claim/cut.py") 1171]),#[]⟩),
  (662,kFo 662 (fa 55) "described" (.ref 657) "gluepage.nodes" 596),
  (663,⟨.type "tuple",none,(.seq #[.int 0 1173] 0),#[]⟩),
  (667,⟨.type "code",none,(.fields #[.str (S "described_list") 1174,.str (S "described_list") 1175,.str (S "/claim/cut.py") 1176,.int 333 0,.int 2 0,.int 0 0,.int 0 0,.int 3 0,.ref 664,.bool true,.int 181 0,.ref 665,.none,.none,.none,.ref 666,.int 1177 0,.int 333 0,.str (S "/claim/cut.py") 1178]),#[]⟩),
  (668,kFo 668 (fa 56) "described_list" (.ref 663) "gluepage.nodes" 596),
  (672,⟨.type "code",none,(.fields #[.str (S "width_of") 1180,.str (S "width_of") 1181,.str (S "/claim/cut.py") 1182,.int 335 0,.int 1 0,.int 0 0,.int 0 0,.int 3 0,.ref 669,.bool true,.int 181 0,.ref 670,.none,.none,.none,.ref 671,.int 1183 0,.int 335 0,.str (S "/claim/cut.py") 1184]),#[]⟩),
  (673,kFo 673 (fa 57) "width_of" (.none) "gluepage.nodes" 596),
  (677,⟨.type "code",none,(.fields #[.str (S "height_of") 1186,.str (S "height_of") 1187,.str (S "/claim/cut.py") 1188,.int 348 0,.int 1 0,.int 0 0,.int 0 0,.int 3 0,.ref 674,.bool true,.int 181 0,.ref 675,.none,.none,.none,.ref 676,.int 1189 0,.int 348 0,.str (S "/claim/cut.py") 1190]),#[]⟩),
  (678,kFo 678 (fa 58) "height_of" (.none) "gluepage.nodes" 596),
  (682,⟨.type "code",none,(.fields #[.str (S "depth_of") 1192,.str (S "depth_of") 1193,.str (S "/claim/cut.py") 1194,.int 361 0,.int 1 0,.int 0 0,.int 0 0,.int 3 0,.ref 679,.bool true,.int 181 0,.ref 680,.none,.none,.none,.ref 681,.int 1195 0,.int 361 0,.str (S "/claim/cut.py") 1196]),#[]⟩),
  (683,kFo 683 (fa 59) "depth_of" (.none) "gluepage.nodes" 596),
  (689,kC1 689 "line_height" 1198 374 1 1202),
  (690,kFo 690 (fa 60) "line_height" (.none) "gluepage.nodes" 596),
  (696,kC1 696 "line_depth" 1205 378 1 1209),
  (697,kFo 697 (fa 61) "line_depth" (.none) "gluepage.nodes" 596),
  (711,kC1 711 "natural_line" 1226 385 1 1234),
  (712,kFo 712 (fa 65) "natural_line" (.none) "gluepage.packing" 1212),
  (718,kC1 718 "across" 1237 396 1 1241),
  (719,kFo 719 (fa 66) "across" (.none) "gluepage.packing" 1212),
  (725,kC1 725 "check_column" 1244 402 1 1249),
  (726,kFo 726 (fa 67) "check_column" (.none) "gluepage.packing" 1212),
  (732,kC1 732 "natural_column" 1252 406 1 1260),
  (733,kFo 733 (fa 68) "natural_column" (.none) "gluepage.packing" 1212),
  (739,kC1 739 "quotient" 1263 423 2 1268),
  (740,kFo 740 (fa 69) "quotient" (.none) "gluepage.packing" 1212),
  (746,kC1 746 "set_glue" 1271 425 2 1279),
  (747,kFo 747 (fa 70) "set_glue" (.none) "gluepage.packing" 1212),
  (753,kC1 753 "flex" 1282 440 2 1287),
  (754,kFo 754 (fa 71) "flex" (.none) "gluepage.packing" 1212),
  (760,kC1 760 "set_part" 1290 446 2 1295),
  (761,kFo 761 (fa 72) "set_part" (.none) "gluepage.packing" 1212),
  (767,kC1 767 "glue_size" 1298 448 3 1305),
  (768,kFo 768 (fa 73) "glue_size" (.none) "gluepage.packing" 1212),
  (774,kC1 774 "part_size" 1308 451 2 1313),
  (775,kFo 775 (fa 74) "part_size" (.none) "gluepage.packing" 1212),
  (781,kC1 781 "places" 1316 455 1 1324),
  (782,kFo 782 (fa 75) "places" (.none) "gluepage.packing" 1212),
  (788,kC1 788 "moved" 1327 468 1 1334),
  (789,kFo 789 (fa 76) "moved" (.none) "gluepage.packing" 1212),
  (795,kC1 795 "goal_size" 1337 478 3 1343),
  (796,kFo 796 (fa 77) "goal_size" (.none) "gluepage.packing" 1212),
  (802,kC1 802 "set_box" 1346 483 3 1353),
  (803,kFo 803 (fa 78) "set_box" (.none) "gluepage.packing" 1212),
  (804,⟨.type "tuple",none,(.seq #[.int 1 1215,.int 0 1356,.none] 0),#[]⟩),
  (810,kC1 810 "hpack" 1357 486 4 1371),
  (811,kFo 811 (fa 79) "hpack" (.ref 804) "gluepage.packing" 1212),
  (812,⟨.type "tuple",none,(.seq #[.int 1 1215,.int 0 1374,.int 1073741823 296] 0),#[]⟩),
  (818,kC1 818 "vpack" 1375 494 4 1387),
  (819,kFo 819 (fa 80) "vpack" (.ref 812) "gluepage.packing" 1212),
  (828,⟨.type "tuple",none,(.seq #[.int 0 1418,.int 0 1419,.int 0 1420,.int 0 1421,.int 0 1422,.int 0 1423] 0),#[]⟩),
  (829,⟨.type "tuple",none,(.seq #[.int 0 1427,.int 196608 1428,.int 98304 1429,.int 65536 1430,.int 262144 1431,.int 655360 1432,.int 65536 1433] 0),#[]⟩),
  (835,kC1 835 "is_size" 1435 513 1 1439),
  (836,kFo 836 (fa 91) "is_size" (.none) "gluepage.fonts" 1390),
  (842,kC1 842 "check_sizes" 1442 515 1 1447),
  (843,kFo 843 (fa 92) "check_sizes" (.none) "gluepage.fonts" 1390),
  (849,kC1 849 "check_pieces" 1450 519 2 1457),
  (850,kFo 850 (fa 93) "check_pieces" (.none) "gluepage.fonts" 1390),
  (856,kC1 856 "check_chars" 1460 525 2 1469),
  (857,kFo 857 (fa 94) "check_chars" (.none) "gluepage.fonts" 1390),
  (863,kC1 863 "check_larger" 1472 537 1 1479),
  (864,kFo 864 (fa 95) "check_larger" (.none) "gluepage.fonts" 1390),
  (870,kC1 870 "check_program" 1482 545 4 1497),
  (871,kFo 871 (fa 96) "check_program" (.none) "gluepage.fonts" 1390),
  (877,kC1 877 "left_start" 1500 564 1 1508),
  (878,kFo 878 (fa 97) "left_start" (.none) "gluepage.fonts" 1390),
  (886,⟨.type "tuple",none,(.seq #[] 0),#[]⟩),
  (887,⟨.type "tuple",none,(.seq #[] 0),#[]⟩),
  (888,⟨.type "tuple",none,(.seq #[.ref 886,.ref 887,.int 256 1392] 0),#[]⟩),
  (894,kCo 894 "__init__" "Font.__init__" 1523 571 9 1535),
  (895,kFo 895 (fm 98 0) "Font.__init__" (.ref 888) "gluepage.fonts" 1390),
  (908,kCo 908 "width" "Font.width" 1546 598 2 1551),
  (909,kFo 909 (fm 98 2) "Font.width" (.none) "gluepage.fonts" 1390),
  (915,kCo 915 "height" "Font.height" 1554 601 2 1559),
  (916,kFo 916 (fm 98 3) "Font.height" (.none) "gluepage.fonts" 1390),
  (922,kCo 922 "depth" "Font.depth" 1562 604 2 1567),
  (923,kFo 923 (fm 98 4) "Font.depth" (.none) "gluepage.fonts" 1390),
  (967,⟨.type "dict",none,(.dict #[e "__module__" 1518 (.str (S "gluepage.fonts") 1390),e "__firstlineno__" 1522 (.int 569 1521),e "__init__" 1537 (.ref 895),e "has" 1545 (.ref 902),e "width" 1553 (.ref 909),e "height" 1561 (.ref 916),e "depth" 1569 (.ref 923),e "italic" 1577 (.ref 930),e "starts" 1585 (.ref 937),e "larger" 1594 (.ref 944),e "pieces" 1603 (.ref 951),e "param" 1611 (.ref 958),e "set_param" 1620 (.ref 965),e "__static_attributes__" 1634 (.ref 966),e "__dict__" 1636 (.ref 969),e "__weakref__" 1638 (.ref 970),e "__doc__" 1639 (.none)] 4),#[]⟩),
  (968,kCl 968 "Font" 1511 1519),
  (978,kC1 978 "font_name" 1642 626 1 1648),
  (979,kFo 979 (fa 99) "font_name" (.none) "gluepage.fonts" 1390),
  (980,⟨.type "tuple",none,(.seq #[] 0),#[]⟩),
  (981,⟨.type "tuple",none,(.seq #[] 0),#[]⟩),
  (982,⟨.type "tuple",none,(.seq #[.ref 829,.ref 980,.ref 981,.int 256 1392] 0),#[]⟩),
  (988,kC1 988 "font_of_rows" 1651 633 6 1662),
  (989,kFo 989 (fa 100) "font_of_rows" (.ref 982) "gluepage.fonts" 1390),
  (990,⟨.type "tuple",none,(.seq #[.int 97 1667,.int 5 1668,.int 7 1669,.int 2 1670] 0),#[]⟩),
  (991,⟨.type "tuple",none,(.seq #[.int 98 1671,.int 11 1672,.int 3 1673,.int 0 1674] 0),#[]⟩),
  (992,⟨.type "tuple",none,(.seq #[.int 99 1675,.int 4 1676,.int 1 1677,.int 9 1678] 0),#[]⟩),
  (993,⟨.type "list",none,(.seq #[.ref 990,.ref 991,.ref 992] 0),#[]⟩),
  (999,kC1 999 "_law_heap" 1680 644 1 1686),
  (1000,kFo 1000 (fa 103) "_law_heap" (.none) "law_rg0167_01" 1665),
  (1006,kC1 1006 "_law_take" 1689 649 2 1695),
  (1007,kFo 1007 (fa 104) "_law_take" (.none) "law_rg0167_01" 1665),
  (1013,kC1 1013 "_law_size" 1698 656 1 1703),
  (1014,kFo 1014 (fa 105) "_law_size" (.none) "law_rg0167_01" 1665),
  (1020,kC1 1020 "_law_glue" 1706 663 2 1717),
  (1021,kFo 1021 (fa 106) "_law_glue" (.none) "law_rg0167_01" 1665),
  (1027,kC1 1027 "_law_shut" 1720 668 1 1725),
  (1028,kFo 1028 (fa 107) "_law_shut" (.none) "law_rg0167_01" 1665),
  (1034,kC1 1034 "_law_stands" 1728 672 5 1736),
  (1035,kFo 1035 (fa 108) "_law_stands" (.none) "law_rg0167_01" 1665),
  (1041,kC1 1041 "_law_flow" 1739 676 4 1751),
  (1042,kFo 1042 (fa 109) "_law_flow" (.none) "law_rg0167_01" 1665),
  (1048,kC1 1048 "_law_gone" 1754 683 2 1762),
  (1049,kFo 1049 (fa 110) "_law_gone" (.none) "law_rg0167_01" 1665),
  (1055,kC1 1055 "_law_letter" 1765 693 3 1776),
  (1056,kFo 1056 (fa 111) "_law_letter" (.none) "law_rg0167_01" 1665),
  (1060,⟨.type "code",none,(.fields #[.str (S "_law_part") 1779,.str (S "_law_part") 1780,.str (S "/claim/cut.py") 1781,.int 701 0,.int 4 0,.int 0 0,.int 0 0,.int 3 0,.ref 1057,.bool true,.int 181 0,.ref 1058,.none,.none,.none,.ref 1059,.int 1782 0,.int 701 0,.str (S "/claim/cut.py") 1783]),#[]⟩),
  (1061,kFo 1061 (fa 112) "_law_part" (.none) "law_rg0167_01" 1665),
  (1065,⟨.type "code",none,(.fields #[.str (S "_law_top") 1785,.str (S "_law_top") 1786,.str (S "/claim/cut.py") 1787,.int 724 0,.int 1 0,.int 0 0,.int 0 0,.int 3 0,.ref 1062,.bool true,.int 181 0,.ref 1063,.none,.none,.none,.ref 1064,.int 1788 0,.int 724 0,.str (S "/claim/cut.py") 1789]),#[]⟩),
  (1066,kFo 1066 (fa 113) "_law_top" (.none) "law_rg0167_01" 1665),
  (1072,kC1 1072 "_law_bad" 1791 726 2 1797),
  (1073,kFo 1073 (fa 114) "_law_bad" (.none) "law_rg0167_01" 1665),
  (1079,kC1 1079 "_law_amount" 1800 733 5 1810),
  (1080,kFo 1080 (fa 115) "_law_amount" (.none) "law_rg0167_01" 1665),
  (1086,kC1 1086 "_law_told" 1813 741 3 1823),
  (1087,kFo 1087 (fa 116) "_law_told" (.none) "law_rg0167_01" 1665),
  (1093,kC1 1093 "_law_near" 1826 755 3 1833),
  (1094,kFo 1094 (fa 117) "_law_near" (.none) "law_rg0167_01" 1665),
  (1100,kC1 1100 "_law_placed" 1836 758 5 1856),
  (1101,kFo 1101 (fa 118) "_law_placed" (.none) "law_rg0167_01" 1665),
  (1105,⟨.type "code",none,(.fields #[.str (S "law") 1859,.str (S "law") 1860,.str (S "/claim/cut.py") 1861,.int 779 0,.int 1 0,.int 0 0,.int 0 0,.int 3 0,.ref 1102,.bool true,.int 181 0,.ref 1103,.none,.none,.none,.ref 1104,.int 1862 0,.int 779 0,.str (S "/claim/cut.py") 1863]),#[]⟩),
  (1106,kFo 1106 (fa 119) "law" (.none) "law_rg0167_01" 1665)]
noncomputable def Kas : List Addr := [3,6,29,35,36,38,39,51,52,63,64,75,76,87,88,100,101,107,108,114,115,121,122,128,129,163,164,186,192,193,199,200,236,245,246,256,257,270,271,277,278,284,285,291,292,298,299,308,309,339,340,346,347,360,361,363,364,376,380,381,383,384,401,402,404,405,422,423,425,426,443,444,446,447,459,465,466,468,469,486,487,489,490,507,508,510,511,528,529,531,532,549,550,552,553,570,571,573,574,591,592,594,595,612,613,615,616,628,634,635,637,638,648,649,655,656,657,661,662,663,667,668,672,673,677,678,682,683,689,690,696,697,711,712,718,719,725,726,732,733,739,740,746,747,753,754,760,761,767,768,774,775,781,782,788,789,795,796,802,803,804,810,811,812,818,819,828,829,835,836,842,843,849,850,856,857,863,864,870,871,877,878,886,887,888,894,895,908,909,915,916,922,923,967,968,978,979,980,981,982,988,989,990,991,992,993,999,1000,1006,1007,1013,1014,1020,1021,1027,1028,1034,1035,1041,1042,1048,1049,1055,1056,1060,1061,1065,1066,1072,1073,1079,1080,1086,1087,1093,1094,1100,1101,1105,1106]
noncomputable def q : Program := { pw with main := { pw.main with body := [fa 119] } }
noncomputable def loose : List Str := pw.boundNames.filter fun n => !(n == S "law")
noncomputable def lawD : DefRec := match fa 119 with
  | .FunctionDef n args body _ _ _ sc _ _ ps => ⟨n,args,body,sc,ps⟩
  | _ => ⟨S "law",⟨[],[],none,[],[],none,[]⟩,[],⟨.function,[],false,false,[]⟩,⟨0,0,0,0⟩⟩
abbrev row : OpenRow := PySem.Challenge.rw_rg0167_01.row
theorem Kas_eq (P : Params) : Kas = (K P).map (·.1) := by kernel_rfl
noncomputable abbrev stepQ := @PySem.W.Fast.tw10156331382660048174
noncomputable abbrev okQ := @PySem.W.Fast.tw6613529449190102663
noncomputable abbrev denQ := @PySem.W.Fast.tw11892475500146522536
noncomputable abbrev tabQ := @PySem.W.Fast.tw14364793385576792824
noncomputable def slowQ (p : Program) (w : World) (n₀ : Nat) (ann : Option Value) (ih : SharedT → Thread → Option SharedT) (s : SharedT) (t : Thread) : Option SharedT :=
  match through t with
  | true => some s
  | false => match okQ n₀ ann t with
    | false => none
    | true => match stepQ (denQ tabQ) p w s t with
      | some (s',t') => ih s' t'
      | none => none
noncomputable def stepF (p : Program) (w : World) (n₀ : Nat) (ann : Option Value) (ih : SharedT → Thread → Option SharedT) : SharedT → Thread → Option SharedT
  | ⟨T,m,l,g,d,u,os⟩,⟨cur,code,pos,st⟩ => match cur with
    | .load a _ k => match Nat.blt a m with
      | true => match T.get a with
        | some o => match alive o with
          | some o' => ih ⟨T,m,l,g,d,u,os⟩ ⟨k o',code,pos,st⟩
          | none => none
        | none => none
      | false => none
    | .alloc o k => match ((T.ins m o).get m).isSome with
      | true => ih ⟨T.ins m o,m + 1,l,g,d,u,os⟩ ⟨k m,code,pos,st⟩
      | false => none
    | .fresh k => ih ⟨T,m,l,g,d,u + 1,os⟩ ⟨k u,code,pos,st⟩
    | .ask k => ih ⟨T,m,l,g,d,u,os⟩ ⟨k ⟨p,w.params⟩,code,pos,st⟩
    | .at q k => ih ⟨T,m,l,g,d,u,os⟩ ⟨k (),code,q,st⟩
    | .point _ k => ih ⟨T,m,l,g,d,u,os⟩ ⟨k (),code,pos,st⟩
    | c => slowQ p w n₀ ann ih ⟨T,m,l,g,d,u,os⟩ ⟨c,code,pos,st⟩
noncomputable def runQ (p : Program) (w : World) (n₀ : Nat) (ann : Option Value) (n : Nat) : SharedT → Thread → Option SharedT :=
  @Nat.rec (fun _ => SharedT → Thread → Option SharedT) (fun _ _ => none) (fun _ ih => stepF p w n₀ ann ih) n
theorem runQ_of {p : Program} {w : World} {n₀ : Nat} {ann : Option Value} {s' : SharedT} : ∀ {n : Nat} {s : SharedT} {t : Thread},runQ p w n₀ ann n s t = some s' → topRun treeTable p w n₀ ann n s.abs t = some s'.abs
  | 0,_,_,h => by cases h
  | n + 1,⟨T,m,l,g,d,u,os⟩,⟨cur,code,pos,st⟩,h => by
    have go : ∀ {t : Thread} {r : SharedT × Thread},through t = false → stepOk n₀ ann t = true → stepT (denote treeTable) p w ⟨T,m,l,g,d,u,os⟩ t = some r → runQ p w n₀ ann n r.1 r.2 = some s' →
        topRun treeTable p w n₀ ann (n + 1) (SharedT.abs ⟨T,m,l,g,d,u,os⟩) t = some s'.abs := fun {t r} h1 h2 h3 h4 => by
      unfold topRun
      rw [h1,h2,stepT_spec (s' := r.1) (t' := r.2) h3]
      exact runQ_of h4
    have slow : slowQ p w n₀ ann (runQ p w n₀ ann n) ⟨T,m,l,g,d,u,os⟩ ⟨cur,code,pos,st⟩ = some s' → topRun treeTable p w n₀ ann (n + 1) (SharedT.abs ⟨T,m,l,g,d,u,os⟩) ⟨cur,code,pos,st⟩ = some s'.abs := fun h => by
      unfold slowQ at h
      rw [show okQ n₀ ann ⟨cur,code,pos,st⟩ = stepOk n₀ ann ⟨cur,code,pos,st⟩ by rw [PySem.W.Fast.te6613529449190102663],
        show stepQ (denQ tabQ) p w ⟨T,m,l,g,d,u,os⟩ ⟨cur,code,pos,st⟩ = stepT (denote treeTable) p w ⟨T,m,l,g,d,u,os⟩ ⟨cur,code,pos,st⟩ by rw [PySem.W.Fast.te10156331382660048174,PySem.W.Fast.te11892475500146522536,PySem.W.Fast.te14364793385576792824]] at h
      cases he : through ⟨cur,code,pos,st⟩ with
      | true => rw [he] at h; cases h; unfold topRun; rw [he]
      | false =>
        rw [he] at h
        cases hk : stepOk n₀ ann ⟨cur,code,pos,st⟩ with
        | false => rw [hk] at h; cases h
        | true =>
          rw [hk] at h
          cases hs : stepT (denote treeTable) p w ⟨T,m,l,g,d,u,os⟩ ⟨cur,code,pos,st⟩ with
          | none => rw [hs] at h; cases h
          | some r => rw [hs] at h; exact go he hk hs h
    replace h : stepF p w n₀ ann (runQ p w n₀ ann n) ⟨T,m,l,g,d,u,os⟩ ⟨cur,code,pos,st⟩ = some s' := h
    cases cur with
    | fresh k => exact go (Bool.and_false _) rfl rfl h
    | ask k => exact go (Bool.and_false _) rfl rfl h
    | «at» q k => exact go (Bool.and_false _) rfl rfl h
    | point v k => exact go (Bool.and_false _) rfl rfl h
    | alloc o k =>
      have e : ∀ {b : Bool} {x : Option SharedT} {y : Option (SharedT × Thread)},(match b with | true => x | false => none) = some s' → b = true ∧ x = some s' ∧ (match b with | true => y | false => none) = y := fun {b x y} h => by
        cases b
        · cases h
        · exact ⟨rfl,h,rfl⟩
      exact go (Bool.and_false _) rfl (e h).2.2 (e (y := none) h).2.1
    | load a q k =>
      have e : ∀ {b : Bool} {x : Option Obj} {f : Obj → Option SharedT} {f' : Obj → Option (SharedT × Thread)},(match b with | true => (match x with | some o => (match alive o with | some o' => f o' | none => none) | none => none) | false => none) = some s' →
          ∃ o',f o' = some s' ∧ (match b with | true => (match x with | some o => (match alive o with | some o' => f' o' | none => none) | none => none) | false => none) = f' o' := fun {b x f f'} h => by
        cases b
        · cases h
        · cases x with
          | none => cases h
          | some o =>
            dsimp only at h ⊢
            cases hy : alive o with
            | none => rw [hy] at h; cases h
            | some o' => rw [hy] at h; exact ⟨o',h,rfl⟩
      obtain ⟨o',h1,h2⟩ := e (f' := fun o' => some (⟨T,m,l,g,d,u,os⟩,⟨k o',code,pos,st⟩)) h
      exact go (Bool.and_false _) rfl h2 h1
    | _ => exact slow h
noncomputable def fillT : List Obj → Nat → BT → BT
  | [],_,t => t
  | o :: l,n,t => fillT l (n + 1) (t.ins n o)
noncomputable def t0 (P : Params) : BT := fillT (boot_heap P).objs.toList 0 .nil
theorem h0 (P : Params) : absHeap (t0 P) 11 (boot_heap P).life = boot_heap P := by kernel_rfl
noncomputable def s0 (w : World) (os : OsState) : SharedT := ⟨t0 w.params,11,(boot_heap w.params).life,#[],boot_drawn,boot_toks,os⟩
noncomputable def obsT (s : SharedT) : List (Option Obj) := Kas.map fun a => (match Nat.blt a s.n with | true => (s.tree.get a).bind alive | false => none)
noncomputable abbrev seenQ := @PySem.W.Fast.tw4187177175401517315
noncomputable def lookQ (W : World) (s : SharedT) := (staticsOk (importedModules pw.main.body) (boot_heap W.params) s.abs.heap && gensDone s.abs && laidKept (boot_heap W.params) s.abs.heap,
  seenQ q loose (importedModules pw.main.body) (fun _ => true) true s.abs,obsT s)
noncomputable def goodQ (W : World) := (true,openGood q loose,(K W.params).map fun p => some p.2)
theorem ann0 (w : World) : ((boot_heap w.params).isNs mainGlobals && (#[] : Array GenState).size == 0,(boot_heap w.params).objs.size,(boot_heap w.params).nsMap mainGlobals "__annotations__") = (true,11,some (.ref 6)) := by kernel_rfl
theorem run_f (w : World) (os : OsState) : (runQ pw (w.withFollow "special-get-raises" false) 11 (some (.ref 6)) 9400 (s0 (w.withFollow "special-get-raises" false) os) (topStub pw)).map (lookQ (w.withFollow "special-get-raises" false)) = some (goodQ (w.withFollow "special-get-raises" false)) := by kernel_rfl
theorem run_t (w : World) (os : OsState) : (runQ pw (w.withFollow "special-get-raises" true) 11 (some (.ref 6)) 9400 (s0 (w.withFollow "special-get-raises" true) os) (topStub pw)).map (lookQ (w.withFollow "special-get-raises" true)) = some (goodQ (w.withFollow "special-get-raises" true)) := by kernel_rfl
theorem run_w (w : World) : ∀ os,(runQ pw w 11 (some (.ref 6)) 9400 (s0 w os) (topStub pw)).map (lookQ w) = some (goodQ w) :=
  byRow2 "special-get-raises" (P := fun w => ∀ os,(runQ pw w 11 (some (.ref 6)) 9400 (s0 w os) (topStub pw)).map (lookQ w) = some (goodQ w)) run_f run_t w
theorem obs_of {s : SharedT} : ∀ {as : List Addr} {l : List Obj},as.map (fun a => (match Nat.blt a s.n with | true => (s.tree.get a).bind alive | false => none)) = l.map some → as.map s.abs.heap.get? = l.map some
  | [],[],_ => rfl
  | [],_ :: _,h => by cases h
  | _ :: _,[],h => by cases h
  | a :: as,o :: l,h => by
    simp only [List.map_cons,List.cons.injEq] at h ⊢
    refine ⟨?_,obs_of h.2⟩
    have h1 := h.1
    cases e : Nat.blt a s.n with
    | false => rw [e] at h1; cases h1
    | true =>
      rw [e] at h1
      obtain ⟨o',h2,h3⟩ := Option.bind_eq_some_iff.mp h1
      have lt : a < s.n := Nat.le_of_ble_eq_true e
      exact (abs_get lt h2).trans h3
noncomputable def gob (P : Params) : Option Obj := match K P with
  | p :: _ => some p.2
  | [] => none
theorem bound {P : Params} {h : Heap} (e : h.get? mainGlobals = gob P) : namesBound pw h = true := by
  unfold namesBound Heap.isNs Heap.nsKeys
  rw [e]
  kernel_rfl
theorem opened : opening pw = plainProg pw.main.scope.names := by kernel_rfl
theorem fence (s : Shared) : fenceModules? pw s = some s := by kernel_rfl
theorem left : LeftO pw q loose (fun _ => true) (fun s => Kas.map s.heap.get?) (fun w => (K w.params).map fun p => some p.2) 9400 := fun w => by
  obtain ⟨⟨h,gs,d,k,os⟩,e,e'⟩ := Option.map_eq_some_iff.mp (boot_open (p := pw) (N := 9400) opened rfl fence w)
  obtain ⟨rfl,rfl,rfl,rfl⟩ : h = boot_heap w.params ∧ gs = #[] ∧ d = boot_drawn ∧ k = boot_toks := by simpa using e'
  obtain ⟨z1,z2,z3⟩ : _ ∧ _ ∧ _ := by simpa only [Prod.mk.injEq] using ann0 w
  obtain ⟨s₁,r,l⟩ := Option.map_eq_some_iff.mp (run_w w os)
  have r' := runQ_of r
  have hs : (s0 w os).abs = ⟨boot_heap w.params,#[],boot_drawn,boot_toks,os⟩ := by
    show (⟨absHeap (t0 w.params) 11 (boot_heap w.params).life,#[],boot_drawn,boot_toks,os⟩ : Shared) = _
    rw [h0]
  rw [hs] at r'
  obtain ⟨l1,l2,l3⟩ : _ ∧ _ ∧ _ := by
    have l := l
    unfold lookQ goodQ at l
    simpa only [Prod.mk.injEq] using l
  have l3' : Kas.map s₁.abs.heap.get? = (K w.params).map fun p => some p.2 := by
    have := obs_of (as := Kas) (l := (K w.params).map (·.2)) (s := s₁) (by rw [List.map_map]; exact l3)
    rw [List.map_map] at this; exact this
  have nb : (staticsOk (importedModules pw.main.body) (boot_heap w.params) s₁.abs.heap && namesBound pw s₁.abs.heap && gensDone s₁.abs && laidKept (boot_heap w.params) s₁.abs.heap) = true := by
    rw [bound (P := w.params) (Option.some.inj (congrArg List.head? l3')),Bool.and_true]
    exact l1
  have t : topFrom treeTable pw w 9400 ⟨boot_heap w.params,#[],boot_drawn,boot_toks,os⟩ = some s₁.abs := by
    unfold topFrom
    dsimp only
    rw [z1,z2,z3,r']
    show (match staticsOk (importedModules pw.main.body) (boot_heap w.params) s₁.abs.heap && namesBound pw s₁.abs.heap && gensDone s₁.abs && laidKept (boot_heap w.params) s₁.abs.heap with | true => _ | false => _) = _
    rw [nb]
  unfold openEnds
  rw [e]
  rw [Option.bind_some]
  rw [t]
  refine congrArg some (Prod.ext ?_ l3')
  have e2 : seenQ q loose (importedModules pw.main.body) (fun _ => true) true s₁.abs = openSeen q loose (importedModules pw.main.body) (fun _ => true) true s₁.abs := by rw [PySem.W.Fast.te4187177175401517315]
  exact e2.symm.trans l2
theorem sa1 : (sreFenced pw.main && ((moduleNames pw.main.body).isEmpty || lookedIntoSs (moduleNames pw.main.body) pw.main.body)) = true := by
  rw [PySem.W.Fast.te11788848310118352699,PySem.W.Fast.te9807087744658564304,PySem.W.Fast.te12862048085361865435]
  kernel_rfl
theorem sa2 : namesResolve pw = true := by
  rw [PySem.W.Fast.te8377067652309620493]
  kernel_rfl
theorem sa3 : (pw.boundNames.all fun n => !worldNames.contains n) = true := by
  rw [PySem.W.Fast.te18344453789297297638]
  kernel_rfl
theorem sa4 : (["vars","dir","locals"] : List Str).filter (readsOut pw pw.main.body) = [] := by
  rw [PySem.W.Fast.te13343964577679436407]
  kernel_rfl
theorem sa5 : noRoadLSs { strict := !(importedModules pw.main.body).all cThrough.contains,foot := none,bare := [] } pw.main.body = true := by
  rw [PySem.W.Fast.te8326940854005059898,PySem.W.Fast.te17691160309236699985]
  kernel_rfl
theorem sa6 : namesMeet pw pw.main.body (fun _ n => attrL n) = true := by
  rw [PySem.W.Fast.te17119622794617984870]
  kernel_rfl
theorem looks : looksOpen pw = true := by
  unfold looksOpen
  rw [sa1,sa2,sa3,sa4,sa5,sa6]
  rfl
theorem said_row : PySem.W.Fast.tw17960256430627541270 (PySem.W.Fast.tw2368527892694137696 PySem.Challenge.rw_rg0167_01) = true := by
  rw [← PySem.W.Fast.te17960256430627541270,← PySem.W.Fast.te2368527892694137696]
  unfold OpenRow.wellSaid OpenRow.partSaid
  rw [show looksOpen PySem.Challenge.rw_rg0167_01.row.prog = true from looks]
  kernel_rfl
theorem said_ : OpenLaw.wellSaid PySem.Challenge.rw_rg0167_01 = true := by
  rw [PySem.W.Fast.te9446332074065402090]
  delta PySem.W.Fast.tw9446332074065402090
  rw [said_row]
  kernel_rfl
theorem hdef : defOf q (S "law") = some (lawD,[]) := by kernel_rfl
theorem hp : pw.theDef (S "law") = some (lawD.params,lawD.body,lawD.scope) := by kernel_rfl
theorem hk : kwWritten? lawD.params.kwonlyargs lawD.params.kw_defaults = some [] := by kernel_rfl
theorem okf : (chainsOk q && opensWell row.prog && (frees row.toRowW && row.toRowW.within.isEmpty)) = true := by kernel_rfl
noncomputable def obsF (s : Shared) : List (Option Obj) := Kas.map s.heap.get?
noncomputable def valF (w : World) : List (Option Obj) := (K w.params).map fun p => some p.2
theorem left' : LeftO row.toRowW.prog q loose (fun _ => true) obsF valF 9400 := left
theorem head_ (call : WalkO q loose (fun _ _ => True) (InK K) row.toRowW lawD [] fun f vs => PySem.call f vs) : PySem.Challenge.rw_rg0167_01.Holds :=
  holds_law said_ fun said => PySem.W.holds_open (r := row) (q := q) (loose := loose) (Xt := fun _ => true) (XP := fun _ _ => True) (Yf := obsF) (Ya := valF) (YP := InK K) (d := lawD) (kwd := []) (N := 9400)
    left' (fun w s e => InK.of Kas_eq w s e) InK.keeps (fun _ _ => trivial) (fun _ _ _ _ _ => trivial) hdef hp hk (fun _ _ => recFacts_nil rfl) rfl said okf ⟨rfl,rfl,rfl,rfl,rfl,by decide +kernel⟩ (by w_witness2) call
inductive V where
  | none | bool (b : Bool) | int (i : Int) | str (x : Str) | bytes (l : List UInt8)
  | tup (l : List V) | lst (l : List V)
  | inst (c : Nat) (fs : List (Nat × V))
  | cell (k : Nat)
  | rng (n : Nat)
  | dct (l : List (Int × V))
  | val (v : Value)
inductive Cell where
  | lst (l : List V)
  | inst (c : Nat) (fs : List (Nat × V))
  | dct (l : List (Int × V))
  | dead
inductive CC where
  | lst (a : Addr) (vs : List Value) (o : Obj)
  | inst (x d : Addr) (c : Nat) (es : List DictEntry) (n : Nat)
  | dct (a : Addr) (kvs : List (Int × Value)) (o : Obj)
  | dead (a : Addr)
noncomputable abbrev lstO (vs : List Value) (n : Nat) : Obj := { cls := .type "list",data := .seq vs.toArray n }
noncomputable abbrev tupO (vs : List Value) (n : Nat) : Obj := { cls := .type "tuple",data := .seq vs.toArray n }
noncomputable abbrev rngO (n : Nat) (t u w : Tok) : Obj := { cls := .type "range",data := .fields #[.int 0 t,.int n u,.int 1 w] }
noncomputable def DctO (o : Obj) (kvs : List (Int × Value)) : Prop := ∀ (p : Program) (w : World),o.IsDictOf (PySem.intKind p w) kvs
noncomputable def LstO (o : Obj) (vs : List Value) : Prop := ∃ n,o = lstO vs n
theorem LstO.at {h : Heap} {a : Addr} {o : Obj} {vs : List Value} (l : LstO o vs) (e : h.get? a = some o) : h.IsList a vs.toArray := by
  obtain ⟨n,rfl⟩ := l
  exact ⟨_,e,rfl,n,rfl⟩
noncomputable def CC.addr : CC → Addr
  | .lst a _ _ => a
  | .inst x _ _ _ _ => x
  | .dct a _ _ => a
  | .dead a => a
noncomputable def CC.objs : CC → List (Addr × Obj)
  | .lst a _ o => [(a,o)]
  | .inst x d c es n => [(x,instObj c d),(d,dictOf es n)]
  | .dct a _ o => [(a,o)]
  | .dead _ => []
noncomputable abbrev Zm := Addr → Option Obj
noncomputable def Zle (Z Z' : Zm) : Prop := ∀ b o,Z b = some o → Z' b = some o
theorem Zle.refl {Z : Zm} : Zle Z Z := fun _ _ e => e
theorem Zle.trans {Z Z' Z'' : Zm} (a : Zle Z Z') (b : Zle Z' Z'') : Zle Z Z'' := fun x o e => b x o (a x o e)
noncomputable abbrev OG := OsState × Array GenState
noncomputable abbrev og (s : Shared) : OG := (s.os,s.gens)
noncomputable def Zk (x y : OG) (Z Z' : Zm) : Prop := Zle Z Z' ∧ x = y
theorem Zk.refl {x : OG} {Z : Zm} : Zk x x Z Z := ⟨.refl,rfl⟩
theorem Zk.trans {x y z : OG} {Z Z' Z'' : Zm} (a : Zk x y Z Z') (b : Zk y z Z' Z'') : Zk x z Z Z'' := ⟨a.1.trans b.1,a.2.trans b.2⟩
theorem Zk.to {x y z : OG} {Z Z' : Zm} (a : Zk x y Z Z') (b : y = z) : Zk x z Z Z' := ⟨a.1,a.2.trans b⟩
theorem Zle.k {x : OG} {Z Z' : Zm} (a : Zle Z Z') : Zk x x Z Z' := ⟨a,rfl⟩
noncomputable def ZIn (Z : Zm) (h : Heap) : Prop := ∀ b o,Z b = some o → h.get? b = some o
noncomputable abbrev Adr := List Addr
noncomputable def Ale (r r' : Adr) : Prop := ∀ (k : Nat) (a : Addr),r[k]? = some a → r'[k]? = some a
theorem Ale.refl {r : Adr} : Ale r r := fun _ _ e => e
theorem Ale.trans {r r' r'' : Adr} (a : Ale r r') (b : Ale r' r'') : Ale r r'' := fun x o e => b x o (a x o e)
theorem Ale.app {r l : Adr} : Ale r (r ++ l) := fun k a e => by
  rw [List.getElem?_append_left (List.getElem?_eq_some_iff.mp e).1]; exact e
inductive RvT (Z : Zm) (L : List Value → Prop) (v : Value) : Prop
  | mk (a : Addr) (vs : List Value) (n : Nat) (h0 : v = .ref a) (h1 : Z a = some (tupO vs n)) (h2 : L vs) : RvT Z L v
inductive RvS (Z : Zm) (L : List Value → Prop) (v : Value) : Prop
  | mk (a : Addr) (vs : List Value) (o : Obj) (h0 : v = .ref a) (h1 : Z a = some o) (h2 : LstO o vs) (h3 : L vs) : RvS Z L v
inductive RvI (Z : Zm) (c : Nat) (L : List DictEntry → Prop) (v : Value) : Prop
  | mk (x d : Addr) (es : List DictEntry) (n : Nat) (h0 : v = .ref x) (h1 : Z x = some (instObj c d)) (h2 : Z d = some (dictOf es n)) (h3 : L es) : RvI Z c L v
inductive RvB (Z : Zm) (L : List (Int × Value) → Prop) (v : Value) : Prop
  | mk (a : Addr) (kvs : List (Int × Value)) (o : Obj) (h0 : v = .ref a) (h1 : Z a = some o) (h2 : (a == sysModules) = false) (h3 : DctO o kvs) (h4 : L kvs) : RvB Z L v
inductive RvK (r : Adr) (k : Nat) (v : Value) : Prop
  | mk (a : Addr) (h0 : v = .ref a) (h1 : r[k]? = some a) : RvK r k v
inductive RvO (A : Value → Prop) (B : List Value → Prop) (vs : List Value) : Prop
  | mk (v : Value) (l : List Value) (h0 : vs = v :: l) (h1 : A v) (h2 : B l) : RvO A B vs
mutual
noncomputable def Rv (an : Nat → Str) (P : Params) (Z : Zm) (r : Adr) : V → Value → Prop
  | .none,v => v = .none
  | .bool b,v => v = .bool b
  | .int i,v => ∃ t,v = .int i t
  | .str x,v => ∃ t,v = .str x t
  | .bytes l,v => ∃ t,v = .bytes l.toArray t
  | .tup l,v => RvT Z (fun u => RvL an P Z r l u) v
  | .lst l,v => RvS Z (fun u => RvL an P Z r l u) v
  | .inst c fs,v => RvI Z c (fun u => RvF an P Z r fs u) v
  | .cell k,v => RvK r k v
  | .rng n,v => ∃ a t u w,v = .ref a ∧ Z a = some (rngO n t u w)
  | .dct l,v => RvB Z (fun u => RvD an P Z r l u) v
  | .val u,v => v = u
noncomputable def RvL (an : Nat → Str) (P : Params) (Z : Zm) (r : Adr) : List V → List Value → Prop
  | [],vs => vs = []
  | x :: l,vs => RvO (fun u => Rv an P Z r x u) (fun u => RvL an P Z r l u) vs
noncomputable def RvF (an : Nat → Str) (P : Params) (Z : Zm) (r : Adr) : List (Nat × V) → List DictEntry → Prop
  | [],es => es = []
  | (k,x) :: l,es => ∃ hsh t v es',es = ⟨hsh,.str (an k) t,v⟩ :: es' ∧ k < 64 ∧ Rv an P Z r x v ∧ RvF an P Z r l es'
noncomputable def RvD (an : Nat → Str) (P : Params) (Z : Zm) (r : Adr) : List (Int × V) → List (Int × Value) → Prop
  | [],es => es = []
  | (k,x) :: l,es => ∃ v es',es = (k,v) :: es' ∧ Rv an P Z r x v ∧ RvD an P Z r l es'
end
mutual
theorem Rv.mono {an : Nat → Str} {P : Params} {Z Z' : Zm} {r r' : Adr} (hz : Zle Z Z') (hr : Ale r r') : ∀ {x : V} {v : Value},Rv an P Z r x v → Rv an P Z' r' x v
  | .none,_,h => by unfold Rv at h ⊢; exact h
  | .bool _,_,h => by unfold Rv at h ⊢; exact h
  | .int _,_,h => by unfold Rv at h ⊢; exact h
  | .str _,_,h => by unfold Rv at h ⊢; exact h
  | .bytes _,_,h => by unfold Rv at h ⊢; exact h
  | .val _,_,h => by unfold Rv at h ⊢; exact h
  | .tup _,_,h => by unfold Rv at h ⊢; obtain ⟨a,vs,n,h1,h2,h3⟩ := h; exact ⟨a,vs,n,h1,hz _ _ h2,RvL.mono hz hr h3⟩
  | .lst _,_,h => by unfold Rv at h ⊢; obtain ⟨a,vs,o,h1,h2,ho,h3⟩ := h; exact ⟨a,vs,o,h1,hz _ _ h2,ho,RvL.mono hz hr h3⟩
  | .inst _ _,_,h => by unfold Rv at h ⊢; obtain ⟨x,d,es,n,h1,h2,h3,h4⟩ := h; exact ⟨x,d,es,n,h1,hz _ _ h2,hz _ _ h3,RvF.mono hz hr h4⟩
  | .cell _,_,h => by unfold Rv at h ⊢; obtain ⟨a,h1,h2⟩ := h; exact ⟨a,h1,hr _ _ h2⟩
  | .rng _,_,h => by unfold Rv at h ⊢; obtain ⟨a,t,u,w,h1,h2⟩ := h; exact ⟨a,t,u,w,h1,hz _ _ h2⟩
  | .dct _,_,h => by unfold Rv at h ⊢; obtain ⟨a,kvs,o,h1,h2,h3,h4,h5⟩ := h; exact ⟨a,kvs,o,h1,hz _ _ h2,h3,h4,RvD.mono hz hr h5⟩
theorem RvL.mono {an : Nat → Str} {P : Params} {Z Z' : Zm} {r r' : Adr} (hz : Zle Z Z') (hr : Ale r r') : ∀ {x : List V} {v : List Value},RvL an P Z r x v → RvL an P Z' r' x v
  | [],_,h => by unfold RvL at h ⊢; exact h
  | _ :: _,_,h => by unfold RvL at h ⊢; obtain ⟨v,vs,h1,h2,h3⟩ := h; exact ⟨v,vs,h1,h2.mono hz hr,RvL.mono hz hr h3⟩
theorem RvF.mono {an : Nat → Str} {P : Params} {Z Z' : Zm} {r r' : Adr} (hz : Zle Z Z') (hr : Ale r r') : ∀ {x : List (Nat × V)} {v : List DictEntry},RvF an P Z r x v → RvF an P Z' r' x v
  | [],_,h => by unfold RvF at h ⊢; exact h
  | (_,_) :: _,_,h => by unfold RvF at h ⊢; obtain ⟨hs,t,v,vs,h1,hk,h2,h3⟩ := h; exact ⟨hs,t,v,vs,h1,hk,h2.mono hz hr,RvF.mono hz hr h3⟩
theorem RvD.mono {an : Nat → Str} {P : Params} {Z Z' : Zm} {r r' : Adr} (hz : Zle Z Z') (hr : Ale r r') : ∀ {x : List (Int × V)} {v : List (Int × Value)},RvD an P Z r x v → RvD an P Z' r' x v
  | [],_,h => by unfold RvD at h ⊢; exact h
  | (_,_) :: _,_,h => by unfold RvD at h ⊢; obtain ⟨v,vs,h1,h2,h3⟩ := h; exact ⟨v,vs,h1,h2.mono hz hr,RvD.mono hz hr h3⟩
end
noncomputable def CR (an : Nat → Str) (P : Params) (Z : Zm) (r : Adr) : Cell → CC → Prop
  | .lst l,.lst _ vs o => LstO o vs ∧ RvL an P Z r l vs
  | .inst c fs,.inst _ _ c' es _ => c = c' ∧ RvF an P Z r fs es
  | .dct l,.dct a kvs o => (a == sysModules) = false ∧ DctO o kvs ∧ RvD an P Z r l kvs
  | .dead,_ => True
  | _,_ => False
theorem CR.mono {an : Nat → Str} {P : Params} {Z Z' : Zm} {r r' : Adr} (hz : Zle Z Z') (hr : Ale r r') : ∀ {x : Cell} {c : CC},CR an P Z r x c → CR an P Z' r' x c
  | .lst _,.lst _ _ _,h => ⟨h.1,RvL.mono hz hr h.2⟩
  | .inst _ _,.inst _ _ _ _ _,h => ⟨h.1,RvF.mono hz hr h.2⟩
  | .dct _,.dct _ _ _,h => ⟨h.1,h.2.1,RvD.mono hz hr h.2.2⟩
  | .dead,_,_ => trivial
  | .lst _,.inst _ _ _ _ _,h => h.elim
  | .lst _,.dct _ _ _,h => h.elim
  | .lst _,.dead _,h => h.elim
  | .inst _ _,.lst _ _ _,h => h.elim
  | .inst _ _,.dct _ _ _,h => h.elim
  | .inst _ _,.dead _,h => h.elim
  | .dct _,.lst _ _ _,h => h.elim
  | .dct _,.inst _ _ _ _ _,h => h.elim
  | .dct _,.dead _,h => h.elim
noncomputable def CRs (an : Nat → Str) (P : Params) (Z : Zm) (r : Adr) : List Cell → List CC → Prop
  | [],[] => True
  | x :: l,c :: g => CR an P Z r x c ∧ CRs an P Z r l g
  | _,_ => False
theorem CRs.mono {an : Nat → Str} {P : Params} {Z Z' : Zm} {r r' : Adr} (hz : Zle Z Z') (hr : Ale r r') : ∀ {x : List Cell} {g : List CC},CRs an P Z r x g → CRs an P Z' r' x g
  | [],[],_ => trivial
  | _ :: _,_ :: _,h => ⟨h.1.mono hz hr,CRs.mono hz hr h.2⟩
  | [],_ :: _,h => h.elim
  | _ :: _,[],h => h.elim
structure Tb where
  own : Nat → Nat → Bool
  cst : Nat → Nat → Option V
  meth : Nat → Nat → Option Addr
structure Tb.Ok (T : Tb) (K : Frag) (P : Params) (an : Nat → Str) : Prop where
  inj : ∀ i j,i < 64 → j < 64 → an i = an j → i = j
  own : ∀ c k,T.own c k = true → hasDictIn K c = true ∧ findIn K (.ref c) "__getattribute__" = some (some (.builtin "object.__getattribute__")) ∧ (∃ a,findIn K (.ref c) (an k) = some a ∧ noGet K a = true) ∧
    takerIn K c (an k) = some none ∧ plainOver K c = true ∧ findIn K (.ref c) "__setattr__" = some (some (.builtin "object.__setattr__"))
  cst : ∀ c k v,T.cst c k = some v → hasDictIn K c = true ∧ k < 64 ∧ findIn K (.ref c) "__getattribute__" = some (some (.builtin "object.__getattribute__")) ∧
    ∃ a,findIn K (.ref c) (an k) = some (some a) ∧ specialIn K a "__get__" = some none ∧ handedIn a = true ∧ copiedNames.contains (an k) = false ∧ ∀ Z r,Rv an P Z r v a
  meth : ∀ c k f,T.meth c k = some f → hasDictIn K c = true ∧ k < 64 ∧ plainGet K c (an k) = true ∧ findIn K (.ref c) (an k) = some (some (.ref f)) ∧ isFn K (.ref f) = true ∧ fnIn K f = true
structure Gx where
  prog : Program
  w : World
  K : Frag
  p : Program
  loose : List Str
  mg : Str → Option Value
  mb : Str → Option Value
  an : Nat → Str
  T : Tb
  ovf : Addr
  P0 : Zm
  zg : Zm
  q : Bool
structure Gx.Ok (G : Gx) : Prop where
  inK : ∀ h,ZIn G.P0 h → G.K.In h
  top : ∀ h,ZIn G.P0 h → TopRead G.p G.loose G.mg G.mb h
  tab : G.T.Ok G.K G.w.params G.an
structure Hp (P Z : Zm) (g : List CC) (h : Heap) : Prop where
  kz : ZIn Z h
  kp : ZIn P h
  own : ∀ q ∈ g.flatMap CC.objs,h.get? q.1 = some q.2 ∧ Z q.1 = none ∧ P q.1 = none
  nd : ((g.flatMap CC.objs).map (·.1)).Nodup
inductive RaisedB (F : Heap → List Env → Addr → Value → Value → Heap → Prop) (G : Gx) (x : OG) (fr : List Env) (P Z : Zm) (r : Adr) (cells : List Cell) (u : Value) (s' : Shared) : Prop
  | mk (e : Addr) (B : Heap) (Z' : Zm) (g : List CC) (a0 : Value) (h1 : u = .ref e) (h2 : F B fr e (.ref G.ovf) a0 s'.heap) (h3 : Zk x (og s') Z Z') (h4 : Ale r (g.map CC.addr)) (h5 : ZIn Z' B)
    (h6 : ∀ q ∈ g.flatMap CC.objs,B.get? q.1 = some q.2 ∧ Z' q.1 = none ∧ P q.1 = none) (h7 : ((g.flatMap CC.objs).map (·.1)).Nodup) (h8 : CRs G.an G.w.params Z' (g.map CC.addr) cells g)
    (h9 : ∀ b o,Z' b = some o → Z b = some o ∨ P b = none)
    (h10 : ∀ b o,P b = some o → b ∉ fr.filterMap (·.frame) → B.get? b = some o) (h11 : ∀ b o,P b = some o → b ∈ fr.filterMap (·.frame) → ∃ sl,s'.heap.get? b = some { o with slots := sl }) : RaisedB F G x fr P Z r cells u s'
noncomputable def FreshW (base : Heap) (l : List Env) (e : Addr) (cls a0 : Value) (h : Heap) : Prop :=
  base.StaysIn h ∧ base.get? e = none ∧ h.FunFrames base l ∧ ∃ oe vs,h.get? e = some oe ∧ oe.cls = cls ∧ oe.data = .fields vs ∧ vs[0]? = some a0 ∧ vs[1]? = some .none
noncomputable def CtxN (q : Bool) (e : Addr) (h : Heap) : Prop := q = true → ∃ oe vs,h.get? e = some oe ∧ oe.data = .fields vs ∧ vs[2]? = some .none
noncomputable def FlyX (q : Bool) (base : Heap) (l : List Env) (e : Addr) (cls a0 : Value) (h : Heap) : Prop := Heap.FlyingW base l e cls a0 h ∧ CtxN q e h
noncomputable def Fly (q : Bool) (base : Heap) (l : List Env) (e : Addr) (cls a0 : Value) (h : Heap) : Prop := (Heap.FlyingW base l e cls a0 h ∨ FreshW base l e cls a0 h) ∧ CtxN q e h
noncomputable abbrev RaisedAt (G : Gx) := RaisedB (FlyX G.q) G
theorem RaisedB.mono {F : Heap → List Env → Addr → Value → Value → Heap → Prop} {G : Gx} {x y : OG} {fr : List Env} {P Z Z' : Zm} {r r' : Adr} {cells : List Cell} {u : Value} {s' : Shared} (hz : Zk x y Z Z') (hr : Ale r r') (hp : ∀ b o,Z' b = some o → Z b = some o ∨ P b = none) (h : RaisedB F G y fr P Z' r' cells u s') : RaisedB F G x fr P Z r cells u s' := by
  obtain ⟨e,B,Z₂,g,a0,h1,h2,h3,h4,h5,h6,h7,h8,hn,h9,h10⟩ := h
  exact ⟨e,B,Z₂,g,a0,h1,h2,hz.trans h3,hr.trans h4,h5,h6,h7,h8,fun b o x => (hn b o x).elim (hp b o) .inr,h9,h10⟩
theorem RaisedB.imp {F F' : Heap → List Env → Addr → Value → Value → Heap → Prop} {G : Gx} {x : OG} {fr : List Env} {P Z : Zm} {r : Adr} {cells : List Cell} {u : Value} {s' : Shared} (hf : ∀ B e c a,F B fr e c a s'.heap → F' B fr e c a s'.heap) (h : RaisedB F G x fr P Z r cells u s') : RaisedB F' G x fr P Z r cells u s' := by
  obtain ⟨e,B,Z₂,g,a0,h1,h2,h3,h4,h5,h6,h7,h8,hn,h9,h10⟩ := h
  exact ⟨e,B,Z₂,g,a0,h1,hf _ _ _ _ h2,h3,h4,h5,h6,h7,h8,hn,h9,h10⟩
noncomputable def FrP (P Z : Zm) (fr : List Env) : Prop := ∀ env ∈ fr,env.scope.kind ≠ .module ∧ ∃ L o es ep,env.frame = some L ∧ P L = some o ∧ o.data = .dict es ep ∧ Z L = none
noncomputable def Hd (q : Bool) (A : Around) (P : Zm) : Prop := (q = true → A.handled = none) ∧ (A.handled = none ∨ ∃ e o vs,A.handled = some (.ref e) ∧ P e = some o ∧ o.data = .fields vs ∧ vs[2]? = some .none)
theorem Hd.le {q : Bool} {A : Around} {P P' : Zm} (h : Hd q A P) (hp : Zle P P') : Hd q A P' := ⟨h.1,h.2.imp id fun ⟨e,o,vs,a,b,c⟩ => ⟨e,o,vs,a,hp _ _ b,c⟩⟩
structure Cx extends Gx where
  env : Env
  L : Addr
  names : List Str
  P : Zm
  Z0 : Zm
  frs : List Env
  A : Around
  n : Nat
structure Cx.Ok (C : Cx) : Prop where
  gok : C.toGx.Ok
  p0 : Zle C.P0 C.P
  zg : Zle C.zg C.Z0
  kind : C.env.scope.kind = .function
  loc : C.env.locals = C.L
  glob : C.env.globals = mainGlobals
  blt : C.env.builtins = builtinsNs
  frames : C.A.frames = some C.frs
  frp : ∀ env ∈ C.frs,env.scope.kind ≠ .module ∧ ∃ L',env.frame = some L' ∧ (L' = C.L ∨ ∃ o es ep,C.P L' = some o ∧ o.data = .dict es ep ∧ C.Z0 L' = none)
  hd : Hd C.q C.A C.P
  depth : C.A.depth + C.n < 1000
  units : C.A.units + 4 * C.n < 9000
  nodup : C.names.Nodup
  cinj : ∀ (y y' : Str) (c : Addr),C.env.cells.lookup y = some c → C.env.cells.lookup y' = some c → y = y'
theorem Cx.Ok.tab {C : Cx} (hC : C.Ok) : C.T.Ok C.K C.w.params C.an := hC.gok.tab
theorem Cx.Ok.inK {C : Cx} (hC : C.Ok) (h : Heap) (k : ZIn C.P h) : C.K.In h := hC.gok.inK h fun b o e => k b o (hC.p0 b o e)
theorem Cx.Ok.top {C : Cx} (hC : C.Ok) (h : Heap) (k : ZIn C.P h) : TopRead C.p C.loose C.mg C.mb h := hC.gok.top h fun b o e => k b o (hC.p0 b o e)
structure Iv (P Z0 : Zm) (L : Addr) (Z : Zm) (m : Str → Option Value) (g : List CC) (cs : List (Addr × Obj)) (h : Heap) : Prop where
  ns : h.Ns L m
  kz : ZIn Z h
  kp : ZIn P h
  zl : Z L = none
  pl : P L = none
  own : ∀ q ∈ g.flatMap CC.objs ++ cs,h.get? q.1 = some q.2 ∧ Z q.1 = none ∧ P q.1 = none ∧ q.1 ≠ L
  nd : ((g.flatMap CC.objs ++ cs).map (·.1)).Nodup
  zp : ∀ b o,Z b = some o → Z0 b = some o ∨ P b = none
  z0 : Zle Z0 Z
noncomputable def place (env : Env) (m : Str → Option Value) (cs : List (Addr × Obj)) (x : Str) (v : Value) : Prop :=
  (env.kindOf x = some .local ∧ m x = some v) ∨ ((env.kindOf x = some .cell ∨ env.kindOf x = some .free) ∧ ∃ c o,env.cells.lookup x = some c ∧ (c,o) ∈ cs ∧ o.data = .cell (some v))
noncomputable abbrev Lc := List (Option V)
noncomputable def LcR (C : Cx) (Z : Zm) (r : Adr) (m : Str → Option Value) (cs : List (Addr × Obj)) (lc : Lc) : Prop :=
  ∀ (i : Nat) (x : Str) (v : V),C.names[i]? = some x → lc[i]? = some (some v) → ∃ u,place C.env m cs x u ∧ Rv C.an C.w.params Z r v u
noncomputable def ClR (C : Cx) (cs : List (Addr × Obj)) : Prop := ∀ (y : Str) (c : Addr),C.env.cells.lookup y = some c → ∃ o v,(c,o) ∈ cs ∧ o.data = .cell v
theorem LcR.sub {C : Cx} {Z Z' : Zm} {r r' : Adr} {m : Str → Option Value} {cs cs' : List (Addr × Obj)} {lc : Lc} (K : ∀ {c o v},(c,o) ∈ cs → o.data = .cell v → (c,o) ∈ cs') (hz : Zle Z Z') (hr : Ale r r') (h : LcR C Z r m cs lc) : LcR C Z' r' m cs' lc := fun i x v h1 h2 => by
  obtain ⟨u,p,R⟩ := h i x v h1 h2
  refine ⟨u,?_,R.mono hz hr⟩
  rcases p with p | ⟨p1,c,o,p2,p3,p4⟩
  · exact .inl p
  · exact .inr ⟨p1,c,o,p2,K p3 p4,p4⟩
theorem ClR.sub {C : Cx} {cs cs' : List (Addr × Obj)} (K : ∀ {c o v},(c,o) ∈ cs → o.data = .cell v → (c,o) ∈ cs') (h : ClR C cs) : ClR C cs' := fun y c e => by
  obtain ⟨o,v,h1,h2⟩ := h y c e
  exact ⟨o,v,K h1 h2,h2⟩
structure St (C : Cx) (Z : Zm) (m : Str → Option Value) (g : List CC) (cs : List (Addr × Obj)) (lc : Lc) (cells : List Cell) (h : Heap) : Prop where
  iv : Iv C.P C.Z0 C.L Z m g cs h
  cr : CRs C.an C.w.params Z (g.map CC.addr) cells g
  lr : LcR C Z (g.map CC.addr) m cs lc
  cl : ClR C cs
noncomputable def Pcall (P : Zm) (L : Addr) (oL : Obj) (cs : List (Addr × Obj)) : Zm := fun b => if b = L then some oL else match cs.lookup b with
  | some o => some o
  | none => P b
theorem RaisedB.lessP {F : Heap → List Env → Addr → Value → Value → Heap → Prop} {G : Gx} {x : OG} {fr : List Env} {P P' Z : Zm} {r : Adr} {cells : List Cell} {u : Value} {s' : Shared} (hp : Zle P P') (h : RaisedB F G x fr P' Z r cells u s') : RaisedB F G x fr P Z r cells u s' := by
  have no : ∀ b,P' b = none → P b = none := fun b e => by
    cases q : P b with
    | none => rfl
    | some o => rw [hp b o q] at e; cases e
  obtain ⟨e,B,Z₂,g,a0,h1,h2,h3,h4,h5,h6,h7,h8,hn,h9,h10⟩ := h
  exact ⟨e,B,Z₂,g,a0,h1,h2,h3,h4,h5,fun q hq => ⟨(h6 q hq).1,(h6 q hq).2.1,no _ (h6 q hq).2.2⟩,h7,h8,fun b o x => (hn b o x).imp id (no b),fun b o x => h9 b o (hp b o x),fun b o x => h10 b o (hp b o x)⟩
noncomputable def NsO (o : Obj) (m : Str → Option Value) : Prop := ∃ es ep,o.data = .dict es ep ∧ StrKeys es ∧ ∀ name,nsFind es name = m name
inductive RX (C : Cx) (x : OG) (Z : Zm) (m : Str → Option Value) (cs : List (Addr × Obj)) (r : Adr) (cells : List Cell) (u : Value) (s' : Shared) : Prop
  | mk (oL : Obj) (h1 : NsO oL m) (h2 : Zle C.P (Pcall C.P C.L oL cs)) (h3 : RaisedAt C.toGx x C.frs (Pcall C.P C.L oL cs) Z r cells u s') : RX C x Z m cs r cells u s'
noncomputable def RXs (C : Cx) (x : OG) (Z : Zm) (r : Adr) (cells : List Cell) (u : Value) (s' : Shared) : Prop := RaisedB (Fly C.q) C.toGx x C.frs C.P Z r cells u s'
theorem RX.s {C : Cx} {x : OG} {Z : Zm} {m : Str → Option Value} {cs : List (Addr × Obj)} {r : Adr} {cells : List Cell} {u : Value} {s' : Shared} (h : RX C x Z m cs r cells u s') : RXs C x Z r cells u s' :=
  let ⟨_,_,a,b⟩ := h; (b.lessP a).imp fun _ _ _ _ y => ⟨.inl y.1,y.2⟩
theorem St.zp' {C : Cx} {Z Z' : Zm} {m m' : Str → Option Value} {g g' : List CC} {cs cs' : List (Addr × Obj)} {lc lc' : Lc} {cells cells' : List Cell} {h h' : Heap} (S : St C Z m g cs lc cells h) (S' : St C Z' m' g' cs' lc' cells' h') (hz : Zle Z Z') :
    ∀ b o,Z' b = some o → Z b = some o ∨ C.P b = none := fun b o e => (S'.iv.zp b o e).imp (fun x => by
      have y := hz b o (S.iv.z0 b o x)
      exact S.iv.z0 b o x) id
theorem lookup_mem {cs : List (Addr × Obj)} {b : Addr} {o : Obj} (h : cs.lookup b = some o) : (b,o) ∈ cs := by
  induction cs with
  | nil => cases h
  | cons p l ih =>
    obtain ⟨a,x⟩ := p
    rw [List.lookup_cons] at h
    split at h
    · rename_i q; cases h; rw [beq_iff_eq.mp q]; exact .head _
    · exact .tail _ (ih h)
theorem RX.up {C : Cx} {y z : OG} {Z Z' : Zm} {m : Str → Option Value} {g g' : List CC} {cs : List (Addr × Obj)} {lc : Lc} {cells cells' c : List Cell} {h h' : Heap} {u : Value} {s' : Shared} (S : St C Z m g cs lc cells h) (S' : St C Z' m g' cs lc cells' h') (hz : Zk y z Z Z')
    (hr : Ale (g.map CC.addr) (g'.map CC.addr)) (x : RX C z Z' m cs (g'.map CC.addr) c u s') : RX C y Z m cs (g.map CC.addr) c u s' := by
  obtain ⟨oL,a,b,x⟩ := x
  refine ⟨oL,a,b,x.mono hz hr fun b o e => ?_⟩
  rcases S.zp' S' hz.1 b o e with q | q
  · exact .inl q
  · refine .inr ?_
    unfold Pcall
    split
    · rename_i z; rw [z,S'.iv.zl] at e; cases e
    · split
      · rename_i z o' q'
        have := (S'.iv.own (b,o') (List.mem_append_right _ (lookup_mem q'))).2.1
        rw [e] at this; cases this
      · exact q
theorem RXs.up {C : Cx} {y z : OG} {Z Z' : Zm} {m m' : Str → Option Value} {g g' : List CC} {cs cs' : List (Addr × Obj)} {lc lc' : Lc} {cells cells' c : List Cell} {h h' : Heap} {u : Value} {s' : Shared} (S : St C Z m g cs lc cells h) (S' : St C Z' m' g' cs' lc' cells' h') (hz : Zk y z Z Z')
    (hr : Ale (g.map CC.addr) (g'.map CC.addr)) (x : RXs C z Z' (g'.map CC.addr) c u s') : RXs C y Z (g.map CC.addr) c u s' := x.mono hz hr (S.zp' S' hz.1)
noncomputable def brW (c : Bool) (A B : Prop) : Prop := match c with | true => A | false => B
noncomputable def okW (c : Bool) (A : Prop) : Prop := match c with | true => A | false => False
theorem okW_iff {c : Bool} {A : Prop} (h : okW c A) : c = true ∧ A := by
  cases c
  · exact h.elim
  · exact ⟨rfl,h⟩
theorem ok_le {a b : Nat} {A : Prop} (h : okW (Nat.ble a b) A) : a ≤ b ∧ A := ⟨Nat.ble_eq.mp (okW_iff h).1,(okW_iff h).2⟩
noncomputable abbrev WE := Lc → List Cell → (V → List Cell → Prop) → (List Cell → Prop) → Prop
noncomputable abbrev WT := Lc → List Cell → (Bool → List Cell → Prop) → (List Cell → Prop) → Prop
structure SA {α β : Type} (C : Cx) (t : Sem β) (R : Zm → Adr → α → β → Prop) (we : Lc → List Cell → (α → List Cell → Prop) → (List Cell → Prop) → Prop)   : Prop where
  run :
  ∀ lc cells k x,we lc cells k x → ∀ Z m g cs s Q E,St C Z m g cs lc cells s.heap →
    (∀ v cells' Z' g' s' u,Zk (og s) (og s') Z Z' → Ale (g.map CC.addr) (g'.map CC.addr) → St C Z' m g' cs lc cells' s'.heap → R Z' (g'.map CC.addr) v u → k v cells' → Q u s') →
    (∀ cells' u s',RX C (og s) Z m cs (g.map CC.addr) cells' u s' → x cells' → E u s') → wpAny (model C.prog C.w) C.A t Q E s
noncomputable abbrev SE (C : Cx) (e : Expr) (we : WE) : Prop := SA C (eval e C.env) (Rv C.an C.w.params) we
noncomputable abbrev ST (C : Cx) (e : Expr) (wt : WT) : Prop := SA C (isTrue e C.env (eval e C.env)) (fun _ _ b c => c = b) wt
theorem St.go {C : Cx} {Z Z' : Zm} {m : Str → Option Value} {g g' : List CC} {cs : List (Addr × Obj)} {lc : Lc} {cells cells' : List Cell} {h h' : Heap} (S : St C Z m g cs lc cells h)
    (hz : Zle Z Z') (hr : Ale (g.map CC.addr) (g'.map CC.addr)) (iv : Iv C.P C.Z0 C.L Z' m g' cs h') (cr : CRs C.an C.w.params Z' (g'.map CC.addr) cells' g') : St C Z' m g' cs lc cells' h' :=
  ⟨iv,cr,S.lr.sub (fun a _ => a) hz hr,S.cl⟩
theorem SA.bind {α β γ δ : Type} {C : Cx} {t : Sem β} {f : β → Sem δ} {R : Zm → Adr → α → β → Prop} {R' : Zm → Adr → γ → δ → Prop} {w1 : Lc → List Cell → (α → List Cell → Prop) → (List Cell → Prop) → Prop}
    {w2 : α → Lc → List Cell → (γ → List Cell → Prop) → (List Cell → Prop) → Prop} (hC : C.Ok) (h1 : SA C t R w1)
    (h2 : ∀ v lc cells k x,w2 v lc cells k x → ∀ Z m g cs s Q E u,St C Z m g cs lc cells s.heap → R Z (g.map CC.addr) v u →
      (∀ v' cells' Z' g' s' u',Zk (og s) (og s') Z Z' → Ale (g.map CC.addr) (g'.map CC.addr) → St C Z' m g' cs lc cells' s'.heap → R' Z' (g'.map CC.addr) v' u' → k v' cells' → Q u' s') →
      (∀ cells' u' s',RX C (og s) Z m cs (g.map CC.addr) cells' u' s' → x cells' → E u' s') → wpAny (model C.prog C.w) C.A (f u) Q E s) :
    SA C (t >>= f) R' (fun lc cells k x => w1 lc cells (fun v cells' => w2 v lc cells' k x) x) := by
  constructor; intro lc cells k x hw Z m g cs s Q E S hQ hE
  refine wpAny_bind (h1.run lc cells _ x hw Z m g cs s _ E S (fun v cells' Z' g' s' u hz hr S' hR hk => ?_) hE)
  exact h2 v lc cells' k x hk Z' m g' cs s' Q E u S' hR (fun v' c' Z'' g'' s'' u' hz' hr' S'' hR' hk' => hQ v' c' Z'' g'' s'' u' (hz.trans hz') (hr.trans hr') S'' hR' hk') fun c' u' s'' rx => hE c' u' s'' (RX.up S S' hz hr rx)
section
variable {C : Cx}
theorem sInt {i : Int} {k : Nat} {pos : Pos} : SE C (.Constant (.int i) k pos) (fun _ cells k _ => k (.int i) cells) := by
  constructor; intro lc cells k x hw Z m g cs s Q E S hQ _
  exact wpAny_Constant_int (hQ _ _ Z g _ _ .refl .refl S (by unfold Rv; exact ⟨_,rfl⟩) hw)
theorem sNone {k : Nat} {pos : Pos} : SE C (.Constant .none k pos) (fun _ cells k _ => k .none cells) := by
  constructor; intro lc cells k x hw Z m g cs s Q E S hQ _
  exact fun _ _ _ => hQ _ _ Z g _ _ .refl .refl S (by unfold Rv; rfl) hw
theorem sBool {b : Bool} {k : Nat} {pos : Pos} : SE C (.Constant (.bool b) k pos) (fun _ cells k _ => k (.bool b) cells) := by
  constructor; intro lc cells k x hw Z m g cs s Q E S hQ _
  exact fun _ _ _ => hQ _ _ Z g _ _ .refl .refl S (by unfold Rv; rfl) hw
theorem sStr {y : Str} {k : Nat} {pos : Pos} : SE C (.Constant (.str y) k pos) (fun _ cells k _ => k (.str y) cells) := by
  constructor; intro lc cells k x hw Z m g cs s Q E S hQ _
  exact Calls.Constant_str (hQ _ _ Z g _ _ .refl .refl S (by unfold Rv; exact ⟨_,rfl⟩) hw)
theorem sLoc (hC : C.Ok) {y : Str} {pos : Pos} (i : Nat) (hi : C.names[i]? = some y) (hd : (y == ("__debug__" : Str)) = false) (hcd : (y == ("__classdict__" : Str)) = false) :
    SE C (.Name y pos) (fun lc cells k _ => match lc[i]? with | some (some v) => k v cells | _ => False) := by
  constructor; intro lc cells k x hw Z m g cs s Q E S hQ _
  split at hw
  · rename_i v hv
    obtain ⟨u,p,r⟩ := S.lr i y v hi hv
    have q : Q u s := hQ _ _ Z g s u .refl .refl S r hw
    rcases p with ⟨p1,p2⟩ | ⟨p1,c,o,p2,p3,p4⟩
    · exact wpAny_Name (wpAny_loadName_local hC.kind p1 (by rw [hC.loc]; exact S.iv.ns) p2 q) hd
    · have ho := (S.iv.own (c,o) (List.mem_append_right _ p3)).1
      rcases p1 with p1 | p1
      · exact wpAny_Name (wpAny_loadName_cell hC.kind p1 p2 ⟨o,ho,p4⟩ q) hd
      · exact wpAny_Name (wpAny_loadName_free hC.kind p1 p2 ⟨o,ho,p4⟩ q hcd) hd
  · exact hw.elim
end
@[reducible] noncomputable def mI (v : V) (A : Int → Prop) : Prop := match v with
  | .int i => A i
  | _ => False
@[reducible] noncomputable def mB (v : V) (A : Bool → Prop) : Prop := match v with
  | .bool i => A i
  | _ => False
@[reducible] noncomputable def mS (v : V) (A : Str → Prop) : Prop := match v with
  | .str i => A i
  | _ => False
@[reducible] noncomputable def mLs (v : V) (A : List V → Prop) : Prop := match v with
  | .lst i => A i
  | _ => False
@[reducible] noncomputable def mTp (v : V) (A : List V → Prop) : Prop := match v with
  | .tup i => A i
  | _ => False
@[reducible] noncomputable def mLT (v : V) (A : List V → Prop) : Prop := match v with
  | .lst i => A i
  | .tup i => A i
  | _ => False
@[reducible] noncomputable def mDc (v : V) (A : List (Int × V) → Prop) : Prop := match v with
  | .dct i => A i
  | _ => False
@[reducible] noncomputable def mBy (v : V) (A : List UInt8 → Prop) : Prop := match v with
  | .bytes i => A i
  | _ => False
theorem mI_ {v : V} {A : Int → Prop} (h : mI v A) : ∃ i,v = .int i ∧ A i := by cases v <;> first | exact ⟨_,rfl,h⟩ | exact h.elim
theorem mB_ {v : V} {A : Bool → Prop} (h : mB v A) : ∃ i,v = .bool i ∧ A i := by cases v <;> first | exact ⟨_,rfl,h⟩ | exact h.elim
theorem mS_ {v : V} {A : Str → Prop} (h : mS v A) : ∃ i,v = .str i ∧ A i := by cases v <;> first | exact ⟨_,rfl,h⟩ | exact h.elim
theorem mLs_ {v : V} {A : List V → Prop} (h : mLs v A) : ∃ i,v = .lst i ∧ A i := by cases v <;> first | exact ⟨_,rfl,h⟩ | exact h.elim
theorem mTp_ {v : V} {A : List V → Prop} (h : mTp v A) : ∃ i,v = .tup i ∧ A i := by cases v <;> first | exact ⟨_,rfl,h⟩ | exact h.elim
theorem mLT_ {v : V} {A : List V → Prop} (h : mLT v A) : ∃ i,(v = .lst i ∨ v = .tup i) ∧ A i := by cases v <;> first | exact ⟨_,.inl rfl,h⟩ | exact ⟨_,.inr rfl,h⟩ | exact h.elim
theorem mDc_ {v : V} {A : List (Int × V) → Prop} (h : mDc v A) : ∃ i,v = .dct i ∧ A i := by cases v <;> first | exact ⟨_,rfl,h⟩ | exact h.elim
theorem mBy_ {v : V} {A : List UInt8 → Prop} (h : mBy v A) : ∃ i,v = .bytes i ∧ A i := by cases v <;> first | exact ⟨_,rfl,h⟩ | exact h.elim
@[reducible] noncomputable def m1 {α : Type} (vs : List α) (A : α → Prop) : Prop := match vs with
  | [v] => A v
  | _ => False
theorem m1_ {α : Type} {vs : List α} {A : α → Prop} (h : m1 vs A) : ∃ v,vs = [v] ∧ A v := match vs,h with
  | [v],h => ⟨v,rfl,h⟩
@[reducible] noncomputable def m2 {α : Type} (vs : List α) (A : α → α → Prop) : Prop := match vs with
  | [v,w] => A v w
  | _ => False
theorem m2_ {α : Type} {vs : List α} {A : α → α → Prop} (h : m2 vs A) : ∃ v w,vs = [v,w] ∧ A v w := match vs,h with
  | [v,w],h => ⟨v,w,rfl,h⟩
section
variable {C : Cx}
noncomputable def PO (C : Cx) (t : Value → Value → Sem Value) (pre : V → V → (V → Prop) → Prop) : Prop :=
  ∀ va vb kk,pre va vb kk → ∀ (Z : Zm) (r : Adr) ua ub s Q E,Rv C.an C.w.params Z r va ua → Rv C.an C.w.params Z r vb ub →
    (∀ v u tk,Rv C.an C.w.params Z r v u → kk v → Q u { s with toks := tk }) → wpAny (model C.prog C.w) C.A (t ua ub) Q E s
theorem beq_dec (i j : Int) : (i == j) = decide (i = j) := by by_cases h : i = j <;> simp [h]
theorem rv_int {an P Z r} {i : Int} {u : Value} : Rv an P Z r (.int i) u ↔ ∃ t,u = .int i t := by unfold Rv; rfl
theorem rv_bool {an P Z r} {b : Bool} {u : Value} : Rv an P Z r (.bool b) u ↔ u = .bool b := by unfold Rv; rfl
theorem rv_none {an P Z r} {u : Value} : Rv an P Z r .none u ↔ u = .none := by unfold Rv; rfl
theorem rv_str {an P Z r} {x : Str} {u : Value} : Rv an P Z r (.str x) u ↔ ∃ t,u = .str x t := by unfold Rv; rfl
theorem rv_val {an P Z r} {v u : Value} : Rv an P Z r (.val v) u ↔ u = v := by unfold Rv; rfl
theorem rv_cell {an P Z r} {k : Nat} {u : Value} : Rv an P Z r (.cell k) u ↔ RvK r k u := by conv => lhs; unfold Rv
theorem rv_dct {an P Z r} {l : List (Int × V)} {u : Value} : Rv an P Z r (.dct l) u ↔ RvB Z (RvD an P Z r l) u := by conv => lhs; unfold Rv
theorem rv_rng {an P Z r} {n : Nat} {u : Value} : Rv an P Z r (.rng n) u ↔ ∃ a t u' w,u = .ref a ∧ Z a = some (rngO n t u' w) := by unfold Rv; rfl
theorem rv_bytes {an P Z r} {l : List UInt8} {u : Value} : Rv an P Z r (.bytes l) u ↔ ∃ t,u = .bytes l.toArray t := by unfold Rv; rfl
theorem rv_tup {an P Z r} {l : List V} {u : Value} : Rv an P Z r (.tup l) u ↔ RvT Z (RvL an P Z r l) u := by conv => lhs; unfold Rv
theorem rv_lst {an P Z r} {l : List V} {u : Value} : Rv an P Z r (.lst l) u ↔ RvS Z (RvL an P Z r l) u := by conv => lhs; unfold Rv
theorem rv_inst {an P Z r} {c : Nat} {fs : List (Nat × V)} {u : Value} : Rv an P Z r (.inst c fs) u ↔ RvI Z c (RvF an P Z r fs) u := by conv => lhs; unfold Rv
theorem rvl_nil {an P Z r} {vs : List Value} : RvL an P Z r [] vs ↔ vs = [] := by unfold RvL; rfl
theorem rvl_cons {an P Z r} {x : V} {l : List V} {vs : List Value} : RvL an P Z r (x :: l) vs ↔ RvO (Rv an P Z r x) (RvL an P Z r l) vs := by conv => lhs; unfold RvL
noncomputable def on2i (f : Int → Int → (V → Prop) → Prop) (a b : V) (kk : V → Prop) : Prop := mI a fun i => mI b fun j => f i j kk
theorem PO.int2 {t : Value → Value → Sem Value} {f : Int → Int → (V → Prop) → Prop}
    (h : ∀ i j kk,f i j kk → ∀ (Z : Zm) (r : Adr) ti tj s Q E,(∀ v u tk,Rv C.an C.w.params Z r v u → kk v → Q u { s with toks := tk }) → wpAny (model C.prog C.w) C.A (t (.int i ti) (.int j tj)) Q E s) : PO C t (on2i f) := by
  intro va vb kk hp Z r ua ub s Q E ra rb hQ
  replace hp := mI_ hp
  obtain ⟨i,rfl,hp⟩ := hp
  replace hp := mI_ hp
  obtain ⟨j,rfl,hp⟩ := hp
  obtain ⟨ti,rfl⟩ := rv_int.mp ra
  obtain ⟨tj,rfl⟩ := rv_int.mp rb
  exact h _ _ kk hp Z r ti tj s Q E hQ
theorem oAdd : PO C (binaryOp .Add) (on2i fun i j kk => kk (.int (i + j))) :=
  .int2 fun _ _ _ h _ _ _ _ _ _ _ hQ => add_int (hQ _ _ _ (rv_int.mpr ⟨_,rfl⟩) h)
theorem oSub : PO C (binaryOp .Sub) (on2i fun i j kk => kk (.int (i - j))) :=
  .int2 fun _ _ _ h _ _ _ _ _ _ _ hQ => sub_int (hQ _ _ _ (rv_int.mpr ⟨_,rfl⟩) h)
theorem oMul : PO C (binaryOp .Mult) (on2i fun i j kk => IntMulOk i j ∧ kk (.int (i * j))) :=
  .int2 fun _ _ _ h _ _ _ _ _ _ _ hQ => mul_int (hQ _ _ _ (rv_int.mpr ⟨_,rfl⟩) h.2) h.1
theorem oMod : PO C (binaryOp .Mod) (on2i fun i j kk => j ≠ 0 ∧ kk (.int (i.fmod j))) :=
  .int2 fun _ _ _ h _ _ _ _ _ _ _ hQ => mod_int h.1 (hQ _ _ _ (rv_int.mpr ⟨_,rfl⟩) h.2)
theorem oDiv : PO C (binaryOp .FloorDiv) (on2i fun i j kk => (j ≠ 0 ∧ Builtin.divisionGoesByPylong i j = false) ∧ kk (.int (i.fdiv j))) :=
  .int2 fun _ _ _ h _ _ _ _ _ _ _ hQ => floordiv_int h.1.1 (hQ _ _ _ (rv_int.mpr ⟨_,rfl⟩) h.2) (.inl h.1.2)
theorem oPow : PO C (binaryOp .Pow) (on2i fun i j kk => (0 ≤ j ∧ j ≤ 1000000 ∧ i.natAbs < 2 ^ 64) ∧ kk (.int (i ^ j.toNat))) :=
  .int2 fun _ _ _ h _ _ _ _ _ _ _ hQ => pow_int_small h.1.1 h.1.2.1 h.1.2.2 (hQ _ _ _ (rv_int.mpr ⟨_,rfl⟩) h.2)
theorem oiAdd : PO C (inplaceOp .Add) (on2i fun i j kk => kk (.int (i + j))) :=
  .int2 fun _ _ _ h _ _ _ _ _ _ _ hQ => iadd_int (hQ _ _ _ (rv_int.mpr ⟨_,rfl⟩) h)
theorem oLt : PO C (compareOp .Lt) (on2i fun i j kk => kk (.bool (decide (i < j)))) :=
  .int2 fun _ _ _ h _ _ _ _ _ _ _ hQ => lt_int (hQ _ _ _ (rv_bool.mpr rfl) h)
theorem oGt : PO C (compareOp .Gt) (on2i fun i j kk => kk (.bool (decide (j < i)))) :=
  .int2 fun _ _ _ h _ _ _ _ _ _ _ hQ => gt_int (hQ _ _ _ (rv_bool.mpr rfl) h)
theorem oLe : PO C (compareOp .LtE) (on2i fun i j kk => kk (.bool (decide (i ≤ j)))) :=
  .int2 fun _ _ _ h _ _ _ _ _ _ _ hQ => PySem.P.le_int (hQ _ _ _ (rv_bool.mpr rfl) h)
theorem oGe : PO C (compareOp .GtE) (on2i fun i j kk => kk (.bool (decide (j ≤ i)))) :=
  .int2 fun _ _ _ h _ _ _ _ _ _ _ hQ => PySem.P.ge_int (hQ _ _ _ (rv_bool.mpr rfl) h)
theorem oEq : PO C (compareOp .Eq) (on2i fun i j kk => kk (.bool (decide (i = j)))) :=
  .int2 fun i j _ h _ _ _ _ _ _ _ hQ => eq_int (hQ _ _ _ (rv_bool.mpr (congrArg Value.bool (beq_dec i j))) h)
theorem oNe : PO C (compareOp .NotEq) (on2i fun i j kk => kk (.bool (!decide (i = j)))) :=
  .int2 fun i j _ h _ _ _ _ _ _ _ hQ => ne_int (hQ _ _ _ (rv_bool.mpr (congrArg (fun b => Value.bool (!b)) (beq_dec i j))) h)
noncomputable def on2b (f : Bool → Bool → (V → Prop) → Prop) (a b : V) (kk : V → Prop) : Prop := mB a fun i => mB b fun j => f i j kk
theorem oEqB : PO C (compareOp .Eq) (on2b fun i j kk => kk (.bool (i == j))) := by
  intro va vb kk hp Z r ua ub s Q E ra rb hQ
  replace hp := mB_ hp
  obtain ⟨i,rfl,hp⟩ := hp
  replace hp := mB_ hp
  obtain ⟨j,rfl,hp⟩ := hp
  obtain rfl := rv_bool.mp ra
  obtain rfl := rv_bool.mp rb
  exact eq_bool (hQ _ _ s.toks (rv_bool.mpr rfl) hp)
noncomputable def isNo : V → (Bool → Prop) → Prop
  | .none,kk => kk true
  | .val _,_ => False
  | _,kk => kk false
theorem isNo_spec {an P Z r} {v : V} {u : Value} {kk : Bool → Prop} (h : isNo v kk) (rv : Rv an P Z r v u) : plainIs u .none = true ∧ kk (u == .none) := by
  cases v <;> first | exact h.elim | (unfold Rv at rv; first | (obtain ⟨_,rfl,_⟩ := rv; exact ⟨rfl,h⟩) | (obtain ⟨_,rfl⟩ := rv; exact ⟨rfl,h⟩) | (obtain ⟨_,_,_,rfl,_⟩ := rv; exact ⟨rfl,h⟩) | (obtain ⟨_,_,_,_,rfl,_⟩ := rv; exact ⟨rfl,h⟩) | (subst rv; exact ⟨rfl,h⟩))
theorem oIs : PO C (compareOp .Is) (fun a b kk => match b with | .none => isNo a (fun c => kk (.bool c)) | _ => False) := by
  intro va vb kk hp Z r ua ub s Q E ra rb hQ
  split at hp
  · obtain rfl := rv_none.mp rb
    obtain ⟨h1,h2⟩ := isNo_spec hp ra
    exact wpAny_is_plain h1 (hQ _ _ s.toks (rv_bool.mpr rfl) h2)
  · exact hp.elim
theorem oIsNot : PO C (compareOp .IsNot) (fun a b kk => match b with | .none => isNo a (fun c => kk (.bool (!c))) | _ => False) := by
  intro va vb kk hp Z r ua ub s Q E ra rb hQ
  split at hp
  · obtain rfl := rv_none.mp rb
    obtain ⟨h1,h2⟩ := isNo_spec hp ra
    exact wpAny_isNot_plain h1 (hQ _ _ s.toks (rv_bool.mpr rfl) h2)
  · exact hp.elim
end
section
variable {C : Cx}
noncomputable abbrev RvC (C : Cx) := Rv C.an C.w.params
theorem St.toks {C : Cx} {Z : Zm} {m : Str → Option Value} {g : List CC} {cs : List (Addr × Obj)} {lc : Lc} {cells : List Cell} {s : Shared} {tk : Nat} (S : St C Z m g cs lc cells s.heap) : St C Z m g cs lc cells ({ s with toks := tk } : Shared).heap := S
noncomputable def asB (k : Bool → Prop) : V → Prop
  | .bool b => k b
  | _ => False
theorem asB_spec {an P Z r} {k : Bool → Prop} {v : V} {u : Value} (h : asB k v) (rv : Rv an P Z r v u) : ∃ b,u = .bool b ∧ k b := by
  unfold asB at h
  split at h
  · exact ⟨_,rv_bool.mp rv,h⟩
  · exact h.elim
theorem tNot {a : Expr} {pos : Pos} {wa : WT} (ha : ST C a wa) : ST C (.UnaryOp .Not a pos) (fun lc cells k X => wa lc cells (fun b c1 => k (!b) c1) X) := by
  constructor; intro lc cells k x hw Z m g cs s Q E S hQ hE
  exact isTrue_not (ha.run lc cells _ x hw Z m g cs s _ E S (fun v c1 Z1 g1 s1 u hz hr S1 R hk => by subst R; exact hQ _ c1 Z1 g1 s1 _ hz hr S1 rfl hk) hE)
theorem tVal {e : Expr} {we : WE} (he : isTrue e C.env (eval e C.env) = (do let v ← eval e C.env; standAt e.pos; holding [v] (truthy v))) (h : SE C e we) : ST C e (fun lc cells k X => we lc cells (fun v c1 => asB (fun b => k b c1) v) X) := by
  constructor; intro lc cells k x hw Z m g cs s Q E S hQ hE
  refine isTrue_plain (h.run lc cells _ x hw Z m g cs s _ E S (fun v c1 Z1 g1 s1 u hz hr S1 R hk => ?_) hE) he
  obtain ⟨b,rfl,hb⟩ := asB_spec hk R
  exact wpAny_truthy_bool (hQ b c1 Z1 g1 s1 b hz hr S1 rfl hb)
theorem tAnd0 {pos : Pos} : ST C (.BoolOp .And [] pos) (fun _ cells k _ => k true cells) := by
  constructor; intro lc cells k x hw Z m g cs s Q E S hQ _
  exact isTrue_and_nil (hQ true cells Z g s true .refl .refl S rfl hw)
theorem tOr0 {pos : Pos} : ST C (.BoolOp .Or [] pos) (fun _ cells k _ => k false cells) := by
  constructor; intro lc cells k x hw Z m g cs s Q E S hQ _
  exact isTrue_or_nil (hQ false cells Z g s false .refl .refl S rfl hw)
theorem tAnd (hC : C.Ok) {a : Expr} {l : List Expr} {pos : Pos} {wa wl : WT} (ha : ST C a wa) (hl : ST C (.BoolOp .And l pos) wl) :
    ST C (.BoolOp .And (a :: l) pos) (fun lc cells k X => wa lc cells (fun b c1 => brW b (wl lc c1 k X) (k false c1)) X) := by
  constructor; intro lc cells k x hw Z m g cs s Q E S hQ hE
  refine isTrue_and (ha.run lc cells _ x hw Z m g cs s _ E S (fun v c1 Z1 g1 s1 u hz hr S1 R hk => ?_) hE)
  subst R
  cases u with
  | true => exact hl.run lc c1 k x hk Z1 m g1 cs s1 Q E S1 (fun v c2 Z2 g2 s2 u hz2 hr2 S2 R2 hk2 => hQ v c2 Z2 g2 s2 u (hz.trans hz2) (hr.trans hr2) S2 R2 hk2) (fun c u s' rx hx => hE c u s' (RX.up S S1 hz hr rx) hx)
  | false => exact hQ false c1 Z1 g1 s1 false hz hr S1 rfl hk
theorem tOr (hC : C.Ok) {a : Expr} {l : List Expr} {pos : Pos} {wa wl : WT} (ha : ST C a wa) (hl : ST C (.BoolOp .Or l pos) wl) :
    ST C (.BoolOp .Or (a :: l) pos) (fun lc cells k X => wa lc cells (fun b c1 => brW b (k true c1) (wl lc c1 k X)) X) := by
  constructor; intro lc cells k x hw Z m g cs s Q E S hQ hE
  refine isTrue_or (ha.run lc cells _ x hw Z m g cs s _ E S (fun v c1 Z1 g1 s1 u hz hr S1 R hk => ?_) hE)
  subst R
  cases u with
  | false => exact hl.run lc c1 k x hk Z1 m g1 cs s1 Q E S1 (fun v c2 Z2 g2 s2 u hz2 hr2 S2 R2 hk2 => hQ v c2 Z2 g2 s2 u (hz.trans hz2) (hr.trans hr2) S2 R2 hk2) (fun c u s' rx hx => hE c u s' (RX.up S S1 hz hr rx) hx)
  | true => exact hQ true c1 Z1 g1 s1 true hz hr S1 rfl hk
theorem SA.cond {α β : Type} (hC : C.Ok) {e : Expr} {wt : WT} {t1 t2 : Sem β} {R : Zm → Adr → α → β → Prop} {w1 w2 : Lc → List Cell → (α → List Cell → Prop) → (List Cell → Prop) → Prop} (ht : ST C e wt) (h1 : SA C t1 R w1) (h2 : SA C t2 R w2) :
    SA C (do if ← isTrue e C.env (eval e C.env) then t1 else t2) R (fun lc cells k X => wt lc cells (fun b c1 => brW b (w1 lc c1 k X) (w2 lc c1 k X)) X) := by
  constructor; intro lc cells k x hw Z m g cs s Q E S hQ hE
  refine wpAny_bind (ht.run lc cells _ x hw Z m g cs s _ E S (fun v c1 Z1 g1 s1 u hz hr S1 R' hk => ?_) hE)
  subst R'
  cases u with
  | true => exact h1.run lc c1 k x hk Z1 m g1 cs s1 Q E S1 (fun v c2 Z2 g2 s2 u hz2 hr2 S2 R2 hk2 => hQ v c2 Z2 g2 s2 u (hz.trans hz2) (hr.trans hr2) S2 R2 hk2) (fun c u s' rx hx => hE c u s' (RX.up S S1 hz hr rx) hx)
  | false => exact h2.run lc c1 k x hk Z1 m g1 cs s1 Q E S1 (fun v c2 Z2 g2 s2 u hz2 hr2 S2 R2 hk2 => hQ v c2 Z2 g2 s2 u (hz.trans hz2) (hr.trans hr2) S2 R2 hk2) (fun c u s' rx hx => hE c u s' (RX.up S S1 hz hr rx) hx)
theorem sIfE (hC : C.Ok) {t a b : Expr} {pos : Pos} {wt : WT} {wa wb : WE} (ht : ST C t wt) (ha : SE C a wa) (hb : SE C b wb) :
    SE C (.IfExp t a b pos) (fun lc cells k X => wt lc cells (fun c c1 => brW c (wa lc c1 k X) (wb lc c1 k X)) X) := SA.cond hC ht ha hb
theorem sNeg {a : Expr} {pos : Pos} {wa : WE} (ha : SE C a wa) : SE C (.UnaryOp .USub a pos) (fun lc cells k X => wa lc cells (fun v c1 => match v with | .int i => k (.int (-i)) c1 | _ => False) X) := by
  constructor; intro lc cells k x hw Z m g cs s Q E S hQ hE
  refine wpAny_bind (ha.run lc cells _ x hw Z m g cs s _ E S (fun v c1 Z1 g1 s1 u hz hr S1 R hk => ?_) hE)
  split at hk
  · obtain ⟨t,rfl⟩ := rv_int.mp R
    exact wpAny_bind (wpAny_standAt (wpAny_holding (PySem.P.neg_int (hQ _ c1 Z1 g1 _ _ hz hr S1 (rv_int.mpr ⟨_,rfl⟩) hk))))
  · exact hk.elim
noncomputable abbrev SBo (C : Cx) (pos : Pos) (op : BoolOp) (es : List Expr) (w : WE) : Prop := SA C (boolOp pos op (evalEach es C.env)) (RvC C) w
theorem bo1 {pos : Pos} {op : BoolOp} {e : Expr} {we : WE} (h : SE C e we) : SBo C pos op [e] we := h
theorem boAnd (hC : C.Ok) {pos : Pos} {e e2 : Expr} {l : List Expr} {we wl : WE} (h : SE C e we) (hl : SBo C pos .And (e2 :: l) wl) :
    SBo C pos .And (e :: e2 :: l) (fun lc cells k X => we lc cells (fun v c1 => asB (fun b => brW b (wl lc c1 k X) (k (.bool false) c1)) v) X) := by
  constructor; intro lc cells k x hw Z m g cs s Q E S hQ hE
  refine wpAny_bind (h.run lc cells _ x hw Z m g cs s _ E S (fun v c1 Z1 g1 s1 u hz hr S1 R hk => ?_) hE)
  obtain ⟨b,rfl,hb⟩ := asB_spec hk R
  refine wpAny_bind (wpAny_standAt (wpAny_bind (wpAny_holding (wpAny_truthy_bool ?_))))
  cases b with
  | true => exact hl.run lc c1 k x hb Z1 m g1 cs s1 Q E S1 (fun v c2 Z2 g2 s2 u hz2 hr2 S2 R2 hk2 => hQ v c2 Z2 g2 s2 u (hz.trans hz2) (hr.trans hr2) S2 R2 hk2) (fun c u s' rx hx => hE c u s' (RX.up S S1 hz hr rx) hx)
  | false => exact wpAny_pure (hQ _ c1 Z1 g1 s1 _ hz hr S1 (rv_bool.mpr rfl) hb)
theorem boOr (hC : C.Ok) {pos : Pos} {e e2 : Expr} {l : List Expr} {we wl : WE} (h : SE C e we) (hl : SBo C pos .Or (e2 :: l) wl) :
    SBo C pos .Or (e :: e2 :: l) (fun lc cells k X => we lc cells (fun v c1 => asB (fun b => brW b (k (.bool true) c1) (wl lc c1 k X)) v) X) := by
  constructor; intro lc cells k x hw Z m g cs s Q E S hQ hE
  refine wpAny_bind (h.run lc cells _ x hw Z m g cs s _ E S (fun v c1 Z1 g1 s1 u hz hr S1 R hk => ?_) hE)
  obtain ⟨b,rfl,hb⟩ := asB_spec hk R
  refine wpAny_bind (wpAny_standAt (wpAny_bind (wpAny_holding (wpAny_truthy_bool ?_))))
  cases b with
  | false => exact hl.run lc c1 k x hb Z1 m g1 cs s1 Q E S1 (fun v c2 Z2 g2 s2 u hz2 hr2 S2 R2 hk2 => hQ v c2 Z2 g2 s2 u (hz.trans hz2) (hr.trans hr2) S2 R2 hk2) (fun c u s' rx hx => hE c u s' (RX.up S S1 hz hr rx) hx)
  | true => exact wpAny_pure (hQ _ c1 Z1 g1 s1 _ hz hr S1 (rv_bool.mpr rfl) hb)
theorem sBool2 {pos : Pos} {op : BoolOp} {es : List Expr} {w : WE} (h : SBo C pos op es w) : SE C (.BoolOp op es pos) w := h
theorem tChain (hC : C.Ok) {a b c : Expr} {o1 o2 : CmpOp} {pos : Pos} {wa wb wc : WE} {p1 p2 : V → V → (V → Prop) → Prop} (ha : SE C a wa) (hb : SE C b wb) (hc : SE C c wc) (h1 : PO C (compareOp o1) p1) (h2 : PO C (compareOp o2) p2)
    (hm : lastMarks [o1,o2] [b,c] = false) :
    ST C (.Compare a [o1,o2] [b,c] pos) (fun lc cells k X => wa lc cells (fun va c1 => wb lc c1 (fun vb c2 => p1 va vb (asB fun t => brW t (wc lc c2 (fun vc c3 => p2 vb vc (asB fun t2 => k t2 c3)) X) (k false c2))) X) X) := by
  constructor; intro lc cells k x hw Z m g cs s Q E S hQ hE
  refine isTrue_chain (rs := []) (ha.run lc cells _ x hw Z m g cs s _ E S (fun va c1 Z1 g1 s1 ua hz1 hr1 S1 Ra hk1 => test_link (hb.run lc c1 _ x hk1 Z1 m g1 cs s1 _ E S1
    (fun vb c2 Z2 g2 s2 ub hz2 hr2 S2 Rb hk2 => h1 va vb _ hk2 Z2 _ ua ub s2 _ E (Ra.mono hz2.1 hr2) Rb fun v u tk rv hv => ?_)
    (fun c u s' rx hx => hE c u s' (RX.up S S1 hz1 hr1 rx) hx))) hE) hm
  obtain ⟨t,rfl,ht⟩ := asB_spec hv rv
  refine wpAny_truthy_bool ?_
  cases t with
  | false => exact hQ false c2 Z2 g2 _ false (hz1.trans hz2) (hr1.trans hr2) S2 rfl ht
  | true =>
    refine test_last (hc.run lc c2 _ x ht Z2 m g2 cs _ _ E S2 (fun vc c3 Z3 g3 s3 uc hz3 hr3 S3 Rc hk3 => h2 vb vc _ hk3 Z3 _ ub uc s3 _ E (Rb.mono hz3.1 hr3) Rc fun v u tk rv hv => ?_)
      (fun c u s' rx hx => hE c u s' (RX.up S S2 (hz1.trans hz2) (hr1.trans hr2) rx) hx))
    obtain ⟨t,rfl,ht⟩ := asB_spec hv rv
    exact wpAny_truthy_bool (hQ t c3 Z3 g3 _ t ((hz1.trans hz2).trans hz3) ((hr1.trans hr2).trans hr3) S3 rfl ht)
theorem sChain (hC : C.Ok) {a b c : Expr} {o1 o2 : CmpOp} {pos : Pos} {wa wb wc : WE} {p1 p2 : V → V → (V → Prop) → Prop} (ha : SE C a wa) (hb : SE C b wb) (hc : SE C c wc) (h1 : PO C (compareOp o1) p1) (h2 : PO C (compareOp o2) p2)
    (hm : lastMarks [o1,o2] [b,c] = false) :
    SE C (.Compare a [o1,o2] [b,c] pos) (fun lc cells k X => wa lc cells (fun va c1 => wb lc c1 (fun vb c2 => p1 va vb (asB fun t => brW t (wc lc c2 (fun vc c3 => p2 vb vc (fun v => k v c3)) X) (k (.bool false) c2))) X) X) := by
  constructor; intro lc cells k x hw Z m g cs s Q E S hQ hE
  refine Compare_chain (rs := []) (ha.run lc cells _ x hw Z m g cs s _ E S (fun va c1 Z1 g1 s1 ua hz1 hr1 S1 Ra hk1 => chain_link (hb.run lc c1 _ x hk1 Z1 m g1 cs s1 _ E S1
    (fun vb c2 Z2 g2 s2 ub hz2 hr2 S2 Rb hk2 => h1 va vb _ hk2 Z2 _ ua ub s2 _ E (Ra.mono hz2.1 hr2) Rb fun v u tk rv hv => ?_)
    (fun c u s' rx hx => hE c u s' (RX.up S S1 hz1 hr1 rx) hx))) hE) hm
  obtain ⟨t,rfl,ht⟩ := asB_spec hv rv
  refine wpAny_truthy_bool ?_
  cases t with
  | false => exact hQ _ c2 Z2 g2 _ _ (hz1.trans hz2) (hr1.trans hr2) S2 (rv_bool.mpr rfl) ht
  | true =>
    refine chain_last (hc.run lc c2 _ x ht Z2 m g2 cs _ _ E S2 (fun vc c3 Z3 g3 s3 uc hz3 hr3 S3 Rc hk3 => h2 vb vc _ hk3 Z3 _ ub uc s3 _ E (Rb.mono hz3.1 hr3) Rc fun v u tk rv hv => ?_)
      (fun c u s' rx hx => hE c u s' (RX.up S S2 (hz1.trans hz2) (hr1.trans hr2) rx) hx))
    exact hQ v c3 Z3 g3 _ u ((hz1.trans hz2).trans hz3) ((hr1.trans hr2).trans hr3) S3 rv hv
end
inductive Fl where
  | next | ret (v : V) | brk | cont
noncomputable def FlR (C : Cx) (Z : Zm) (r : Adr) : Fl → Flow → Prop
  | .next,f => f = .next
  | .ret v,f => ∃ u,f = .ret u ∧ Rv C.an C.w.params Z r v u
  | .brk,f => f = .brk
  | .cont,f => f = .cont
noncomputable def Cle (cs cs' : List (Addr × Obj)) : Prop := ∀ q ∈ cs,(∀ v,q.2.data ≠ .cell v) → q ∈ cs'
theorem Cle.refl {cs : List (Addr × Obj)} : Cle cs cs := fun _ h _ => h
theorem Cle.trans {a b c : List (Addr × Obj)} (x : Cle a b) (y : Cle b c) : Cle a c := fun q h n => y q (x q h n) n
noncomputable abbrev WS := Lc → List Cell → (Fl → Lc → List Cell → Prop) → (List Cell → Prop) → Prop
structure SS (C : Cx) (t : Sem Flow) (ws : WS) : Prop where
  run :
  ∀ lc cells k x,ws lc cells k x → ∀ Z m g cs s Q E,St C Z m g cs lc cells s.heap →
    (∀ fl lc' cells' Z' m' g' cs' s' f,Zk (og s) (og s') Z Z' → Ale (g.map CC.addr) (g'.map CC.addr) → Cle cs cs' → St C Z' m' g' cs' lc' cells' s'.heap → FlR C Z' (g'.map CC.addr) fl f → k fl lc' cells' → Q f s') →
    (∀ cells' u s',RXs C (og s) Z (g.map CC.addr) cells' u s' → x cells' → E u s') → wpAny (model C.prog C.w) C.A t Q E s
noncomputable abbrev SSt (C : Cx) (st : Stmt) (ws : WS) : Prop := SS C (exec st C.env) ws
noncomputable abbrev SSs (C : Cx) (l : List Stmt) (ws : WS) : Prop := SS C (execs l C.env) ws
section
variable {C : Cx}
theorem FlR.ret_of {Z : Zm} {r : Adr} {v : V} {u : Value} (h : Rv C.an C.w.params Z r v u) : FlR C Z r (.ret v) (.ret u) := ⟨u,rfl,h⟩
theorem sNil : SSs C [] (fun lc cells k _ => k .next lc cells) := by
  constructor; intro lc cells k x hw Z m g cs s Q E S hQ _
  exact wpAny_execs_nil (hQ .next lc cells Z m g cs s _ .refl .refl .refl S rfl hw)
noncomputable def thenW (w1 w2 : WS) : WS := fun lc cells k X => w1 lc cells (fun f lc1 c1 => match f with | .next => w2 lc1 c1 k X | f => k f lc1 c1) X
theorem sSeq (hC : C.Ok) {st : Stmt} {rest : List Stmt} {w1 w2 : WS} (h1 : SSt C st w1) (h2 : SSs C rest w2) : SSs C (st :: rest) (thenW w1 w2) := by
  constructor; intro lc cells k x hw Z m g cs s Q E S hQ hE
  refine wpAny_execs_cons (h1.run lc cells _ x hw Z m g cs s _ E S (fun fl lc1 c1 Z1 m1 g1 cs1 s1 f hz hr hc S1 R hk => ?_) hE)
  cases fl with
  | next =>
    obtain rfl : f = .next := R
    exact h2.run lc1 c1 k x hk Z1 m1 g1 cs1 s1 Q E S1 (fun fl lc2 c2 Z2 m2 g2 cs2 s2 f hz2 hr2 hc2 S2 R2 hk2 => hQ fl lc2 c2 Z2 m2 g2 cs2 s2 f (hz.trans hz2) (hr.trans hr2) (hc.trans hc2) S2 R2 hk2) (fun c u s' rx hx => hE c u s' (RXs.up S S1 hz hr rx) hx)
  | ret v => obtain ⟨u,rfl,R⟩ := R; exact hQ (.ret v) lc1 c1 Z1 m1 g1 cs1 s1 _ hz hr hc S1 ⟨u,rfl,R⟩ hk
  | brk => obtain rfl : f = .brk := R; exact hQ .brk lc1 c1 Z1 m1 g1 cs1 s1 _ hz hr hc S1 rfl hk
  | cont => obtain rfl : f = .cont := R; exact hQ .cont lc1 c1 Z1 m1 g1 cs1 s1 _ hz hr hc S1 rfl hk
theorem sRet {e : Expr} {pos : Pos} {we : WE} (h : SE C e we) : SSt C (.Return (some e) pos) (fun lc cells k X => we lc cells (fun v c1 => k (.ret v) lc c1) X) := by
  constructor; intro lc cells k x hw Z m g cs s Q E S hQ hE
  exact wpAny_Return_some (h.run lc cells _ x hw Z m g cs s _ E S (fun v c1 Z1 g1 s1 u hz hr S1 R hk => hQ (.ret v) lc c1 Z1 m g1 cs s1 _ hz hr .refl S1 ⟨u,rfl,R⟩ hk) (fun c u s' rx hx => hE c u s' rx.s hx))
theorem sIf (hC : C.Ok) {t : Expr} {a b : List Stmt} {pos : Pos} {wt : WT} {wa wb : WS} (ht : ST C t wt) (ha : SSs C a wa) (hb : SSs C b wb) :
    SSt C (.If t a b pos) (fun lc cells k X => wt lc cells (fun c c1 => brW c (wa lc c1 k X) (wb lc c1 k X)) X) := by
  constructor; intro lc cells k x hw Z m g cs s Q E S hQ hE
  refine wpAny_If (ht.run lc cells _ x hw Z m g cs s _ E S (fun v c1 Z1 g1 s1 u hz hr S1 R' hk => ?_) (fun c u s' rx hx => hE c u s' rx.s hx))
  subst R'
  cases u with
  | true => exact ha.run lc c1 k x hk Z1 m g1 cs s1 Q E S1 (fun fl lc2 c2 Z2 m2 g2 cs2 s2 f hz2 hr2 hc2 S2 R2 hk2 => hQ fl lc2 c2 Z2 m2 g2 cs2 s2 f (hz.trans hz2) (hr.trans hr2) hc2 S2 R2 hk2) (fun c u s' rx hx => hE c u s' (RXs.up S S1 hz hr rx) hx)
  | false => exact hb.run lc c1 k x hk Z1 m g1 cs s1 Q E S1 (fun fl lc2 c2 Z2 m2 g2 cs2 s2 f hz2 hr2 hc2 S2 R2 hk2 => hQ fl lc2 c2 Z2 m2 g2 cs2 s2 f (hz.trans hz2) (hr.trans hr2) hc2 S2 R2 hk2) (fun c u s' rx hx => hE c u s' (RXs.up S S1 hz hr rx) hx)
theorem Iv.sameL {P Z0 : Zm} {L : Addr} {Z : Zm} {m m' : Str → Option Value} {g : List CC} {cs : List (Addr × Obj)} {h h' : Heap} (I : Iv P Z0 L Z m g cs h) (hs : Heap.SameBut L h h') (hn : h'.Ns L m') : Iv P Z0 L Z m' g cs h' :=
  ⟨hn,fun b o e => (hs.2 b (fun q => by rw [q,I.zl] at e; cases e)).trans (I.kz b o e),fun b o e => (hs.2 b (fun q => by rw [q,I.pl] at e; cases e)).trans (I.kp b o e),I.zl,I.pl,
    fun q hq => ⟨(hs.2 _ (I.own q hq).2.2.2).trans (I.own q hq).1,(I.own q hq).2⟩,I.nd,I.zp,I.z0⟩
theorem names_ne (hC : C.Ok) {i j : Nat} {x y : Str} (hi : C.names[i]? = some x) (hj : C.names[j]? = some y) (hij : i ≠ j) : x ≠ y := by
  rintro rfl
  exact hij ((List.getElem?_inj (List.getElem?_eq_some_iff.mp hi).1 hC.nodup).mp (hi.trans hj.symm))
noncomputable def putC (c : Addr) (o : Obj) (cs : List (Addr × Obj)) : List (Addr × Obj) := cs.map fun q => if q.1 = c then (c,o) else q
theorem putC_keys (c : Addr) (o : Obj) (cs : List (Addr × Obj)) : (putC c o cs).map (·.1) = cs.map (·.1) := by
  unfold putC
  rw [List.map_map]
  exact List.map_congr_left fun q _ => by
    show (if q.1 = c then (c,o) else q).1 = q.1
    split <;> simp_all
theorem Iv.sameC {P Z0 : Zm} {L c : Addr} {Z : Zm} {m : Str → Option Value} {g : List CC} {cs : List (Addr × Obj)} {h h' : Heap} {o o' : Obj} (I : Iv P Z0 L Z m g cs h) (hs : Heap.SameBut c h h') (hc : (c,o) ∈ cs) (ho : h'.get? c = some o') : Iv P Z0 L Z m g (putC c o' cs) h' := by
  have O := I.own (c,o) (List.mem_append_right _ hc)
  refine ⟨I.ns.sameBut hs (Ne.symm O.2.2.2),fun b x e => (hs.2 b (fun q => ?_)).trans (I.kz b x e),fun b x e => (hs.2 b (fun q => ?_)).trans (I.kp b x e),I.zl,I.pl,fun q hq => ?_,?_,I.zp,I.z0⟩
  · have := O.2.1; rw [q] at e; rw [e] at this; cases this
  · have := O.2.2.1; rw [q] at e; rw [e] at this; cases this
  · rcases List.mem_append.mp hq with hq | hq
    · have Oq := I.own q (List.mem_append_left _ hq)
      refine ⟨(hs.2 _ fun e => ?_).trans Oq.1,Oq.2⟩
      have nd := I.nd
      rw [List.map_append,List.nodup_append] at nd
      exact nd.2.2 q.1 (List.mem_map_of_mem hq) c (List.mem_map_of_mem (f := (·.1)) hc) e
    · obtain ⟨p,hp,e⟩ := List.mem_map.mp hq
      have Op := I.own p (List.mem_append_right _ hp)
      split at e
      · subst e; exact ⟨ho,O.2⟩
      · rename_i ne
        subst e; exact ⟨(hs.2 _ ne).trans Op.1,Op.2⟩
  · have := I.nd
    rw [List.map_append] at this ⊢
    rwa [putC_keys]
theorem mem_unique {cs : List (Addr × Obj)} {c : Addr} {o o' : Obj} (nd : (cs.map (·.1)).Nodup) (h : (c,o) ∈ cs) (h' : (c,o') ∈ cs) : o = o' := by
  induction cs with
  | nil => cases h
  | cons p l ih =>
    rw [List.map_cons,List.nodup_cons] at nd
    rcases List.mem_cons.mp h with e | e <;> rcases List.mem_cons.mp h' with e' | e'
    · rw [← e] at e'; exact (Prod.mk.inj e').2.symm
    · exact absurd (List.mem_map_of_mem (f := (·.1)) e') (by rw [← e] at nd; exact nd.1)
    · exact absurd (List.mem_map_of_mem (f := (·.1)) e) (by rw [← e'] at nd; exact nd.1)
    · exact ih nd.2 e e'
theorem mem_putC {cs : List (Addr × Obj)} {c : Addr} {o o' : Obj} (h : (c,o) ∈ cs) : (c,o') ∈ putC c o' cs := List.mem_map.mpr ⟨_,h,by rw [if_pos rfl]⟩
theorem mem_putC_ne {cs : List (Addr × Obj)} {c b : Addr} {o o' : Obj} (h : (b,o) ∈ cs) (hb : b ≠ c) : (b,o) ∈ putC c o' cs := List.mem_map.mpr ⟨_,h,by rw [if_neg hb]⟩
theorem Iv.ndc' {P Z0 : Zm} {L : Addr} {Z : Zm} {m : Str → Option Value} {g : List CC} {cs : List (Addr × Obj)} {h : Heap} (I : Iv P Z0 L Z m g cs h) : (cs.map (·.1)).Nodup := by
  have nd := I.nd
  rw [List.map_append,List.nodup_append] at nd
  exact nd.2.1
theorem putC_le {cs : List (Addr × Obj)} {c : Addr} {o o' : Obj} {v : Option Value} (nd : (cs.map (·.1)).Nodup) (h : (c,o) ∈ cs) (hd : o.data = .cell v) : Cle cs (putC c o' cs) := fun q hq hn => by
  refine mem_putC_ne (b := q.1) (o := q.2) hq fun e => ?_
  have := mem_unique nd (show (c,q.2) ∈ cs by rw [← e]; exact hq) h
  exact hn v (by rw [this]; exact hd)
theorem store_j (hC : C.Ok) {i : Nat} {y : Str} (hi : C.names[i]? = some y) {Z : Zm} {m : Str → Option Value} {g : List CC} {cs : List (Addr × Obj)} {lc : Lc} {cells : List Cell} {s : Shared} {v : V} {u : Value}
    (hk : C.env.kindOf y = some .local ∨ (C.env.kindOf y = some .cell ∧ (C.env.cells.lookup y).isSome = true)) (S : St C Z m g cs lc cells s.heap) (R : Rv C.an C.w.params Z (g.map CC.addr) v u) {Q : Unit → Shared → Prop} {E : Value → Shared → Prop}
    {A : Around} (h : ∀ m' cs' s',og s = og s' → Cle cs cs' → (∀ q ∈ cs,(C.env.kindOf y = some .cell → C.env.cells.lookup y ≠ some q.1) → q ∈ cs') → St C Z m' g cs' (lc.set i (some v)) cells s'.heap → Q () s') : wpAny (model C.prog C.w) A (storeName C.env y u) Q E s := by
  have setLc : ∀ {j : Nat} {x : Str} {v' : V},C.names[j]? = some x → (lc.set i (some v))[j]? = some (some v') → (j = i ∧ v' = v ∧ x = y) ∨ (j ≠ i ∧ x ≠ y ∧ lc[j]? = some (some v')) := by
    intro j x v' hx hv
    by_cases e : j = i
    · subst e
      rw [hi] at hx; cases hx
      rw [List.getElem?_set] at hv
      simp only [if_true] at hv
      split at hv
      · cases hv; exact .inl ⟨rfl,rfl,rfl⟩
      · cases hv
    · rw [List.getElem?_set_ne (Ne.symm e)] at hv
      exact .inr ⟨e,names_ne hC hx hi e,hv⟩
  rcases hk with hk | ⟨hk,hc⟩
  · refine wpAny_storeName_local (m := m) hk (by rw [hC.loc]; exact S.iv.ns) (fun h' hn hs => h _ cs _ rfl .refl (fun _ hq _ => hq) ⟨S.iv.sameL (by rw [hC.loc] at hs; exact hs) (by rw [hC.loc] at hn; exact hn),S.cr,?_,S.cl⟩) (by rw [hC.kind]; rfl)
    intro j x v' hx hv
    rcases setLc hx hv with ⟨_,rfl,rfl⟩ | ⟨_,hxy,hv⟩
    · exact ⟨u,.inl ⟨hk,if_pos rfl⟩,R⟩
    · obtain ⟨u',p,r⟩ := S.lr j x v' hx hv
      refine ⟨u',?_,r⟩
      rcases p with ⟨p1,p2⟩ | p
      · exact .inl ⟨p1,(if_neg hxy).trans p2⟩
      · exact .inr p
  · obtain ⟨c,hc⟩ := Option.isSome_iff_exists.mp hc
    obtain ⟨o,v₀,ho,hd⟩ := S.cl y c hc
    refine wpAny_storeName_cell (v₀ := v₀) hC.kind hk hc ⟨o,(S.iv.own (c,o) (List.mem_append_right _ ho)).1,hd⟩ fun h' hv hs => ?_
    obtain ⟨o',ho',hd'⟩ := hv
    refine h m (putC c o' cs) _ rfl (putC_le S.iv.ndc' ho hd) (fun q hq hn => mem_putC_ne (b := q.1) (o := q.2) hq fun e => hn hk (by rw [e]; exact hc)) ⟨S.iv.sameC hs ho ho',S.cr,?_,?_⟩
    · intro j x v' hx hv
      rcases setLc hx hv with ⟨_,rfl,rfl⟩ | ⟨_,hxy,hv⟩
      · exact ⟨u,.inr ⟨.inl hk,c,o',hc,mem_putC ho,hd'⟩,R⟩
      · obtain ⟨u',p,r⟩ := S.lr j x v' hx hv
        refine ⟨u',?_,r⟩
        rcases p with p | ⟨p1,c',o1,p2,p3,p4⟩
        · exact .inl p
        · exact .inr ⟨p1,c',o1,p2,mem_putC_ne p3 (fun e => hxy (hC.cinj x y c (e ▸ p2) hc)),p4⟩
    · intro y' c' hc'
      obtain ⟨o1,v1,h1,h2⟩ := S.cl y' c' hc'
      by_cases e : c' = c
      · subst e; exact ⟨o',some u,mem_putC ho,hd'⟩
      · exact ⟨o1,v1,mem_putC_ne h1 e,h2⟩
theorem store_i (hC : C.Ok) {i : Nat} {y : Str} (hi : C.names[i]? = some y) {Z : Zm} {m : Str → Option Value} {g : List CC} {cs : List (Addr × Obj)} {lc : Lc} {cells : List Cell} {s : Shared} {v : V} {u : Value}
    (hk : C.env.kindOf y = some .local ∨ (C.env.kindOf y = some .cell ∧ (C.env.cells.lookup y).isSome = true)) (S : St C Z m g cs lc cells s.heap) (R : Rv C.an C.w.params Z (g.map CC.addr) v u) {Q : Unit → Shared → Prop} {E : Value → Shared → Prop}
    {A : Around} (h : ∀ m' cs' s',og s = og s' → Cle cs cs' → St C Z m' g cs' (lc.set i (some v)) cells s'.heap → Q () s') : wpAny (model C.prog C.w) A (storeName C.env y u) Q E s :=
  store_j hC hi hk S R fun m' cs' s' o2 a _ b => h m' cs' s' o2 a b
noncomputable def KindOk (C : Cx) (y : Str) : Prop := C.env.kindOf y = some .local ∨ (C.env.kindOf y = some .cell ∧ (C.env.cells.lookup y).isSome = true)
theorem sSet (hC : C.Ok) {y : Str} {np pos : Pos} {e : Expr} {we : WE} (i : Nat) (hi : C.names[i]? = some y) (hk : KindOk C y) (hs : swapsWith e (some (.Name y np)) pos.line C.env = pure false) (h : SE C e we) :
    SSt C (.Assign [.Name y np] e pos) (fun lc cells k X => we lc cells (fun v c1 => k .next (lc.set i (some v)) c1) X) := by
  constructor; intro lc cells k x hw Z m g cs s Q E S hQ hE
  exact wpAny_Assign_Name (h.run lc cells _ x hw Z m g cs s _ E S (fun v c1 Z1 g1 s1 u hz hr S1 R hk' => store_i hC hi hk S1 R fun m' cs' s' o2 hc2 S2 => hQ .next _ c1 Z1 m' g1 cs' s' _ (hz.to o2) hr hc2 S2 rfl hk') (fun c u s' rx hx => hE c u s' rx.s hx)) hs
noncomputable def dropW (v : V) (kk : Prop) : Prop := match v with
  | .none => kk
  | .int _ => kk
  | .bool _ => kk
  | _ => False
theorem sDrop {e : Expr} {pos : Pos} {we : WE} (hi : interactive C.env = false) (hs : swapsWith e none pos.line C.env = pure false) (h : SE C e we) :
    SSt C (.Expr e pos) (fun lc cells k X => we lc cells (fun v c1 => dropW v (k .next lc c1)) X) := by
  constructor; intro lc cells k x hw Z m g cs s Q E S hQ hE
  refine wpAny_Expr (h.run lc cells _ x hw Z m g cs s _ E S (fun v c1 Z1 g1 s1 u hz hr S1 R hk => ?_) (fun c u s' rx hx => hE c u s' rx.s hx)) hi hs
  have fin : k .next lc c1 → Q .next s1 := fun hk => hQ .next lc c1 Z1 m g1 cs s1 _ hz hr .refl S1 rfl hk
  unfold dropW at hk
  split at hk
  · obtain rfl := rv_none.mp R; exact fin hk
  · obtain ⟨t,rfl⟩ := rv_int.mp R; exact fin hk
  · obtain rfl := rv_bool.mp R; exact fin hk
  · exact hk.elim
end
noncomputable def Zput (Z : Zm) (a : Addr) (o : Obj) : Zm := fun b => if b = a then some o else Z b
theorem Zput.le {Z : Zm} {h : Heap} {o : Obj} (k : ZIn Z h) : Zle Z (Zput Z h.objs.size o) := fun b x e => by
  unfold Zput
  rw [if_neg (fun q => by have := Heap.lt_size (k b x e); rw [q] at this; exact Nat.lt_irrefl _ this)]
  exact e
theorem Zput.at {Z : Zm} {a : Addr} {o : Obj} : Zput Z a o a = some o := if_pos rfl
theorem Iv.alloc {P Z0 : Zm} {L : Addr} {Z : Zm} {m : Str → Option Value} {g : List CC} {cs : List (Addr × Obj)} {h : Heap} (I : Iv P Z0 L Z m g cs h) {o : Obj} (hf : o.isFreed = false) : Iv P Z0 L (Zput Z h.objs.size o) m g cs (h.push o) := by
  refine ⟨I.ns.push o,fun b x e => ?_,fun b x e => Heap.get?_push_of_some o (I.kp b x e),?_,I.pl,fun q hq => ?_,I.nd,fun b x e => ?_,I.z0.trans (Zput.le I.kz)⟩
  · unfold Zput at e
    split at e
    · rename_i q; cases e; rw [q]; exact Heap.get?_push_size h hf
    · exact Heap.get?_push_of_some o (I.kz b x e)
  · unfold Zput
    rw [if_neg (Nat.ne_of_lt I.ns.lt)]; exact I.zl
  · have O := I.own q hq
    refine ⟨Heap.get?_push_of_some o O.1,?_,O.2.2⟩
    unfold Zput
    rw [if_neg (Nat.ne_of_lt (Heap.lt_size O.1))]; exact O.2.1
  · unfold Zput at e
    split at e
    · rename_i q
      refine .inr ?_
      cases z : P b with
      | none => rfl
      | some y => have := Heap.lt_size (I.kp b y z); rw [q] at this; exact absurd this (Nat.lt_irrefl _)
    · exact I.zp b x e
theorem CRs.len {an P Z r} : ∀ {l : List Cell} {g : List CC},CRs an P Z r l g → l.length = g.length
  | [],[],_ => rfl
  | _ :: _,_ :: _,h => congrArg (· + 1) (CRs.len h.2)
  | [],_ :: _,h => h.elim
  | _ :: _,[],h => h.elim
theorem CRs.app {an P Z r} : ∀ {l l' : List Cell} {g g' : List CC},CRs an P Z r l g → CRs an P Z r l' g' → CRs an P Z r (l ++ l') (g ++ g')
  | [],_,[],_,_,h' => h'
  | _ :: _,_,_ :: _,_,h,h' => ⟨h.1,CRs.app h.2 h'⟩
  | [],_,_ :: _,_,h,_ => h.elim
  | _ :: _,_,[],_,h,_ => h.elim
theorem RvL.len {an P Z r} : ∀ {l : List V} {vs : List Value},RvL an P Z r l vs → vs.length = l.length
  | [],_,h => by rw [rvl_nil.mp h]; rfl
  | _ :: _,_,h => by obtain ⟨v,vs',rfl,_,q⟩ := rvl_cons.mp h; exact congrArg (· + 1) (RvL.len q)
theorem RvL.get {an P Z r} : ∀ {l : List V} {vs : List Value} {i : Nat} {v : V},RvL an P Z r l vs → l[i]? = some v → ∃ u,vs[i]? = some u ∧ Rv an P Z r v u
  | [],_,_,_,_,e => by simp at e
  | x :: l,_,i,v,h,e => by
    obtain ⟨u,vs',rfl,h1,h2⟩ := rvl_cons.mp h
    cases i with
    | zero => simp at e; subst e; exact ⟨u,rfl,h1⟩
    | succ i => simpa using RvL.get h2 (by simpa using e)
theorem St.alloc {C : Cx} {Z : Zm} {m : Str → Option Value} {g : List CC} {cs : List (Addr × Obj)} {lc : Lc} {cells : List Cell} {h : Heap} (S : St C Z m g cs lc cells h) {o : Obj} (hf : o.isFreed = false) :
    St C (Zput Z h.objs.size o) m g cs lc cells (h.push o) := S.go (Zput.le S.iv.kz) .refl (S.iv.alloc hf) (S.cr.mono (Zput.le S.iv.kz) .refl)
section
variable {C : Cx}
noncomputable abbrev WL := Lc → List Cell → (List V → List Cell → Prop) → (List Cell → Prop) → Prop
noncomputable def SL (C : Cx) (es : List Expr) (wl : WL) : Prop := ∀ pos,SA C (spliced (backTo pos (starEach es C.env))) (RvL C.an C.w.params) wl
theorem slNil : SL C [] (fun _ cells k _ => k [] cells) := by
  intro pos; constructor; intro lc cells k x hw Z m g cs s Q E S hQ _
  exact Calls.spliced_nil (hQ [] cells Z g s [] .refl .refl S (rvl_nil.mpr rfl) hw)
theorem slCons (hC : C.Ok) {e : Expr} {l : List Expr} {we : WE} {wl : WL} (he : starEach (e :: l) C.env = (false,eval e C.env) :: starEach l C.env) (h : SE C e we) (hl : SL C l wl) :
    SL C (e :: l) (fun lc cells k X => we lc cells (fun v c1 => wl lc c1 (fun vs c2 => k (v :: vs) c2) X) X) := by
  intro pos; constructor; intro lc cells k x hw Z m g cs s Q E S hQ hE
  rw [he]
  show wpAny _ _ (spliced ((false,eval e C.env) :: backTo pos (starEach l C.env))) _ _ _
  refine Calls.spliced_cons (h.run lc cells _ x hw Z m g cs s _ E S (fun v c1 Z1 g1 s1 u hz hr S1 R hk => ?_) hE)
  exact (hl pos).run lc c1 _ x hk Z1 m g1 cs s1 _ E S1 (fun vs c2 Z2 g2 s2 us hz2 hr2 S2 R2 hk2 => hQ (v :: vs) c2 Z2 g2 s2 (u :: us) (hz.trans hz2) (hr.trans hr2) S2 (rvl_cons.mpr ⟨u,us,rfl,R.mono hz2.1 hr2,R2⟩) hk2) (fun c u s' rx hx => hE c u s' (RX.up S S1 hz hr rx) hx)
theorem sTup {es : List Expr} {k₀ : Nat} {pos : Pos} {wl : WL} (h : SL C es wl) : SE C (.Tuple es k₀ pos) (fun lc cells k X => wl lc cells (fun vs c1 => okW (Nat.ble vs.length 16000000) <| k (.tup vs) c1) X) := by
  constructor; intro lc cells k x hw Z m g cs s Q E S hQ hE
  refine wpAny_bind (wpAny_standAt (wpAny_bind ((h pos).run lc cells _ x hw Z m g cs s _ E S (fun vs c1 Z1 g1 s1 us hz hr S1 R hk => ?_) hE)))
  replace hk := ok_le hk
  have S2 := S1.alloc (o := tupO us 0) rfl
  have z := Zput.le S1.iv.kz (o := tupO us 0)
  exact wpAny_newTuple (hQ _ c1 _ g1 _ _ (hz.trans z.k) hr S2 (rv_tup.mpr ⟨_,us,0,rfl,Zput.at,R.mono z .refl⟩) hk.2) (by rw [R.len,sizeLine_eq]; exact Nat.le_trans hk.1 (by decide))
theorem sLst {es : List Expr} {pos : Pos} {wl : WL} (h : SL C es wl) : SE C (.List es pos) (fun lc cells k X => wl lc cells (fun vs c1 => okW (Nat.ble vs.length 16000000) <| k (.lst vs) c1) X) := by
  constructor; intro lc cells k x hw Z m g cs s Q E S hQ hE
  refine wpAny_bind (wpAny_standAt (wpAny_bind ((h pos).run lc cells _ x hw Z m g cs s _ E S (fun vs c1 Z1 g1 s1 us hz hr S1 R hk => ?_) hE)))
  replace hk := ok_le hk
  have S2 := S1.alloc (o := lstO us 0) rfl
  have z := Zput.le S1.iv.kz (o := lstO us 0)
  exact wpAny_newList (hQ _ c1 _ g1 _ _ (hz.trans z.k) hr S2 (rv_lst.mpr ⟨_,us,_,rfl,Zput.at,⟨0,rfl⟩,R.mono z .refl⟩) hk.2) (by rw [R.len,sizeLine_eq]; exact Nat.le_trans hk.1 (by decide))
theorem Iv.cells {P Z0 : Zm} {L : Addr} {Z : Zm} {m : Str → Option Value} {g : List CC} {cs : List (Addr × Obj)} {h h' : Heap} (I : Iv P Z0 L Z m g cs h) {c : CC} (hk : ∀ b o,h.get? b = some o → h'.get? b = some o)
    (hn : ∀ q ∈ c.objs,h'.get? q.1 = some q.2 ∧ h.objs.size ≤ q.1) (hd : (c.objs.map (·.1)).Nodup) : Iv P Z0 L Z m (g ++ [c]) cs h' := by
  have low : ∀ {b : Addr} {o : Obj},h.get? b = some o → ∀ q ∈ c.objs,q.1 ≠ b := fun e q hq z => Nat.lt_irrefl _ (Nat.lt_of_lt_of_le (z ▸ Heap.lt_size e) (hn q hq).2)
  have none_ : ∀ {Y : Zm},ZIn Y h → ∀ q ∈ c.objs,Y q.1 = none := fun {Y} hy q hq => by
    cases e : Y q.1 with
    | none => rfl
    | some o => exact absurd rfl (low (hy _ _ e) q hq)
  refine ⟨I.ns.keeps hk,fun b o e => hk _ _ (I.kz b o e),fun b o e => hk _ _ (I.kp b o e),I.zl,I.pl,fun q hq => ?_,?_,I.zp,I.z0⟩
  · rw [List.flatMap_append,List.append_assoc] at hq
    rcases List.mem_append.mp hq with hq | hq
    · have O := I.own q (List.mem_append_left _ hq); exact ⟨hk _ _ O.1,O.2⟩
    · rcases List.mem_append.mp hq with hq | hq
      · have hq' : q ∈ c.objs := by simpa using hq
        exact ⟨(hn q hq').1,none_ I.kz q hq',none_ I.kp q hq',fun z => Nat.lt_irrefl _ (Nat.lt_of_lt_of_le I.ns.lt (z ▸ (hn q hq').2))⟩
      · have O := I.own q (List.mem_append_right _ hq); exact ⟨hk _ _ O.1,O.2⟩
  · have nd := I.nd
    simp only [List.flatMap_append,List.flatMap_cons,List.flatMap_nil,List.append_nil,List.map_append,List.append_assoc] at nd ⊢
    rw [List.nodup_append] at nd ⊢
    refine ⟨nd.1,List.nodup_append.mpr ⟨hd,nd.2.1,fun a ha b hb e => ?_⟩,fun a ha b hb e => ?_⟩
    · obtain ⟨q,hq,rfl⟩ := List.mem_map.mp ha
      obtain ⟨p,hp,rfl⟩ := List.mem_map.mp hb
      exact low (I.own p (List.mem_append_right _ hp)).1 q hq e
    · rcases List.mem_append.mp hb with hb | hb
      · obtain ⟨q,hq,rfl⟩ := List.mem_map.mp hb
        obtain ⟨p,hp,rfl⟩ := List.mem_map.mp ha
        exact low (I.own p (List.mem_append_left _ hp)).1 q hq e.symm
      · exact nd.2.2 a ha b hb e
theorem sCell (hC : C.Ok) {es : List Expr} {pos : Pos} {wl : WL} (h : SL C es wl) : SE C (.List es pos) (fun lc cells k X => wl lc cells (fun vs c1 => okW (Nat.ble vs.length 16000000) <| k (.cell c1.length) (c1 ++ [.lst vs])) X) := by
  constructor; intro lc cells k x hw Z m g cs s Q E S hQ hE
  refine wpAny_bind (wpAny_standAt (wpAny_bind ((h pos).run lc cells _ x hw Z m g cs s _ E S (fun vs c1 Z1 g1 s1 us hz hr S1 R hk => ?_) hE)))
  replace hk := ok_le hk
  have I2 := S1.iv.cells (c := .lst s1.heap.objs.size us (lstO us 0)) (h' := s1.heap.push (lstO us 0)) (fun b o e => Heap.get?_push_of_some _ e) (fun q hq => by simp only [CC.objs,List.mem_singleton] at hq; subst hq; exact ⟨Heap.get?_push_size _ rfl,Nat.le_refl _⟩) (by simp [CC.objs])
  have le : Ale (g1.map CC.addr) ((g1 ++ [CC.lst s1.heap.objs.size us (lstO us 0)]).map CC.addr) := by rw [List.map_append]; exact .app
  have c2 : CRs C.an C.w.params Z1 ((g1 ++ [CC.lst s1.heap.objs.size us (lstO us 0)]).map CC.addr) (c1 ++ [.lst vs]) (g1 ++ [.lst s1.heap.objs.size us (lstO us 0)]) := (S1.cr.mono .refl le).app ⟨⟨⟨0,rfl⟩,RvL.mono .refl le R⟩,trivial⟩
  refine wpAny_newList (hQ _ _ Z1 _ _ _ hz (hr.trans le) (S1.go .refl le I2 c2) (rv_cell.mpr ⟨_,rfl,?_⟩) hk.2) (by rw [R.len,sizeLine_eq]; exact Nat.le_trans hk.1 (by decide))
  rw [S1.cr.len,List.map_append,List.getElem?_append_right (by simp)]
  simp [CC.addr]
end
theorem CRs.get {an P Z r} : ∀ {l : List Cell} {g : List CC} {n : Nat} {c : Cell},CRs an P Z r l g → l[n]? = some c → ∃ cc,g[n]? = some cc ∧ CR an P Z r c cc
  | [],[],_,_,_,e => by simp at e
  | x :: l,y :: g,n,c,h,e => by
    cases n with
    | zero => simp at e; subst e; exact ⟨y,rfl,h.1⟩
    | succ n => simpa using CRs.get h.2 (by simpa using e)
  | [],_ :: _,_,_,h,_ => h.elim
  | _ :: _,[],_,_,h,_ => h.elim
theorem Iv.objAt {P Z0 : Zm} {L : Addr} {Z : Zm} {m : Str → Option Value} {g : List CC} {cs : List (Addr × Obj)} {h : Heap} (I : Iv P Z0 L Z m g cs h) {n : Nat} {c : CC} (hg : g[n]? = some c) {q : Addr × Obj} (hq : q ∈ c.objs) : h.get? q.1 = some q.2 :=
  (I.own q (List.mem_append_left _ (List.mem_flatMap.mpr ⟨c,List.mem_of_getElem? hg,hq⟩))).1
noncomputable def ixOf {α : Type} (l : List α) (j : Int) : Option α := if j < 0 then (if -(l.length : Int) ≤ j then l[(j + l.length).toNat]? else none) else l[j.toNat]?
noncomputable def inR : Int → Bool
  | .ofNat n => Nat.ble n 9223372036854775807
  | .negSucc n => Nat.ble n 9223372036854775807
theorem inR_iff {j : Int} : inR j = true ↔ -(2 ^ 63) ≤ j ∧ j < 2 ^ 63 := by
  cases j with
  | ofNat n => simp only [inR,Nat.ble_eq,Int.ofNat_eq_natCast]; omega
  | negSucc n => simp only [inR,Nat.ble_eq]; omega
noncomputable def seqIx (l : List V) (j : Int) (kk : V → Prop) : Prop := okW (inR j) <| match ixOf l j with | some v => kk v | none => False
theorem seqIx_iff {l : List V} {j : Int} {kk : V → Prop} (h : seqIx l j kk) : (-(2 ^ 63) ≤ j ∧ j < 2 ^ 63) ∧ ∃ v,ixOf l j = some v ∧ kk v := by
  refine ⟨inR_iff.mp (okW_iff h).1,?_⟩
  have h := (okW_iff h).2
  split at h
  · exact ⟨_,by assumption,h⟩
  · exact h.elim
theorem ixOf_rv {an P Z r} {l : List V} {vs : List Value} {j : Int} {v : V} (h : RvL an P Z r l vs) (e : ixOf l j = some v) : ∃ u,ixOf vs j = some u ∧ Rv an P Z r v u := by
  unfold ixOf at e ⊢
  rw [h.len]
  by_cases h1 : j < 0
  · rw [if_pos h1] at e ⊢
    by_cases h2 : -(l.length : Int) ≤ j
    · rw [if_pos h2] at e ⊢; exact h.get e
    · rw [if_neg h2] at e; cases e
  · rw [if_neg h1] at e ⊢; exact h.get e
theorem seqIndex_of {vs : List Value} {j : Int} {u : Value} (e : ixOf vs j = some u) : ∃ i,seqIndex? j vs.length = some i ∧ vs[i]? = some u := by
  unfold ixOf at e
  unfold seqIndex?
  split at e
  · rename_i hn
    split at e
    · rename_i hl
      have lt := (List.getElem?_eq_some_iff.mp e).1
      refine ⟨_,?_,e⟩
      simp only [hn,if_true]
      rw [if_pos]
      simp only [Bool.and_eq_true,decide_eq_true_eq]
      omega
    · cases e
  · rename_i hn
    have lt := (List.getElem?_eq_some_iff.mp e).1
    refine ⟨_,?_,e⟩
    simp only [hn,if_false]
    rw [if_pos]
    simp only [Bool.and_eq_true,decide_eq_true_eq]
    omega
section
variable {C : Cx}
theorem item_tup {value slice : Expr} {s : Shared} {a : Addr} {vs : List Value} {n : Nat} {j : Int} {t : Tok} {u : Value} {Q : Value → Shared → Prop} {E : Value → Shared → Prop} (ha : s.heap.get? a = some (tupO vs n))
    (hl : -(2 ^ 63) ≤ j) (hh : j < 2 ^ 63) (e : ixOf vs j = some u) (hs : ∀ o i,subscripted slice false o i = operate [o,i] (getItem o i)) (h : Q u s) : wpAny (model C.prog C.w) C.A (subscriptTail value slice (.ref a) (.int j t)) Q E s := by
  obtain ⟨i,h1,h2⟩ := seqIndex_of e
  exact item_tupleT ⟨_,ha,rfl,n,rfl⟩ hl hh h1 h2 h (hs _ _)
theorem item_lst {value slice : Expr} {s : Shared} {a : Addr} {vs : List Value} {o : Obj} (ho : LstO o vs) {j : Int} {t : Tok} {u : Value} {Q : Value → Shared → Prop} {E : Value → Shared → Prop} (ha : s.heap.get? a = some o)
    (hl : -(2 ^ 63) ≤ j) (hh : j < 2 ^ 63) (e : ixOf vs j = some u) (hs : ∀ o i,subscripted slice false o i = operate [o,i] (getItem o i)) (h : Q u s) : wpAny (model C.prog C.w) C.A (subscriptTail value slice (.ref a) (.int j t)) Q E s := by
  have hL : s.heap.IsList a vs.toArray := ho.at ha
  refine tail_any hL.typeIs slot_list_getitem.lookup ?_ (hs _ _)
  unfold ixOf at e
  split at e
  · rename_i hn
    split at e
    · rename_i h1
      exact wpAny_getItem_list_neg hL hn (by simpa using h1) hl (by simpa using e) h
    · cases e
  · rename_i hn
    exact wpAny_getItem_list hL (by lia) hh (by simpa using e) h
noncomputable def idxW (cells : List Cell) (a i : V) (kk : V → Prop) : Prop := match a,i with
  | .tup l,.int j => seqIx l j kk
  | .lst l,.int j => seqIx l j kk
  | .cell n,.int j => (match cells[n]? with
      | some (.lst l) => seqIx l j kk
      | _ => False)
  | _,_ => False
theorem sIdx (hC : C.Ok) {a i : Expr} {pos : Pos} {wa wi : WE} (ha : SE C a wa) (hi : SE C i wi) (hs : ∀ o j,subscripted i false o j = operate [o,j] (getItem o j)) :
    SE C (.Subscript a i pos) (fun lc cells k X => wa lc cells (fun va c1 => wi lc c1 (fun vi c2 => idxW c2 va vi (fun v => k v c2)) X) X) := by
  constructor; intro lc cells k x hw Z m g cs s Q E S hQ hE
  refine Subscript_ (ha.run lc cells _ x hw Z m g cs s _ E S (fun va c1 Z1 g1 s1 ua hz1 hr1 S1 Ra hk1 => hi.run lc c1 _ x hk1 Z1 m g1 cs s1 _ E S1
    (fun vi c2 Z2 g2 s2 ui hz2 hr2 S2 Ri hk2 => ?_) (fun c u s' rx hx => hE c u s' (RX.up S S1 hz1 hr1 rx) hx)) hE)
  replace Ra := Ra.mono hz2.1 hr2
  have fin : ∀ {v u},Rv C.an C.w.params Z2 (g2.map CC.addr) v u → k v c2 → Q u s2 := fun r hk => hQ _ c2 Z2 g2 s2 _ (hz1.trans hz2) (hr1.trans hr2) S2 r hk
  unfold idxW at hk2
  split at hk2
  · obtain ⟨ad,vs,n,rfl,hz,rl⟩ := rv_tup.mp Ra
    obtain ⟨t,rfl⟩ := rv_int.mp Ri
    obtain ⟨⟨b1,b2⟩,v,e,hk⟩ := seqIx_iff hk2
    obtain ⟨u,e2,r⟩ := ixOf_rv rl e
    exact item_tup (S2.iv.kz _ _ hz) b1 b2 e2 hs (fin r hk)
  · obtain ⟨ad,vs,o,rfl,hz,ho,rl⟩ := rv_lst.mp Ra
    obtain ⟨t,rfl⟩ := rv_int.mp Ri
    obtain ⟨⟨b1,b2⟩,v,e,hk⟩ := seqIx_iff hk2
    obtain ⟨u,e2,r⟩ := ixOf_rv rl e
    exact item_lst ho (S2.iv.kz _ _ hz) b1 b2 e2 hs (fin r hk)
  · split at hk2
    · rename_i l hc
      obtain ⟨ad,rfl,had⟩ := rv_cell.mp Ra
      obtain ⟨t,rfl⟩ := rv_int.mp Ri
      obtain ⟨⟨b1,b2⟩,v,e,hk⟩ := seqIx_iff hk2
      obtain ⟨cc,hg,hr⟩ := S2.cr.get hc
      cases cc with
      | lst a' vs o =>
        obtain ⟨u,e2,r⟩ := ixOf_rv (show RvL _ _ _ _ _ _ from hr.2) e
        have : a' = ad := by rw [List.getElem?_map,hg] at had; exact Option.some.inj had
        subst this
        exact item_lst hr.1 (S2.iv.objAt hg (q := (a',o)) (by simp [CC.objs])) b1 b2 e2 hs (fin r hk)
      | inst _ _ _ _ _ => exact hr.elim
      | dct _ _ _ => exact hr.elim
      | dead _ => exact hr.elim
    · exact hk2.elim
  · exact hk2.elim
theorem isStr_an {an : Nat → Str} (inj : ∀ i j,i < 64 → j < 64 → an i = an j → i = j) {k ka : Nat} {t : Tok} (hk : k < 64) (hka : ka < 64) : (Value.str (an k) t).isStr (an ka) = (ka == k) := by
  show (an k == an ka) = _
  by_cases e : k = ka
  · subst e; simp
  · have : an k ≠ an ka := fun q => e (inj k ka hk hka q)
    rw [beq_eq_false_iff_ne.mpr this,beq_eq_false_iff_ne.mpr (Ne.symm e)]
theorem RvF.find {an P Z r} (inj : ∀ i j,i < 64 → j < 64 → an i = an j → i = j) {ka : Nat} (hka : ka < 64) : ∀ {fs : List (Nat × V)} {es : List DictEntry} {v : V},RvF an P Z r fs es → fs.lookup ka = some v → ∃ u,getL (an ka) es = some (some u) ∧ Rv an P Z r v u
  | [],_,_,_,e => by cases e
  | (k,x) :: l,es,v,h,e => by
    unfold RvF at h
    obtain ⟨hs,t,u,es',rfl,hk,h1,h2⟩ := h
    rw [List.lookup_cons] at e
    unfold getL
    rw [List.find?_cons,isStr_an inj hk hka]
    cases q : ka == k with
    | true => rw [q] at e; cases e; exact ⟨u,rfl,h1⟩
    | false =>
      rw [q] at e
      obtain ⟨u',e',r'⟩ := RvF.find inj hka h2 e
      refine ⟨u',?_,r'⟩
      dsimp only
      unfold getL at e'
      split at e'
      · rename_i en he; rw [he]; exact e'
      · split at e' <;> cases e'
theorem RvF.noKey {an P Z r} : ∀ {fs : List (Nat × V)} {es : List DictEntry},RvF an P Z r fs es → es.any (·.refKey) = false
  | [],_,h => by unfold RvF at h; subst h; rfl
  | (k,x) :: l,es,h => by
    unfold RvF at h
    obtain ⟨hs,t,u,es',rfl,hk,h1,h2⟩ := h
    rw [List.any_cons,RvF.noKey h2]; rfl
theorem RvF.none {an P Z r} (inj : ∀ i j,i < 64 → j < 64 → an i = an j → i = j) {ka : Nat} (hka : ka < 64) : ∀ {fs : List (Nat × V)} {es : List DictEntry},RvF an P Z r fs es → fs.lookup ka = none → es.find? (·.key.isStr (an ka)) = none
  | [],_,h,_ => by unfold RvF at h; subst h; rfl
  | (k,x) :: l,es,h,e => by
    unfold RvF at h
    obtain ⟨hs,t,u,es',rfl,hk,h1,h2⟩ := h
    rw [List.lookup_cons] at e
    rw [List.find?_cons,isStr_an inj hk hka]
    cases q : ka == k with
    | true => rw [q] at e; cases e
    | false => rw [q] at e; exact RvF.none inj hka h2 e
noncomputable def notVal : V → Bool
  | .val _ => false
  | _ => true
theorem notVal_handed {an P Z r} {v : V} {u : Value} (h : notVal v = true) (rv : Rv an P Z r v u) : handedIn u = true := by
  cases v <;> first | cases h; done | (unfold Rv at rv; first | (obtain ⟨_,rfl,_⟩ := rv; rfl) | (obtain ⟨_,rfl⟩ := rv; rfl) | (obtain ⟨_,_,_,rfl,_⟩ := rv; rfl) | (obtain ⟨_,_,_,_,rfl,_⟩ := rv; rfl) | (subst rv; rfl))
noncomputable def attrW (T : Tb) (c : Nat) (fs : List (Nat × V)) (ka : Nat) (kk : V → Prop) : Prop := match fs.lookup ka with
  | some v => okW (T.own c ka) (okW (notVal v) (kk v))
  | none => (match T.cst c ka with
      | some v => kk v
      | none => False)
theorem attr_at (hC : C.Ok) {Z : Zm} {r : Adr} {s : Shared} {x d c ka n : Nat} {fs : List (Nat × V)} {es : List DictEntry} {attr : Str} {kk : V → Prop} {Q : Value → Shared → Prop} {E : Value → Shared → Prop} (hka : ka < 64) (ha : C.an ka = attr)
    (hP : ZIn C.P s.heap) (hx : s.heap.get? x = some (instObj c d)) (hd : s.heap.get? d = some (dictOf es n)) (R : RvF C.an C.w.params Z r fs es) (hw : attrW C.T c fs ka kk)
    (hQ : ∀ v u tk,Rv C.an C.w.params Z r v u → kk v → Q u { s with toks := tk }) : wpAny (model C.prog C.w) C.A (getAttr (.ref x) attr true) Q E s := by
  subst ha
  have X := hC.inK _ hP
  have I : InstAt s.heap x (instObj c d) c (some (dictOf es n)) := ⟨hx,rfl,rfl,hd⟩
  unfold attrW at hw
  split at hw
  · rename_i v hv
    obtain ⟨h1,hw⟩ := okW_iff hw
    obtain ⟨h2,h3⟩ := okW_iff hw
    obtain ⟨t1,t2,⟨a,t3,t4⟩,_⟩ := hC.tab.own c ka h1
    obtain ⟨u,e,rv⟩ := RvF.find hC.tab.inj hka R hv
    exact get_value X I t2 (findObj_own t1 t3 t4 (by rw [lookIn_dict]; exact e)) (notVal_handed h2 rv) (hQ v u _ rv h3)
  · rename_i hv
    split at hw
    · rename_i v hc
      obtain ⟨t1,_,t2,a,t3,t4,t5,t6,t7⟩ := hC.tab.cst c ka v hc
      have e := RvF.none hC.tab.inj hka R hv
      refine get_value X I t2 (findObj_cls t1 t3 t4 t5 t6 ?_) t5 (hQ v a _ (t7 _ _) hw)
      rw [lookIn_dict]
      unfold getL
      rw [e]
      dsimp only
      rw [R.noKey]; rfl
    · exact hw.elim
noncomputable def attrV (T : Tb) (cells : List Cell) (a : V) (ka : Nat) (kk : V → Prop) : Prop := match a with
  | .inst c fs => attrW T c fs ka kk
  | .cell n => (match cells[n]? with
      | some (.inst c fs) => attrW T c fs ka kk
      | _ => False)
  | _ => False
theorem inst_at {Z : Zm} {m : Str → Option Value} {g : List CC} {cs : List (Addr × Obj)} {lc : Lc} {cells : List Cell} {h : Heap} (S : St C Z m g cs lc cells h) {a : V} {u : Value} (R : Rv C.an C.w.params Z (g.map CC.addr) a u) {ka : Nat} {kk : V → Prop}
    (hw : attrV C.T cells a ka kk) : ∃ x d c es n fs,u = .ref x ∧ h.get? x = some (instObj c d) ∧ h.get? d = some (dictOf es n) ∧ RvF C.an C.w.params Z (g.map CC.addr) fs es ∧ attrW C.T c fs ka kk := by
  unfold attrV at hw
  split at hw
  · obtain ⟨x,d,es,n,rfl,h1,h2,h3⟩ := rv_inst.mp R
    exact ⟨x,d,_,es,n,_,rfl,S.iv.kz _ _ h1,S.iv.kz _ _ h2,h3,hw⟩
  · split at hw
    · rename_i c fs hc
      obtain ⟨ad,rfl,had⟩ := rv_cell.mp R
      obtain ⟨cc,hg,hr⟩ := S.cr.get hc
      cases cc with
      | inst x d c' es n =>
        obtain ⟨rfl,hr⟩ := hr
        have : x = ad := by rw [List.getElem?_map,hg] at had; exact Option.some.inj had
        subst this
        exact ⟨x,d,_,es,n,fs,rfl,S.iv.objAt hg (q := (x,instObj c d)) (by simp [CC.objs]),S.iv.objAt hg (q := (d,dictOf es n)) (by simp [CC.objs]),hr,hw⟩
      | lst _ _ _ => exact hr.elim
      | dct _ _ _ => exact hr.elim
      | dead _ => exact hr.elim
    · exact hw.elim
  · exact hw.elim
theorem sAttr (hC : C.Ok) {a : Expr} {attr : Str} {pos : Pos} {wa : WE} (ka : Nat) (hka : ka < 64) (hn : C.an ka = attr) (ha : SE C a wa)
    (he : eval (.Attribute a attr pos) C.env = (do
      let o ← eval a C.env
      standAt pos.atName
      let r ← holding [o] (getAttr o attr true)
      letTemporaryGo a o r
      pure r)) : SE C (.Attribute a attr pos) (fun lc cells k X => wa lc cells (fun va c1 => attrV C.T c1 va ka (fun v => k v c1)) X) := by
  constructor; intro lc cells k x hw Z m g cs s Q E S hQ hE
  refine Attribute_any_ (ha.run lc cells _ x hw Z m g cs s _ E S (fun va c1 Z1 g1 s1 ua hz1 hr1 S1 Ra hk1 => ?_) hE) he
  obtain ⟨x',d,c,es,n,fs,rfl,h1,h2,h3,h4⟩ := inst_at S1 Ra hk1
  exact attr_at hC hka hn S1.iv.kp h1 h2 h3 h4 fun v u tk rv hk => hQ v c1 Z1 g1 _ u hz1 hr1 S1 rv hk
end
structure Sem (G : Gx) (n : Nat) (f : Value) (args : List V) (cells : List Cell) (Q : V → List Cell → Prop) (X : List Cell → Prop) : Prop where
  run : ∀ (A : Around) (fr : List Env) (P Z : Zm) (g : List CC) (s : Shared) (vals : List Value) (R : Result → Shared → Prop),
    A.frames = some fr → FrP P Z fr → Hd G.q A P → A.depth + n < 1000 → A.units + 4 * n < 9000 → Zle G.P0 P → Zle G.zg Z → Hp P Z g s.heap → CRs G.an G.w.params Z (g.map CC.addr) cells g → RvL G.an G.w.params Z (g.map CC.addr) args vals →
    (∀ v cells' Z' g' s' u,Zk (og s) (og s') Z Z' → Ale (g.map CC.addr) (g'.map CC.addr) → Hp P Z' g' s'.heap → CRs G.an G.w.params Z' (g'.map CC.addr) cells' g' → (∀ b o,Z' b = some o → Z b = some o ∨ P b = none) →
      Rv G.an G.w.params Z' (g'.map CC.addr) v u → Q v cells' → R (.ok (.ret u)) s') →
    (∀ cells' u s',RaisedAt G (og s) fr P Z (g.map CC.addr) cells' u s' → X cells' → R (.error u) s') → codeAny (model G.prog G.w) A (.call f ⟨vals,[]⟩) R s
theorem Sem.mono {G : Gx} {n : Nat} {f : Value} {args : List V} {cells : List Cell} {Q Q' : V → List Cell → Prop} {X X' : List Cell → Prop} (h : Sem G n f args cells Q X) (hQ : ∀ v c,Q v c → Q' v c) (hX : ∀ c,X c → X' c) : Sem G n f args cells Q' X' :=
  ⟨fun A fr P Z g s vals R a b c d e f' zg i j k hR hE => h.run A fr P Z g s vals R a b c d e f' zg i j k (fun v c' Z' g' s' u z r p q t w x => hR v c' Z' g' s' u z r p q t w (hQ v c' x)) fun c' u s' r x => hE c' u s' r (hX c' x)⟩
theorem lookup_none {cs : List (Addr × Obj)} {b : Addr} (h : b ∉ cs.map (·.1)) : cs.lookup b = none := by
  cases q : cs.lookup b with
  | none => rfl
  | some o => exact absurd (List.mem_map_of_mem (f := (·.1)) (lookup_mem q)) h
theorem mem_lookup {cs : List (Addr × Obj)} {b : Addr} {o : Obj} (nd : (cs.map (·.1)).Nodup) (h : (b,o) ∈ cs) : cs.lookup b = some o := by
  cases q : cs.lookup b with
  | none =>
    exfalso
    induction cs with
    | nil => cases h
    | cons p l ih =>
      obtain ⟨a,x⟩ := p
      rw [List.lookup_cons] at q
      split at q
      · cases q
      · rename_i z
        rcases List.mem_cons.mp h with e | e
        · cases e; simp at z
        · exact ih (List.nodup_cons.mp nd).2 e q
  | some o' => rw [mem_unique nd h (lookup_mem q)]
section
variable {C : Cx} {Z : Zm} {m : Str → Option Value} {g : List CC} {cs : List (Addr × Obj)} {lc : Lc} {cells : List Cell} {h : Heap}
theorem Iv.disj {P Z0 : Zm} {L : Addr} (I : Iv P Z0 L Z m g cs h) {q : Addr × Obj} (hq : q ∈ g.flatMap CC.objs) : q.1 ∉ cs.map (·.1) := fun hm => by
  have nd := I.nd
  rw [List.map_append,List.nodup_append] at nd
  exact nd.2.2 q.1 (List.mem_map_of_mem hq) q.1 hm rfl
theorem Iv.ndc {P Z0 : Zm} {L : Addr} (I : Iv P Z0 L Z m g cs h) : (cs.map (·.1)).Nodup := by
  have nd := I.nd
  rw [List.map_append,List.nodup_append] at nd
  exact nd.2.1
theorem Iv.ndg {P Z0 : Zm} {L : Addr} (I : Iv P Z0 L Z m g cs h) : ((g.flatMap CC.objs).map (·.1)).Nodup := by
  have nd := I.nd
  rw [List.map_append,List.nodup_append] at nd
  exact nd.1
theorem St.hand (hC : C.Ok) (S : St C Z m g cs lc cells h) : ∃ oL,NsO oL m ∧ Zle C.P (Pcall C.P C.L oL cs) ∧ Hp (Pcall C.P C.L oL cs) Z g h ∧ FrP (Pcall C.P C.L oL cs) Z C.frs ∧
    ∀ Z' g' h' cells',Zle Z Z' → Ale (g.map CC.addr) (g'.map CC.addr) → Hp (Pcall C.P C.L oL cs) Z' g' h' → CRs C.an C.w.params Z' (g'.map CC.addr) cells' g' → (∀ b o,Z' b = some o → Z b = some o ∨ Pcall C.P C.L oL cs b = none) → St C Z' m g' cs lc cells' h' := by
  have I := S.iv
  obtain ⟨oL,es,ep,hL,hd,hk,hf⟩ := I.ns
  have le : Zle C.P (Pcall C.P C.L oL cs) := fun b o e => by
    unfold Pcall
    rw [if_neg (fun q => by rw [q,I.pl] at e; cases e),lookup_none (fun hm => by
      obtain ⟨q,hq,rfl⟩ := List.mem_map.mp hm
      rw [(I.own q (List.mem_append_right _ hq)).2.2.1] at e; cases e)]
    exact e
  have pL : Pcall C.P C.L oL cs C.L = some oL := if_pos rfl
  have pc : ∀ q ∈ cs,Pcall C.P C.L oL cs q.1 = some q.2 := fun q hq => by
    unfold Pcall
    rw [if_neg (I.own q (List.mem_append_right _ hq)).2.2.2,mem_lookup I.ndc (show (q.1,q.2) ∈ cs from hq)]
  have inv : ∀ b,Pcall C.P C.L oL cs b = none → b ≠ C.L ∧ b ∉ cs.map (·.1) ∧ C.P b = none := fun b e => by
    refine ⟨fun q => (by rw [q,pL] at e; cases e),fun hm => ?_,?_⟩
    · obtain ⟨q,hq,rfl⟩ := List.mem_map.mp hm
      rw [pc q hq] at e; cases e
    · cases q : C.P b with
      | none => rfl
      | some o => rw [le b o q] at e; cases e
  refine ⟨oL,⟨es,ep,hd,hk,hf⟩,le,⟨I.kz,fun b o e => ?_,fun q hq => ?_,I.ndg⟩,fun env he => ?_,fun Z' g' h' cells' hz hr H cr zn => ?_⟩
  · unfold Pcall at e
    split at e
    · rename_i q; cases e; rw [q]; exact hL
    · split at e
      · rename_i q; cases e; exact (I.own (b,o) (List.mem_append_right _ (lookup_mem q))).1
      · exact I.kp b o e
  · have O := I.own q (List.mem_append_left _ hq)
    refine ⟨O.1,O.2.1,?_⟩
    unfold Pcall
    rw [if_neg O.2.2.2,lookup_none (I.disj hq)]; exact O.2.2.1
  · obtain ⟨k,L',a,b⟩ := hC.frp env he
    rcases b with rfl | ⟨o,es',ep',b,c,d⟩
    · exact ⟨k,C.L,oL,es,ep,a,pL,hd,I.zl⟩
    · refine ⟨k,L',o,es',ep',a,le _ _ b,c,?_⟩
      cases z : Z L' with
      | none => rfl
      | some y => rcases I.zp _ _ z with q | q
                  · rw [d] at q; cases q
                  · rw [b] at q; cases q
  · have zno : ∀ b,Z b = none → Pcall C.P C.L oL cs b ≠ none → Z' b = none := fun b e n => by
      cases z : Z' b with
      | none => rfl
      | some y => rcases zn b y z with q | q
                  · rw [e] at q; cases q
                  · exact absurd q n
    refine ⟨⟨⟨oL,es,ep,H.kp _ _ pL,hd,hk,hf⟩,H.kz,fun b o e => H.kp b o (le b o e),zno _ I.zl (by rw [pL]; exact fun q => by cases q),I.pl,fun q hq => ?_,?_,fun b o e => ?_,I.z0.trans hz⟩,cr,
      S.lr.sub (fun a _ => a) hz hr,S.cl⟩
    · rcases List.mem_append.mp hq with hq | hq
      · have O := H.own q hq
        have V := inv _ O.2.2
        exact ⟨O.1,O.2.1,V.2.2,V.1⟩
      · have O := I.own q (List.mem_append_right _ hq)
        exact ⟨H.kp _ _ (pc q hq),zno _ O.2.1 (by rw [pc q hq]; exact fun q => by cases q),O.2.2⟩
    · rw [List.map_append,List.nodup_append]
      refine ⟨H.nd,I.ndc,fun a ha b hb e => ?_⟩
      obtain ⟨q,hq,rfl⟩ := List.mem_map.mp ha
      exact (inv _ (H.own q hq).2.2).2.1 (e ▸ hb)
    · rcases zn b o e with q | q
      · exact I.zp b o q
      · exact .inr (inv b q).2.2
theorem call_sem (hC : C.Ok) {s : Shared} (S : St C Z m g cs lc cells s.heap) {f : Value} {args : List V} {vals : List Value} {k : V → List Cell → Prop} {x : List Cell → Prop} {Q : Value → Shared → Prop} {E : Value → Shared → Prop}
    (hs : Sem C.toGx C.n f args cells k x) (R : RvL C.an C.w.params Z (g.map CC.addr) args vals)
    (hQ : ∀ v cells' Z' g' s' u,Zk (og s) (og s') Z Z' → Ale (g.map CC.addr) (g'.map CC.addr) → St C Z' m g' cs lc cells' s'.heap → Rv C.an C.w.params Z' (g'.map CC.addr) v u → k v cells' → Q u s')
    (hE : ∀ cells' u s',RX C (og s) Z m cs (g.map CC.addr) cells' u s' → x cells' → E u s') : wpAny (model C.prog C.w) C.A (call f vals) Q E s := by
  obtain ⟨oL,nL,le,H,F,back⟩ := S.hand hC
  refine wpAny_call (hs.run C.A C.frs _ Z g s vals _ hC.frames F (hC.hd.le le) hC.depth hC.units (hC.p0.trans le) (hC.zg.trans S.iv.z0) H S.cr R (fun v c' Z' g' s' u hz hr H' cr zn rv hk => ?_) fun c' u s' rx hx => ?_)
  · exact hQ v c' Z' g' s' u hz hr (back Z' g' s'.heap c' hz.1 hr H' cr zn) rv hk
  · exact hE c' u s' ⟨oL,nL,le,rx⟩ hx
noncomputable abbrev SN (C : Cx) (e : Expr) (f : Value) : Prop := SE C e (fun _ cells k _ => k (.val f) cells)
theorem sGlob (hC : C.Ok) {y : Str} {p : Pos} {v : V} {u : Value} (e : nsIn C.K mainGlobals y = some (some u)) (hv : ∀ Z r,Rv C.an C.w.params Z r v u) (hx : C.env.kindOf y = some .globalImplicit) (hd : (y == ("__debug__" : Str)) = false) :
    SE C (.Name y p) (fun _ cells k _ => k v cells) := by
  constructor; intro lc cells k x hw Z m g cs s Q E S hQ _
  have T := hC.top _ S.iv.kp
  exact Calls.Name_function_global hC.kind hx (Calls.loadGlobal_global (mg := C.mg) (by rw [hC.glob]; exact T.g) (mg_of (hC.inK _ S.iv.kp) T.g e) (hQ _ cells Z g s u .refl .refl S (hv _ _) hw)) hd
theorem sBlt (hC : C.Ok) {y : Str} {p : Pos} {u : Value} (e : nsIn C.K mainGlobals y = some none) (hb : bootBuiltins y = some u) (hn : y ≠ "__name__") (hx : C.env.kindOf y = some .globalImplicit) (hd : (y == ("__debug__" : Str)) = false) : SN C (.Name y p) u := by
  constructor; intro lc cells k x hw Z m g cs s Q E S hQ _
  have T := hC.top _ S.iv.kp
  exact Calls.Name_function_global hC.kind hx (Calls.loadGlobal_builtin (mg := C.mg) (mb := C.mb) (by rw [hC.glob]; exact T.g) (mg_none_of (hC.inK _ S.iv.kp) T.g e) (by rw [hC.blt]; exact T.b) ((T.builtins y hn).trans hb) (hQ _ cells Z g s u .refl .refl S (rv_val.mpr rfl) hw)) hd
theorem sCall (hC : C.Ok) {y : Str} {p pos : Pos} {e : Expr} {es : List Expr} {f : Value} {wl : WL} (hf : SN C (.Name y p) f) (hk : keepIn C.K f = true) (he : starEach (e :: es) C.env = (false,eval e C.env) :: starEach es C.env)
    (hp : (backTo pos (starEach es C.env)).any (·.1) = false) (hl : SL C (e :: es) wl) : SE C (.Call (.Name y p) (e :: es) [] pos) (fun lc cells k X => wl lc cells (fun vs c1 => Sem C.toGx C.n f vs c1 k X) X) := by
  constructor; intro lc cells k x hw Z m g cs s Q E S hQ hE
  refine wpAny_Call_NameR (hf.run lc cells (fun v c1 => v = .val f ∧ c1 = cells) x ⟨rfl,rfl⟩ Z m g cs s _ E S (fun v c1 Z1 g1 s1 u hz hr S1 R hk1 => ?_) hE)
  obtain ⟨rfl,rfl⟩ := hk1
  obtain rfl := rv_val.mp R
  refine callWith_K (hC.inK _ S1.iv.kp) hk ((hl pos).run lc c1 _ x hw Z1 m g1 cs s1 _ E S1 (fun vs c2 Z2 g2 s2 us hz2 hr2 S2 R2 hk2 => ⟨hC.inK _ S2.iv.kp,?_⟩) (fun c u s' rx hx => hE c u s' (RX.up S S1 hz hr rx) hx)) he hp
  exact call_sem hC S2 hk2 R2 (fun v c3 Z3 g3 s3 u hz3 hr3 S3 rv hk3 => hQ v c3 Z3 g3 s3 u ((hz.trans hz2).trans hz3) ((hr.trans hr2).trans hr3) S3 rv hk3) fun c u s' rx hx => hE c u s' (RX.up S S2 (hz.trans hz2) (hr.trans hr2) rx) hx
theorem sCall0 (hC : C.Ok) {y : Str} {p pos : Pos} {f : Value} (hf : SN C (.Name y p) f) (hk : keepIn C.K f = true) : SE C (.Call (.Name y p) [] [] pos) (fun _ cells k X => Sem C.toGx C.n f [] cells k X) := by
  constructor; intro lc cells k x hw Z m g cs s Q E S hQ hE
  refine wpAny_Call_NameR (hf.run lc cells (fun v c1 => v = .val f ∧ c1 = cells) x ⟨rfl,rfl⟩ Z m g cs s _ E S (fun v c1 Z1 g1 s1 u hz hr S1 R hk1 => ?_) hE)
  obtain ⟨rfl,rfl⟩ := hk1
  obtain rfl := rv_val.mp R
  refine callWith_K0 (hC.inK _ S1.iv.kp) hk ?_
  exact call_sem hC S1 hw (rvl_nil.mpr rfl) (fun v c3 Z3 g3 s3 u hz3 hr3 S3 rv hk3 => hQ v c3 Z3 g3 s3 u (hz.trans hz3) (hr.trans hr3) S3 rv hk3) fun c u s' rx hx => hE c u s' (RX.up S S1 hz hr rx) hx
end
noncomputable def Keep2 (e : Addr) (h h' : Heap) : Prop := ∀ oe vs,h.get? e = some oe → oe.data = .fields vs → ∃ oe' vs',h'.get? e = some oe' ∧ oe'.data = .fields vs' ∧ vs'[2]? = vs[2]?
theorem Keep2.trans {e : Addr} {h h' h'' : Heap} (a : Keep2 e h h') (b : Keep2 e h' h'') : Keep2 e h h'' := fun oe vs x y =>
  let ⟨o1,v1,x1,y1,z1⟩ := a oe vs x y; let ⟨o2,v2,x2,y2,z2⟩ := b o1 v1 x1 y1; ⟨o2,v2,x2,y2,z2.trans z1⟩
theorem Keep2.same {e : Addr} {h h' : Heap} (k : h'.get? e = h.get? e) : Keep2 e h h' := fun oe vs x y => ⟨oe,vs,k.trans x,y,rfl⟩
section
variable {M : Model} {A : Around} {E : Value → Shared → Prop} {s : Shared} {base : Heap} {env : Env} {outer : List Env} {L e : Addr} {cls a0 : Value} {Q : Unit → Shared → Prop}
theorem field_ne {h : Heap} {a b : Addr} {o p : Obj} {vs : Array Value} (ha : h.get? a = some o) (hd : o.data = .fields vs) (hb : h.get? b = some p) (hn : ∀ vs,p.data ≠ .fields vs) : b ≠ a := fun q => by
  rw [q,ha] at hb; cases hb; exact hn vs hd
theorem note_entry {oe : Obj} {vs : Array Value} {head : Value} {hadNext : Bool} (hfr : A.frames = some (env :: outer)) (hl : s.heap.FunFrames base (env :: outer)) (hf : env.frame = some L) (he : s.heap.get? e = some oe) (hc : oe.cls = cls) (hd : oe.data = .fields vs) (h0 : vs[0]? = some a0) (hsz : 1 < vs.size)
    (hkb : base.StaysIn s.heap) (hen : base.get? e = none) (hQ : ∀ h',Heap.HeldW base (env :: outer) e cls a0 L h' → s.heap.UpToSlots h' → Keep2 e s.heap h' → Q () { s with heap := h' }) :
    wpAny M A (do let a ← frameOf env; let pl ← entryPlaceOf L hadNext; let b ← EntryCells.newEntry head a .none (rawInt L) .none pl; setField (.ref e) 1 b) Q E s := by
  have eF : e ∉ (env :: outer).filterMap (·.frame) := fun hm => by
    obtain ⟨_,o,ho,hn⟩ := hl.mem hm
    exact field_ne he hd ho hn rfl
  refine wpAny_bind (wpAny_frameOf_fun hfr hl hf fun h1 S1 => wpAny_bind (wpAny_entryPlaceOf fun pl hpl => ?_))
  unfold EntryCells.newEntry newFields
  refine wpAny_bind (wpAny_newObj_type ?_ (hpl.sizeOk5 _ _ _ _ _))
  have e1 : h1.get? e = some oe := (S1.2.1 e eF).trans he
  have kb : base.StaysIn h1 := fun b o q => (S1.2.1 b fun hm => by rw [(hl.mem hm).1] at q; cases q).trans (hkb b o q)
  refine wpAny_setField (Heap.get?_push_of_some _ e1) hd hsz (hQ _ ?_ ?_ ?_)
  all_goals generalize hO : ({ cls := Value.type "traceback",dict := none,data := Data.fields ([head,Value.ref L,Value.none,rawInt L,Value.none] ++ (if pl.isEmpty then List.replicate 6 Value.none else pl)).toArray } : Obj) = O
  all_goals generalize hH : (h1.push O).update e (Obj.mapFields (·.setIfInBounds 1 (Value.ref h1.objs.size))) = H
  all_goals
    have keep : ∀ b o,b ≠ e → h1.get? b = some o → H.get? b = some o := fun b o nb q => by
      rw [← hH,Heap.get?_update_other _ _ (Ne.symm nb)]; exact Heap.get?_push_of_some _ q
    have dd := Obj.data_mapFields hd (·.setIfInBounds 1 (Value.ref h1.objs.size))
    have here : H.get? e = some (Obj.mapFields (·.setIfInBounds 1 (Value.ref h1.objs.size)) oe) := by
      rw [← hH]; exact Heap.get?_update_self _ (Heap.get?_push_of_some _ e1) (Obj.isFreed_of_fields dd)
  · refine ⟨fun b o q => keep b o (fun z => by rw [z,hen] at q; cases q) (kb b o q),hen,hl.of_keeps fun b o q hn => ?_,_,_,h1.objs.size,O,_,here,⟨(Obj.cls_mapFields _ _).trans hc,by rw [Array.getElem?_setIfInBounds_ne (by decide)]; exact h0⟩,dd,by simp [hsz],kb.fresh,Nat.ne_of_gt (Heap.lt_size e1),?_,by rw [← hO],?_⟩
    · obtain ⟨sl,hs⟩ := S1.2.2 b o q
      exact ⟨_,keep b _ (field_ne he hd q hn) hs,rfl⟩
    · rw [← hH,Heap.get?_update_other _ _ (Nat.ne_of_lt (Heap.lt_size e1))]
      exact Heap.get?_push_size h1 (by rw [← hO]; rfl)
    · first | (simp; done) | (rcases hpl with rfl | ⟨_,_,_,_,_,_,_,rfl⟩ <;> simp)
  · exact fun b o q hn => let ⟨sl,hs⟩ := S1.2.2 b o q; ⟨sl,keep b _ (field_ne he hd q hn) hs⟩
  · intro o2 v2 x y
    rw [he] at x; cases x
    rw [hd] at y; cases y
    exact ⟨_,_,here,dd,by rw [Array.getElem?_setIfInBounds_ne (by decide)]⟩
theorem note_x {oe : Obj} {vs : Array Value} {head : Value} (hfr : A.frames = some (env :: outer)) (hl : s.heap.FunFrames base (env :: outer)) (hf : env.frame = some L) (he : s.heap.get? e = some oe) (hc : oe.cls = cls) (hd : oe.data = .fields vs) (h0 : vs[0]? = some a0) (h1 : vs[1]? = some head)
    (hkb : base.StaysIn s.heap) (hen : base.get? e = none) (hh : head = .none ∨ ∃ T oT ts,head = .ref T ∧ base.get? T = none ∧ T ≠ e ∧ s.heap.get? T = some oT ∧ oT.data = .fields ts ∧ ts[3]? = some .none)
    (hQ : ∀ h',Heap.HeldW base (env :: outer) e cls a0 L h' → s.heap.UpToSlots h' → Keep2 e s.heap h' → Q () { s with heap := h' }) : wpAny M A (noteFrame (.ref e) env) Q E s := by
  have sz : 1 < vs.size := (Array.getElem?_eq_some_iff.mp h1).1
  unfold noteFrame
  simp only [hf]
  refine wpAny_bind (wpAny_field he hd h1 ?_)
  rcases hh with rfl | ⟨T,oT,ts,rfl,bT,nT,hT,dT,h3⟩
  · rw [if_neg (by decide)]
    exact note_entry hfr hl hf he hc hd h0 sz hkb hen hQ
  · rw [if_pos (show (Value.ref T != Value.none) = true by simp)]
    refine wpAny_bind (wpAny_field hT dT h3 ?_)
    rw [if_neg (show ¬((Value.none == rawInt L) = true) by simp [rawInt])]
    refine wpAny_bind (wpAny_setField hT dT (Array.getElem?_eq_some_iff.mp h3).1 ?_)
    have other : ∀ b,b ≠ T → (s.heap.update T (Obj.mapFields (·.setIfInBounds 3 Value.none))).get? b = s.heap.get? b := fun b nb => Heap.get?_update_other _ _ (Ne.symm nb)
    refine note_entry hfr (hl.of_keeps fun b o q hn => ⟨o,(other b (field_ne hT dT q hn)).trans q,rfl⟩) hf ((other e (Ne.symm nT)).trans he) hc hd h0 sz (fun b o q => (other b fun z => by rw [z,bT] at q; cases q).trans (hkb b o q)) hen fun h' a b c => hQ h' a
      (fun x o q hn => b x o ((other x (field_ne hT dT q hn)).trans q) hn) ((Keep2.same (other e (Ne.symm nT))).trans c)
theorem flight_x {fl : Value} (hkb : base.StaysIn s.heap) (hen : base.get? e = none) (hl : s.heap.FunFrames base outer) (ht : s.heap.TracedAtW base e cls a0 fl)
    (hQ : ∀ h',Heap.FlyingW base outer e cls a0 h' → s.heap.UpToSlots h' → Keep2 e s.heap h' → Q () { s with heap := h' }) : wpAny M A (setFlight (.ref e) none) Q E s := by
  obtain ⟨oe,vs,T,oT,ts,he,hc,hd,h1,bT,nT,hT,dT,h3⟩ := ht
  have other : ∀ b,b ≠ T → (s.heap.update T (Obj.mapFields (·.setIfInBounds 3 Value.none))).get? b = s.heap.get? b := fun b nb => Heap.get?_update_other _ _ (Ne.symm nb)
  have sz : 3 < ts.size := (Array.getElem?_eq_some_iff.mp h3).1
  unfold setFlight
  refine wpAny_bind (wpAny_field he hd h1 ?_)
  rw [if_pos (show (Value.ref T != Value.none) = true by simp)]
  refine wpAny_setField hT dT sz (hQ _ ⟨fun b o q => (other b fun z => by rw [z,bT] at q; cases q).trans (hkb b o q),hen,hl.of_keeps fun b o q hn => ⟨o,(other b (field_ne hT dT q hn)).trans q,rfl⟩,oe,vs,T,_,_,(other e (Ne.symm nT)).trans he,hc,hd,h1,bT,nT,Heap.get?_update_self _ hT (Obj.isFreed_of_fields (Obj.data_mapFields dT _)),Obj.data_mapFields dT _,by simp [sz]⟩
    (fun b o q hn => ⟨o.slots,(other b (field_ne hT dT q hn)).trans q⟩) (Keep2.same (other e (Ne.symm nT))))
theorem leave_x {oe : Obj} {vs : Array Value} {head : Value} (hfr : A.frames = some (env :: outer)) (hl : s.heap.FunFrames base (env :: outer)) (hf : env.frame = some L) (he : s.heap.get? e = some oe) (hc : oe.cls = cls) (hd : oe.data = .fields vs) (h0 : vs[0]? = some a0) (h1 : vs[1]? = some head)
    (hkb : base.StaysIn s.heap) (hen : base.get? e = none) (hh : head = .none ∨ ∃ T oT ts,head = .ref T ∧ base.get? T = none ∧ T ≠ e ∧ s.heap.get? T = some oT ∧ oT.data = .fields ts ∧ ts[3]? = some .none)
    (hQ : ∀ h',Heap.FlyingW base outer e cls a0 h' → s.heap.UpToSlots h' → Keep2 e s.heap h' → Q () { s with heap := h' }) : wpAny M A (leaving env (.ref e)) Q E s := by
  unfold leaving
  refine wpAny_bind (note_x hfr hl hf he hc hd h0 h1 hkb hen hh fun h' a b c => ?_)
  exact flight_x (s := { s with heap := h' }) a.1 a.2.1 a.2.2.1.2.2 a.2.2.2 fun h'' x y z => hQ h'' x (b.trans y) (c.trans z)
end
theorem leave_sem {C : Cx} {x : OG} (hC : C.Ok) {Z : Zm} {r : Adr} {cells : List Cell} {u : Value} {s' : Shared} {fr : List Env} (hA : C.A.frames = some (C.env :: fr)) (hfs : C.frs = C.env :: fr) (hfm : C.env.frame = some C.L) (hfp : FrP C.P C.Z0 fr) (pl : C.P C.L = none) (hx : RXs C x Z r cells u s') {Q : Unit → Shared → Prop} {E : Value → Shared → Prop}
    (hQ : ∀ s'',RaisedAt C.toGx x fr C.P Z r cells u s'' → Q () s'') : wpAny (model C.prog C.w) C.A (leaving C.env u) Q E s' := by
  unfold RXs at hx
  rw [hfs] at hx
  obtain ⟨e,B,Z₂,g,a0,rfl,h2,h3,h4,h5,h6,h7,h8,hn,h9,h10⟩ := hx
  obtain ⟨h2,hcx⟩ := h2
  have fin : ∀ h',Heap.FlyingW B fr e (.ref C.ovf) a0 h' → s'.heap.UpToSlots h' → Keep2 e s'.heap h' → Q () { s' with heap := h' } := fun h' hf hu hk2 => hQ _ ⟨e,B,Z₂,g,a0,rfl,⟨hf,fun q => let ⟨oe,vs,x,y,z⟩ := hcx q; let ⟨o',v',x',y',z'⟩ := hk2 oe vs x y; ⟨o',v',x',y',z'.trans z⟩⟩,h3,h4,h5,h6,h7,h8,hn,fun b o eb nb => by
    refine h9 b o eb fun hm => ?_
    rw [List.filterMap_cons,hfm] at hm
    rcases List.mem_cons.mp hm with q | q
    · rw [q,pl] at eb; cases eb
    · exact nb q,fun b o eb nb => by
    have hm : b ∈ (C.env :: fr).filterMap (·.frame) := by rw [List.filterMap_cons,hfm]; exact List.mem_cons_of_mem _ nb
    obtain ⟨sl,hs⟩ := h10 b o eb hm
    obtain ⟨env,he,hf'⟩ := List.mem_filterMap.mp nb
    obtain ⟨_,L',o',es,ep,a,b',c,_⟩ := hfp env he
    rw [a] at hf'; cases hf'
    rw [b'] at eb; cases eb
    obtain ⟨sl2,hs2⟩ := hu b { o with slots := sl } hs fun vs q => by
      rw [show ({ o with slots := sl } : Obj).data = o.data from rfl,c] at q; cases q
    exact ⟨sl2,hs2⟩⟩
  rcases h2 with ⟨f1,f2,f3,oe,vs,T,oT,ts,he,⟨hc,e0⟩,hd,e1,bT,nT,hT,dT,e3⟩ | ⟨f1,f2,f3,oe,vs,he,hc,hd,e0,e1⟩
  · exact leave_x hA f3 hfm he hc hd e0 e1 f1 f2 (.inr ⟨T,oT,ts,rfl,bT,nT,hT,dT,e3⟩) fin
  · exact leave_x hA f3 hfm he hc hd e0 e1 f1 f2 (.inl rfl) fin
theorem RvL.app {an P Z r} : ∀ {l l' : List V} {vs vs' : List Value},RvL an P Z r l vs → RvL an P Z r l' vs' → RvL an P Z r (l ++ l') (vs ++ vs')
  | [],_,_,_,h,h' => by rw [rvl_nil.mp h]; exact h'
  | _ :: _,_,_,_,h,h' => by obtain ⟨v,vs,rfl,a,b⟩ := rvl_cons.mp h; exact rvl_cons.mpr ⟨v,_,rfl,a,b.app h'⟩
noncomputable def BindOk (G : Gx) (fd : FuncData) (k : Nat) (pn : List Str) (dvals : List Value) : Prop := ∀ (s : Shared) (vals : List Value),G.K.In s.heap → vals.length = k → BindsTo s fd ⟨vals,[]⟩ (pn.zip (vals ++ dvals))
noncomputable def back (Q : V → List Cell → Prop) (fl : Fl) (_ : Lc) (c : List Cell) : Prop := match fl with
  | .ret v => Q v c
  | .next => Q .none c
  | _ => False
theorem Hp.cells {P Z : Zm} {g : List CC} {h h' : Heap} (H : Hp P Z g h) {c : CC} (hk : ∀ b o,h.get? b = some o → h'.get? b = some o) (hn : ∀ q ∈ c.objs,h'.get? q.1 = some q.2 ∧ h.objs.size ≤ q.1) (hd : (c.objs.map (·.1)).Nodup) : Hp P Z (g ++ [c]) h' := by
  have low : ∀ {b : Addr} {o : Obj},h.get? b = some o → ∀ q ∈ c.objs,q.1 ≠ b := fun e q hq z => Nat.lt_irrefl _ (Nat.lt_of_lt_of_le (z ▸ Heap.lt_size e) (hn q hq).2)
  have none_ : ∀ {Y : Zm},ZIn Y h → ∀ q ∈ c.objs,Y q.1 = none := fun {Y} hy q hq => by
    cases e : Y q.1 with
    | none => rfl
    | some o => exact absurd rfl (low (hy _ _ e) q hq)
  refine ⟨fun b o e => hk _ _ (H.kz b o e),fun b o e => hk _ _ (H.kp b o e),fun q hq => ?_,?_⟩
  · rw [List.flatMap_append] at hq
    rcases List.mem_append.mp hq with hq | hq
    · have O := H.own q hq; exact ⟨hk _ _ O.1,O.2⟩
    · have hq' : q ∈ c.objs := by simpa using hq
      exact ⟨(hn q hq').1,none_ H.kz q hq',none_ H.kp q hq'⟩
  · simp only [List.flatMap_append,List.flatMap_cons,List.flatMap_nil,List.append_nil,List.map_append]
    rw [List.nodup_append]
    refine ⟨H.nd,hd,fun a ha b hb e => ?_⟩
    obtain ⟨q,hq,rfl⟩ := List.mem_map.mp hb
    obtain ⟨p,hp,rfl⟩ := List.mem_map.mp ha
    exact low (H.own p hp).1 q hq e.symm
theorem sem_make {G : Gx} (hG : G.Ok) {n c fI : Addr} {args : List V} {cells : List Cell} {Q : V → List Cell → Prop} {X : List Cell → Prop} (hm : makesIn G.K c = true) (hi : findIn G.K (.ref c) "__init__" = some (some (.ref fI))) (hf : typeIn G.K (.ref fI) = some (.type "function"))
    (h : Sem G n (.ref fI) (.cell cells.length :: args) (cells ++ [.inst c []]) (fun v c' => match v with | .none => Q (.cell cells.length) c' | _ => False) X) : Sem G (n + 1) (.ref c) args cells Q X := by
  constructor; intro A fr P Z g s vals R hfr hfp hhd hdep hun hP hzg H cr rv hR hE
  obtain ⟨hh,gn,d,t,os⟩ := s
  have XK := hG.inK hh fun b o e => H.kp b o (hP b o e)
  have w1 : (Code.builtin "type.__call__" ⟨.ref c :: vals,[]⟩).weight = 1 := rfl
  have w2 : (Code.builtin "type.__call__" ⟨.ref c :: vals,[]⟩).envs = [] := rfl
  have w3 : (Code.builtin "type.__call__" ⟨.ref c :: vals,[]⟩).cUnits = 1 := rfl
  have keep : ∀ b o,hh.get? b = some o → ((hh.push emptyDict).push (instObj c hh.objs.size)).get? b = some o := fun b o e => Heap.get?_push_of_some _ (Heap.get?_push_of_some _ e)
  have H2 : Hp P Z (g ++ [.inst (hh.objs.size + 1) hh.objs.size c [] 0]) ((hh.push emptyDict).push (instObj c hh.objs.size)) := by
    refine H.cells keep (fun q hq => ?_) (by simp [CC.objs])
    simp only [CC.objs,List.mem_cons,List.not_mem_nil,or_false] at hq
    rcases hq with rfl | rfl
    · refine ⟨?_,Nat.le_succ _⟩
      have := Heap.get?_push_size (hh.push emptyDict) (o := instObj c hh.objs.size) rfl
      rwa [Heap.size_push] at this
    · exact ⟨Heap.get?_push_of_some _ (Heap.get?_push_size hh (o := emptyDict) rfl),Nat.le_refl _⟩
  have le : Ale (g.map CC.addr) ((g ++ [CC.inst (hh.objs.size + 1) hh.objs.size c [] 0]).map CC.addr) := by rw [List.map_append]; exact .app
  have cr2 : CRs G.an G.w.params Z ((g ++ [CC.inst (hh.objs.size + 1) hh.objs.size c [] 0]).map CC.addr) (cells ++ [.inst c []]) (g ++ [.inst (hh.objs.size + 1) hh.objs.size c [] 0]) :=
    (cr.mono .refl le).app ⟨⟨rfl,by unfold RvF; rfl⟩,trivial⟩
  have rc : ∀ (Z' : Zm) (g' : List CC),Ale ((g ++ [CC.inst (hh.objs.size + 1) hh.objs.size c [] 0]).map CC.addr) (g'.map CC.addr) → Rv G.an G.w.params Z' (g'.map CC.addr) (.cell cells.length) (.ref (hh.objs.size + 1)) := fun Z' g' hr => by
    refine rv_cell.mpr ⟨_,rfl,hr _ _ ?_⟩
    rw [cr.len,List.map_append,List.getElem?_append_right (by simp)]
    simp [CC.addr]
  refine make_core (makes_of XK hm) (looks_findIn XK hi) (fun self => bind_fn XK self hf) (.inl rfl) ?_
  refine h.run (A.under (.builtin "type.__call__" ⟨.ref c :: vals,[]⟩)) fr P Z _ _ _ _ ?_ hfp hhd ?_ ?_ hP hzg H2 cr2 (rvl_cons.mpr ⟨_,_,rfl,rc Z _ .refl,RvL.mono .refl le rv⟩) (fun v c' Z' g' s' u hz hr H' cr' zn rv' hq => ?_) fun c' u s' rx hx => ?_
  · unfold Around.under; dsimp only; rw [w2]; exact hfr
  · unfold Around.under; dsimp only; rw [w1]; omega
  · unfold Around.under; dsimp only; rw [w3]; omega
  · cases v <;> first | exact hq.elim | skip
    obtain rfl := rv_none.mp rv'
    exact ⟨rfl,hR _ c' Z' g' s' _ hz (le.trans hr) H' cr' zn (rc Z' g' hr) hq⟩
  · exact hE c' u s' (rx.mono .refl le fun b o e => .inl e) hx
noncomputable def fz (n0 : Nat) (cells : List Cell) : Nat → V → V
  | 0,v => v
  | f + 1,v => match v with
    | .cell k => if k < n0 then .cell k else (match cells[k]? with
        | some (.lst l) => .lst (l.map (fz n0 cells f))
        | some (.inst c fs) => .inst c (fs.map fun p => (p.1,fz n0 cells f p.2))
        | some (.dct l) => .dct (l.map fun p => (p.1,fz n0 cells f p.2))
        | _ => .cell k)
    | .tup l => .tup (l.map (fz n0 cells f))
    | .lst l => .lst (l.map (fz n0 cells f))
    | .inst c fs => .inst c (fs.map fun p => (p.1,fz n0 cells f p.2))
    | .dct l => .dct (l.map fun p => (p.1,fz n0 cells f p.2))
    | v => v
theorem rvl_map {an P Z Z' r} {f : V → V} (hf : ∀ v u,Rv an P Z r v u → Rv an P Z' r (f v) u) : ∀ {l : List V} {vs : List Value},RvL an P Z r l vs → RvL an P Z' r (l.map f) vs
  | [],_,h => rvl_nil.mpr (rvl_nil.mp h)
  | _ :: _,_,h => by obtain ⟨v,vs,rfl,a,b⟩ := rvl_cons.mp h; exact rvl_cons.mpr ⟨v,vs,rfl,hf _ _ a,rvl_map hf b⟩
theorem rvf_map {an P Z Z' r} {f : V → V} (hf : ∀ v u,Rv an P Z r v u → Rv an P Z' r (f v) u) : ∀ {l : List (Nat × V)} {es : List DictEntry},RvF an P Z r l es → RvF an P Z' r (l.map fun p => (p.1,f p.2)) es
  | [],_,h => by unfold RvF at h; subst h; show RvF an P Z' r [] []; unfold RvF; rfl
  | (k,x) :: l,_,h => by
    unfold RvF at h
    obtain ⟨hs,t,v,vs,rfl,hk,a,b⟩ := h
    show RvF an P Z' r ((k,f x) :: l.map fun p => (p.1,f p.2)) _
    unfold RvF
    exact ⟨hs,t,v,vs,rfl,hk,hf _ _ a,rvf_map hf b⟩
theorem rvd_map {an P Z Z' r} {f : V → V} (hf : ∀ v u,Rv an P Z r v u → Rv an P Z' r (f v) u) : ∀ {l : List (Int × V)} {es : List (Int × Value)},RvD an P Z r l es → RvD an P Z' r (l.map fun p => (p.1,f p.2)) es
  | [],_,h => by unfold RvD at h; subst h; show RvD an P Z' r [] []; unfold RvD; rfl
  | (k,x) :: l,_,h => by
    unfold RvD at h
    obtain ⟨v,vs,rfl,a,b⟩ := h
    show RvD an P Z' r ((k,f x) :: l.map fun p => (p.1,f p.2)) _
    unfold RvD
    exact ⟨v,vs,rfl,hf _ _ a,rvd_map hf b⟩
theorem fz_rv {an P Z Z' r n0} {cells : List Cell} {g : List CC} (hz : Zle Z Z') (hr : r = g.map CC.addr) (cr : CRs an P Z r cells g) (hn : ∀ k c,g[k]? = some c → n0 ≤ k → ∀ q ∈ c.objs,Z' q.1 = some q.2) :
    ∀ (f : Nat) (v : V) (u : Value),Rv an P Z r v u → Rv an P Z' r (fz n0 cells f v) u
  | 0,v,u,h => h.mono hz .refl
  | f + 1,v,u,h => by
    have ih := fz_rv hz hr cr hn f
    unfold fz
    cases v with
    | cell k =>
      dsimp only
      split
      · exact h.mono hz .refl
      · rename_i hk
        obtain ⟨a,rfl,ha⟩ := rv_cell.mp h
        split
        · rename_i l hc
          obtain ⟨cc,hg,hcr⟩ := cr.get hc
          cases cc with
          | lst a' vs o =>
            have e : a' = a := by rw [hr,List.getElem?_map,hg] at ha; exact Option.some.inj ha
            subst e
            exact rv_lst.mpr ⟨_,vs,o,rfl,hn k _ hg (Nat.not_lt.mp hk) (a',o) (by simp [CC.objs]),hcr.1,rvl_map ih hcr.2⟩
          | inst _ _ _ _ _ => exact hcr.elim
          | dct _ _ _ => exact hcr.elim
          | dead _ => exact hcr.elim
        · rename_i c fs hc
          obtain ⟨cc,hg,hcr⟩ := cr.get hc
          cases cc with
          | inst x d c' es n =>
            obtain ⟨rfl,hcr⟩ := hcr
            have e : x = a := by rw [hr,List.getElem?_map,hg] at ha; exact Option.some.inj ha
            subst e
            exact rv_inst.mpr ⟨_,d,es,n,rfl,hn k _ hg (Nat.not_lt.mp hk) (x,instObj c d) (by simp [CC.objs]),hn k _ hg (Nat.not_lt.mp hk) (d,dictOf es n) (by simp [CC.objs]),rvf_map ih hcr⟩
          | lst _ _ _ => exact hcr.elim
          | dct _ _ _ => exact hcr.elim
          | dead _ => exact hcr.elim
        · rename_i l hc
          obtain ⟨cc,hg,hcr⟩ := cr.get hc
          cases cc with
          | dct a' kvs o =>
            have e : a' = a := by rw [hr,List.getElem?_map,hg] at ha; exact Option.some.inj ha
            subst e
            exact rv_dct.mpr ⟨_,kvs,o,rfl,hn k _ hg (Nat.not_lt.mp hk) (a',o) (by simp [CC.objs]),hcr.1,hcr.2.1,rvd_map ih hcr.2.2⟩
          | inst _ _ _ _ _ => exact hcr.elim
          | lst _ _ _ => exact hcr.elim
          | dead _ => exact hcr.elim
        · exact h.mono hz .refl
    | tup l => obtain ⟨a,vs,n,rfl,h1,h2⟩ := rv_tup.mp h; exact rv_tup.mpr ⟨a,vs,n,rfl,hz _ _ h1,rvl_map ih h2⟩
    | lst l => obtain ⟨a,vs,o,rfl,h1,ho,h2⟩ := rv_lst.mp h; exact rv_lst.mpr ⟨a,vs,o,rfl,hz _ _ h1,ho,rvl_map ih h2⟩
    | inst c fs => obtain ⟨x,d,es,n,rfl,h1,h2,h3⟩ := rv_inst.mp h; exact rv_inst.mpr ⟨x,d,es,n,rfl,hz _ _ h1,hz _ _ h2,rvf_map ih h3⟩
    | dct l => obtain ⟨a,kvs,o,rfl,h1,h2,h3,h4⟩ := rv_dct.mp h; exact rv_dct.mpr ⟨a,kvs,o,rfl,hz _ _ h1,h2,h3,rvd_map ih h4⟩
    | _ => exact h.mono hz .refl
end Mine
end
section
open PySem PySem.W PyProof.Rows
open Builtin Builtin.ObjectAttr
namespace Mine
theorem set_keys {c' : CC} : ∀ {g : List CC} {n : Nat} {c : CC},g[n]? = some c → c'.objs.map (·.1) = c.objs.map (·.1) → ((g.set n c').flatMap CC.objs).map (·.1) = (g.flatMap CC.objs).map (·.1)
  | [],_,_,h,_ => by simp at h
  | x :: g,0,c,h,e => by
    simp at h; subst h
    simp only [List.set_cons_zero,List.flatMap_cons,List.map_append,e]
  | x :: g,n + 1,c,h,e => by
    simp only [List.set_cons_succ,List.flatMap_cons,List.map_append]
    rw [set_keys (g := g) (n := n) (by simpa using h) e]
theorem set_mem {c' : CC} : ∀ {g : List CC} {n : Nat} {c : CC},g[n]? = some c → ((g.flatMap CC.objs).map (·.1)).Nodup → ∀ q ∈ (g.set n c').flatMap CC.objs,q ∈ c'.objs ∨ (q ∈ g.flatMap CC.objs ∧ q.1 ∉ c.objs.map (·.1))
  | [],_,_,h,_,_,_ => by simp at h
  | x :: g,0,c,h,nd,q,hq => by
    simp at h; subst h
    simp only [List.set_cons_zero,List.flatMap_cons,List.mem_append] at hq
    rcases hq with hq | hq
    · exact .inl hq
    · refine .inr ⟨by simp only [List.flatMap_cons,List.mem_append]; exact .inr hq,fun hm => ?_⟩
      simp only [List.flatMap_cons,List.map_append] at nd
      rw [List.nodup_append] at nd
      exact nd.2.2 q.1 hm q.1 (List.mem_map_of_mem hq) rfl
  | x :: g,n + 1,c,h,nd,q,hq => by
    simp only [List.set_cons_succ,List.flatMap_cons,List.mem_append] at hq
    simp only [List.flatMap_cons,List.map_append] at nd
    rw [List.nodup_append] at nd
    have h' : g[n]? = some c := by simpa using h
    rcases hq with hq | hq
    · refine .inr ⟨by simp only [List.flatMap_cons,List.mem_append]; exact .inl hq,fun hm => ?_⟩
      refine nd.2.2 q.1 (List.mem_map_of_mem hq) q.1 ?_ rfl
      obtain ⟨p,hp,e⟩ := List.mem_map.mp hm
      exact e ▸ List.mem_map_of_mem (List.mem_flatMap.mpr ⟨c,List.mem_of_getElem? h',hp⟩)
    · rcases set_mem h' nd.2.1 q hq with z | ⟨z,y⟩
      · exact .inl z
      · exact .inr ⟨by simp only [List.flatMap_cons,List.mem_append]; exact .inr z,y⟩
theorem nd_of {g : List CC} {c : CC} (nd : ((g.flatMap CC.objs).map (·.1)).Nodup) (h : c ∈ g) : (c.objs.map (·.1)).Nodup := by
  induction g with
  | nil => cases h
  | cons x g ih =>
    rw [List.flatMap_cons,List.map_append,List.nodup_append] at nd
    rcases List.mem_cons.mp h with e | e
    · rw [e]; exact nd.1
    · exact ih nd.2.1 e
theorem set_addr {c' : CC} : ∀ {g : List CC} {n : Nat} {c : CC},g[n]? = some c → c'.addr = c.addr → (g.set n c').map CC.addr = g.map CC.addr
  | [],_,_,h,_ => by simp at h
  | x :: g,0,c,h,e => by simp at h; subst h; simp [e]
  | x :: g,n + 1,c,h,e => by simp only [List.set_cons_succ,List.map_cons]; rw [set_addr (g := g) (n := n) (by simpa using h) e]
theorem CRs.set {an P Z r} {c' : CC} {x' : Cell} (h' : CR an P Z r x' c') : ∀ {l : List Cell} {g : List CC} {n : Nat},CRs an P Z r l g → CRs an P Z r (l.set n x') (g.set n c')
  | [],[],n,h => by simpa using h
  | _ :: _,_ :: _,0,h => ⟨h',h.2⟩
  | _ :: _,_ :: _,n + 1,h => ⟨h.1,CRs.set h' h.2⟩
  | [],_ :: _,_,h => h.elim
  | _ :: _,[],_,h => h.elim
theorem St.put {C : Cx} {Z : Zm} {m : Str → Option Value} {g : List CC} {cs : List (Addr × Obj)} {lc : Lc} {cells : List Cell} {h h' : Heap} (S : St C Z m g cs lc cells h) {n : Nat} {c c' : CC} {x' : Cell} (hg : g[n]? = some c) (ha : c'.addr = c.addr) (hk : c'.objs.map (·.1) = c.objs.map (·.1))
    (ho : ∀ b,b ∉ c.objs.map (·.1) → h'.get? b = h.get? b) (hn : ∀ q ∈ c'.objs,h'.get? q.1 = some q.2) (cr : CR C.an C.w.params Z (g.map CC.addr) x' c') : St C Z m (g.set n c') cs lc (cells.set n x') h' := by
  have I := S.iv
  have inc : ∀ q ∈ c.objs,q ∈ g.flatMap CC.objs := fun q hq => List.mem_flatMap.mpr ⟨c,List.mem_of_getElem? hg,hq⟩
  have off : ∀ {b : Addr},(∀ q ∈ g.flatMap CC.objs,q.1 ≠ b) → h'.get? b = h.get? b := fun {b} hb => ho b fun hm => by
    obtain ⟨q,hq,e⟩ := List.mem_map.mp hm
    exact hb q (inc q hq) e
  have OG : ∀ q ∈ g.flatMap CC.objs,_ := fun q hq => I.own q (List.mem_append_left _ hq)
  obtain ⟨oL,es,ep,hL,r⟩ := I.ns
  have kk := set_keys hg hk
  have iv : Iv C.P C.Z0 C.L Z m (g.set n c') cs h' := by
    refine ⟨⟨oL,es,ep,(off fun q hq e => (OG q hq).2.2.2 e).trans hL,r⟩,fun b o e => (off fun q hq z => ?_).trans (I.kz b o e),fun b o e => (off fun q hq z => ?_).trans (I.kp b o e),I.zl,I.pl,fun q hq => ?_,?_,I.zp,I.z0⟩
    · have := (OG q hq).2.1; rw [z,e] at this; cases this
    · have := (OG q hq).2.2.1; rw [z,e] at this; cases this
    · rcases List.mem_append.mp hq with hq | hq
      · rcases set_mem hg I.ndg q hq with z | ⟨z,y⟩
        · have hm : q.1 ∈ c.objs.map (·.1) := by rw [← hk]; exact List.mem_map_of_mem z
          obtain ⟨p,hp,e⟩ := List.mem_map.mp hm
          have O := OG p (inc p hp)
          rw [e] at O
          exact ⟨hn q z,O.2⟩
        · exact ⟨(ho _ y).trans (OG q z).1,(OG q z).2⟩
      · have O := I.own q (List.mem_append_right _ hq)
        refine ⟨(off fun p hp e => ?_).trans O.1,O.2⟩
        exact I.disj hp (e ▸ List.mem_map_of_mem hq)
    · have := I.nd
      rw [List.map_append] at this ⊢
      rwa [kk]
  refine ⟨iv,?_,?_,S.cl⟩
  · rw [set_addr hg ha]; exact S.cr.set cr
  · rw [set_addr hg ha]; exact S.lr
noncomputable def putF (k : Nat) (v : V) : List (Nat × V) → List (Nat × V)
  | [] => [(k,v)]
  | p :: l => if p.1 = k then (k,v) :: l else p :: putF k v l
theorem RvF.put {an P Z r} (inj : ∀ i j,i < 64 → j < 64 → an i = an j → i = j) {ka : Nat} (hka : ka < 64) {v : V} {u : Value} {hsh : Int} {t : Tok} (hv : Rv an P Z r v u) : ∀ {fs : List (Nat × V)} {es : List DictEntry},RvF an P Z r fs es → RvF an P Z r (putF ka v fs) (putL (an ka) hsh (.str (an ka) t) u es)
  | [],_,h => by
    unfold RvF at h; subst h
    show RvF an P Z r [(ka,v)] [⟨hsh,.str (an ka) t,u⟩]
    unfold RvF
    exact ⟨hsh,t,u,[],rfl,hka,hv,by unfold RvF; rfl⟩
  | (k,x) :: l,es,h => by
    unfold RvF at h
    obtain ⟨hs,t',u',es',rfl,hk,h1,h2⟩ := h
    unfold putL putF
    rw [isStr_an inj hk hka]
    by_cases e : k = ka
    · subst e
      simp only [beq_self_eq_true,if_true]
      unfold RvF
      exact ⟨hs,t',u,es',rfl,hk,hv,h2⟩
    · rw [beq_eq_false_iff_ne.mpr (Ne.symm e),if_neg e,if_neg (by decide)]
      unfold RvF
      exact ⟨hs,t',u',_,rfl,hk,h1,RvF.put inj hka hv h2⟩
theorem RvF.len {an P Z r} : ∀ {fs : List (Nat × V)} {es : List DictEntry},RvF an P Z r fs es → es.length = fs.length
  | [],_,h => by unfold RvF at h; subst h; rfl
  | (k,x) :: l,es,h => by
    unfold RvF at h
    obtain ⟨hs,t',u',es',rfl,hk,h1,h2⟩ := h
    exact congrArg (· + 1) (RvF.len h2)
theorem putF_len (k : Nat) (v : V) : ∀ fs : List (Nat × V),(putF k v fs).length ≤ fs.length + 1
  | [] => Nat.le_refl _
  | p :: l => by
    unfold putF
    split
    · exact Nat.le_succ _
    · exact Nat.succ_le_succ (putF_len k v l)
section
variable {C : Cx}
theorem setattr_at (hC : C.Ok) {s : Shared} {x d c n ka : Nat} {es : List DictEntry} {attr : Str} {u : Value} {Q : Unit → Shared → Prop} {E : Value → Shared → Prop} (hka : C.an ka = attr) (hP : ZIn C.P s.heap) (ho : C.T.own c ka = true) (hx : s.heap.get? x = some (instObj c d)) (hd : s.heap.get? d = some (dictOf es n))
    (hn : es.any (·.refKey) = false) (hl : (putL attr (PyData.keyHash C.w.params attr) (.str attr (s.toks + 1)) u es).length ≤ 1000)
    (h : Q () { s with heap := s.heap.update d (Obj.putName attr (PyData.keyHash C.w.params attr) (.str attr (s.toks + 1)) u),toks := s.toks + 2 }) : wpAny (model C.prog C.w) C.A (setAttr (.ref x) attr u) Q E s := by
  subst hka
  obtain ⟨hh,gg,dd,tt,os⟩ := s
  dsimp only at hx hd hP hl h
  have X := hC.inK _ hP
  obtain ⟨t1,_,_,t4,t5,t6⟩ := hC.tab.own c ka ho
  have I : InstAt hh x (instObj c d) c (some (dictOf es n)) := ⟨hx,rfl,rfl,hd⟩
  refine set_plain (s := ⟨hh,gg,dd,tt,os⟩) X I t6 ?_
  refine osa_open (s := ⟨hh,gg,dd,tt + 1,os⟩) X I t5 t4 fun b => ?_
  obtain ⟨cd,hc,hd'⟩ := any_some t1
  refine wpAny_bind (wpAny_pure (wpAny_bind (wpAny_bind (wpAny_loadPart hx (wpAny_bind ((looks_clsIn X hc).at ?_))))))
  rw [hd']
  refine wpAny_pure (a := some d) (wpAny_bind (wpAny_pure (wpAny_bind ?_)))
  unfold nsSet
  refine wpAny_bind (wpAny_bind (wpAny_askSetting (wpAny_pure (wpAny_bind (wpAny_mkText (wpAny_bind (wpAny_loadPart hd ?_)))))))
  dsimp only
  have cc : (!es.toArray.any (·.key.isStr (C.an ka)) && es.toArray.any (·.refKey)) = false := by
    rw [← Array.any_toList,← Array.any_toList]
    show (!es.any _ && es.any _) = false
    rw [hn,Bool.and_false]
  rw [aRefKeyMayBeTheName_at,cc]
  refine wpAny_updatePart hd ?_
  refine wpAny_bind (wpAny_lookBehind (o := dictOf (putL (C.an ka) (PyData.keyHash C.w.params (C.an ka)) (.str (C.an ka) (tt + 1)) u es) (putN (C.an ka) es n)) ((Heap.get?_update_self _ hd ?_).trans ?_) ?_ ?_)
  · rw [putName_dict]; rfl
  · rw [putName_dict]; rfl
  · exact pastItsLine_dict (by rw [List.size_toArray,sizeLine_eq]; lia)
  · exact wpAny_pure h
noncomputable def setAV (T : Tb) (cells : List Cell) (a : V) (ka : Nat) (v : V) (kk : List Cell → Prop) : Prop := match a with
  | .cell n => (match cells[n]? with
      | some (.inst c fs) => okW (T.own c ka && Nat.ble fs.length 100) (kk (cells.set n (.inst c (putF ka v fs))))
      | _ => False)
  | _ => False
theorem setAV_at (hC : C.Ok) {Z : Zm} {m : Str → Option Value} {g : List CC} {cs : List (Addr × Obj)} {lc : Lc} {cells : List Cell} {s : Shared} (S : St C Z m g cs lc cells s.heap) {ka : Nat} (hka : ka < 64) {attr : Str} (ha : C.an ka = attr) {a v : V} {ua u : Value} {kk : List Cell → Prop} (Ra : Rv C.an C.w.params Z (g.map CC.addr) a ua) (R : Rv C.an C.w.params Z (g.map CC.addr) v u)
    (hw : setAV C.T cells a ka v kk) {Q : Unit → Shared → Prop} {E : Value → Shared → Prop} (hQ : ∀ cells' g' s',og s = og s' → Ale (g.map CC.addr) (g'.map CC.addr) → St C Z m g' cs lc cells' s'.heap → kk cells' → Q () s') : wpAny (model C.prog C.w) C.A (setAttr ua attr u) Q E s := by
  unfold setAV at hw
  split at hw
  · rename_i n
    split at hw
    · rename_i c fs hc
      obtain ⟨h1,h3⟩ := okW_iff hw
      rw [Bool.and_eq_true,Nat.ble_eq] at h1
      obtain ⟨h1,h2⟩ := h1
      obtain ⟨ad,rfl,had⟩ := rv_cell.mp Ra
      obtain ⟨cc,hg,hcr⟩ := S.cr.get hc
      cases cc with
      | inst x d c' es n' =>
        obtain ⟨rfl,hcr⟩ := hcr
        have e : x = ad := by rw [List.getElem?_map,hg] at had; exact Option.some.inj had
        subst e
        have hx := S.iv.objAt hg (q := (x,instObj c d)) (by simp [CC.objs])
        have hd := S.iv.objAt hg (q := (d,dictOf es n')) (by simp [CC.objs])
        subst ha
        refine setattr_at hC rfl S.iv.kp h1 hx hd hcr.noKey (by
          have l := (RvF.put hC.tab.inj hka (hsh := PyData.keyHash C.w.params (C.an ka)) (t := s.toks + 1) R hcr).len
          rw [l]
          have := putF_len ka v fs
          lia) (hQ _ (g.set n (.inst x d c (putL (C.an ka) (PyData.keyHash C.w.params (C.an ka)) (.str (C.an ka) (s.toks + 1)) u es) (putN (C.an ka) es n'))) _ rfl (by rw [set_addr hg (by rfl)]; exact .refl) (S.put (x' := .inst c (putF ka v fs)) hg rfl rfl (fun b hb => ?_) (fun q hq => ?_) ⟨rfl,RvF.put hC.tab.inj hka R hcr⟩) h3)
        · exact Heap.get?_update_other _ _ fun e => hb (by simp [CC.objs,e])
        · simp only [CC.objs,List.mem_cons,List.not_mem_nil,or_false] at hq
          rcases hq with rfl | rfl
          · refine (Heap.get?_update_other _ _ fun e => ?_).trans hx
            have nd2 := nd_of S.iv.ndg (List.mem_of_getElem? hg)
            simp [CC.objs,e] at nd2
          · refine (Heap.get?_update_self _ hd (by rw [putName_dict]; rfl)).trans ?_
            rw [putName_dict]
      | lst _ _ _ => exact hcr.elim
      | dct _ _ _ => exact hcr.elim
      | dead _ => exact hcr.elim
    · exact hw.elim
  · exact hw.elim
theorem sSetA (hC : C.Ok) {o e : Expr} {attr : Str} {tp pos : Pos} {wo we : WE} (ka : Nat) (hka : ka < 64) (ha : C.an ka = attr) (hs : swapsWith e (some (.Attribute o attr tp)) pos.line C.env = pure false) (he : SE C e we) (ho : SE C o wo) :
    SSt C (.Assign [.Attribute o attr tp] e pos) (fun lc cells k X => we lc cells (fun v c1 => wo lc c1 (fun vo c2 => setAV C.T c2 vo ka v (fun c3 => k .next lc c3)) X) X) := by
  constructor; intro lc cells k x hw Z m g cs s Q E S hQ hE
  refine plainObj_wpAny_Assign_Attribute (he.run lc cells _ x hw Z m g cs s _ E S (fun v c1 Z1 g1 s1 u hz hr S1 R hk => ho.run lc c1 _ x hk Z1 m g1 cs s1 _ E S1 (fun vo c2 Z2 g2 s2 uo hz2 hr2 S2 R2 hk2 => ?_) (fun c u s' rx hx => hE c u s' (RX.up S S1 hz hr rx).s hx)) (fun c u s' rx hx => hE c u s' rx.s hx)) hs
  exact setAV_at hC S2 hka ha R2 (R.mono hz2.1 hr2) hk2 fun c3 g3 s3 o3 hr3 S3 hk3 => hQ .next lc c3 Z2 m g3 cs s3 _ ((hz.trans hz2).to o3) ((hr.trans hr2).trans hr3) .refl S3 rfl hk3
end
end Mine
end
section
open PySem PySem.W PyProof.Rows
namespace Mine
theorem RvL.set {an P Z r} {v : V} {u : Value} (hv : Rv an P Z r v u) : ∀ {l : List V} {vs : List Value} {i : Nat},RvL an P Z r l vs → RvL an P Z r (l.set i v) (vs.set i u)
  | [],_,i,h => by rw [rvl_nil.mp h]; exact rvl_nil.mpr rfl
  | _ :: _,_,0,h => by obtain ⟨w,ws,rfl,a,b⟩ := rvl_cons.mp h; exact rvl_cons.mpr ⟨u,ws,rfl,hv,b⟩
  | _ :: _,_,i + 1,h => by obtain ⟨w,ws,rfl,a,b⟩ := rvl_cons.mp h; exact rvl_cons.mpr ⟨w,_,rfl,a,RvL.set hv b⟩
theorem setItem_plain {prog : Program} {w : World} {A : Around} {E : Value → Shared → Prop} {s : Shared} {l : Addr} {o : Obj} {vs : List Value} {k : Int} {t : Tok} {v : Value} {Q : Unit → Shared → Prop} (hl : LstO o vs) (ho : s.heap.get? l = some o)
    (h0 : 0 ≤ k) (hfit : k < 2 ^ 63) (hn : k < vs.length)
    (hQ : ∀ h' o',h'.get? l = some o' → LstO o' (vs.set k.toNat v) → Heap.SameBut l s.heap h' → Q () { s with heap := h' }) : wpAny (model prog w) A (setItem (.ref l) (.int k t) v) Q E s := by
  have hL := hl.at ho
  obtain ⟨n,rfl⟩ := hl
  have hd : (lstO vs n).data = .seq vs.toArray n := rfl
  unfold setItem
  try with_reducible refine wpAny_holding ?_
  first | refine wpAny_bind (wpAny_pure ?_) | skip
  refine wpAny_bind (wpAny_sequenceKey hL.typeIs (by decide) ?_)
  refine wpAny_bind (wpAny_callSpecial?_slot (name := Str.ofString "__setitem__") hL.typeIs slot_list_setitem
    (wpAny_call_entry slot_list_setitem hL.typeIs entry_list_setitem ?_ (args_list_setitem _ _ _)))
  show wpAny _ _ (Builtin.List.listSubscript? (.int k t) >>= _) _ _ s
  refine wpAny_bind (wpAny_listSubscript_int (fitsIndex_of h0 hfit) ?_)
  clear hfit
  obtain ⟨j,rfl⟩ := Int.eq_ofNat_of_zero_le h0
  have hj : j < vs.toArray.size := by rw [List.size_toArray]; lia
  have hx' : vs.toArray[j]? = some vs.toArray[j] := Array.getElem?_eq_getElem hj
  show wpAny _ _ ((seqItemAt l j >>= fun r => pure (r.map (j,·))) >>= _) _ _ s
  refine wpAny_bind (wpAny_bind (wpAny_seqItemAt ho hd (wpAny_pure ?_)))
  rw [hx']
  show wpAny _ _ (setSeqItemAt l j v >>= _) _ _ s
  have eo : Obj.mapSeq (·.setIfInBounds j v) (lstO vs n) = lstO (vs.set j v) n := by
    unfold Obj.mapSeq lstO
    simp
  have fin := hQ (s.heap.update l (Obj.mapSeq (·.setIfInBounds j v))) _ (Heap.get?_update_self _ ho (by rw [eo]; rfl)) ⟨n,eo⟩ (Heap.SameBut.update ..)
  refine wpAny_bind (wpAny_setSeqItemAt ho hd ?_)
  first
    | exact wpAny_bind (wpAny_pure (wpAny_pure ⟨.none,rfl,wpAny_pure fin⟩))
    | exact wpAny_pure ⟨.none,rfl,wpAny_pure fin⟩
section
variable {C : Cx}
noncomputable def setIV (cells : List Cell) (a i v : V) (kk : List Cell → Prop) : Prop := match a,i with
  | .cell n,.int j => (match cells[n]? with
      | some (.lst l) => (0 ≤ j ∧ j < l.length ∧ j < 2 ^ 63) ∧ kk (cells.set n (.lst (l.set j.toNat v)))
      | _ => False)
  | _,_ => False
theorem setIV_at {Z : Zm} {m : Str → Option Value} {g : List CC} {cs : List (Addr × Obj)} {lc : Lc} {cells : List Cell} {s : Shared} (S : St C Z m g cs lc cells s.heap) {a i v : V} {ua ui u : Value} {kk : List Cell → Prop} (Ra : Rv C.an C.w.params Z (g.map CC.addr) a ua) (Ri : Rv C.an C.w.params Z (g.map CC.addr) i ui) (R : Rv C.an C.w.params Z (g.map CC.addr) v u)
    (hw : setIV cells a i v kk) {Q : Unit → Shared → Prop} {E : Value → Shared → Prop} (hQ : ∀ cells' g' s',og s = og s' → Ale (g.map CC.addr) (g'.map CC.addr) → St C Z m g' cs lc cells' s'.heap → kk cells' → Q () s') : wpAny (model C.prog C.w) C.A (setItem ua ui u) Q E s := by
  unfold setIV at hw
  split at hw
  · rename_i n j
    split at hw
    · rename_i l hc
      obtain ⟨⟨h1,h2,h2'⟩,h3⟩ := hw
      obtain ⟨ad,rfl,had⟩ := rv_cell.mp Ra
      obtain ⟨t,rfl⟩ := rv_int.mp Ri
      obtain ⟨cc,hg,hcr⟩ := S.cr.get hc
      cases cc with
      | lst a' vs o =>
        have e : a' = ad := by rw [List.getElem?_map,hg] at had; exact Option.some.inj had
        subst e
        have hx := S.iv.objAt hg (q := (a',o)) (by simp [CC.objs])
        refine setItem_plain hcr.1 hx h1 h2' (by rw [hcr.2.len]; exact h2) fun h' o' ho' hlo hs => ?_
        refine hQ _ (g.set n (.lst a' (vs.set j.toNat u) o')) _ rfl (by rw [set_addr hg (by rfl)]; exact .refl) (S.put (x' := .lst (l.set j.toNat v)) hg rfl rfl (fun b hb => hs.2 b fun e => hb (by simp [CC.objs,e])) (fun q hq => ?_) ⟨hlo,hcr.2.set R⟩) h3
        · simp only [CC.objs,List.mem_singleton] at hq; subst hq; exact ho'
      | inst _ _ _ _ _ => exact hcr.elim
      | dct _ _ _ => exact hcr.elim
      | dead _ => exact hcr.elim
    · exact hw.elim
  · exact hw.elim
theorem sSetI (hC : C.Ok) {o i e : Expr} {tp pos : Pos} {wo wi we : WE} (hs : swapsWith e (some (.Subscript o i tp)) pos.line C.env = pure false) (he : SE C e we) (ho : SE C o wo) (hi : SE C i wi) :
    SSt C (.Assign [.Subscript o i tp] e pos) (fun lc cells k X => we lc cells (fun v c1 => wo lc c1 (fun vo c2 => wi lc c2 (fun vi c3 => setIV c3 vo vi v (fun c4 => k .next lc c4)) X) X) X) := by
  constructor; intro lc cells k x hw Z m g cs s Q E S hQ hE
  refine wpAny_Assign_Subscript (he.run lc cells _ x hw Z m g cs s _ E S (fun v c1 Z1 g1 s1 u hz hr S1 R hk => ho.run lc c1 _ x hk Z1 m g1 cs s1 _ E S1 (fun vo c2 Z2 g2 s2 uo hz2 hr2 S2 R2 hk2 => hi.run lc c2 _ x hk2 Z2 m g2 cs s2 _ E S2 (fun vi c3 Z3 g3 s3 ui hz3 hr3 S3 R3 hk3 => ?_)
    (fun c u s' rx hx => hE c u s' (RX.up S S2 (hz.trans hz2) (hr.trans hr2) rx).s hx)) (fun c u s' rx hx => hE c u s' (RX.up S S1 hz hr rx).s hx)) (fun c u s' rx hx => hE c u s' rx.s hx)) hs
  exact setIV_at S3 (R2.mono hz3.1 hr3) R3 (R.mono (hz2.trans hz3).1 (hr2.trans hr3)) hk3 fun c4 g4 s4 o4 hr4 S4 hk4 => hQ .next lc c4 Z3 m g4 cs s4 _ (((hz.trans hz2).trans hz3).to o4) (((hr.trans hr2).trans hr3).trans hr4) .refl S4 rfl hk4
theorem sAugA (hC : C.Ok) {o e : Expr} {attr : Str} {tp pos : Pos} {op : Operator} {wo we : WE} {pre : V → V → (V → Prop) → Prop} (ka : Nat) (hka : ka < 64) (ha : C.an ka = attr) (hop : PO C (inplaceOp op) pre) (ho : SE C o wo) (he : SE C e we) :
    SSt C (.AugAssign (.Attribute o attr tp) op e pos) (fun lc cells k X => wo lc cells (fun vo c1 => attrV C.T c1 vo ka (fun old => we lc c1 (fun v c2 => pre old v (fun nw => setAV C.T c2 vo ka nw (fun c3 => k .next lc c3))) X)) X) := by
  constructor; intro lc cells k x hw Z m g cs s Q E S hQ hE
  refine wpAny_AugAssign_AttributeAny (ho.run lc cells _ x hw Z m g cs s _ E S (fun vo c1 Z1 g1 s1 uo hz hr S1 R hk => ?_) (fun c u s' rx hx => hE c u s' rx.s hx))
  obtain ⟨x',d,c,es,n,fs,rfl,h1,h2,h3,h4⟩ := inst_at S1 R hk
  refine attr_at hC hka ha S1.iv.kp h1 h2 h3 h4 fun old uold tk ro hold => ?_
  refine he.run lc c1 _ x hold Z1 m g1 cs _ _ E S1 (fun v c2 Z2 g2 s2 u hz2 hr2 S2 R2 hk2 => ?_) (fun c u s' rx hx => hE c u s' (RX.up S S1 hz hr rx).s hx)
  refine hop old v _ hk2 Z2 _ _ _ s2 _ E (ro.mono hz2.1 hr2) R2 fun nw unw tk2 rn hn => ?_
  exact setAV_at (s := { s2 with toks := tk2 }) (Q := fun _ => Q .next) hC S2 hka ha (R.mono hz2.1 hr2) rn hn fun c3 g3 s3 o3 hr3 S3 hk3 => hQ .next lc c3 Z2 m g3 cs s3 _ ((hz.trans hz2).to o3) ((hr.trans hr2).trans hr3) .refl S3 rfl hk3
noncomputable def getIV (cells : List Cell) (a i : V) (kk : V → Prop) : Prop := match a,i with
  | .cell n,.int j => (match cells[n]? with
      | some (.lst l) => (0 ≤ j ∧ j < 2 ^ 63) ∧ ∃ v,l[j.toNat]? = some v ∧ kk v
      | _ => False)
  | _,_ => False
theorem sAugI (hC : C.Ok) {o i e : Expr} {tp pos : Pos} {op : Operator} {wo wi we : WE} {pre : V → V → (V → Prop) → Prop} (hop : PO C (inplaceOp op) pre) (hst : ∀ ov iv new,augStore i ov iv new = (do holding [new,ov,iv] (setItem ov iv new); release [new,ov,iv] []; pure .next)) (ho : SE C o wo) (hi : SE C i wi) (he : SE C e we) :
    SSt C (.AugAssign (.Subscript o i tp) op e pos) (fun lc cells k X => wo lc cells (fun vo c1 => wi lc c1 (fun vi c2 => getIV c2 vo vi (fun old => we lc c2 (fun v c3 => pre old v (fun nw => setIV c3 vo vi nw (fun c4 => k .next lc c4))) X)) X) X) := by
  constructor; intro lc cells k x hw Z m g cs s Q E S hQ hE
  refine wpAny_AugAssign_SubscriptAny (ho.run lc cells _ x hw Z m g cs s _ E S (fun vo c1 Z1 g1 s1 uo hz hr S1 R hk => hi.run lc c1 _ x hk Z1 m g1 cs s1 _ E S1 (fun vi c2 Z2 g2 s2 ui hz2 hr2 S2 R2 hk2 => ?_) (fun c u s' rx hx => hE c u s' (RX.up S S1 hz hr rx).s hx)) (fun c u s' rx hx => hE c u s' rx.s hx)) hst
  replace R := R.mono hz2.1 hr2
  unfold getIV at hk2
  split at hk2
  · split at hk2
    · rename_i n j l hc
      obtain ⟨⟨b1,b2⟩,v,e,hk⟩ := hk2
      obtain ⟨ad,rfl,had⟩ := rv_cell.mp R
      obtain ⟨t,rfl⟩ := rv_int.mp R2
      obtain ⟨cc,hg,hcr⟩ := S2.cr.get hc
      cases cc with
      | lst a' vs ob =>
        have e' : a' = ad := by rw [List.getElem?_map,hg] at had; exact Option.some.inj had
        subst e'
        obtain ⟨u,hu,ru⟩ := hcr.2.get e
        refine wpAny_getItem_list (items := vs.toArray) (hcr.1.at (S2.iv.objAt hg (q := (a',ob)) (by simp [CC.objs]))) b1 b2 (by simpa using hu) ?_
        refine he.run lc c2 _ x hk Z2 m g2 cs _ _ E S2 (fun v c3 Z3 g3 s3 u hz3 hr3 S3 R3 hk3 => ?_) (fun c u s' rx hx => hE c u s' (RX.up S S2 (hz.trans hz2) (hr.trans hr2) rx).s hx)
        refine hop _ v _ hk3 Z3 _ _ _ s3 _ E (ru.mono hz3.1 hr3) R3 fun nw unw tk2 rn hn => ?_
        exact setIV_at (s := { s3 with toks := tk2 }) (Q := fun _ => Q .next) S3 (R.mono hz3.1 hr3) (R2.mono hz3.1 hr3) rn hn fun c4 g4 s4 o4 hr4 S4 hk4 => hQ .next lc c4 Z3 m g4 cs s4 _ (((hz.trans hz2).trans hz3).to o4) (((hr.trans hr2).trans hr3).trans hr4) .refl S4 rfl hk4
      | inst _ _ _ _ _ => exact hcr.elim
      | dct _ _ _ => exact hcr.elim
      | dead _ => exact hcr.elim
    · exact hk2.elim
  · exact hk2.elim
end
end Mine
end
section
open PySem PySem.W PyProof.Rows
open Builtin
namespace Mine
theorem unchain_entry : entryFor table "proto.unchain" = some Builtin.«proto.unchain» := entryFor_of_tree (by kernel_rfl)
theorem raise_hd {prog : Program} {w : World} {A : Around} {α : Type} {E : Value → Shared → Prop} {Q : α → Shared → Prop} {s : Shared} {P : Zm} {q : Bool} (hd : Hd q A P) (hP : ZIn P s.heap) {a : Addr} {o : Obj} {vs : Array Value} (ha : s.heap.get? a = some o) (hv : o.data = .fields vs) (hs : 2 < vs.size) (hn : P a = none)
    (hE : ∀ h',Heap.SameBut a s.heap h' → (∃ o',h'.get? a = some o' ∧ o'.cls = o.cls ∧ ∃ vs',o'.data = .fields vs' ∧ vs'[0]? = vs[0]? ∧ vs'[1]? = vs[1]? ∧ (q = true → vs'[2]? = vs[2]?)) → E (.ref a) { s with heap := h' }) : wpAny (model prog w) A (raiseNew (.ref a) : PySem.Sem α) Q E s := by
  simp only [raiseNew]
  refine wpAny_bind (wpAny_handled ?_)
  rcases hd.2 with hh | ⟨e,oe,ve,hh,he,hde,h2⟩
  · rw [hh]
    exact wpAny_bind (wpAny_pure (wpAny_throw (hE s.heap (.refl _ _) ⟨o,ha,rfl,vs,hv,rfl,rfl,fun _ => rfl⟩)))
  · rw [hh]
    dsimp only
    have ne : e ≠ a := fun q => by rw [q,hn] at he; cases he
    rw [if_pos (show (Value.ref e != Value.ref a) = true by simpa using ne)]
    refine wpAny_bind (wpAny_holding ?_)
    refine wpAny_runValue (codeAny_builtin unchain_entry ?_)
    unfold Builtin.«proto.unchain»
    refine wpAny_bind (wpAny_field (hP _ _ he) hde h2 ?_)
    refine wpAny_pure ?_
    show wpAny _ _ (updateField a 2 (.ref e) >>= fun _ => throw (.ref a)) _ _ _
    refine wpAny_bind ?_
    unfold updateField
    refine wpAny_bind (wpAny_load ha ?_)
    rw [hv]
    dsimp only
    rw [if_pos hs]
    refine wpAny_update ha (wpAny_throw (hE _ (.update _ _ _) ⟨_,Heap.get?_update_self _ ha (Obj.isFreed_of_fields (Obj.data_mapFields hv _)),Obj.cls_mapFields ..,_,Obj.data_mapFields hv _,Array.getElem?_setIfInBounds_ne (by decide),Array.getElem?_setIfInBounds_ne (by decide),fun hq => by rw [hd.1 hq] at hh; cases hh⟩))
section
variable {prog : Program} {w : World} {A : Around} {E : Value → Shared → Prop} {s : Shared} {P : Zm}
theorem stop_hd {it : Addr} {hE : Value → Shared → Prop} {qq : Bool} (hd : Hd qq A P) {h : Heap} {gn : Array GenState} {d : Drawn} {t : Nat} {os : OsState} (hP : ZIn P h) (k : ∀ h',(∀ b o,b ≠ it → h.get? b = some o → h'.get? b = some o) → ∀ (e : Addr) (oe : Obj),h'.get? e = some oe → oe.cls = .type "StopIteration" → hE (.ref e) ⟨h',gn,d,t,os⟩) {Q : Fin → Shared → Prop} :
    wpAny (model prog w) A (newExc (.type "StopIteration") [] >>= fun e => (raiseNew e : PySem.Sem Fin)) Q hE ⟨h,gn,d,t,os⟩ := by
  refine wpAny_bind ?_
  simp only [newExc,newTuple]
  refine wpAny_bind (wpAny_newObj_type ?_ (by size_fits))
  refine wpAny_bind (m := firstArgMember _ _) (wpAny_of_eq (a := Value.none) (by first | rfl | (simp only [firstArgMember]; rfl)) ?_)
  refine wpAny_newObj_type ?_ (by size_fits)
  refine raise_hd hd (fun b o e => Heap.get?_push_of_some _ (Heap.get?_push_of_some _ (hP b o e))) (Heap.get?_push_size _ rfl) rfl (by simp; lia) ?_ fun h' hs ho => ?_
  · cases q : P (h.push { cls := .type "tuple",data := .seq #[] }).objs.size with
    | none => rfl
    | some o =>
      have := Heap.lt_size (hP _ _ q)
      rw [Heap.size_push] at this
      exact absurd (Nat.lt_of_succ_lt this) (Nat.lt_irrefl _)
  · obtain ⟨o',h1,h2,_⟩ := ho
    refine k h' (fun b o _ e => ?_) _ o' h1 h2
    refine (hs.2 b fun q => ?_).trans (Heap.get?_push_of_some _ (Heap.get?_push_of_some _ e))
    have := Heap.lt_size e
    rw [q,Heap.size_push] at this
    exact absurd (Nat.lt_of_succ_lt this) (Nat.lt_irrefl _)
theorem list_end_hd {qq : Bool} (hd : Hd qq A P) (hP : ZIn P s.heap) {it l : Addr} {i : Nat} {items : Array Value} {Q : Option Value → Shared → Prop} (hpi : P it = none)
    (hit : s.heap.IsListIter it l i) (hl : s.heap.IsList l items) (hx : items[i]? = none)
    (hQ : ∀ h',Heap.ExtBut it s.heap h' → Q none { s with heap := h' }) : wpAny (model prog w) A (pyNext (.ref it)) Q E s := by
  obtain ⟨o,ho,hc,hdt⟩ := id hit
  obtain ⟨ol,hol,_,nl,hdl⟩ := hl
  unfold pyNext
  refine wpAny_bind (wpAny_attempt (wpAny_callSpecial?_slot (name := Str.ofString "__next__") hit.typeIs slot_listiter_next
    (wpAny_call_entry slot_listiter_next hit.typeIs entry_listiter_next ?_ (args_listiter_next _))))
  show wpAny _ _ (field (.ref it) 0 >>= _) _ _ s
  refine wpAny_bind (wpAny_field ho hdt (x := .ref l) rfl ?_)
  show wpAny _ _ (if (Value.ref l == Value.none) = true then _ else _) _ _ s
  rw [if_neg (show ¬ ((Value.ref l == Value.none) = true) from Bool.false_ne_true)]
  show wpAny _ _ (field (.ref it) 1 >>= _) _ _ s
  refine wpAny_bind (wpAny_field ho hdt (x := .int i 0) rfl ?_)
  show wpAny _ _ (seqItems? (.ref l) >>= _) _ _ s
  refine wpAny_bind (wpAny_seqItems hol hdl ?_)
  simp only [Int.toNat_natCast,hx]
  refine wpAny_bind (wpAny_rule (wpAny_bind (wpAny_setField ho hdt (by simp) ?_)))
  refine stop_hd (A := A.in1) (it := it) (P := P) hd (fun b ob e => (Heap.get?_update_other _ _ fun q => by rw [q,e] at hpi; cases hpi).trans (hP b ob e)) fun h' hk e oe he hce => ?_
  refine wpAny_bind (wpAny_isInstance (T := "StopIteration") (b := true) ⟨oe,he,hce⟩ isSubtype_stop ?_)
  exact wpAny_pure (hQ _ fun b ob hb eb => hk b ob hb ((Heap.get?_update_other _ _ (Ne.symm hb)).trans eb))
theorem tuple_end_hd {qq : Bool} (hd : Hd qq A P) (hP : ZIn P s.heap) {it t : Addr} {i : Nat} {items : Array Value} {Q : Option Value → Shared → Prop} (hpi : P it = none)
    (hit : s.heap.IsTupleIter it t i) (ht : s.heap.IsTuple t items) (hx : items[i]? = none)
    (hQ : ∀ h',Heap.ExtBut it s.heap h' → Q none { s with heap := h' }) : wpAny (model prog w) A (pyNext (.ref it)) Q E s := by
  obtain ⟨o,ho,hc,hdt⟩ := id hit
  obtain ⟨ol,hol,_,nl,hdl⟩ := ht
  unfold pyNext
  refine wpAny_bind (wpAny_attempt (wpAny_callSpecial?_slot (name := Str.ofString "__next__") hit.typeIs F.slot_tuple_iterator_next
    (wpAny_call_entry F.slot_tuple_iterator_next hit.typeIs F.entry_tuple_iterator_next ?_ (F.args_tuple_iterator_next_1 _))))
  show wpAny _ _ (field (.ref it) 0 >>= _) _ _ s
  refine wpAny_bind (wpAny_field ho hdt (x := .ref t) rfl ?_)
  show wpAny _ _ (if (Value.ref t == Value.none) = true then _ else _) _ _ s
  rw [if_neg (show ¬ ((Value.ref t == Value.none) = true) from Bool.false_ne_true)]
  show wpAny _ _ (field (.ref it) 1 >>= _) _ _ s
  refine wpAny_bind (wpAny_field ho hdt (x := .int i 0) rfl ?_)
  show wpAny _ _ (seqItems? (.ref t) >>= _) _ _ s
  refine wpAny_bind (wpAny_seqItems hol hdl ?_)
  simp only [Int.toNat_natCast,hx]
  refine wpAny_bind (wpAny_rule (wpAny_bind (wpAny_setField ho hdt (by simp) ?_)))
  refine stop_hd (A := A.in1) (it := it) (P := P) hd (fun b ob e => (Heap.get?_update_other _ _ fun q => by rw [q,e] at hpi; cases hpi).trans (hP b ob e)) fun h' hk e oe he hce => ?_
  refine wpAny_bind (wpAny_isInstance (T := "StopIteration") (b := true) ⟨oe,he,hce⟩ isSubtype_stop ?_)
  exact wpAny_pure (hQ _ fun b ob hb eb => hk b ob hb ((Heap.get?_update_other _ _ (Ne.symm hb)).trans eb))
end
end Mine
end
section
open PySem PySem.W PyProof.Rows
namespace Mine
noncomputable def SqO (b : Bool) (o : Obj) (vs : List Value) : Prop := o.cls = .type (if b then "list" else "tuple") ∧ ∃ n,o.data = .seq vs.toArray n
inductive ItK where
  | seq (b : Bool) (a : Addr) (o : Obj) (vs : List Value)
  | rng (n : Nat)
  | byt (l : List UInt8) (t : Tok)
noncomputable def ItO : ItK → Obj → Nat → Prop
  | .seq b a _ _,o,i => o.cls = .type (if b then "list_iterator" else "tuple_iterator") ∧ o.data = .fields #[.ref a,.int i 0]
  | .rng n,o,i => o = { cls := .type "range_iterator",data := .fields #[rawInt i,rawInt ((n : Int) - i),rawInt 1] }
  | .byt l t,o,i => o.cls = .type "bytes_iterator" ∧ o.data = .fields #[.bytes l.toArray t,.int i 0]
noncomputable def rngL (n : Nat) : List V := (List.range n).map fun (i : Nat) => V.int i
noncomputable def bytL (l : List UInt8) : List V := l.map fun c => V.int c.toNat
noncomputable def ItV (an : Nat → Str) (P : Params) (Z : Zm) (r : Adr) : ItK → List V → Prop
  | .seq b a o vs,l => Z a = some o ∧ SqO b o vs ∧ RvL an P Z r l vs
  | .rng n,l => l = rngL n
  | .byt b t,l => l = bytL b
theorem ItV.mono {an P Z Z' r r'} (hz : Zle Z Z') (hr : Ale r r') : ∀ {it : ItK} {l : List V},ItV an P Z r it l → ItV an P Z' r' it l
  | .seq _ _ _ _,_,h => ⟨hz _ _ h.1,h.2.1,h.2.2.mono hz hr⟩
  | .rng _,_,h => h
  | .byt _ _,_,h => h
theorem ItO.noCell {it : ItK} {o : Obj} {i : Nat} (h : ItO it o i) (v : Option Value) : o.data ≠ .cell v := fun q => by
  cases it with
  | seq b a o' vs => rw [h.2] at q; cases q
  | rng n => rw [show o = _ from h] at q; cases q
  | byt l t => rw [h.2] at q; cases q
noncomputable def ItQ (q : Bool) : ItK → Prop
  | .seq _ _ _ _ => True
  | _ => q = true
noncomputable def overW (q : Bool) (v : V) (kk : List V → Prop) : Prop := match v with
  | .lst l => kk l
  | .tup l => kk l
  | .rng n => (q = true ∧ n < 2 ^ 60) ∧ kk (rngL n)
  | .bytes l => q = true ∧ kk (bytL l)
  | _ => False
section
variable {prog : Program} {w : World} {A : Around} {E : Value → Shared → Prop} {s : Shared} {P : Zm} {an : Nat → Str} {PP : Params} {Z : Zm} {r : Adr}
theorem rngSize (n : Nat) : Builtin.Range.rangeSize 0 n 1 = n := by
  unfold Builtin.Range.rangeSize
  first | (simp; done) | (simp; lia)
theorem it_make {q : Bool} {v : V} {u : Value} {kk : List V → Prop} {Q : Value → Shared → Prop} (kz : ZIn Z s.heap) (hw : overW q v kk) (rv : Rv an PP Z r v u)
    (h : ∀ it l (oI : Obj),ItQ q it → ItV an PP Z r it l → ItO it oI 0 → oI.isFreed = false → kk l → Q (.ref s.heap.objs.size) { s with heap := s.heap.push oI }) : wpAny (model prog w) A (pyIter u) Q E s := by
  unfold overW at hw
  split at hw
  · obtain ⟨a,vs,o,rfl,h1,⟨n,rfl⟩,h3⟩ := rv_lst.mp rv
    exact wpAny_pyIter_list (items := vs.toArray) ⟨_,kz _ _ h1,rfl,n,rfl⟩ (h (.seq true a _ vs) _ _ trivial ⟨h1,⟨rfl,n,rfl⟩,h3⟩ ⟨rfl,rfl⟩ rfl hw)
  · obtain ⟨a,vs,n,rfl,h1,h3⟩ := rv_tup.mp rv
    exact wpAny_pyIter_tuple (items := vs.toArray) ⟨_,kz _ _ h1,rfl,n,rfl⟩ (h (.seq false a _ vs) _ _ trivial ⟨h1,⟨rfl,n,rfl⟩,h3⟩ ⟨rfl,rfl⟩ rfl hw)
  · rename_i n
    obtain ⟨a,t,u',w',rfl,h1⟩ := rv_rng.mp rv
    refine wpAny_pyIter_range (a := 0) (b := n) (c := 1) (kz _ _ h1) ?_ ?_
    · unfold Builtin.Range.small
      rw [rngSize]
      have : n < 2 ^ 60 := hw.1.2
      simp [Builtin.Range.rangeFitsLong]
      omega
    · rw [rngSize]
      exact h (.rng n) (rngL n) _ hw.1.1 rfl (by show _ = _; simp) rfl hw.2
  · rename_i l
    obtain ⟨t,rfl⟩ := rv_bytes.mp rv
    exact KBw.pyIter_bytes (h (.byt l t) (bytL l) _ hw.1 rfl ⟨rfl,rfl⟩ rfl hw.2)
  · exact hw.elim
theorem it_item {it : ItK} {I : Addr} {i : Nat} {oI : Obj} {l : List V} {x : V} {Q : Option Value → Shared → Prop} (kz : ZIn Z s.heap) (hv : ItV an PP Z r it l) (hI : s.heap.get? I = some oI) (hi : ItO it oI i) (hx : l[i]? = some x)
    (h : ∀ h' o' u tk,h'.get? I = some o' → ItO it o' (i + 1) → Heap.SameBut I s.heap h' → Rv an PP Z r x u → Q (some u) { s with heap := h',toks := tk }) : wpAny (model prog w) A (pyNext (.ref I)) Q E s := by
  cases it with
  | seq b a o vs =>
    obtain ⟨h1,h2,h3⟩ := hv
    obtain ⟨u,hu,ru⟩ := h3.get hx
    cases b with
    | true => exact wpAny_pyNext_list_item (items := vs.toArray) ⟨oI,hI,hi⟩ ⟨o,kz _ _ h1,h2⟩ (by simpa using hu) fun h' ⟨o',q1,q2⟩ hs => h h' o' u s.toks q1 q2 hs ru
    | false => exact wpAny_pyNext_tuple_item (items := vs.toArray) ⟨oI,hI,hi⟩ ⟨o,kz _ _ h1,h2⟩ (by simpa using hu) fun h' ⟨o',q1,q2⟩ hs => h h' o' u s.toks q1 q2 hs ru
  | rng n =>
    obtain rfl : oI = _ := hi
    obtain rfl : l = rngL n := hv
    obtain ⟨hlt,he⟩ := List.getElem?_eq_some_iff.mp hx
    have hn : i < n := by simpa [rngL] using hlt
    have e : x = V.int i := by rw [← he]; simp [rngL]
    subst e
    refine wpAny_pyNext_range_item hI (by omega) fun h' hit hs => ?_
    refine h h' _ _ (s.toks + 1) hit ?_ hs (rv_int.mpr ⟨_,rfl⟩)
    show _ = _
    rw [show ((i + 1 : Nat) : Int) = (i : Int) + 1 from rfl,show (n : Int) - (i + 1) = n - i - 1 by lia]
  | byt b t =>
    obtain rfl : l = bytL b := hv
    have : ∃ c,b[i]? = some c ∧ x = V.int c.toNat := by
      unfold bytL at hx
      rw [List.getElem?_map] at hx
      obtain ⟨c,hc,e⟩ := Option.map_eq_some_iff.mp hx
      exact ⟨c,hc,e.symm⟩
    obtain ⟨c,hc,rfl⟩ := this
    exact KBw.next_item (b := b.toArray) ⟨oI,hI,hi⟩ (by simpa using hc) fun h' ⟨o',q1,q2⟩ hs => h h' o' _ (s.toks + 1) q1 q2 hs (rv_int.mpr ⟨_,rfl⟩)
theorem it_end {q : Bool} {it : ItK} {I : Addr} {i : Nat} {oI : Obj} {l : List V} {Q : Option Value → Shared → Prop} (hd : Hd q A P) (hq : ItQ q it) (hP : ZIn P s.heap) (hpi : P I = none) (kz : ZIn Z s.heap) (hv : ItV an PP Z r it l) (hI : s.heap.get? I = some oI) (hi : ItO it oI i) (hx : l[i]? = none)
    (h : ∀ h',Heap.ExtBut I s.heap h' → Q none { s with heap := h' }) : wpAny (model prog w) A (pyNext (.ref I)) Q E s := by
  cases it with
  | seq b a o vs =>
    obtain ⟨h1,h2,h3⟩ := hv
    have hx' : vs.toArray[i]? = none := by
      have := List.getElem?_eq_none_iff.mp hx
      have e := h3.len
      simp; omega
    cases b with
    | true => exact list_end_hd (items := vs.toArray) hd hP hpi ⟨oI,hI,hi⟩ ⟨o,kz _ _ h1,h2⟩ hx' h
    | false => exact tuple_end_hd (items := vs.toArray) hd hP hpi ⟨oI,hI,hi⟩ ⟨o,kz _ _ h1,h2⟩ hx' h
  | rng n =>
    obtain rfl : oI = _ := hi
    obtain rfl : l = rngL n := hv
    have hn : n ≤ i := by simpa [rngL] using hx
    exact wpAny_pyNext_range_end (hd.1 hq) hI (by omega) h
  | byt b t =>
    obtain rfl : l = bytL b := hv
    have hn : b.length ≤ i := by simpa [bytL] using hx
    exact KBw.next_end (b := b.toArray) (hd.1 hq) ⟨oI,hI,hi⟩ (by simpa using hn) h
theorem it_self {q : Bool} {it : ItK} {I : Addr} {i : Nat} {oI : Obj} {Q : Value → Shared → Prop} (hI : s.heap.get? I = some oI) (hi : ItO it oI i) (h : Q (.ref I) s) : wpAny (model prog w) A (pyIter (.ref I)) Q E s := by
  cases it with
  | seq b a o vs =>
    cases b with
    | true => exact wpAny_pyIter_listiter ⟨oI,hI,hi⟩ h
    | false => exact wpAny_pyIter_tupleiter ⟨oI,hI,hi⟩ h
  | rng n => obtain rfl : oI = _ := hi; exact wpAny_pyIter_rangeiter hI h
  | byt b t => exact KBw.pyIter_self ⟨oI,hI,hi⟩ h
end
section
variable {C : Cx} {Z : Zm} {m : Str → Option Value} {g : List CC} {cs : List (Addr × Obj)} {lc : Lc} {cells : List Cell} {h : Heap}
theorem St.addC (S : St C Z m g cs lc cells h) {o : Obj} (hf : o.isFreed = false) : St C Z m g ((h.objs.size,o) :: cs) lc cells (h.push o) := by
  have I := S.iv
  have low : ∀ {b : Addr} {x : Obj},h.get? b = some x → b ≠ h.objs.size := fun e => Nat.ne_of_lt (Heap.lt_size e)
  have no : ∀ {Y : Zm},ZIn Y h → Y h.objs.size = none := fun {Y} hy => by
    cases e : Y h.objs.size with
    | none => rfl
    | some x => exact absurd rfl (low (hy _ _ e))
  refine ⟨⟨I.ns.push o,fun b x e => Heap.get?_push_of_some o (I.kz b x e),fun b x e => Heap.get?_push_of_some o (I.kp b x e),I.zl,I.pl,fun q hq => ?_,?_,I.zp,I.z0⟩,S.cr,S.lr.sub (fun a _ => .tail _ a) .refl .refl,S.cl.sub fun a _ => .tail _ a⟩
  · rcases List.mem_append.mp hq with hq | hq
    · have O := I.own q (List.mem_append_left _ hq); exact ⟨Heap.get?_push_of_some o O.1,O.2⟩
    · rcases List.mem_cons.mp hq with rfl | hq
      · exact ⟨Heap.get?_push_size h hf,no I.kz,no I.kp,(Nat.ne_of_lt I.ns.lt).symm⟩
      · have O := I.own q (List.mem_append_right _ hq); exact ⟨Heap.get?_push_of_some o O.1,O.2⟩
  · have nd := I.nd
    rw [List.map_append,List.nodup_append] at nd
    rw [List.map_append,List.nodup_append]
    refine ⟨nd.1,?_,fun a ha b hb e => ?_⟩
    · rw [List.map_cons,List.nodup_cons]
      refine ⟨fun hm => ?_,nd.2.1⟩
      obtain ⟨q,hq,e⟩ := List.mem_map.mp hm
      exact low (I.own q (List.mem_append_right _ hq)).1 e
    · rw [List.map_cons] at hb
      rcases List.mem_cons.mp hb with rfl | hb
      · obtain ⟨q,hq,e'⟩ := List.mem_map.mp ha
        exact low (I.own q (List.mem_append_left _ hq)).1 (e'.trans e)
      · exact nd.2.2 a ha b hb e
theorem St.updC (S : St C Z m g cs lc cells h) {I : Addr} {o o' : Obj} {h' : Heap} (hm : (I,o) ∈ cs) (hn : ∀ v,o.data ≠ .cell v) (hs : Heap.SameBut I h h') (ho : h'.get? I = some o') : St C Z m g (putC I o' cs) lc cells h' := by
  have other : ∀ {c : Addr} {x : Obj} {v : Option Value},(c,x) ∈ cs → x.data = .cell v → c ≠ I := fun {c x v} hx hd e => by
    have := mem_unique S.iv.ndc (show (I,x) ∈ cs from e ▸ hx) hm
    exact hn v (this ▸ hd)
  have K : ∀ {c x v},(c,x) ∈ cs → x.data = .cell v → (c,x) ∈ putC I o' cs := fun a b => mem_putC_ne a (other a b)
  exact ⟨S.iv.sameC hs hm ho,S.cr,S.lr.sub K .refl .refl,S.cl.sub K⟩
theorem St.dropC (S : St C Z m g cs lc cells h) {I : Addr} {o : Obj} {h' : Heap} (hm : (I,o) ∈ cs) (hn : ∀ v,o.data ≠ .cell v) (hk : ∀ b x,b ≠ I → h.get? b = some x → h'.get? b = some x) : St C Z m g (cs.filter fun q => q.1 != I) lc cells h' := by
  have J := S.iv
  have OI := J.own (I,o) (List.mem_append_right _ hm)
  have mf : ∀ {q : Addr × Obj},q ∈ cs → q.1 ≠ I → q ∈ cs.filter fun q => q.1 != I := fun hq hne => List.mem_filter.mpr ⟨hq,by simpa using hne⟩
  have other : ∀ {c : Addr} {x : Obj} {v : Option Value},(c,x) ∈ cs → x.data = .cell v → c ≠ I := fun {c x v} hx hd e => by
    have := mem_unique J.ndc (show (I,x) ∈ cs from e ▸ hx) hm
    exact hn v (this ▸ hd)
  have neZ : ∀ {Y : Zm} {b : Addr} {x : Obj},Y I = none → Y b = some x → b ≠ I := fun h1 h2 e => by rw [e,h1] at h2; cases h2
  obtain ⟨oL,es,ep,hL,r⟩ := J.ns
  refine ⟨⟨⟨oL,es,ep,hk _ _ (Ne.symm OI.2.2.2) hL,r⟩,fun b x e => hk _ _ (neZ OI.2.1 e) (J.kz b x e),fun b x e => hk _ _ (neZ OI.2.2.1 e) (J.kp b x e),J.zl,J.pl,fun q hq => ?_,?_,J.zp,J.z0⟩,S.cr,S.lr.sub (fun a b => mf a (other a b)) .refl .refl,S.cl.sub fun a b => mf a (other a b)⟩
  · rcases List.mem_append.mp hq with hq | hq
    · have O := J.own q (List.mem_append_left _ hq)
      refine ⟨hk _ _ (fun e => J.disj hq (e ▸ List.mem_map_of_mem hm)) O.1,O.2⟩
    · obtain ⟨hq,hne⟩ := List.mem_filter.mp hq
      have O := J.own q (List.mem_append_right _ hq)
      exact ⟨hk _ _ (by simpa using hne) O.1,O.2⟩
  · refine J.nd.sublist ?_
    exact List.Sublist.map _ (List.Sublist.append (List.Sublist.refl _) List.filter_sublist)
end
noncomputable def forW (wb : WS) (i : Nat) : List V → WS
  | [],lc,cells,k,_ => k .next lc cells
  | v :: l,lc,cells,k,X => wb (lc.set i (some v)) cells (fun f lc1 c1 => match f with
      | .next => forW wb i l lc1 c1 k X
      | .cont => forW wb i l lc1 c1 k X
      | .brk => k .next lc1 c1
      | .ret u => k (.ret u) lc1 c1) X
inductive LoopI (C : Cx) (x1 : OG) (Z1 : Zm) (g1 : List CC) (cs : List (Addr × Obj)) (I : Addr) (N : Nat → Nat) (J : Nat → Obj → Prop) (W : Nat → Lc → List Cell → Prop) (n : Nat) (s' : Shared) : Prop
  | mk (j : Nat) (lc' : Lc) (c' : List Cell) (Z' : Zm) (m' : Str → Option Value) (g' : List CC) (cs' : List (Addr × Obj)) (oJ : Obj) (hn : n = N j) (hz : Zk x1 (og s') Z1 Z') (hr : Ale (g1.map CC.addr) (g'.map CC.addr))
    (hcl : ∀ q ∈ cs,(∀ v,q.2.data ≠ .cell v) → q ∈ cs') (S : St C Z' m' g' cs' lc' c' s'.heap) (hm : (I,oJ) ∈ cs') (hJ : J j oJ) (hW : W j lc' c') : LoopI C x1 Z1 g1 cs I N J W n s'
section
variable {C : Cx}
theorem sFor (hC : C.Ok) {y : Str} {px pos : Pos} {iter : Expr} {body : List Stmt} {we : WE} {wb : WS} (i : Nat) (hi : C.names[i]? = some y) (hk : KindOk C y) (hs : ∀ x,foldedSetIterable iter C.env x = pure x) (he : SE C iter we) (hb : SSs C body wb) :
    SSt C (.For (.Name y px) iter body [] pos) (fun lc cells k X => we lc cells (fun v c1 => overW C.q v (fun l => forW wb i l lc c1 k (fun _ => False))) X) := by
  constructor; intro lc cells k x hw Z m g cs s Q E S hQ hE
  have ex : exec (.For (.Name y px) iter body [] pos) C.env = (do
      standAt pos
      let x ← foldedSetIterable iter C.env (← eval iter C.env)
      standAt iter.pos
      runOwn (.forLoop (.Name y px) (← holding [x] (pyIter x)) body [] C.env) C.env) := rfl
  rw [ex]
  refine wpAny_bind (wpAny_standAt (wpAny_bind (he.run lc cells _ x hw Z m g cs s _ E S (fun v c1 Z1 g1 s1 u hz hr S1 R hk1 => ?_) (fun c u s' rx hx => hE c u s' rx.s hx))))
  rw [hs]
  refine wpAny_bind (wpAny_pure (wpAny_bind (wpAny_standAt ?_)))
  refine wpAny_bind (wpAny_holding (it_make S1.iv.kz hk1 R fun it l oI hq hv hit hfree hfw => ?_))
  have S2 := S1.addC hfree
  refine wpAny_runOwn ?_
  refine codeAny_forLoop_any (LoopI C (og s1) Z1 g1 cs s1.heap.objs.size (fun j => (l.drop j).length) (fun j o => ItO it o j) (fun j lc' c' => forW wb i (l.drop j) lc' c' k (fun _ => False))) ?_ l.length
    ⟨0,lc,c1,Z1,m,g1,_,oI,rfl,.refl,.refl,fun q hq _ => .tail _ hq,S2,.head _,hit,hfw⟩
  rintro n s' ⟨j,lc',c',Z',m',g',cs',oJ,rfl,hz',hr',hcl',S',hmem,hitJ,hfw'⟩
  have hA : C.A.mark none = C.A := by unfold Around.mark; rfl
  rw [hA]
  have hkI := S'.iv.own (_,oJ) (List.mem_append_right _ hmem)
  have notI : ∀ q ∈ cs,q.1 ≠ s1.heap.objs.size := fun q hq => Nat.ne_of_lt (Heap.lt_size (S1.iv.own q (List.mem_append_right _ hq)).1)
  have hvJ := hv.mono hz'.1 hr'
  cases hl' : l.drop j with
  | nil =>
    have hend : l[j]? = none := List.getElem?_eq_none_iff.mpr (List.drop_eq_nil_iff.mp hl')
    rw [hl'] at hfw'
    refine it_end hC.hd hq S'.iv.kp hkI.2.2.1 S'.iv.kz hvJ hkI.1 hitJ hend fun h' hx => wpAny_execs_nil ?_
    refine hQ .next lc' c' Z' m' g' _ _ _ (hz.trans hz') (hr.trans hr') ?_ (S'.dropC hmem hitJ.noCell fun b' x hb e => hx b' x hb e) rfl hfw'
    exact fun q hq hn => List.mem_filter.mpr ⟨hcl' q hq hn,by simpa using notI q hq⟩
  | cons v l' =>
    have hat : l[j]? = some v := by
      have := congrArg (·[0]?) hl'
      simpa using this
    have hdrop : l.drop (j + 1) = l' := by
      have := congrArg List.tail hl'
      simpa using this
    rw [hl'] at hfw'
    refine it_item S'.iv.kz hvJ hkI.1 hitJ hat fun h' oK u tk hK hitK hsame rv => ?_
    have S3 := S'.updC hmem hitJ.noCell hsame hK
    show wpAny _ _ (letOwnedTupleGo (.Name y px) _ u) _ _ _
    refine wpAny_of_eq (a := ()) rfl ?_
    refine wpAny_assign_Name (store_i (s := ⟨h',_,_,tk,_⟩) hC hi hk S3 rv fun m4 cs4 s4 o4 hc4 S4 => ?_)
    have hz4 : Zk (og s1) (og s4) Z1 Z' := hz'.to o4
    have mem4 : (s1.heap.objs.size,oK) ∈ cs4 := hc4 _ (mem_putC hmem) hitK.noCell
    have cl4 : ∀ q ∈ cs,(∀ v,q.2.data ≠ .cell v) → q ∈ cs4 := fun q hq hn => hc4 q (mem_putC_ne (b := q.1) (o := q.2) (hcl' q hq hn) (notI q hq)) hn
    refine hb.run _ c' _ _ hfw' Z' m4 g' cs4 s4 _ _ S4 (fun fl lc5 c5 Z5 m5 g5 cs5 s5 f hz5 hr5 hc5 S5 hf hk5 => ?_) (fun c u s' _ hx => hx.elim)
    have mem5 := hc5 _ mem4 hitK.noCell
    have cl5 : ∀ q ∈ cs,(∀ v,q.2.data ≠ .cell v) → q ∈ cs5 := fun q hq hn => hc5 q (cl4 q hq hn) hn
    have again : forW wb i l' lc5 c5 k (fun _ => False) → ∃ m,m < (v :: l').length ∧ LoopI C (og s1) Z1 g1 cs s1.heap.objs.size (fun j => (l.drop j).length) (fun j o => ItO it o j) (fun j lc' c' => forW wb i (l.drop j) lc' c' k (fun _ => False)) m s5 := fun hw5 =>
      ⟨l'.length,Nat.lt_succ_self _,j + 1,lc5,c5,Z5,m5,g5,cs5,oK,by rw [hdrop],hz4.trans hz5,hr'.trans hr5,cl5,S5,mem5,hitK,by rw [hdrop]; exact hw5⟩
    cases fl with
    | next => obtain rfl : f = .next := hf; exact again hk5
    | cont => obtain rfl : f = .cont := hf; exact again hk5
    | brk => obtain rfl : f = .brk := hf; exact hQ .next lc5 c5 Z5 m5 g5 cs5 _ _ ((hz.trans hz4).trans hz5) ((hr.trans hr').trans hr5) (fun q hq hn => cl5 q hq hn) S5 rfl hk5
    | ret v => obtain ⟨u',rfl,r⟩ := hf; exact hQ (.ret v) lc5 c5 Z5 m5 g5 cs5 _ _ ((hz.trans hz4).trans hz5) ((hr.trans hr').trans hr5) (fun q hq hn => cl5 q hq hn) S5 ⟨u',rfl,r⟩ hk5
end
theorem keep_of_fn {K : Frag} {f : Addr} (h : fnIn K f = true) : keepIn K (.ref f) = true := by
  unfold fnIn at h
  unfold keepIn
  split at h
  · rename_i q
    dsimp only
    rw [q]
  · cases h
noncomputable def methO (T : Tb) (c : Nat) (fs : List (Nat × V)) (ka : Nat) (kk : Addr → Prop) : Prop := match T.meth c ka with
  | some f => (match fs.lookup ka with | none => kk f | _ => False)
  | none => False
noncomputable def methW (T : Tb) (cells : List Cell) (a : V) (ka : Nat) (kk : Addr → Prop) : Prop := match a with
  | .inst c fs => methO T c fs ka kk
  | .cell n => (match cells[n]? with
      | some (.inst c fs) => methO T c fs ka kk
      | _ => False)
  | _ => False
section
variable {C : Cx}
theorem meth_at (hC : C.Ok) {Z : Zm} {m : Str → Option Value} {g : List CC} {cs : List (Addr × Obj)} {lc : Lc} {cells : List Cell} {s : Shared} (S : St C Z m g cs lc cells s.heap) {a : V} {u : Value} (R : Rv C.an C.w.params Z (g.map CC.addr) a u) {ka : Nat} {kk : Addr → Prop}
    (hw : methW C.T cells a ka kk) {pl : PySem.Sem Bool} {Q : Value × List Value → Shared → Prop} {E : Value → Shared → Prop} (hQ : ∀ f,kk f → fnIn C.K f = true → Q (.ref f,[u]) s) : wpAny (model C.prog C.w) C.A (getMethod u (C.an ka) pl) Q E s := by
  have inst : ∃ x d c es n fs,u = .ref x ∧ s.heap.get? x = some (instObj c d) ∧ s.heap.get? d = some (dictOf es n) ∧ RvF C.an C.w.params Z (g.map CC.addr) fs es ∧ methO C.T c fs ka kk := by
    unfold methW at hw
    split at hw
    · obtain ⟨x,d,es,n,rfl,h1,h2,h3⟩ := rv_inst.mp R
      exact ⟨x,d,_,es,n,_,rfl,S.iv.kz _ _ h1,S.iv.kz _ _ h2,h3,hw⟩
    · split at hw
      · rename_i c fs hc
        obtain ⟨ad,rfl,had⟩ := rv_cell.mp R
        obtain ⟨cc,hg,hr⟩ := S.cr.get hc
        cases cc with
        | inst x d c' es n =>
          obtain ⟨rfl,hr⟩ := hr
          have : x = ad := by rw [List.getElem?_map,hg] at had; exact Option.some.inj had
          subst this
          exact ⟨x,d,_,es,n,fs,rfl,S.iv.objAt hg (q := (x,instObj c d)) (by simp [CC.objs]),S.iv.objAt hg (q := (d,dictOf es n)) (by simp [CC.objs]),hr,hw⟩
        | lst _ _ _ => exact hr.elim
        | dct _ _ _ => exact hr.elim
        | dead _ => exact hr.elim
      · exact hw.elim
    · exact hw.elim
  obtain ⟨x,d,c,es,n,fs,rfl,h1,h2,h3,h4⟩ := inst
  unfold methO at h4
  split at h4
  · rename_i f hf
    have h4 : fs.lookup ka = none ∧ kk f := by split at h4 <;> first | exact ⟨by assumption,h4⟩ | exact h4.elim
    obtain ⟨t1,t0,t2,t3,t4,t5⟩ := hC.tab.meth c ka f hf
    have I : InstAt s.heap x (instObj c d) c (some (dictOf es n)) := ⟨h1,rfl,rfl,h2⟩
    refine method_fn (hC.inK _ S.iv.kp) I (plainGet_of t2).1 (plainGet_of t2).2 t3 (beq_iff_eq.mp t4) ?_ (hQ f h4.2 t5)
    show (lookIn (C.an ka) (dictOf es n)).map _ = _
    rw [lookIn_dict]
    unfold getL
    rw [RvF.none hC.tab.inj t0 h3 h4.1]
    dsimp only
    rw [h3.noKey]; rfl
  · exact h4.elim
theorem meth_call {o : Expr} {name : Str} {apos pos : Pos} {args : List Expr} {Q : Value → Shared → Prop} {E : Value → Shared → Prop} {s : Shared} (hbase : attributeBase o name C.env (eval o C.env) = eval o C.env)
    (hfew : methodCallForm (args.length + ([] : List Keyword).length) (backTo pos (starEach args C.env)) (backToKw pos (keywordEach [] C.env)) = true) (hline : (apos.endLine == pos.line) = true)
    (h : wpAny (model C.prog C.w) C.A (eval o C.env) (fun ov s₁ => wpAny (model C.prog C.w) C.A (getMethod ov name (do return (← importBound o C.env).getD true)) (fun r s₂ => wpAny (model C.prog C.w) C.A (callWith pos r.1 r.2 (backTo pos (starEach args C.env)) []) Q E s₂) E s₁) E s) :
    wpAny (model C.prog C.w) C.A (eval (.Call (.Attribute o name apos) args [] pos) C.env) Q E s := by
  rw [arm_eval_Call,hbase]
  refine wpAny_bind (wpAny_mono h (fun ov s₁ h₁ => ?_) fun _ _ e => e)
  refine wpAny_bind (wpAny_standAt ?_)
  have hpos : methodCallPos true o C.env apos pos = pure pos := by unfold methodCallPos; simp [hline]
  unfold methodCall
  rw [hfew]
  refine wpAny_bind (wpAny_holding (wpAny_mono h₁ (fun r s₂ h₂ => ?_) fun _ _ e => e))
  obtain ⟨f,first⟩ := r
  exact wpAny_bind (wpAny_of_eq hpos h₂)
theorem sMeth (hC : C.Ok) {o e : Expr} {es : List Expr} {name : Str} {apos pos : Pos} {wo : WE} {wl : WL} (ka : Nat) (hn : C.an ka = name) (hbase : attributeBase o name C.env (eval o C.env) = eval o C.env)
    (hfew : methodCallForm ((e :: es).length + ([] : List Keyword).length) (backTo pos (starEach (e :: es) C.env)) (backToKw pos (keywordEach [] C.env)) = true) (hline : (apos.endLine == pos.line) = true)
    (he : starEach (e :: es) C.env = (false,eval e C.env) :: starEach es C.env) (hp : (backTo pos (starEach es C.env)).any (·.1) = false) (ho : SE C o wo) (hl : SL C (e :: es) wl) :
    SE C (.Call (.Attribute o name apos) (e :: es) [] pos) (fun lc cells k X => wo lc cells (fun vo c1 => methW C.T c1 vo ka (fun f => wl lc c1 (fun vs c2 => Sem C.toGx C.n (.ref f) (vo :: vs) c2 k X) X)) X) := by
  subst hn
  constructor; intro lc cells k x hw Z m g cs s Q E S hQ hE
  refine meth_call hbase hfew hline (ho.run lc cells _ x hw Z m g cs s _ E S (fun vo c1 Z1 g1 s1 uo hz hr S1 R hk => meth_at hC S1 R hk fun f hf hfn => ?_) hE)
  refine callWith_K (hC.inK _ S1.iv.kp) (keep_of_fn hfn) ((hl pos).run lc c1 _ x hf Z1 m g1 cs s1 _ E S1 (fun vs c2 Z2 g2 s2 us hz2 hr2 S2 R2 hk2 => ⟨hC.inK _ S2.iv.kp,?_⟩) (fun c u s' rx hx => hE c u s' (RX.up S S1 hz hr rx) hx)) he hp
  exact call_sem hC S2 hk2 (rvl_cons.mpr ⟨uo,us,rfl,R.mono hz2.1 hr2,R2⟩) (fun v c3 Z3 g3 s3 u hz3 hr3 S3 rv hk3 => hQ v c3 Z3 g3 s3 u ((hz.trans hz2).trans hz3) ((hr.trans hr2).trans hr3) S3 rv hk3) fun c u s' rx hx => hE c u s' (RX.up S S2 (hz.trans hz2) (hr.trans hr2) rx) hx
theorem sMeth0 (hC : C.Ok) {o : Expr} {name : Str} {apos pos : Pos} {wo : WE} (ka : Nat) (hn : C.an ka = name) (hbase : attributeBase o name C.env (eval o C.env) = eval o C.env) (hline : (apos.endLine == pos.line) = true) (ho : SE C o wo) :
    SE C (.Call (.Attribute o name apos) [] [] pos) (fun lc cells k X => wo lc cells (fun vo c1 => methW C.T c1 vo ka (fun f => Sem C.toGx C.n (.ref f) [vo] c1 k X)) X) := by
  subst hn
  constructor; intro lc cells k x hw Z m g cs s Q E S hQ hE
  refine meth_call hbase rfl hline (ho.run lc cells _ x hw Z m g cs s _ E S (fun vo c1 Z1 g1 s1 uo hz hr S1 R hk => meth_at hC S1 R hk fun f hf hfn => ?_) hE)
  refine callWith_K0 (hC.inK _ S1.iv.kp) (keep_of_fn hfn) ?_
  exact call_sem hC S1 hf (rvl_cons.mpr ⟨uo,[],rfl,R,rvl_nil.mpr rfl⟩) (fun v c3 Z3 g3 s3 u hz3 hr3 S3 rv hk3 => hQ v c3 Z3 g3 s3 u (hz.trans hz3) (hr.trans hr3) S3 rv hk3) fun c u s' rx hx => hE c u s' (RX.up S S1 hz hr rx) hx
end
section
variable {C : Cx} {Z : Zm} {m : Str → Option Value} {g : List CC} {cs : List (Addr × Obj)} {lc : Lc} {cells : List Cell} {h : Heap}
theorem St.grow (S : St C Z m g cs lc cells h) {h' : Heap} (k : ∀ b o,h.get? b = some o → h'.get? b = some o) : St C Z m g cs lc cells h' :=
  ⟨⟨S.iv.ns.keeps k,fun b o e => k b o (S.iv.kz b o e),fun b o e => k b o (S.iv.kp b o e),S.iv.zl,S.iv.pl,fun q hq => ⟨k _ _ (S.iv.own q hq).1,(S.iv.own q hq).2⟩,S.iv.nd,S.iv.zp,S.iv.z0⟩,S.cr,S.lr,S.cl⟩
noncomputable def BO (C : Cx) (f : Value) (pre : List V → List Cell → (V → List Cell → Prop) → Prop) : Prop :=
  ∀ vs cells kk,pre vs cells kk → ∀ Z m g cs lc s us Q E,St C Z m g cs lc cells s.heap → RvL C.an C.w.params Z (g.map CC.addr) vs us →
    (∀ v cells' Z' g' s' u,Zk (og s) (og s') Z Z' → Ale (g.map CC.addr) (g'.map CC.addr) → St C Z' m g' cs lc cells' s'.heap → Rv C.an C.w.params Z' (g'.map CC.addr) v u → kk v cells' → Q u s') → wpAny (model C.prog C.w) C.A (call f us) Q E s
theorem sBC (hC : C.Ok) {y : Str} {p pos : Pos} {e : Expr} {es : List Expr} {f : Value} {wl : WL} {pre : List V → List Cell → (V → List Cell → Prop) → Prop} (hf : SN C (.Name y p) f) (hkp : keeperOf f = pure .machine) (he : starEach (e :: es) C.env = (false,eval e C.env) :: starEach es C.env)
    (hp : (backTo pos (starEach es C.env)).any (·.1) = false) (hl : SL C (e :: es) wl) (hb : BO C f pre) : SE C (.Call (.Name y p) (e :: es) [] pos) (fun lc cells k X => wl lc cells (fun vs c1 => pre vs c1 k) X) := by
  constructor; intro lc cells k x hw Z m g cs s Q E S hQ hE
  refine wpAny_Call_NameR (hf.run lc cells (fun v c1 => v = .val f ∧ c1 = cells) x ⟨rfl,rfl⟩ Z m g cs s _ E S (fun v c1 Z1 g1 s1 u hz hr S1 R hk1 => ?_) hE)
  obtain ⟨rfl,rfl⟩ := hk1
  obtain rfl := rv_val.mp R
  have hbt : backTo pos (starEach (e :: es) C.env) = (false,eval e C.env) :: backTo pos (starEach es C.env) := by rw [he]; rfl
  have hl' := hl pos
  rw [hbt] at hl' ⊢
  refine callWith_of (P := fun _ => True) (by show ((false || (backTo pos (starEach es C.env)).any (·.1)) || false) = false; rw [hp]; rfl) (fun _ _ => ⟨.machine,.inr (.inl rfl),Looks.of_pure hkp⟩) (Calls.evalArgs_plain ?_)
  exact hl'.run lc c1 _ x hw Z1 m g1 cs s1 _ E S1 (fun vs c2 Z2 g2 s2 us hz2 hr2 S2 R2 hk2 => ⟨trivial,hb vs c2 k hk2 Z2 m g2 cs lc s2 us Q E S2 R2 fun v c3 Z3 g3 s3 u hz3 hr3 S3 rv hk3 => hQ v c3 Z3 g3 s3 u ((hz.trans hz2).trans hz3) ((hr.trans hr2).trans hr3) S3 rv hk3⟩) (fun c u s' rx hx => hE c u s' (RX.up S S1 hz hr rx) hx)
theorem rvl1 {an P Z r} {v : V} {us : List Value} (h : RvL an P Z r [v] us) : ∃ u,us = [u] ∧ Rv an P Z r v u := by
  obtain ⟨u,us',rfl,a,b⟩ := rvl_cons.mp h
  exact ⟨u,by rw [rvl_nil.mp b],a⟩
theorem rvl2 {an P Z r} {v w : V} {us : List Value} (h : RvL an P Z r [v,w] us) : ∃ u t,us = [u,t] ∧ Rv an P Z r v u ∧ Rv an P Z r w t := by
  obtain ⟨u,us',rfl,a,b⟩ := rvl_cons.mp h
  obtain ⟨t,rfl,c⟩ := rvl1 b
  exact ⟨u,t,rfl,a,c⟩
noncomputable def int1 (f : Int → V) (vs : List V) (cells : List Cell) (kk : V → List Cell → Prop) : Prop := m1 vs fun v => mI v fun i => kk (f i) cells
noncomputable def int2 (f : Int → Int → V) (vs : List V) (cells : List Cell) (kk : V → List Cell → Prop) : Prop := m2 vs fun v w => mI v fun i => mI w fun j => kk (f i j) cells
theorem bAbs : BO C (.builtin "abs") (int1 fun i => .int (if i < 0 then -i else i)) := by
  intro vs cells kk hp Z m g cs lc s us Q E S R hQ
  replace hp := m1_ hp
  obtain ⟨v,rfl,hp⟩ := hp
  replace hp := mI_ hp
  obtain ⟨i,rfl,hp⟩ := hp
  obtain ⟨u,rfl,ru⟩ := rvl1 R
  obtain ⟨t,rfl⟩ := rv_int.mp ru
  exact call_abs_int fun u tk => hQ _ cells Z g _ _ .refl .refl S (rv_int.mpr ⟨_,rfl⟩) hp
theorem bMin2 (hC : C.Ok) (hq : C.q = true) : BO C (.builtin "min") (int2 fun i j => .int (if j < i then j else i)) := by
  intro vs cells kk hp Z m g cs lc s us Q E S R hQ
  replace hp := m2_ hp
  obtain ⟨v,w,rfl,hp⟩ := hp
  replace hp := mI_ hp
  obtain ⟨i,rfl,hp⟩ := hp
  replace hp := mI_ hp
  obtain ⟨j,rfl,hp⟩ := hp
  obtain ⟨u,t,rfl,ru,rt⟩ := rvl2 R
  obtain ⟨t1,rfl⟩ := rv_int.mp ru
  obtain ⟨t2,rfl⟩ := rv_int.mp rt
  refine Flt.min_two_num (hC.hd.1 hq) (.int _ _) (.int _ _) fun h' tk hk => ?_
  refine hQ _ cells Z g ⟨h',_,_,tk,_⟩ _ .refl .refl (S.grow hk) ?_ hp
  show Rv _ _ _ _ (V.int (if j < i then j else i)) _
  by_cases c : j < i
  · rw [if_pos c,if_pos (show Flt.ltV (.int j t2) (.int i t1) = true from decide_eq_true c)]; exact rv_int.mpr ⟨_,rfl⟩
  · rw [if_neg c,if_neg (show ¬ Flt.ltV (.int j t2) (.int i t1) = true from fun q => c (of_decide_eq_true q))]; exact rv_int.mpr ⟨_,rfl⟩
noncomputable def len1 (vs : List V) (cells : List Cell) (kk : V → List Cell → Prop) : Prop := match vs with
  | [.lst l] => l.length < 2 ^ 62 ∧ kk (.int l.length) cells
  | [.tup l] => l.length < 2 ^ 62 ∧ kk (.int l.length) cells
  | _ => False
theorem bLen : BO C (.builtin "len") len1 := by
  intro vs cells kk hp Z m g cs lc s us Q E S R hQ
  unfold len1 at hp
  split at hp
  · obtain ⟨u,rfl,ru⟩ := rvl1 R
    obtain ⟨a,vs,o,rfl,h1,h2,h3⟩ := rv_lst.mp ru
    refine Calls.call_len_list (items := vs.toArray) (h2.at (S.iv.kz _ _ h1)) (by rw [List.size_toArray,h3.len]; omega) ?_
    rw [List.size_toArray,h3.len]
    exact hQ _ cells Z g _ _ .refl .refl S (rv_int.mpr ⟨_,rfl⟩) hp.2
  · obtain ⟨u,rfl,ru⟩ := rvl1 R
    obtain ⟨a,vs,n,rfl,h1,h3⟩ := rv_tup.mp ru
    refine PyProof.Rows.len_tuple (items := vs.toArray) ⟨_,S.iv.kz _ _ h1,rfl,n,rfl⟩ (by rw [List.size_toArray,h3.len]; omega) ?_
    rw [List.size_toArray,h3.len]
    exact hQ _ cells Z g _ _ .refl .refl S (rv_int.mpr ⟨_,rfl⟩) hp.2
  · exact hp.elim
noncomputable def intOf (vs : List V) (cells : List Cell) (kk : V → List Cell → Prop) : Prop := m1 vs fun v => mB v fun b => kk (.int (if b then 1 else 0)) cells
theorem bInt : BO C (.type "int") intOf := by
  intro vs cells kk hp Z m g cs lc s us Q E S R hQ
  replace hp := m1_ hp
  obtain ⟨v,rfl,hp⟩ := hp
  replace hp := mB_ hp
  obtain ⟨b,rfl,hp⟩ := hp
  obtain ⟨u,rfl,ru⟩ := rvl1 R
  obtain rfl := rv_bool.mp ru
  exact call_int_bool (hQ _ cells Z g _ _ .refl .refl S (rv_int.mpr ⟨_,rfl⟩) hp)
noncomputable def isI (vs : List V) (cells : List Cell) (kk : V → List Cell → Prop) : Prop := (∃ i,vs = [.int i,.val (.type "int")] ∧ kk (.bool true) cells) ∨ (∃ i,vs = [.int i,.val (.type "bool")] ∧ kk (.bool false) cells)
end
section
variable {C : Cx}
theorem bIsi : BO C (.builtin "isinstance") isI := by
  intro vs cells kk hp Z m g cs lc s us Q E S R hQ
  rcases hp with ⟨i,rfl,hp⟩ | ⟨i,rfl,hp⟩
  · obtain ⟨u,t,rfl,ru,rt⟩ := rvl2 R
    obtain ⟨t1,rfl⟩ := rv_int.mp ru
    obtain rfl := rv_val.mp rt
    exact IsiPair.int_int (hQ _ cells Z g _ _ .refl .refl S (rv_bool.mpr rfl) hp)
  · obtain ⟨u,t,rfl,ru,rt⟩ := rvl2 R
    obtain ⟨t1,rfl⟩ := rv_int.mp ru
    obtain rfl := rv_val.mp rt
    exact IsiPair.int_bool (hQ _ cells Z g _ _ .refl .refl S (rv_bool.mpr rfl) hp)
theorem ints_are {an P Z r} : ∀ {ns : List Int} {vs : List Value},RvL an P Z r (ns.map .int) vs → IntsAre vs ns
  | [],_,h => by rw [rvl_nil.mp h]; exact .nil
  | n :: ns,_,h => by
    obtain ⟨v,vs,rfl,a,b⟩ := rvl_cons.mp h
    obtain ⟨t,rfl⟩ := rv_int.mp a
    exact .cons n t (ints_are b)
noncomputable def sum1 (vs : List V) (cells : List Cell) (kk : V → List Cell → Prop) : Prop := m1 vs fun v => mLs v fun l => ∃ ns : List Int,l = ns.map .int ∧ kk (.int ns.sum) cells
theorem bSum (hC : C.Ok) (hq : C.q = true) : BO C (.builtin "sum") sum1 := by
  intro vs cells kk hp Z m g cs lc s us Q E S R hQ
  replace hp := m1_ hp
  obtain ⟨v,rfl,hp⟩ := hp
  replace hp := mLs_ hp
  obtain ⟨l,rfl,hp⟩ := hp
  obtain ⟨ns,rfl,hk⟩ := hp
  obtain ⟨u,rfl,ru⟩ := rvl1 R
  obtain ⟨a,ws,o,rfl,h1,h2,h3⟩ := rv_lst.mp ru
  have hi := ints_are h3
  obtain ⟨xs,hx⟩ := hi.allInts.items
  have hl : s.heap.IsList a (intItems xs) := hx ▸ (h2.at (S.iv.kz _ _ h1))
  refine sum_intListG (hC.hd.1 hq) hl fun h' tk t' hkp => ?_
  have e1 : ns = xs.toList.map (·.1) := by
    rw [← nums_intItems,← hx]
    exact (show numsOf ws.toArray.toList = ns from hi.numsOf).symm
  have e2 : preSum (numAt xs) xs.size = ns.sum := by
    rw [preSum_eq,List.take_of_length_le (by simp),e1]
  rw [e2]
  exact hQ _ cells Z g _ _ .refl .refl (S.grow hkp) (rv_int.mpr ⟨_,rfl⟩) hk
noncomputable def maxL (vs : List V) (cells : List Cell) (kk : V → List Cell → Prop) : Prop := match vs with
  | [.lst l] => ∃ ns : List Int,l = ns.map .int ∧ 0 < ns.length ∧ ∀ M,M ∈ ns → (∀ a,a ∈ ns → a ≤ M) → kk (.int M) cells
  | _ => False
theorem bMaxL (hC : C.Ok) (hq : C.q = true) : BO C (.builtin "max") maxL := by
  intro vs cells kk hp Z m g cs lc s us Q E S R hQ
  unfold maxL at hp
  split at hp
  · obtain ⟨ns,rfl,hne,hk⟩ := hp
    obtain ⟨u,rfl,ru⟩ := rvl1 R
    obtain ⟨a,ws,o,rfl,h1,h2,h3⟩ := rv_lst.mp ru
    have hi := ints_are h3
    obtain ⟨xs,hx⟩ := hi.allInts.items
    have hl : s.heap.IsList a (intItems xs) := hx ▸ (h2.at (S.iv.kz _ _ h1))
    have hns : ns = xs.toList.map (·.1) := by rw [← hi.numsOf,← nums_intItems,← hx]
    have hsz : 0 < xs.size := by rw [hns,List.length_map,Array.length_toList] at hne; exact hne
    refine max_intList (hC.hd.1 hq) hl hsz fun v h' tk hv hkp => ?_
    obtain ⟨t,rfl⟩ := intItems_at hv
    obtain ⟨h4,h5⟩ := argBest_gt (numAt xs) (xs.size - 1)
    refine hQ _ cells Z g _ _ .refl .refl (S.grow hkp) (rv_int.mpr ⟨_,rfl⟩) (hk _ ?_ fun a ha => ?_)
    · rw [hns,numAt_eq]; exact getD_mem (by rw [List.length_map,Array.length_toList]; omega)
    · rw [hns] at ha
      obtain ⟨j,hj,rfl⟩ := mem_getD ha
      rw [List.length_map,Array.length_toList] at hj
      rw [← numAt_eq]; exact h5 j (by omega)
  · exact hp.elim
end
noncomputable def lstV (cells : List Cell) (a : V) (kk : Nat → List V → Prop) : Prop := match a with
  | .cell n => (match cells[n]? with
      | some (.lst l) => kk n l
      | _ => False)
  | _ => False
section
variable {C : Cx}
inductive LstAt (C : Cx) (Z : Zm) (g : List CC) (cells : List Cell) (h : Heap) (a : V) (u : Value) (kk : Nat → List V → Prop) : Prop
  | mk (n : Nat) (l : List V) (ad : Addr) (vs : List Value) (k : Nat) (h1 : u = .ref ad) (h2 : g[n]? = some (.lst ad vs (lstO vs k))) (h3 : cells[n]? = some (.lst l)) (h4 : h.get? ad = some (lstO vs k)) (h5 : RvL C.an C.w.params Z (g.map CC.addr) l vs) (h6 : kk n l) (h7 : a = .cell n) : LstAt C Z g cells h a u kk
theorem lst_at {Z : Zm} {m : Str → Option Value} {g : List CC} {cs : List (Addr × Obj)} {lc : Lc} {cells : List Cell} {h : Heap} (S : St C Z m g cs lc cells h) {a : V} {u : Value} {kk : Nat → List V → Prop} (R : Rv C.an C.w.params Z (g.map CC.addr) a u) (hw : lstV cells a kk) : LstAt C Z g cells h a u kk := by
  unfold lstV at hw
  split at hw
  · rename_i n
    split at hw
    · rename_i l hc
      obtain ⟨ad,rfl,had⟩ := rv_cell.mp R
      obtain ⟨cc,hg,hcr⟩ := S.cr.get hc
      cases cc with
      | lst a' vs o =>
        have e : a' = ad := by rw [List.getElem?_map,hg] at had; exact Option.some.inj had
        subst e
        obtain ⟨⟨k,rfl⟩,hr⟩ := hcr
        exact ⟨n,l,a',vs,k,rfl,hg,hc,S.iv.objAt hg (q := (a',lstO vs k)) (by simp [CC.objs]),hr,hw,rfl⟩
      | inst _ _ _ _ _ => exact hcr.elim
      | dct _ _ _ => exact hcr.elim
      | dead _ => exact hcr.elim
    · exact hw.elim
  · exact hw.elim
theorem St.putL {Z : Zm} {m : Str → Option Value} {g : List CC} {cs : List (Addr × Obj)} {lc : Lc} {cells : List Cell} {h h' : Heap} (S : St C Z m g cs lc cells h) {n : Nat} {ad : Addr} {vs vs' : List Value} {o o' : Obj} {l' : List V} (hg : g[n]? = some (.lst ad vs o)) (hs : Heap.SameBut ad h h') (ho : h'.get? ad = some o') (hl : LstO o' vs') (R : RvL C.an C.w.params Z (g.map CC.addr) l' vs') :
    ∃ g',g'.map CC.addr = g.map CC.addr ∧ St C Z m g' cs lc (cells.set n (.lst l')) h' :=
  ⟨g.set n (.lst ad vs' o'),set_addr hg rfl,S.put (x' := .lst l') hg rfl rfl (fun b hb => hs.2 b fun e => hb (by simp [CC.objs,e])) (fun q hq => by simp only [CC.objs,List.mem_singleton] at hq; subst hq; exact ho) ⟨hl,R⟩⟩
noncomputable def appW (cells : List Cell) (a v : V) (kk : List Cell → Prop) : Prop := lstV cells a fun n l => l.length ≤ 16000000 ∧ kk (cells.set n (.lst (l ++ [v])))
theorem sAppend (hC : C.Ok) {o e : Expr} {apos pos : Pos} {wo we : WE} (hbase : attributeBase o "append" C.env (eval o C.env) = eval o C.env)
    (hfew : methodCallForm ([e].length + ([] : List Keyword).length) (backTo pos (starEach [e] C.env)) (backToKw pos (keywordEach [] C.env)) = true) (hline : (apos.endLine == pos.line) = true)
    (he : starEach [e] C.env = (false,eval e C.env) :: starEach [] C.env) (ho : SE C o wo) (hl : SE C e we) :
    SE C (.Call (.Attribute o "append" apos) [e] [] pos) (fun lc cells k X => wo lc cells (fun vo c1 => lstV c1 vo (fun _ _ => True) ∧ we lc c1 (fun v c2 => appW c2 vo v (fun c3 => k .none c3)) X) X) := by
  constructor; intro lc cells k x hw Z m g cs s Q E S hQ hE
  refine meth_call hbase hfew hline (ho.run lc cells _ x hw Z m g cs s _ E S (fun vo c1 Z1 g1 s1 uo hz hr S1 R hk => ?_) hE)
  obtain ⟨n,l,ad,vs,kz,rfl,hg,hc,hh,hrl,_,rfl⟩ := lst_at S1 R hk.1
  refine getMethod_list_of PySem.F.slot_list_append PySem.F.type_list_append (items := vs.toArray) ⟨_,hh,rfl,kz,rfl⟩ ⟨_,hh,rfl⟩ ?_
  have hbt : backTo pos (starEach [e] C.env) = (false,eval e C.env) :: backTo pos (starEach [] C.env) := by rw [he]; rfl
  have hl' := slCons hC he hl slNil pos
  rw [hbt] at hl' ⊢
  refine Calls.callWith_builtin rfl (Calls.evalArgs_plain ?_)
  refine hl'.run lc c1 (fun l c => match l with | [v] => appW c (.cell n) v (fun c3 => k .none c3) | _ => False) x hk.2 Z1 m g1 cs s1 _ E S1 (fun ws c2 Z2 g2 s2 us hz2 hr2 S2 R2 hk2 => ?_) (fun c u s' rx hx => hE c u s' (RX.up S S1 hz hr rx) hx)
  split at hk2
  · rename_i v
    obtain ⟨u,rfl,ru⟩ := rvl1 R2
    obtain ⟨n',l',ad',vs',k',e',hg',hc',hh',hrl',hk3,e2⟩ := lst_at S2 (R.mono hz2.1 hr2) hk2
    cases e'; cases e2
    have lz : vs'.toArray.size ≤ sizeLine := by rw [List.size_toArray,hrl'.len,sizeLine_eq]; exact Nat.le_trans hk3.1 (by decide)
    refine append_at (hsz := lz) hh' fun h3 hs3 ho3 => ?_
    · obtain ⟨g3,ha3,S3⟩ := S2.putL (vs' := vs' ++ [u]) (l' := l' ++ [v]) (o' := lstO (vs' ++ [u]) (k' + 1)) hg' hs3 (ho3.trans (by simp [lstO])) ⟨k' + 1,rfl⟩ (hrl'.app (rvl_cons.mpr ⟨u,[],rfl,ru,rvl_nil.mpr rfl⟩))
      exact hQ .none _ Z2 g3 _ _ (hz.trans hz2) (by rw [ha3]; exact hr.trans hr2) S3 (rv_none.mpr rfl) hk3.2
  · exact hk2.elim
noncomputable def extW (cells : List Cell) (a v : V) (kk : List Cell → Prop) : Prop := match v with
  | .lst l2 => lstV cells a fun n l => l.length + l2.length ≤ 16000000 ∧ kk (cells.set n (.lst (l ++ l2)))
  | _ => False
theorem sExtend (hC : C.Ok) {o e : Expr} {apos pos : Pos} {wo we : WE} (hbase : attributeBase o "extend" C.env (eval o C.env) = eval o C.env)
    (hfew : methodCallForm ([e].length + ([] : List Keyword).length) (backTo pos (starEach [e] C.env)) (backToKw pos (keywordEach [] C.env)) = true) (hline : (apos.endLine == pos.line) = true)
    (he : starEach [e] C.env = (false,eval e C.env) :: starEach [] C.env) (ho : SE C o wo) (hl : SE C e we) :
    SE C (.Call (.Attribute o "extend" apos) [e] [] pos) (fun lc cells k X => wo lc cells (fun vo c1 => lstV c1 vo (fun _ _ => True) ∧ we lc c1 (fun v c2 => extW c2 vo v (fun c3 => k .none c3)) X) X) := by
  constructor; intro lc cells k x hw Z m g cs s Q E S hQ hE
  refine meth_call hbase hfew hline (ho.run lc cells _ x hw Z m g cs s _ E S (fun vo c1 Z1 g1 s1 uo hz hr S1 R hk => ?_) hE)
  obtain ⟨n,l,ad,vs,kz,rfl,hg,hc,hh,hrl,_,rfl⟩ := lst_at S1 R hk.1
  refine getMethod_list_of PySem.F.slot_list_extend PySem.F.type_list_extend (items := vs.toArray) ⟨_,hh,rfl,kz,rfl⟩ ⟨_,hh,rfl⟩ ?_
  have hbt : backTo pos (starEach [e] C.env) = (false,eval e C.env) :: backTo pos (starEach [] C.env) := by rw [he]; rfl
  have hl' := slCons hC he hl slNil pos
  rw [hbt] at hl' ⊢
  refine Calls.callWith_builtin rfl (Calls.evalArgs_plain ?_)
  refine hl'.run lc c1 (fun l c => match l with | [v] => extW c (.cell n) v (fun c3 => k .none c3) | _ => False) x hk.2 Z1 m g1 cs s1 _ E S1 (fun ws c2 Z2 g2 s2 us hz2 hr2 S2 R2 hk2 => ?_) (fun c u s' rx hx => hE c u s' (RX.up S S1 hz hr rx) hx)
  split at hk2
  · rename_i v
    obtain ⟨u,rfl,ru⟩ := rvl1 R2
    unfold extW at hk2
    split at hk2
    · rename_i l2
      obtain ⟨b,ws,o2,rfl,hz3,⟨n2,rfl⟩,r2⟩ := rv_lst.mp ru
      obtain ⟨n',l',ad',vs',k',e',hg',hc',hh',hrl',hk3,e2⟩ := lst_at S2 (R.mono hz2.1 hr2) hk2
      cases e'; cases e2
      have lz : vs'.toArray.size + ws.toArray.size ≤ sizeLine := by
        rw [List.size_toArray,List.size_toArray,hrl'.len,r2.len,sizeLine_eq]; exact Nat.le_trans hk3.1 (by decide)
      refine call_meets PySem.F.slot_list_extend ⟨_,hh',rfl⟩ PySem.F.entry_list_extend (PySem.F.args_list_extend_2 _ _) (AutoSeq1.list_extend_list_list_0 ad vs'.toArray k' b ws.toArray n2 (extend_door lz) (Nat.le_trans (Nat.le_add_right _ _) lz)) ⟨hh',S2.iv.kz _ _ hz3,?_⟩
      have e3 : vs'.toArray ++ ws.toArray = (vs' ++ ws).toArray := by simp
      have ho3 : (s2.heap.update ad (Obj.mapSeq fun x => x ++ ws.toArray)).get? ad = some (lstO (vs' ++ ws) (if (vs'.toArray ++ ws.toArray).size == vs'.toArray.size then k' else k' + 1)) := by
        rw [Heap.get?_update_self _ hh' (by rw [mapSeq_app]; rfl),mapSeq_app,e3]
      obtain ⟨g3,ha3,S3⟩ := S2.putL (vs' := vs' ++ ws) (l' := l' ++ l2) hg' (Heap.SameBut.update ..) ho3 ⟨_,rfl⟩ (hrl'.app r2)
      exact hQ .none _ Z2 g3 _ _ (hz.trans hz2) (by rw [ha3]; exact hr.trans hr2) S3 (rv_none.mpr rfl) hk3.2
    · exact hk2.elim
  · exact hk2.elim
end
noncomputable abbrev cellO : Obj := { cls := .type "cell",data := .cell none }
noncomputable def closL (cells : List (Str × Addr)) : List (Str × NameKind) → List (Str × Addr) → List (Str × Addr)
  | [],acc => acc
  | (n,k) :: r,acc => closL cells r (if k == .free then (match cells.lookup n with | some c => (n,c) :: acc | none => acc) else acc)
theorem closL_run {env : Env} (f : Str × NameKind → List (Str × Addr) → PySem.Sem (ForInStep (List (Str × Addr)))) (hf : ∀ n k r,f (n,k) r = if (k == NameKind.free) = true then (do let a ← cellOf env n; pure (ForInStep.yield ((n,a) :: r))) else pure (ForInStep.yield r)) :
    ∀ (ns : List (Str × NameKind)) (acc : List (Str × Addr)),(∀ x ∈ ns,x.2 = .free → (env.cells.lookup x.1).isSome = true) → forIn ns acc f = pure (closL env.cells ns acc)
  | [],_,_ => by rw [List.forIn_nil]; rfl
  | (n,k) :: r,acc,hx => by
    have hr : ∀ x ∈ r,x.2 = .free → (env.cells.lookup x.1).isSome = true := fun x hm => hx x (.tail _ hm)
    rw [List.forIn_cons,hf]
    unfold closL
    cases hk : k == NameKind.free with
    | false =>
      rw [if_neg (by decide),if_neg (by decide),pure_bind]
      exact closL_run f hf r _ hr
    | true =>
      obtain ⟨c,hc⟩ := Option.isSome_iff_exists.mp (hx (n,k) (.head _) (beq_iff_eq.mp hk))
      have e : cellOf env n = pure c := by unfold cellOf; rw [show env.cells.lookup n = some c from hc]
      rw [if_pos rfl,if_pos rfl,e,pure_bind,pure_bind,show env.cells.lookup n = some c from hc]
      exact closL_run f hf r _ hr
theorem closureFor_ok {scope : Scope} {env : Env} (h : ∀ x ∈ scope.names,x.2 = .free → (env.cells.lookup x.1).isSome = true) : closureFor scope env = pure (closL env.cells scope.names []) := by
  simp only [closureFor]
  rw [closL_run (env := env) _ (fun n k r => by split <;> rfl) scope.names [] h]
  · rw [pure_bind]
noncomputable def ownC (n : Nat) : List (Str × NameKind) → List (Addr × Obj)
  | [] => []
  | (_,k) :: r => if k == .cell then (n,cellO) :: ownC (n + 1) r else ownC n r
theorem ownC_ge : ∀ (ns : List (Str × NameKind)) (n : Nat),∀ q ∈ ownC n ns,n ≤ q.1 ∧ q.2 = cellO
  | [],_,q,h => by cases h
  | (_,k) :: r,n,q,h => by
    unfold ownC at h
    split at h
    · rcases List.mem_cons.mp h with rfl | h
      · exact ⟨Nat.le_refl _,rfl⟩
      · exact ⟨Nat.le_of_succ_le (ownC_ge r (n + 1) q h).1,(ownC_ge r (n + 1) q h).2⟩
    · exact ownC_ge r n q h
theorem ownC_nd : ∀ (ns : List (Str × NameKind)) (n : Nat),((ownC n ns).map (·.1)).Nodup
  | [],_ => List.nodup_nil
  | (_,k) :: r,n => by
    unfold ownC
    split
    · rw [List.map_cons,List.nodup_cons]
      refine ⟨fun h => ?_,ownC_nd r (n + 1)⟩
      obtain ⟨q,hq,e⟩ := List.mem_map.mp h
      have := (ownC_ge r (n + 1) q hq).1
      rw [e] at this
      exact Nat.lt_irrefl _ this
    · exact ownC_nd r n
theorem pushCells_at : ∀ (ns : List (Str × NameKind)) (h : Heap),∀ q ∈ ownC h.objs.size ns,(pushCells h ns).get? q.1 = some q.2
  | [],_,q,hq => by cases hq
  | (_,k) :: r,h,q,hq => by
    unfold ownC at hq
    unfold pushCells
    split at hq
    · rename_i hk
      rw [if_pos hk]
      rcases List.mem_cons.mp hq with rfl | hq
      · exact pushCells_keeps _ _ _ _ (Heap.get?_push_size h rfl)
      · exact pushCells_at r _ q (by rw [Heap.size_push]; exact hq)
    · rename_i hk
      rw [if_neg hk]
      exact pushCells_at r h q hq
theorem cellsFrom_lookup : ∀ (ns : List (Str × NameKind)) (n : Nat) (acc : List (Str × Addr)) (y : Str) (c : Addr),(cellsFrom n ns acc).lookup y = some c → (∃ o,(c,o) ∈ ownC n ns) ∨ acc.lookup y = some c
  | [],_,_,_,_,h => .inr h
  | (x,k) :: r,n,acc,y,c,h => by
    unfold cellsFrom at h
    unfold ownC
    split at h
    · rename_i hk
      rw [if_pos hk]
      rcases cellsFrom_lookup r (n + 1) _ y c h with ⟨o,h⟩ | h
      · exact .inl ⟨o,.tail _ h⟩
      · rw [List.lookup_cons] at h
        split at h
        · cases h; exact .inl ⟨_,.head _⟩
        · exact .inr h
    · rename_i hk
      rw [if_neg hk]
      exact cellsFrom_lookup r n acc y c h
theorem cellsFrom_free : ∀ (ns : List (Str × NameKind)) (n : Nat) (acc : List (Str × Addr)) (y : Str),(∀ k,(y,k) ∈ ns → k ≠ .cell) → (cellsFrom n ns acc).lookup y = acc.lookup y
  | [],_,_,_,_ => rfl
  | (x,k) :: r,n,acc,y,h => by
    unfold cellsFrom
    split
    · rename_i hk
      rw [cellsFrom_free r (n + 1) _ y fun k hm => h k (.tail _ hm),List.lookup_cons]
      split
      · rename_i q
        exact absurd (beq_iff_eq.mp hk) (h k (by rw [beq_iff_eq.mp q]; exact .head _))
      · rfl
    · exact cellsFrom_free r n acc y fun k hm => h k (.tail _ hm)
theorem cellsFrom_apart : ∀ (ns : List (Str × NameKind)) (n : Nat) (acc : List (Str × Addr)),acc.Pairwise (fun x y => x.2 ≠ y.2) → (∀ q ∈ acc,q.2 < n) → (cellsFrom n ns acc).Pairwise (fun x y => x.2 ≠ y.2)
  | [],_,_,h,_ => h
  | (x,k) :: r,n,acc,h,hl => by
    unfold cellsFrom
    split
    · refine cellsFrom_apart r (n + 1) _ (List.pairwise_cons.mpr ⟨fun q hq e => ?_,h⟩) fun q hq => ?_
      · have := hl q hq
        rw [← e] at this
        exact Nat.lt_irrefl _ this
      · rcases List.mem_cons.mp hq with rfl | hq
        · exact Nat.lt_succ_self _
        · exact Nat.lt_succ_of_lt (hl q hq)
    · exact cellsFrom_apart r n acc h hl
theorem closL_mem (cells : List (Str × Addr)) : ∀ (ns : List (Str × NameKind)) (acc : List (Str × Addr)),(∀ q ∈ acc,cells.lookup q.1 = some q.2) → ∀ q ∈ closL cells ns acc,cells.lookup q.1 = some q.2
  | [],_,h => h
  | (n,k) :: r,acc,h => by
    unfold closL
    refine closL_mem cells r _ ?_
    split
    · split
      · rename_i c hc
        intro q hq
        rcases List.mem_cons.mp hq with rfl | hq
        · exact hc
        · exact h q hq
      · exact h
    · exact h
theorem closL_lookup (cells : List (Str × Addr)) {y : Str} {c : Addr} (hc : cells.lookup y = some c) : ∀ (ns : List (Str × NameKind)) (acc : List (Str × Addr)),((y,NameKind.free) ∈ ns ∨ acc.lookup y = some c) → (closL cells ns acc).lookup y = some c
  | [],_,h => by rcases h with h | h; cases h; exact h
  | (n,k) :: r,acc,h => by
    unfold closL
    refine closL_lookup cells hc r _ ?_
    rcases h with h | h
    · rcases List.mem_cons.mp h with e | h
      · cases e
        simp [hc]
      · exact .inl h
    · refine .inr ?_
      split
      · split
        · rename_i c' hc'
          rw [List.lookup_cons]
          split
          · rename_i q; rw [beq_iff_eq.mp q,hc'] at hc; exact hc
          · exact h
        · exact h
      · exact h
theorem closL_apart (cells : List (Str × Addr)) (inj : ∀ (y y' : Str) (c : Addr),cells.lookup y = some c → cells.lookup y' = some c → y = y') : ∀ (ns : List (Str × NameKind)) (acc : List (Str × Addr)),(ns.map (·.1)).Nodup → (∀ q ∈ acc,cells.lookup q.1 = some q.2 ∧ q.1 ∉ ns.map (·.1)) → acc.Pairwise (fun x y => x.2 ≠ y.2) →
    (closL cells ns acc).Pairwise (fun x y => x.2 ≠ y.2)
  | [],_,_,_,h => h
  | (n,k) :: r,acc,nd,hm,h => by
    rw [List.map_cons,List.nodup_cons] at nd
    unfold closL
    have hm' : ∀ q ∈ acc,cells.lookup q.1 = some q.2 ∧ q.1 ∉ r.map (·.1) := fun q hq => ⟨(hm q hq).1,fun z => (hm q hq).2 (List.mem_cons_of_mem _ z)⟩
    refine closL_apart cells inj r _ nd.2 ?_ ?_
    · split
      · split
        · rename_i c hc
          intro q hq
          rcases List.mem_cons.mp hq with rfl | hq
          · exact ⟨hc,nd.1⟩
          · exact hm' q hq
        · exact hm'
      · exact hm'
    · split
      · split
        · rename_i c hc
          refine List.pairwise_cons.mpr ⟨fun q hq e => ?_,h⟩
          have h1 := hm q hq
          have := inj n q.1 c hc (by rw [h1.1,← e])
          exact h1.2 (by rw [← this]; exact .head _)
        · exact h
      · exact h
theorem relabel_free {env : Env} : ∀ {names : List (Str × NameKind)} {x : Str},names.lookup x = some .free →
    (names.map fun (n,k) => if (k == NameKind.free && env.scope.kind == .function && env.kindOf n == some .cell) then (n,NameKind.cell) else (n,k)).lookup x = some .cell ∨
    (names.map fun (n,k) => if (k == NameKind.free && env.scope.kind == .function && env.kindOf n == some .cell) then (n,NameKind.cell) else (n,k)).lookup x = some .free
  | [],_,h => by simp at h
  | (n,k) :: r,x,h => by
    have ih := @relabel_free env r x
    rw [List.map_cons]
    cases hx : x == n with
    | true =>
      simp only [List.lookup_cons,hx] at h
      cases h
      dsimp only
      split
      · exact .inl (by simp [List.lookup_cons,hx])
      · exact .inr (by simp [List.lookup_cons,hx])
    | false =>
      simp only [List.lookup_cons,hx] at h
      dsimp only
      split <;> (simp only [List.lookup_cons,hx]; exact ih h)
theorem relabel_cell {env : Env} : ∀ {names : List (Str × NameKind)} {x : Str},names.lookup x = some .cell →
    (names.map fun (n,k) => if (k == NameKind.free && env.scope.kind == .function && env.kindOf n == some .cell) then (n,NameKind.cell) else (n,k)).lookup x = some .cell
  | [],_,h => by simp at h
  | (n,k) :: r,x,h => by
    have ih := @relabel_cell env r x
    rw [List.map_cons]
    cases hx : x == n with
    | true =>
      simp only [List.lookup_cons,hx] at h
      cases h
      dsimp only
      simp [List.lookup_cons,hx]
    | false =>
      simp only [List.lookup_cons,hx] at h
      dsimp only
      split <;> (simp only [List.lookup_cons,hx]; exact ih h)
noncomputable def cEnv (C : Cx) (scope : Scope) (a : Addr) : Env :=
  { scope := relabel scope C.env,locals := a,globals := C.env.globals,cells := cellsFrom (a + 1) scope.names (closL C.env.cells scope.names []),qual := C.env.qual,func := none,code := C.env.code,frame := C.env.frame,builtins := C.env.builtins }
noncomputable def cCx (C : Cx) (scope : Scope) (names' : List Str) (a : Addr) (oL : Obj) (Z1 : Zm) : Cx :=
  { C with env := cEnv C scope a,L := a,names := names',P := Pcall C.P C.L oL [],Z0 := Z1 }
structure CompOk (C : Cx) (scope : Scope) (names' : List Str) (pm : List (Option Nat)) : Prop where
  kind : scope.kind = .function
  nd : (scope.names.map (·.1)).Nodup
  ndn : names'.Nodup
  has : ∀ x ∈ scope.names,x.2 = .free → (C.env.cells.lookup x.1).isSome = true
  pm : ∀ (j i : Nat),pm[j]? = some (some i) → ∃ x,names'[j]? = some x ∧ C.names[i]? = some x ∧ scope.names.lookup x = some .free ∧ C.env.kindOf x ≠ some .local
noncomputable def lcIn (pm : List (Option Nat)) (lc : Lc) : Lc := pm.map fun o => match o with
  | some i => (match lc[i]? with | some (some v) => some v | _ => none)
  | none => none
theorem nd_lookup {α β : Type} [BEq α] [LawfulBEq α] : ∀ {l : List (α × β)} {x : α} {k : β},(l.map (·.1)).Nodup → (x,k) ∈ l → l.lookup x = some k
  | [],_,_,_,h => by cases h
  | (y,k') :: l,x,k,nd,h => by
    rw [List.map_cons,List.nodup_cons] at nd
    rw [List.lookup_cons]
    rcases List.mem_cons.mp h with e | h
    · cases e; simp
    · have : (x == y) = false := by
        rw [beq_eq_false_iff_ne]
        intro e
        exact nd.1 (e ▸ List.mem_map_of_mem (f := (·.1)) h)
      rw [this]
      exact nd_lookup nd.2 h
theorem lookup_mem' {α β : Type} [BEq α] [LawfulBEq α] : ∀ {l : List (α × β)} {x : α} {k : β},l.lookup x = some k → (x,k) ∈ l
  | [],_,_,h => by cases h
  | (y,k') :: l,x,k,h => by
    rw [List.lookup_cons] at h
    split at h
    · rename_i q; cases h; rw [beq_iff_eq.mp q]; exact .head _
    · exact .tail _ (lookup_mem' h)
section
variable {C : Cx} {scope : Scope} {names' : List Str} {pm : List (Option Nat)} {Z : Zm} {m : Str → Option Value} {g : List CC} {cs : List (Addr × Obj)} {lc : Lc} {cells : List Cell} {h h' : Heap} {a : Addr}
theorem CompOk.notCell (K : CompOk C scope names' pm) {x : Str} (hx : scope.names.lookup x = some .free) : ∀ k,(x,k) ∈ scope.names → k ≠ .cell := fun k hm e => by
  have := nd_lookup K.nd hm
  rw [hx,e] at this; cases this
theorem Pin_none {C : Cx} {oL : Obj} {b : Addr} (h : Pcall C.P C.L oL [] b = none) : b ≠ C.L ∧ C.P b = none := by
  unfold Pcall at h
  split at h
  · cases h
  · rename_i q; exact ⟨q,h⟩
theorem Pin_le {C : Cx} {oL : Obj} (pl : C.P C.L = none) : Zle C.P (Pcall C.P C.L oL []) := fun b o e => by
  unfold Pcall
  rw [if_neg (fun q => by rw [q,pl] at e; cases e)]
  exact e
theorem Pin_at {C : Cx} {oL : Obj} : Pcall C.P C.L oL [] C.L = some oL := if_pos rfl
theorem St.into (hC : C.Ok) (K : CompOk C scope names' pm) (S : St C Z m g cs lc cells h) (ha : a = h.objs.size) (keep : ∀ b o,h.get? b = some o → h'.get? b = some o) (hns : h'.Ns a (fun _ => none)) (hown : ∀ q ∈ ownC (a + 1) scope.names,h'.get? q.1 = some q.2) :
    ∃ oL,NsO oL m ∧ h.get? C.L = some oL ∧ (cCx C scope names' a oL Z).Ok ∧ St (cCx C scope names' a oL Z) Z (fun _ => none) g (ownC (a + 1) scope.names ++ cs) (lcIn pm lc) cells h' := by
  subst ha
  have I := S.iv
  obtain ⟨oL,es,ep,hL,hd,hk,hf⟩ := I.ns
  have low : ∀ {b : Addr} {o : Obj},h.get? b = some o → b < h.objs.size := fun e => Heap.lt_size e
  have none_ : ∀ {Y : Zm},ZIn Y h → ∀ b,h.objs.size ≤ b → Y b = none := fun {Y} hy b hb => by
    cases e : Y b with
    | none => rfl
    | some o => exact absurd (low (hy _ _ e)) (Nat.not_lt.mpr hb)
  have kpin : ZIn (Pcall C.P C.L oL []) h := fun b o e => by
    unfold Pcall at e
    split at e
    · rename_i q; cases e; rw [q]; exact hL
    · exact I.kp b o e
  have csLt : ∀ q ∈ cs,q.1 < h.objs.size := fun q hq => low (I.own q (List.mem_append_right _ hq)).1
  have gLt : ∀ q ∈ g.flatMap CC.objs,q.1 < h.objs.size := fun q hq => low (I.own q (List.mem_append_left _ hq)).1
  have clLt : ∀ (y : Str) (c : Addr),C.env.cells.lookup y = some c → c < h.objs.size := fun y c e => by
    obtain ⟨o,v,hm,_⟩ := S.cl y c e
    exact csLt _ hm
  have clm := closL_mem C.env.cells scope.names [] (fun q hq => by cases hq)
  refine ⟨oL,⟨es,ep,hd,hk,hf⟩,hL,{
    gok := hC.gok
    p0 := hC.p0.trans (Pin_le I.pl)
    zg := hC.zg.trans I.z0
    kind := K.kind
    loc := rfl
    glob := hC.glob
    blt := hC.blt
    frames := hC.frames
    frp := fun env he => ?_
    hd := hC.hd.le (Pin_le I.pl)
    depth := hC.depth
    units := hC.units
    nodup := K.ndn
    cinj := fun y y' c e e' => ?_ },⟨⟨hns,fun b o e => keep b o (I.kz b o e),fun b o e => keep b o (kpin b o e),none_ I.kz _ (Nat.le_refl _),none_ kpin _ (Nat.le_refl _),fun q hq => ?_,?_,fun b o e => .inl e,.refl⟩,S.cr,fun j x v hj hv => ?_,fun y c e => ?_⟩⟩
  · obtain ⟨k,L',e1,e2⟩ := hC.frp env he
    refine ⟨k,L',e1,.inr ?_⟩
    rcases e2 with rfl | ⟨o,es',ep',e2,e3,e4⟩
    · exact ⟨oL,es,ep,Pin_at,hd,I.zl⟩
    · refine ⟨o,es',ep',Pin_le I.pl _ _ e2,e3,?_⟩
      cases z : Z L' with
      | none => exact z
      | some y => rcases I.zp _ _ z with q | q
                  · rw [e4] at q; cases q
                  · rw [e2] at q; cases q
  · have ap : (cellsFrom (h.objs.size + 1) scope.names (closL C.env.cells scope.names [])).Pairwise (fun x y => x.2 ≠ y.2) :=
      cellsFrom_apart scope.names _ _ (closL_apart C.env.cells hC.cinj scope.names [] K.nd (fun q hq => by cases hq) List.Pairwise.nil) (fun q hq => Nat.lt_succ_of_lt (clLt _ _ (clm q hq)))
    exact name_of_addr ap (mem_of_lookup e) (mem_of_lookup e')
  · rcases List.mem_append.mp hq with hq | hq
    · have O := I.own q (List.mem_append_left _ hq)
      refine ⟨keep _ _ O.1,O.2.1,?_,Nat.ne_of_lt (gLt q hq)⟩
      show Pcall C.P C.L oL [] q.1 = none
      unfold Pcall
      rw [if_neg O.2.2.2]; exact O.2.2.1
    · rcases List.mem_append.mp hq with hq | hq
      · have ge := (ownC_ge _ _ q hq).1
        have ge' : h.objs.size ≤ q.1 := Nat.le_of_succ_le ge
        exact ⟨hown q hq,none_ I.kz _ ge',none_ kpin _ ge',(Nat.ne_of_lt ge).symm⟩
      · have O := I.own q (List.mem_append_right _ hq)
        refine ⟨keep _ _ O.1,O.2.1,?_,Nat.ne_of_lt (csLt q hq)⟩
        show Pcall C.P C.L oL [] q.1 = none
        unfold Pcall
        rw [if_neg O.2.2.2]; exact O.2.2.1
  · have nd := I.nd
    rw [List.map_append,List.nodup_append] at nd
    rw [List.map_append,List.map_append,List.nodup_append,List.nodup_append]
    refine ⟨nd.1,⟨ownC_nd _ _,nd.2.1,fun x hx y hy e => ?_⟩,fun x hx y hy e => ?_⟩
    · obtain ⟨q,hq,rfl⟩ := List.mem_map.mp hx
      obtain ⟨p,hp,rfl⟩ := List.mem_map.mp hy
      have := (ownC_ge _ _ q hq).1
      rw [e] at this
      exact Nat.lt_irrefl _ (Nat.lt_trans (csLt p hp) this)
    · rcases List.mem_append.mp hy with hy | hy
      · obtain ⟨q,hq,rfl⟩ := List.mem_map.mp hx
        obtain ⟨p,hp,rfl⟩ := List.mem_map.mp hy
        have := (ownC_ge _ _ p hp).1
        rw [← e] at this
        exact Nat.lt_irrefl _ (Nat.lt_trans (gLt q hq) this)
      · exact nd.2.2 x hx y hy e
  · unfold lcIn at hv
    rw [List.getElem?_map] at hv
    obtain ⟨o,ho,e⟩ := Option.map_eq_some_iff.mp hv
    cases o with
    | none => cases e
    | some i =>
      dsimp only at e
      split at e
      · rename_i v' hi
        cases e
        obtain ⟨x',h1,h2,h3,h4⟩ := K.pm j i ho
        have ex : x' = x := by
          have : names'[j]? = some x := hj
          rw [h1] at this; exact Option.some.inj this
        subst ex
        obtain ⟨u,p,r⟩ := S.lr i x' v h2 hi
        refine ⟨u,?_,r⟩
        rcases p with ⟨p1,_⟩ | ⟨_,c,o',p2,p3,p4⟩
        · exact absurd p1 h4
        · refine .inr ⟨relabel_free h3,c,o',?_,List.mem_append_right _ p3,p4⟩
          show (cellsFrom (h.objs.size + 1) scope.names (closL C.env.cells scope.names [])).lookup x' = some c
          rw [cellsFrom_free _ _ _ _ (K.notCell h3)]
          exact closL_lookup C.env.cells p2 scope.names [] (.inl (lookup_mem' h3))
      · cases e
  · have e' : (cellsFrom (h.objs.size + 1) scope.names (closL C.env.cells scope.names [])).lookup y = some c := e
    rcases cellsFrom_lookup _ _ _ _ _ e' with ⟨o,ho⟩ | e'
    · have := (ownC_ge _ _ _ ho).2
      exact ⟨o,none,List.mem_append_left _ ho,by rw [show o = cellO from this]⟩
    · have := clm _ (mem_of_lookup e')
      obtain ⟨o,v,h1,h2⟩ := S.cl y c this
      exact ⟨o,v,List.mem_append_right _ h1,h2⟩
theorem St.outOf {oL : Obj} {Z1 Z2 : Zm} {g1 g2 : List CC} {cells1 cells2 : List Cell} {m2 : Str → Option Value} {cs2 : List (Addr × Obj)} {lc2 : Lc} {h1 h2 : Heap} (S : St C Z1 m g1 cs lc cells1 h1) (hL : NsO oL m)
    (S' : St (cCx C scope names' a oL Z1) Z2 m2 g2 cs2 lc2 cells2 h2) (sub : ∀ q ∈ cs,q ∈ cs2) (hr : Ale (g1.map CC.addr) (g2.map CC.addr)) : St C Z2 m g2 cs lc cells2 h2 := by
  have I := S.iv
  have I' := S'.iv
  obtain ⟨es,ep,hd,hk,hf⟩ := hL
  have atL : h2.get? C.L = some oL := I'.kp C.L oL Pin_at
  have zz : Zle Z1 Z2 := I'.z0
  have pin : ∀ {b : Addr},(cCx C scope names' a oL Z1).P b = none → b ≠ C.L ∧ C.P b = none := fun {b} e => Pin_none e
  refine S.go zz hr ⟨⟨oL,es,ep,atL,hd,hk,hf⟩,I'.kz,fun b o e => I'.kp b o (Pin_le I.pl b o e),?_,I.pl,fun q hq => ?_,?_,fun b o e => ?_,I.z0.trans zz⟩ S'.cr
  · cases z : Z2 C.L with
    | none => rfl
    | some y => rcases I'.zp _ _ z with q | q
                · rw [show (cCx C scope names' a oL Z1).Z0 = Z1 from rfl,I.zl] at q; cases q
                · exact absurd rfl (pin q).1
  · have O : q ∈ g2.flatMap CC.objs ++ cs2 := by
      rcases List.mem_append.mp hq with hq | hq
      · exact List.mem_append_left _ hq
      · exact List.mem_append_right _ (sub q hq)
    have O' := I'.own q O
    exact ⟨O'.1,O'.2.1,(pin O'.2.2.1).2,(pin O'.2.2.1).1⟩
  · have nd := I.nd
    have nd' := I'.nd
    rw [List.map_append,List.nodup_append] at nd nd' ⊢
    refine ⟨nd'.1,nd.2.1,fun x hx y hy e => ?_⟩
    obtain ⟨q,hq,rfl⟩ := List.mem_map.mp hy
    exact nd'.2.2 x hx q.1 (List.mem_map_of_mem (sub q hq)) e
  · rcases I'.zp b o e with q | q
    · exact I.zp b o q
    · exact .inr (pin q).2
end
noncomputable abbrev STs (C : Cx) (ifs : List Expr) (wt : WT) : Prop := SA C (forIn ifs true fun c r => if r = true then do let ok ← isTrue c C.env (eval c C.env); pure (ForInStep.yield ok) else pure (ForInStep.yield r)) (fun _ _ b c => c = b) wt
noncomputable def compW (wt : WT) (we : WE) (jx : Nat) : List V → Lc → List Cell → List V → (List V → Lc → List Cell → Prop) → Prop
  | [],lc,cells,acc,k => k acc lc cells
  | v :: l,lc,cells,acc,k => wt (lc.set jx (some v)) cells (fun b c1 => brW b (we (lc.set jx (some v)) c1 (fun y c2 => okW (Nat.ble acc.length 16000000) <| compW wt we jx l (lc.set jx (some v)) c2 (acc ++ [y]) k) (fun _ => False)) (compW wt we jx l (lc.set jx (some v)) c1 acc k)) (fun _ => False)
section
variable {C : Cx} {Z : Zm} {m : Str → Option Value} {g : List CC} {cs : List (Addr × Obj)} {lc : Lc} {cells : List Cell} {h : Heap}
theorem ts0 : STs C [] (fun _ cells k _ => k true cells) := by
  constructor; intro lc cells k x hw Z m g cs s Q E S hQ _
  exact wpAny_tests_nil (hQ true cells Z g s true .refl .refl S rfl hw)
theorem ts1 {e : Expr} {wt : WT} (ht : ST C e wt) : STs C [e] wt := by
  constructor; intro lc cells k x hw Z m g cs s Q E S hQ hE
  exact wpAny_tests_one (ht.run lc cells k x hw Z m g cs s Q E S hQ hE)
theorem St.freezeC {D : Addr} {o : Obj} (S : St C Z m g ((D,o) :: cs) lc cells h) (hn : ∀ v,o.data ≠ .cell v) : Zle Z (Zput Z D o) ∧ St C (Zput Z D o) m g cs lc cells h := by
  have I := S.iv
  have OD := I.own (D,o) (List.mem_append_right _ (.head _))
  have le : Zle Z (Zput Z D o) := fun b x e => by
    unfold Zput
    rw [if_neg (fun q => by rw [q] at e; rw [OD.2.1] at e; cases e)]
    exact e
  have nd := I.nd
  rw [List.map_append,List.map_cons,List.nodup_append] at nd
  obtain ⟨n1,n2,n3⟩ := nd
  rw [List.nodup_cons] at n2
  have off : ∀ q ∈ g.flatMap CC.objs ++ cs,q.1 ≠ D := fun q hq e => by
    rcases List.mem_append.mp hq with hq | hq
    · exact n3 q.1 (List.mem_map_of_mem hq) D (.head _) e
    · exact n2.1 (e ▸ List.mem_map_of_mem (f := (·.1)) hq)
  have up : ∀ q ∈ g.flatMap CC.objs ++ cs,q ∈ g.flatMap CC.objs ++ (D,o) :: cs := fun q hq => by
    rcases List.mem_append.mp hq with hq | hq
    · exact List.mem_append_left _ hq
    · exact List.mem_append_right _ (.tail _ hq)
  have noCell : ∀ {c : Addr} {o' : Obj} {v : Option Value},(c,o') ∈ (D,o) :: cs → o'.data = .cell v → (c,o') ∈ cs := fun {c o' v} hm hd => by
    rcases List.mem_cons.mp hm with e | hm
    · cases e; exact absurd hd (hn v)
    · exact hm
  refine ⟨le,⟨I.ns,fun b x e => ?_,I.kp,?_,I.pl,fun q hq => ?_,?_,fun b x e => ?_,I.z0.trans le⟩,S.cr.mono le .refl,S.lr.sub noCell le .refl,S.cl.sub noCell⟩
  · unfold Zput at e
    split at e
    · rename_i q; cases e; rw [q]; exact OD.1
    · exact I.kz b x e
  · unfold Zput
    rw [if_neg (Ne.symm OD.2.2.2)]; exact I.zl
  · have O := I.own q (up q hq)
    refine ⟨O.1,?_,O.2.2⟩
    unfold Zput
    rw [if_neg (off q hq)]; exact O.2.1
  · rw [List.map_append,List.nodup_append]
    exact ⟨n1,n2.2,fun x hx y hy => n3 x hx y (.tail _ hy)⟩
  · unfold Zput at e
    split at e
    · rename_i q; rw [q]; exact .inr OD.2.2.1
    · exact I.zp b x e
theorem filter_self {cs : List (Addr × Obj)} {a : Addr} (h : ∀ q ∈ cs,q.1 ≠ a) : cs.filter (fun q => q.1 != a) = cs := List.filter_eq_self.mpr fun q hq => by simpa using h q hq
theorem newEnv_comp {M : Model} {A : Around} {E : Value → Shared → Prop} {s : Shared} {scope : Scope} {globals : Addr} {cl : List (Str × Addr)} {qual : Str} {env : Env} {Q : Env → Shared → Prop}
    (h : Q (newEnv scope s.heap.objs.size globals (cellsFrom (s.heap.objs.size + 1) scope.names cl) qual none .none (some env) builtinsNs) { s with heap := pushCells (s.heap.push { cls := .type "dict",data := .dict #[] }) scope.names }) :
    wpAny M A (newFunctionEnv scope globals cl [] qual none .none (some env)) Q E s := by
  simp only [newFunctionEnv,Option.isSome_some,if_true]
  refine wpAny_bind (wpAny_alloc ?_)
  refine wpAny_bind (wpAny_layCells _ (fun name kind cells => by cases hkc : kind == NameKind.cell <;> simp [hkc]) _ _ _ _ ?_)
  rw [show ({ s with heap := s.heap.push { cls := .type "dict",data := .dict #[] } } : Shared).heap.objs.size = s.heap.objs.size + 1 from Heap.size_push ..]
  exact wpAny_bind (wpAny_pure (wpAny_pure h))
end
section
variable {C : Cx} {scope : Scope} {names' : List Str} {pm : List (Option Nat)} {Z : Zm} {m : Str → Option Value} {g : List CC} {cs : List (Addr × Obj)} {lc : Lc} {cells : List Cell} {h h' : Heap} {a : Addr}
theorem St.outA {oL : Obj} {Z1 Z2 : Zm} {g1 g2 : List CC} {cells1 cells2 : List Cell} {m2 : Str → Option Value} {cs2 out : List (Addr × Obj)} {lc2 : Lc} {h1 h2 : Heap} (S : St C Z1 m g1 cs lc cells1 h1) (hL : NsO oL m)
    (S' : St (cCx C scope names' a oL Z1) Z2 m2 g2 cs2 lc2 cells2 h2) (sub : ∀ q ∈ out,q ∈ cs2) (nd : (out.map (·.1)).Nodup) (up : ∀ q ∈ cs,q ∈ out) (hr : Ale (g1.map CC.addr) (g2.map CC.addr)) :
    ∃ oa,(∀ v,oa.data ≠ .cell v) ∧ NsO oa m2 ∧ (∀ q ∈ out,q.1 ≠ a) ∧ St C Z2 m g2 ((a,oa) :: out) lc cells2 h2 := by
  have I := S.iv
  have I' := S'.iv
  obtain ⟨es,ep,hd,hk,hf⟩ := hL
  obtain ⟨oa,es',ep',hA,hd',hk',hf'⟩ := I'.ns
  have atL : h2.get? C.L = some oL := I'.kp C.L oL Pin_at
  have zz : Zle Z1 Z2 := I'.z0
  have pin : ∀ {b : Addr},(cCx C scope names' a oL Z1).P b = none → b ≠ C.L ∧ C.P b = none := fun {b} e => Pin_none e
  have offA : ∀ q ∈ g2.flatMap CC.objs ++ cs2,q.1 ≠ a := fun q hq => (I'.own q hq).2.2.2
  have oute : ∀ q ∈ out,q.1 ≠ a := fun q hq => offA q (List.mem_append_right _ (sub q hq))
  have noC : ∀ v,oa.data ≠ .cell v := fun v q => by rw [hd'] at q; cases q
  refine ⟨oa,noC,⟨es',ep',hd',hk',hf'⟩,oute,⟨⟨oL,es,ep,atL,hd,hk,hf⟩,I'.kz,fun b o e => I'.kp b o (Pin_le I.pl b o e),?_,I.pl,fun q hq => ?_,?_,fun b o e => ?_,I.z0.trans zz⟩,S'.cr,S.lr.sub (fun a _ => .tail _ (up _ a)) zz hr,S.cl.sub fun a _ => .tail _ (up _ a)⟩
  · cases z : Z2 C.L with
    | none => rfl
    | some y => rcases I'.zp _ _ z with q | q
                · rw [show (cCx C scope names' a oL Z1).Z0 = Z1 from rfl,I.zl] at q; cases q
                · exact absurd rfl (pin q).1
  · rcases List.mem_append.mp hq with hq | hq
    · have O' := I'.own q (List.mem_append_left _ hq)
      exact ⟨O'.1,O'.2.1,(pin O'.2.2.1).2,(pin O'.2.2.1).1⟩
    · rcases List.mem_cons.mp hq with rfl | hq
      · exact ⟨hA,I'.zl,(pin I'.pl).2,(pin I'.pl).1⟩
      · have O' := I'.own q (List.mem_append_right _ (sub q hq))
        exact ⟨O'.1,O'.2.1,(pin O'.2.2.1).2,(pin O'.2.2.1).1⟩
  · have nd' := I'.nd
    rw [List.map_append,List.nodup_append] at nd' ⊢
    rw [List.map_cons,List.nodup_cons]
    refine ⟨nd'.1,⟨fun hm => ?_,nd⟩,fun x hx y hy e => ?_⟩
    · obtain ⟨q,hq,e⟩ := List.mem_map.mp hm
      exact oute q hq e
    · rcases List.mem_cons.mp hy with rfl | hy
      · obtain ⟨q,hq,rfl⟩ := List.mem_map.mp hx
        exact offA q (List.mem_append_left _ hq) e
      · obtain ⟨q,hq,rfl⟩ := List.mem_map.mp hy
        exact nd'.2.2 x hx q.1 (List.mem_map_of_mem (sub q hq)) e
  · rcases I'.zp b o e with q | q
    · exact I.zp b o q
    · exact .inr (pin q).2
theorem St.swapC {p q : Addr × Obj} (S : St C Z m g (p :: q :: cs) lc cells h) : St C Z m g (q :: p :: cs) lc cells h := by
  have pe : ∀ x,x ∈ p :: q :: cs ↔ x ∈ q :: p :: cs := fun x => by simp only [List.mem_cons]; exact ⟨fun h => h.elim (fun h => .inr (.inl h)) fun h => h.elim .inl fun h => .inr (.inr h),fun h => h.elim (fun h => .inr (.inl h)) fun h => h.elim .inl fun h => .inr (.inr h)⟩
  refine ⟨⟨S.iv.ns,S.iv.kz,S.iv.kp,S.iv.zl,S.iv.pl,fun x hx => S.iv.own x ?_,?_,S.iv.zp,S.iv.z0⟩,S.cr,S.lr.sub (fun a _ => (pe _).mp a) .refl .refl,S.cl.sub fun a _ => (pe _).mp a⟩
  · rcases List.mem_append.mp hx with hx | hx
    · exact List.mem_append_left _ hx
    · exact List.mem_append_right _ ((pe x).mpr hx)
  · exact ((List.Perm.append_left _ (List.Perm.swap q p cs)).map (·.1)).nodup_iff.mp S.iv.nd
noncomputable def TurnRule (C : Cx) (elt : Expr) (x : Str) (px : Pos) (ifs : List Expr) (I D : Addr) (code : Code) (R : Result → Shared → Prop) : Prop := ∀ (Inv : Nat → Shared → Prop),
  (∀ n s,Inv n s → wpAny (model C.prog C.w) C.A (pyNext (.ref I)) (fun r s₁ => match r with
      | none => R (.ok .next) s₁
      | some v => wpAny (model C.prog C.w) C.A (assign (.Name x px) C.env v) (fun _ s₂ =>
          wpAny (model C.prog C.w) C.A (forIn ifs true fun c r => if r = true then do let ok ← isTrue c C.env (eval c C.env); pure (ForInStep.yield ok) else pure (ForInStep.yield r)) (fun ok s₃ =>
            if ok = true then wpAny (model C.prog C.w) C.A (eval elt C.env) (fun x s₄ =>
              wpAny (model C.prog C.w) C.A (call (.builtin "list.append") [.ref D,x]) (fun _ s₅ => ∃ m,m < n ∧ Inv m s₅) (notedBy (model C.prog C.w) C.A C.env fun e s' => R (.error e) s') s₄) (notedBy (model C.prog C.w) C.A C.env fun e s' => R (.error e) s') s₃
            else ∃ m,m < n ∧ Inv m s₃) (notedBy (model C.prog C.w) C.A C.env fun e s' => R (.error e) s') s₂) (notedBy (model C.prog C.w) C.A C.env fun e s' => R (.error e) s') s₁) (notedBy (model C.prog C.w) C.A C.env fun e s' => R (.error e) s') s) →
  ∀ n s,Inv n s → codeAny (model C.prog C.w) C.A code R s
theorem turn1 {elt iter : Expr} {x : Str} {px : Pos} {ifs : List Expr} {pos : Pos} {I D : Addr} {R : Result → Shared → Prop} : TurnRule C elt x px ifs I D (.compLoop (.ListComp elt [⟨.Name x px,iter,ifs,0⟩] scope pos) 0 (.ref I) (.ref D) C.env) R :=
  fun Inv turn n s h => codeAny_compLoop_tests Inv turn n h
inductive CompI (C : Cx) (x1 : OG) (Z : Zm) (g : List CC) (base : List (Addr × Obj)) (I D : Addr) (it : ItK) (l : List V) (W : List V → Lc → List Cell → List V → Prop) (n : Nat) (s' : Shared) : Prop
  | mk (j : Nat) (acc' : List V) (us' : List Value) (n' : Nat) (lc' : Lc) (c' : List Cell) (Z' : Zm) (m' : Str → Option Value) (g' : List CC) (cs' : List (Addr × Obj)) (oJ : Obj) (hn : n = (l.drop j).length) (hz : Zk x1 (og s') Z Z') (hr : Ale (g.map CC.addr) (g'.map CC.addr))
    (hb : ∀ q ∈ base,q ∈ cs') (S : St C Z' m' g' cs' lc' c' s'.heap) (hI : (I,oJ) ∈ cs') (hit : ItO it oJ j) (hD : (D,lstO us' n') ∈ cs') (ha : RvL C.an C.w.params Z' (g'.map CC.addr) acc' us') (hw : W (l.drop j) lc' c' acc') : CompI C x1 Z g base I D it l W n s'
theorem comp_loop (hC : C.Ok) {elt : Expr} {x : Str} {px : Pos} {ifs : List Expr} {code : Code} {wt : WT} {wel : WE} {jx : Nat} (hjx : C.names[jx]? = some x) (hk : KindOk C x) (ht : STs C ifs wt) (hel : SE C elt wel)
    {it : ItK} {l acc : List V} {us : List Value} {n : Nat} {I D : Addr} {oI : Obj} (hq : ItQ C.q it) (hv : ItV C.an C.w.params Z (g.map CC.addr) it l) (hID : I ≠ D) {base : List (Addr × Obj)} (hb : ∀ q ∈ base,q.1 ≠ I ∧ q.1 ≠ D ∧ (C.env.kindOf x = some .cell → C.env.cells.lookup x ≠ some q.1))
    {s : Shared} (S : St C Z m g cs lc cells s.heap) (hI : (I,oI) ∈ cs) (hit : ItO it oI 0) (hD : (D,lstO us n) ∈ cs) (hbs : ∀ q ∈ base,q ∈ cs) (ha : RvL C.an C.w.params Z (g.map CC.addr) acc us) {k : List V → Lc → List Cell → Prop} (hw : compW wt wel jx l lc cells acc k) {R : Result → Shared → Prop}
    (fin : ∀ acc' cells' Z' m' g' cs' lc' s' us' n',Zk (og s) (og s') Z Z' → Ale (g.map CC.addr) (g'.map CC.addr) → (∀ q ∈ base,q ∈ cs') → St C Z' m' g' cs' lc' cells' s'.heap → (D,lstO us' n') ∈ cs' → RvL C.an C.w.params Z' (g'.map CC.addr) acc' us' → k acc' lc' cells' → R (.ok .next) s') (rule : TurnRule C elt x px ifs I D code R) :
    codeAny (model C.prog C.w) C.A code R s := by
  refine rule (CompI C (og s) Z g base I D it l fun r lc' c' acc' => compW wt wel jx r lc' c' acc' k) ?_ l.length s
    ⟨0,acc,us,n,lc,cells,Z,m,g,cs,oI,rfl,.refl,.refl,hbs,S,hI,hit,hD,ha,hw⟩
  rintro i s' ⟨j,acc',us',n',lc',c',Z',m',g',cs',oJ,rfl,hz,hr,hbs',S',hI',hitJ,hD',ha',hw'⟩
  have kI := S'.iv.own (_,oJ) (List.mem_append_right _ hI')
  have hv' := hv.mono hz.1 hr
  cases hl : l.drop j with
  | nil =>
    have hend : l[j]? = none := List.getElem?_eq_none_iff.mpr (List.drop_eq_nil_iff.mp hl)
    rw [hl] at hw'
    refine it_end hC.hd hq S'.iv.kp kI.2.2.1 S'.iv.kz hv' kI.1 hitJ hend fun h' hx => ?_
    refine fin acc' c' Z' m' g' _ lc' _ us' n' hz hr (fun q hq => ?_) (S'.dropC hI' hitJ.noCell fun b' x hb e => hx b' x hb e) ?_ ha' hw'
    · exact List.mem_filter.mpr ⟨hbs' q hq,by simpa using (hb q hq).1⟩
    · exact List.mem_filter.mpr ⟨hD',by simpa using Ne.symm hID⟩
  | cons v l' =>
    have hat : l[j]? = some v := by
      have := congrArg (·[0]?) hl
      simpa using this
    have hdrop : l.drop (j + 1) = l' := by
      have := congrArg List.tail hl
      simpa using this
    rw [hl] at hw'
    refine it_item S'.iv.kz hv' kI.1 hitJ hat fun h' oK u tk hK hitK hsame rv => ?_
    have S3 := S'.updC hI' hitJ.noCell hsame hK
    refine wpAny_assign_Name (store_j (s := ⟨h',_,_,tk,_⟩) hC hjx hk S3 rv fun m4 cs4 s4 o4 hc4 hc4' S4 => ?_)
    have hz4 : Zk (og s) (og s4) Z Z' := hz.to o4
    have memI : (I,oK) ∈ cs4 := hc4 _ (mem_putC hI') hitK.noCell
    have memD : (D,lstO us' n') ∈ cs4 := hc4 _ (mem_putC_ne hD' (Ne.symm hID)) fun v q => by cases q
    have memB : ∀ q ∈ base,q ∈ cs4 := fun q hq => hc4' q (mem_putC_ne (b := q.1) (o := q.2) (hbs' q hq) (hb q hq).1) (hb q hq).2.2
    refine ht.run _ c' _ _ hw' Z' m4 g' cs4 s4 _ _ S4 (fun b c5 Z5 g5 s5 ub hz5 hr5 S5 hbu hk5 => ?_) (fun c u s' _ hx => hx.elim)
    obtain rfl : ub = b := hbu
    cases ub with
    | false =>
      rw [if_neg Bool.false_ne_true]
      exact ⟨l'.length,Nat.lt_succ_self _,j + 1,acc',us',n',_,c5,Z5,m4,g5,cs4,oK,by rw [hdrop],hz4.trans hz5,hr.trans hr5,memB,S5,memI,hitK,memD,ha'.mono hz5.1 hr5,by rw [hdrop]; exact hk5⟩
    | true =>
      rw [if_pos rfl]
      refine hel.run _ c5 _ _ hk5 Z5 m4 g5 cs4 s5 _ _ S5 (fun y c6 Z6 g6 s6 uy hz6 hr6 S6 ry hk6 => ?_) (fun c u s' _ hx => hx.elim)
      replace hk6 := ok_le hk6
      have ha6 := ha'.mono (hz5.trans hz6).1 (hr5.trans hr6)
      have kD := S6.iv.own (_,lstO us' n') (List.mem_append_right _ memD)
      have lz : us'.toArray.size ≤ sizeLine := by rw [List.size_toArray,ha6.len,sizeLine_eq]; exact Nat.le_trans hk6.1 (by decide)
      refine append_at (hsz := lz) kD.1 fun h7 hs7 ho7 => ?_
      have e7 : h7.get? D = some (lstO (us' ++ [uy]) (n' + 1)) := ho7.trans (by simp [lstO])
      have S7 := S6.updC memD (fun v q => by cases q) hs7 e7
      refine ⟨l'.length,Nat.lt_succ_self _,j + 1,acc' ++ [y],us' ++ [uy],n' + 1,_,c6,Z6,m4,g6,_,oK,by rw [hdrop],(hz4.trans hz5).trans hz6,(hr.trans hr5).trans hr6,fun q hq => ?_,S7,?_,hitK,mem_putC memD,ha6.app (rvl_cons.mpr ⟨uy,[],rfl,ry,rvl_nil.mpr rfl⟩),by rw [hdrop]; exact hk6.2⟩
      · exact mem_putC_ne (b := q.1) (o := q.2) (memB q hq) (hb q hq).2.1
      · exact mem_putC_ne memI hID
end
theorem cellsFrom_has : ∀ (ns : List (Str × NameKind)) (n : Nat) (acc : List (Str × Addr)) (y : Str),((y,NameKind.cell) ∈ ns ∨ (acc.lookup y).isSome = true) → ((cellsFrom n ns acc).lookup y).isSome = true
  | [],_,_,_,h => by rcases h with h | h; cases h; exact h
  | (x,k) :: r,n,acc,y,h => by
    unfold cellsFrom
    split
    · refine cellsFrom_has r _ _ y ?_
      rcases h with h | h
      · rcases List.mem_cons.mp h with e | h
        · cases e; exact .inr (by simp)
        · exact .inl h
      · refine .inr ?_
        rw [List.lookup_cons]
        split
        · rfl
        · exact h
    · rename_i hk
      refine cellsFrom_has r _ _ y ?_
      rcases h with h | h
      · rcases List.mem_cons.mp h with e | h
        · cases e; exact absurd rfl hk
        · exact .inl h
      · exact .inr h
theorem closL_keys (cells : List (Str × Addr)) : ∀ (ns : List (Str × NameKind)) (acc : List (Str × Addr)),∀ q ∈ closL cells ns acc,(q.1,NameKind.free) ∈ ns ∨ q ∈ acc
  | [],_,q,h => .inr h
  | (n,k) :: r,acc,q,h => by
    unfold closL at h
    rcases closL_keys cells r _ q h with h | h
    · exact .inl (.tail _ h)
    · split at h
      · rename_i hk
        split at h
        · rcases List.mem_cons.mp h with rfl | h
          · exact .inl (by rw [beq_iff_eq.mp hk]; exact .head _)
          · exact .inr h
        · exact .inr h
      · exact .inr h
section
variable {C : Cx} {scope : Scope} {names' : List Str} {pm : List (Option Nat)} {Z : Zm} {m : Str → Option Value} {g : List CC} {cs : List (Addr × Obj)} {lc : Lc} {cells : List Cell}
theorem kindIn {a : Addr} {oL : Obj} {Z1 : Zm} {x : Str} (hx : scope.names.lookup x = some .local ∨ scope.names.lookup x = some .cell) : KindOk (cCx C scope names' a oL Z1) x := by
  rcases hx with hx | hx
  · exact .inl (lookup_relabel_local hx)
  · exact .inr ⟨relabel_cell hx,cellsFrom_has _ _ _ _ (.inl (lookup_mem' hx))⟩
theorem baseIn {a : Addr} {oL : Obj} {Z1 : Zm} {x : Str} (nd : (scope.names.map (·.1)).Nodup) (hx : scope.names.lookup x = some .local ∨ scope.names.lookup x = some .cell) {b : Addr} (hb : b < a) (e : (cCx C scope names' a oL Z1).env.kindOf x = some .cell) : (cCx C scope names' a oL Z1).env.cells.lookup x ≠ some b := fun q => by
  rcases hx with hx | hx
  · have := lookup_relabel_local (env := C.env) hx
    rw [show (cCx C scope names' a oL Z1).env.kindOf x = _ from this] at e
    cases e
  · rcases cellsFrom_lookup _ _ _ _ _ (show (cellsFrom (a + 1) scope.names (closL C.env.cells scope.names [])).lookup x = some b from q) with ⟨o,ho⟩ | q
    · have := (ownC_ge _ _ _ ho).1
      exact Nat.lt_irrefl _ (Nat.lt_trans hb this)
    · rcases closL_keys _ _ _ _ (mem_of_lookup q) with h | h
      · have := nd_lookup nd h
        rw [hx] at this; cases this
      · cases h
theorem comp_core (hC : C.Ok) {elt iter : Expr} {x : Str} {px pos : Pos} {ifs : List Expr} {wt : WT} {wel : WE} (K : CompOk C scope names' pm) {jx : Nat} (hjx : names'[jx]? = some x) (hx : scope.names.lookup x = some .local ∨ scope.names.lookup x = some .cell)
    (hin : ∀ C' : Cx,C'.toGx = C.toGx → C'.n = C.n → C'.names = names' → C'.env = cEnv C scope C'.L → C'.Ok → STs C' ifs wt ∧ SE C' elt wel)
    {s : Shared} {E : Value → Shared → Prop} (S : St C Z m g cs lc cells s.heap) {v : V} {u : Value} (R : Rv C.an C.w.params Z (g.map CC.addr) v u) {k : List V → List Cell → Prop} (hw : overW C.q v (fun l => compW wt wel jx l (lcIn pm lc) cells [] (fun acc _ c => k acc c))) {Post : Value → Addr → Result → Shared → Prop}
    (fin : ∀ acc Z' g' s' a D oa m2 c',Zk (og s) (og s') Z Z' → Ale (g.map CC.addr) (g'.map CC.addr) → (∀ q ∈ cs,q.1 ≠ a) → (∀ v,oa.data ≠ .cell v) → NsO oa m2 → St C Z' m g' ((a,oa) :: cs) lc c' s'.heap → Rv C.an C.w.params Z' (g'.map CC.addr) (.lst acc) (.ref D) → k acc c' → Post (.ref D) a (.ok .next) s') :
    wpAny (model C.prog C.w) C.A (pyIter u) (fun it s₂ => wpAny (model C.prog C.w) C.A (newList []) (fun acc s₃ => wpAny (model C.prog C.w) C.A (newFunctionEnv scope C.env.globals (closL C.env.cells scope.names []) [] C.env.qual none .none (some C.env)) (fun cenv s₄ =>
      codeAny (model C.prog C.w) C.A (.compStart (.ListComp elt [⟨.Name x px,iter,ifs,0⟩] scope pos) 0 it acc { cenv with scope := relabel scope C.env }) (Post acc cenv.locals) s₄) E s₃) E s₂) E s := by
  refine it_make S.iv.kz hw R fun it l oI hq hv hit hfree hw' => ?_
  have S1 := S.addC hfree
  refine wpAny_newObj_type ?_
  have S2 := S1.addC (o := lstO [] 0) rfl
  refine newEnv_comp ?_
  let a := ((s.heap.push oI).push (lstO [] 0)).objs.size
  have keep : ∀ b o,((s.heap.push oI).push (lstO [] 0)).get? b = some o → (pushCells (((s.heap.push oI).push (lstO [] 0)).push { cls := .type "dict",data := .dict #[] }) scope.names).get? b = some o := fun b o e => pushCells_keeps _ _ _ _ (Heap.get?_push_of_some _ e)
  obtain ⟨oL,hNs,hoL,hC',S3⟩ := S2.into hC K (a := a) rfl keep ((Heap.Ns.new _ (.type "dict")).keeps (pushCells_keeps _ _)) (fun q hq => pushCells_at _ _ q (by rw [Heap.size_push]; exact hq))
  have e1 : ((newEnv scope a C.env.globals (cellsFrom (a + 1) scope.names (closL C.env.cells scope.names [])) C.env.qual none .none (some C.env) builtinsNs) : Env) = { (cEnv C scope a) with scope := scope } := rfl
  have lt1 : s.heap.objs.size < (s.heap.push oI).objs.size := by rw [Heap.size_push]; exact Nat.lt_succ_self _
  have lt2 : (s.heap.push oI).objs.size < a := by
    have : a = (s.heap.push oI).objs.size + 1 := Heap.size_push ..
    rw [this]; exact Nat.lt_succ_self _
  have csLt : ∀ q ∈ cs,q.1 < s.heap.objs.size := fun q hq => Heap.lt_size (S.iv.own q (List.mem_append_right _ hq)).1
  obtain ⟨hts,hes⟩ := hin (cCx C scope names' a oL Z) rfl rfl rfl rfl hC'
  have loop := comp_loop (C := cCx C scope names' a oL Z) (px := px) hC' (jx := jx) hjx (kindIn hx) hts hes hq hv (I := s.heap.objs.size) (D := (s.heap.push oI).objs.size) (Nat.ne_of_lt lt1) (base := cs)
    (fun q hq => ⟨Nat.ne_of_lt (csLt q hq),Nat.ne_of_lt (Nat.lt_trans (csLt q hq) lt1),baseIn K.nd hx (Nat.lt_trans (Nat.lt_trans (csLt q hq) lt1) lt2)⟩)
    (s := { s with heap := pushCells (((s.heap.push oI).push (lstO [] 0)).push { cls := .type "dict",data := .dict #[] }) scope.names }) S3 (List.mem_append_right _ (.tail _ (.head _))) hit (List.mem_append_right _ (.head _)) (fun q hq => List.mem_append_right _ (.tail _ (.tail _ hq)))
    (rvl_nil.mpr rfl) hw' (R := Post (.ref (s.heap.push oI).objs.size) a) (fun acc' c' Z' m' g' cs' lc' s' us' n' hz hr hb S' hD ha hk => ?_) (turn1 (scope := scope) (pos := pos) (iter := iter))
  · refine codeAny_compStart_list loop (it_self (q := C.q) (S3.iv.own _ (List.mem_append_right _ (List.mem_append_right _ (.tail _ (.head _))))).1 hit loop)
  · have kD := S'.iv.own (_,lstO us' n') (List.mem_append_right _ hD)
    have ndcs : (((((s.heap.push oI).objs.size,lstO us' n') :: cs).map (·.1))).Nodup := by
      rw [List.map_cons,List.nodup_cons]
      refine ⟨fun hm => ?_,S.iv.ndc⟩
      obtain ⟨q,hq,e⟩ := List.mem_map.mp hm
      have := csLt q hq
      rw [e] at this
      exact Nat.lt_irrefl _ (Nat.lt_trans lt1 this)
    obtain ⟨oa,hno,hna,hoff,S5⟩ := S.outA hNs S' (out := ((s.heap.push oI).objs.size,lstO us' n') :: cs) (fun q hq => by
      rcases List.mem_cons.mp hq with rfl | hq
      · exact hD
      · exact hb q hq) ndcs (fun q hq => .tail _ hq) hr
    obtain ⟨le,S6⟩ := S5.swapC.freezeC (fun v q => by cases q)
    refine fin acc' _ g' s' a _ oa m' c' (hz.trans le.k) hr (fun q hq => hoff q (.tail _ hq)) hno hna S6 (rv_lst.mpr ⟨_,us',_,rfl,Zput.at,⟨n',rfl⟩,ha.mono le .refl⟩) hk
theorem sComp (hC : C.Ok) {elt iter : Expr} {x : Str} {px pos : Pos} {ifs : List Expr} {we : WE} {wt : WT} {wel : WE} (names' : List Str) (pm : List (Option Nat)) (K : CompOk C scope names' pm) (jx : Nat) (hjx : names'[jx]? = some x) (hx : scope.names.lookup x = some .local ∨ scope.names.lookup x = some .cell)
    (hs : ∀ x,foldedSetIterable iter C.env x = pure x) (he : SE C iter we) (hin : ∀ C' : Cx,C'.toGx = C.toGx → C'.n = C.n → C'.names = names' → C'.env = cEnv C scope C'.L → C'.Ok → STs C' ifs wt ∧ SE C' elt wel) :
    SE C (.ListComp elt [⟨.Name x px,iter,ifs,0⟩] scope pos) (fun lc cells k X => we lc cells (fun v c1 => overW C.q v (fun l => compW wt wel jx l (lcIn pm lc) c1 [] (fun acc _ c2 => k (.lst acc) c2))) X) := by
  constructor; intro lc cells k X hw Z m g cs s Q E S hQ hE
  rw [eval_ListComp]
  have hnames : ∀ x ∈ scope.names,x.2 = .local → scope.names.lookup x.1 = some .local := fun x hm e => nd_lookup K.nd (by rw [← e]; exact hm)
  refine wpAny_comprehension_free (use := none) rfl hs (closureFor_ok K.has) K.kind hnames (he.run lc cells _ X hw Z m g cs s _ E S (fun v c1 Z1 g1 s1 u hz hr S1 R hk1 => ?_) hE)
  refine comp_core hC K hjx hx hin S1 R hk1 fun acc Z' g' s' a D oa m2 c' hz' hr' hoff hno hna S' rv hk => ?_
  obtain ⟨es,ep,hd,hkk,hf⟩ := hna
  refine ⟨m2,⟨oa,es,ep,(S'.iv.own (a,oa) (List.mem_append_right _ (.head _))).1,hd,hkk,hf⟩,fun h' hs' => ?_⟩
  have S7 := S'.dropC (.head _) hno (h' := h') fun b x hb e => (hs'.2 b hb).trans e
  rw [List.filter_cons,if_neg (by simp),filter_self hoff] at S7
  exact hQ (.lst acc) c' Z' g' _ _ (hz.trans hz') (hr.trans hr') S7 rv hk
theorem sCompSet (hC : C.Ok) {elt iter : Expr} {x y : Str} {px py pos spos : Pos} {ifs : List Expr} {we : WE} {wt : WT} {wel : WE} (iy : Nat) (hiy : C.names[iy]? = some y) (hky : KindOk C y) (names' : List Str) (pm : List (Option Nat)) (K : CompOk C scope names' pm) (jx : Nat) (hjx : names'[jx]? = some x) (hx : scope.names.lookup x = some .local ∨ scope.names.lookup x = some .cell)
    (hsw : swapsWith (.ListComp elt [⟨.Name x px,iter,ifs,0⟩] scope pos) (some (.Name y py)) spos.line C.env = pure true)
    (hs : ∀ x,foldedSetIterable iter C.env x = pure x) (he : SE C iter we) (hin : ∀ C' : Cx,C'.toGx = C.toGx → C'.n = C.n → C'.names = names' → C'.env = cEnv C scope C'.L → C'.Ok → STs C' ifs wt ∧ SE C' elt wel) :
    SSt C (.Assign [.Name y py] (.ListComp elt [⟨.Name x px,iter,ifs,0⟩] scope pos) spos) (fun lc cells k X => we lc cells (fun v c1 => overW C.q v (fun l => compW wt wel jx l (lcIn pm lc) c1 [] (fun acc _ c2 => k .next (lc.set iy (some (.lst acc))) c2))) X) := by
  constructor; intro lc cells k X hw Z m g cs s Q E S hQ hE
  have hnames : ∀ x ∈ scope.names,x.2 = .local → scope.names.lookup x.1 = some .local := fun x hm e => nd_lookup K.nd (by rw [← e]; exact hm)
  rw [exec_Assign_Name_used _ _ _ _ hsw]
  refine wpAny_bind (wpAny_standAt (wpAny_bind ?_))
  show wpAny _ C.A (do let _ ← comprehension (.ListComp elt [⟨.Name x px,iter,ifs,0⟩] scope pos) scope C.env _ (newList []) false (eval iter C.env) (some (assign (.Name y py) C.env))) _ _ s
  refine wpAny_bind (wpAny_mono (wpAny_comprehension_free (use := some (assign (.Name y py) C.env)) (Q := fun _ s' => Q .next s') rfl hs (closureFor_ok K.has) K.kind hnames
    (he.run lc cells _ X hw Z m g cs s _ E S (fun v c1 Z1 g1 s1 u hz hr S1 R hk1 => ?_) (fun c u s' rx hx => hE c u s' rx.s hx))) (fun _ s' hq => wpAny_pure (wpAny_pure hq)) fun _ _ e => e)
  refine comp_core hC K hjx hx hin S1 R hk1 fun acc Z' g' s' a D oa m2 c' hz' hr' hoff hno hna S' rv hk => ?_
  obtain ⟨es,ep,hd,hkk,hf⟩ := hna
  show wpAny _ C.A (assign (.Name y py) C.env (.ref D)) _ _ _
  refine wpAny_assign_Name (store_i hC hiy hky S' rv fun m3 cs3 s3 o3 hc3 S3 => ?_)
  have hm3 : (a,oa) ∈ cs3 := hc3 _ (.head _) hno
  refine ⟨m2,⟨oa,es,ep,(S3.iv.own (a,oa) (List.mem_append_right _ hm3)).1,hd,hkk,hf⟩,fun h' hs' => ?_⟩
  have S7 := S3.dropC hm3 hno (h' := h') fun b x hb e => (hs'.2 b hb).trans e
  exact hQ .next _ c' Z' m3 g' _ _ _ ((hz.trans hz').to o3) (hr.trans hr') (fun q hq hn => List.mem_filter.mpr ⟨hc3 q (.tail _ hq) hn,by simpa using hoff q hq⟩) S7 rfl hk
end
section
variable {C : Cx} {scope : Scope} {Z : Zm} {m : Str → Option Value} {g : List CC} {cs : List (Addr × Obj)} {lc : Lc} {cells : List Cell}
theorem compTurn_d1 (elt target iter : Expr) (ifs : List Expr) (g0 : Comprehension) (scope : Scope) (pos : Pos) (it acc : Value) (env : Env) :
    compTurn (.ListComp elt [g0,⟨target,iter,ifs,0⟩] scope pos) 1 it acc env = (standAt iter.pos >>= fun _ => pyNext it >>= fun r => match r with
      | none => pure (.done .next)
      | some v => letOwnedTupleGo target it v >>= fun _ => assign target env v >>= fun _ =>
        (forIn ifs true fun c r => if r = true then do let ok ← isTrue c env (eval c env); pure (ForInStep.yield ok) else pure (ForInStep.yield r)) >>= fun ok =>
        if ok = true then (eval elt env >>= fun x => call (.builtin "list.append") [acc,x] >>= fun _ => pure ()) >>= fun _ => again (.compLoop (.ListComp elt [g0,⟨target,iter,ifs,0⟩] scope pos) 1 it acc env)
        else again (.compLoop (.ListComp elt [g0,⟨target,iter,ifs,0⟩] scope pos) 1 it acc env)) := by rfl
theorem compTurn_d0 (elt target iter iter2 target2 : Expr) (ifs2 : List Expr) (scope : Scope) (pos : Pos) (it acc : Value) (env : Env) :
    compTurn (.ListComp elt [⟨target,iter,[],0⟩,⟨target2,iter2,ifs2,0⟩] scope pos) 0 it acc env = (standAt iter.pos >>= fun _ => pyNext it >>= fun r => match r with
      | none => pure (.done .next)
      | some v => letOwnedTupleGo target it v >>= fun _ => assign target env v >>= fun _ =>
        eval iter2 env >>= fun x => standAt iter2.pos >>= fun _ => foldedSetIterable iter2 env x >>= fun x => holding [x] (pyIter x) >>= fun it2 =>
        runOwn (.compStart (.ListComp elt [⟨target,iter,[],0⟩,⟨target2,iter2,ifs2,0⟩] scope pos) 1 it2 acc env) env >>= fun _ =>
        again (.compLoop (.ListComp elt [⟨target,iter,[],0⟩,⟨target2,iter2,ifs2,0⟩] scope pos) 0 it acc env)) := by rfl
theorem turnD1 {elt iter : Expr} {x : Str} {px : Pos} {ifs : List Expr} {pos : Pos} {I D : Addr} {g0 : Comprehension} {R : Result → Shared → Prop} : TurnRule C elt x px ifs I D (.compLoop (.ListComp elt [g0,⟨.Name x px,iter,ifs,0⟩] scope pos) 1 (.ref I) (.ref D) C.env) R := by
  intro Inv turn n s h
  refine codeAny_loop rfl Inv (fun n s hI => ?_) n h
  show wpAny _ C.A ((compTurn (.ListComp elt [g0,⟨.Name x px,iter,ifs,0⟩] scope pos) 1 (.ref I) (.ref D) C.env).onRaise (fun x => do noteFrame x C.env; theTreesLotGoes x)) _ _ s
  refine wpAny_noted ?_
  rw [compTurn_d1]
  refine wpAny_bind (wpAny_standAt (wpAny_bind (wpAny_mono (turn n s hI) (fun r s₁ h₁ => ?_) fun _ _ h' => h')))
  cases r with
  | none => exact wpAny_pure h₁
  | some v =>
    refine wpAny_bind (wpAny_of_eq (a := ()) rfl ?_)
    refine wpAny_bind (wpAny_mono h₁ (fun _ s₂ h₂ => wpAny_bind (wpAny_mono h₂ (fun ok s₃ h₃ => ?_) fun _ _ h' => h')) fun _ _ h' => h')
    cases ok with
    | false => exact wpAny_pure ⟨rfl,h₃⟩
    | true => exact wpAny_bind (wpAny_bind (wpAny_mono h₃ (fun x s₄ h₄ => wpAny_bind (wpAny_mono h₄ (fun _ s₅ h₅ => wpAny_pure (wpAny_pure ⟨rfl,h₅⟩)) fun _ _ h' => h')) fun _ _ h' => h'))
theorem start_d1 {elt : Expr} {g0 g1 : Comprehension} (ha : g1.is_async = 0) {pos : Pos} {it acc : Value} {env : Env} {R : Result → Shared → Prop} {s : Shared}
    (h0 : codeAny (model C.prog C.w) C.A (.compLoop (.ListComp elt [g0,g1] scope pos) 1 it acc env) R s)
    (h : wpAny (model C.prog C.w) C.A (pyIter it) (fun it' s' => codeAny (model C.prog C.w) C.A (.compLoop (.ListComp elt [g0,g1] scope pos) 1 it' acc env) R s') (notedBy (model C.prog C.w) C.A env fun x s' => R (.error x) s') s) :
    codeAny (model C.prog C.w) C.A (.compStart (.ListComp elt [g0,g1] scope pos) 1 it acc env) R s := by
  refine codeAny_of_tree ?_
  show wpAny _ _ ((compStart (.ListComp elt [g0,g1] scope pos) 1 it acc env).onRaise (fun x => do noteFrame x env; standAt theWindowsPlace)) _ _ s
  refine wpAny_notedAt ?_
  unfold compStart
  have e : (((clausesOf (.ListComp elt [g0,g1] scope pos))[1]?).elim false (·.is_async != 0)) = false := by
    show (g1.is_async != 0) = false
    rw [ha]; rfl
  rw [e]
  show wpAny _ _ (ask >>= _) _ _ s
  refine wpAny_bind (wpAny_askSetting (wpAny_ite ?_))
  split
  · first
      | exact wpAny_bind (wpAny_pure (wpAny_pure (And.intro rfl h0)))
      | exact wpAny_pure (And.intro rfl h0)
  · first
      | exact wpAny_bind (wpAny_rule (wpAny_bind (wpAny_standAt (wpAny_bind (wpAny_mono h (fun it' s' h' => wpAny_pure (And.intro rfl h')) fun _ _ x => x)))))
      | (refine wpAny_bind (wpAny_rule ?_); show wpAny _ _ (standAt g1.iter.pos >>= _) _ _ s; exact wpAny_bind (wpAny_standAt (wpAny_bind (wpAny_mono h (fun it' s' h' => wpAny_pure (And.intro rfl h')) fun _ _ x => x))))
noncomputable def tt_ : WT := fun _ cells k _ => k true cells
noncomputable def comp2W (we2 wel : WE) (q : Bool) (jx jy : Nat) : List V → Lc → List Cell → List V → (List V → Lc → List Cell → Prop) → Prop
  | [],lc,cells,acc,k => k acc lc cells
  | v :: l,lc,cells,acc,k => we2 (lc.set jx (some v)) cells (fun v2 c1 => overW q v2 (fun l2 => compW tt_ wel jy l2 (lc.set jx (some v)) c1 acc (fun acc2 lc2 c2 => comp2W we2 wel q jx jy l lc2 c2 acc2 k))) (fun _ => False)
theorem comp_loop2 (hC : C.Ok) {elt iter iter2 : Expr} {x y : Str} {px py pos : Pos} {we2 wel : WE} {jx jy : Nat} (hjx : C.names[jx]? = some x) (hkx : C.env.kindOf x = some .local) (hjy : C.names[jy]? = some y) (hky : C.env.kindOf y = some .local)
    (h2 : SE C iter2 we2) (hs2 : ∀ x,foldedSetIterable iter2 C.env x = pure x) (hel : SE C elt wel)
    {it : ItK} {l acc : List V} {us : List Value} {n : Nat} {I D : Addr} {oI : Obj} (hq : ItQ C.q it) (hv : ItV C.an C.w.params Z (g.map CC.addr) it l) (hID : I ≠ D) {base : List (Addr × Obj)} (hb : ∀ q ∈ base,q.1 ≠ I ∧ q.1 ≠ D)
    {s : Shared} (S : St C Z m g cs lc cells s.heap) (hI : (I,oI) ∈ cs) (hit : ItO it oI 0) (hD : (D,lstO us n) ∈ cs) (hbs : ∀ q ∈ base,q ∈ cs) (ha : RvL C.an C.w.params Z (g.map CC.addr) acc us) {k : List V → Lc → List Cell → Prop} (hw : comp2W we2 wel C.q jx jy l lc cells acc k) {R : Result → Shared → Prop}
    (fin : ∀ acc' cells' Z' m' g' cs' lc' s' us' n',Zk (og s) (og s') Z Z' → Ale (g.map CC.addr) (g'.map CC.addr) → (∀ q ∈ base,q ∈ cs') → St C Z' m' g' cs' lc' cells' s'.heap → (D,lstO us' n') ∈ cs' → RvL C.an C.w.params Z' (g'.map CC.addr) acc' us' → k acc' lc' cells' → R (.ok .next) s') :
    codeAny (model C.prog C.w) C.A (.compLoop (.ListComp elt [⟨.Name x px,iter,[],0⟩,⟨.Name y py,iter2,[],0⟩] scope pos) 0 (.ref I) (.ref D) C.env) R s := by
  let Inv : Nat → Shared → Prop := CompI C (og s) Z g base I D it l fun r lc' c' acc' => comp2W we2 wel C.q jx jy r lc' c' acc' k
  let cd : Code := .compLoop (.ListComp elt [⟨.Name x px,iter,[],0⟩,⟨.Name y py,iter2,[],0⟩] scope pos) 0 (.ref I) (.ref D) C.env
  refine codeAny_loop rfl Inv ?_ l.length
    ⟨0,acc,us,n,lc,cells,Z,m,g,cs,oI,rfl,.refl,.refl,hbs,S,hI,hit,hD,ha,hw⟩
  rintro i s' ⟨j,acc',us',n',lc',c',Z',m',g',cs',oJ,rfl,hz,hr,hbs',S',hI',hitJ,hD',ha',hw'⟩
  show wpAny _ C.A ((compTurn (.ListComp elt [⟨.Name x px,iter,[],0⟩,⟨.Name y py,iter2,[],0⟩] scope pos) 0 (.ref I) (.ref D) C.env).onRaise (fun x => do noteFrame x C.env; theTreesLotGoes x)) _ _ s'
  refine wpAny_noted ?_
  rw [compTurn_d0]
  refine wpAny_bind (wpAny_standAt (wpAny_bind ?_))
  have kI := S'.iv.own (_,oJ) (List.mem_append_right _ hI')
  have hv' := hv.mono hz.1 hr
  cases hl : l.drop j with
  | nil =>
    have hend : l[j]? = none := List.getElem?_eq_none_iff.mpr (List.drop_eq_nil_iff.mp hl)
    rw [hl] at hw'
    refine it_end hC.hd hq S'.iv.kp kI.2.2.1 S'.iv.kz hv' kI.1 hitJ hend fun h' hx => wpAny_pure ?_
    refine fin acc' c' Z' m' g' _ lc' _ us' n' hz hr (fun q hq => ?_) (S'.dropC hI' hitJ.noCell fun b' x hb e => hx b' x hb e) ?_ ha' hw'
    · exact List.mem_filter.mpr ⟨hbs' q hq,by simpa using (hb q hq).1⟩
    · exact List.mem_filter.mpr ⟨hD',by simpa using Ne.symm hID⟩
  | cons v l' =>
    have hat : l[j]? = some v := by
      have := congrArg (·[0]?) hl
      simpa using this
    have hdrop : l.drop (j + 1) = l' := by
      have := congrArg List.tail hl
      simpa using this
    rw [hl] at hw'
    refine it_item S'.iv.kz hv' kI.1 hitJ hat fun h' oK u tk hK hitK hsame rv => ?_
    have S3 := S'.updC hI' hitJ.noCell hsame hK
    dsimp only
    refine wpAny_bind (wpAny_of_eq (a := ()) rfl (wpAny_bind ?_))
    refine wpAny_assign_Name (store_j (s := ⟨h',_,_,tk,_⟩) hC hjx (.inl hkx) S3 rv fun m4 cs4 s4 o4 hc4 hc4' S4 => ?_)
    have hz4 : Zk (og s) (og s4) Z Z' := hz.to o4
    have memI : (I,oK) ∈ cs4 := hc4 _ (mem_putC hI') hitK.noCell
    have memD : (D,lstO us' n') ∈ cs4 := hc4 _ (mem_putC_ne hD' (Ne.symm hID)) fun v q => by cases q
    have memB : ∀ q ∈ base,q ∈ cs4 := fun q hq => hc4' q (mem_putC_ne (b := q.1) (o := q.2) (hbs' q hq) (hb q hq).1) fun q => by rw [hkx] at q; cases q
    refine wpAny_bind (h2.run _ c' _ _ hw' Z' m4 g' cs4 s4 _ _ S4 (fun v2 c5 Z5 g5 s5 u2 hz5 hr5 S5 rv2 hk5 => ?_) (fun c u s' _ hx => hx.elim))
    refine wpAny_bind (wpAny_standAt ?_)
    rw [hs2]
    refine wpAny_bind (wpAny_pure (wpAny_bind (wpAny_holding (it_make S5.iv.kz hk5 rv2 fun it2 l2 oI2 hq2 hv2 hit2 hfree2 hw5 => ?_))))
    have S6 := S5.addC hfree2
    have ha5 := ha'.mono hz5.1 hr5
    have lt5 : ∀ q ∈ cs4,q.1 < s5.heap.objs.size := fun q hq => Heap.lt_size (S5.iv.own q (List.mem_append_right _ hq)).1
    refine wpAny_bind (wpAny_runOwn ?_)
    have hA : C.A.mark none = C.A := by unfold Around.mark; rfl
    rw [hA]
    have loop := comp_loop (px := py) hC hjy (.inl hky) (ts0 (C := C)) hel hq2 hv2 (I := s5.heap.objs.size) (D := D) (Ne.symm (Nat.ne_of_lt (lt5 _ memD))) (base := (I,oK) :: base) (fun q hq => ?_) (s := { s5 with heap := s5.heap.push oI2 }) S6 (.head _) hit2 (.tail _ memD) (fun q hq => ?_) ha5 hw5
      (R := fun (r : Result) (t : Shared) => match r with
        | .ok _ => wpAny (model C.prog C.w) C.A (again cd) (fun fi t' => match fi with | .done f => R (.ok f) t' | .again c' => c' = cd ∧ ∃ mm,mm < (v :: l').length ∧ Inv mm t') (notedBy (model C.prog C.w) C.A C.env fun e t' => R (.error e) t') t
        | .error e => cameBackBy (model C.prog C.w) C.A C.env (notedBy (model C.prog C.w) C.A C.env fun e t' => R (.error e) t') e t)
      (fun acc7 c7 Z7 m7 g7 cs7 lc7 s7 us7 n7 hz7 hr7 hb7 S7 hD7 ha7 hk7 => ?_) (turnD1 (scope := scope) (pos := pos) (iter := iter2) (g0 := ⟨.Name x px,iter,[],0⟩))
    · exact start_d1 rfl loop (it_self (q := C.q) (S6.iv.own _ (List.mem_append_right _ (.head _))).1 hit2 loop)
    · rcases List.mem_cons.mp hq with rfl | hq
      · exact ⟨Nat.ne_of_lt (lt5 _ memI),hID,fun q => by rw [hky] at q; cases q⟩
      · exact ⟨Nat.ne_of_lt (lt5 _ (memB q hq)),(hb q hq).2,fun q => by rw [hky] at q; cases q⟩
    · rcases List.mem_cons.mp hq with rfl | hq
      · exact .tail _ memI
      · exact .tail _ (memB q hq)
    · exact wpAny_pure ⟨rfl,l'.length,Nat.lt_succ_self _,j + 1,acc7,us7,n7,lc7,c7,Z7,m7,g7,cs7,oK,by rw [hdrop],(hz4.trans hz5).trans hz7,(hr.trans hr5).trans hr7,fun q hq => hb7 q (.tail _ hq),S7,hb7 _ (.head _),hitK,hD7,ha7,by rw [hdrop]; exact hk7⟩
end
section
variable {C : Cx} {scope : Scope} {names' : List Str} {pm : List (Option Nat)} {Z : Zm} {m : Str → Option Value} {g : List CC} {cs : List (Addr × Obj)} {lc : Lc} {cells : List Cell}
theorem comp_core2 (hC : C.Ok) {elt iter iter2 : Expr} {x y : Str} {px py pos : Pos} {we2 wel : WE} (K : CompOk C scope names' pm) {jx jy : Nat} (hjx : names'[jx]? = some x) (hx : scope.names.lookup x = some .local) (hjy : names'[jy]? = some y) (hy : scope.names.lookup y = some .local)
    (hin : ∀ C' : Cx,C'.toGx = C.toGx → C'.n = C.n → C'.names = names' → C'.env = cEnv C scope C'.L → C'.Ok → SE C' iter2 we2 ∧ SE C' elt wel ∧ ∀ x,foldedSetIterable iter2 C'.env x = pure x)
    {s : Shared} {E : Value → Shared → Prop} (S : St C Z m g cs lc cells s.heap) {v : V} {u : Value} (R : Rv C.an C.w.params Z (g.map CC.addr) v u) {k : List V → List Cell → Prop} (hw : overW C.q v (fun l => comp2W we2 wel C.q jx jy l (lcIn pm lc) cells [] (fun acc _ c => k acc c))) {Post : Value → Addr → Result → Shared → Prop}
    (fin : ∀ acc Z' g' s' a D oa m2 c',Zk (og s) (og s') Z Z' → Ale (g.map CC.addr) (g'.map CC.addr) → (∀ q ∈ cs,q.1 ≠ a) → (∀ v,oa.data ≠ .cell v) → NsO oa m2 → St C Z' m g' ((a,oa) :: cs) lc c' s'.heap → Rv C.an C.w.params Z' (g'.map CC.addr) (.lst acc) (.ref D) → k acc c' → Post (.ref D) a (.ok .next) s') :
    wpAny (model C.prog C.w) C.A (pyIter u) (fun it s₂ => wpAny (model C.prog C.w) C.A (newList []) (fun acc s₃ => wpAny (model C.prog C.w) C.A (newFunctionEnv scope C.env.globals (closL C.env.cells scope.names []) [] C.env.qual none .none (some C.env)) (fun cenv s₄ =>
      codeAny (model C.prog C.w) C.A (.compStart (.ListComp elt [⟨.Name x px,iter,[],0⟩,⟨.Name y py,iter2,[],0⟩] scope pos) 0 it acc { cenv with scope := relabel scope C.env }) (Post acc cenv.locals) s₄) E s₃) E s₂) E s := by
  refine it_make S.iv.kz hw R fun it l oI hq hv hit hfree hw' => ?_
  have S1 := S.addC hfree
  refine wpAny_newObj_type ?_
  have S2 := S1.addC (o := lstO [] 0) rfl
  refine newEnv_comp ?_
  let a := ((s.heap.push oI).push (lstO [] 0)).objs.size
  have keep : ∀ b o,((s.heap.push oI).push (lstO [] 0)).get? b = some o → (pushCells (((s.heap.push oI).push (lstO [] 0)).push { cls := .type "dict",data := .dict #[] }) scope.names).get? b = some o := fun b o e => pushCells_keeps _ _ _ _ (Heap.get?_push_of_some _ e)
  obtain ⟨oL,hNs,hoL,hC',S3⟩ := S2.into hC K (a := a) rfl keep ((Heap.Ns.new _ (.type "dict")).keeps (pushCells_keeps _ _)) (fun q hq => pushCells_at _ _ q (by rw [Heap.size_push]; exact hq))
  have e1 : ((newEnv scope a C.env.globals (cellsFrom (a + 1) scope.names (closL C.env.cells scope.names [])) C.env.qual none .none (some C.env) builtinsNs) : Env) = { (cEnv C scope a) with scope := scope } := rfl
  have lt1 : s.heap.objs.size < (s.heap.push oI).objs.size := by rw [Heap.size_push]; exact Nat.lt_succ_self _
  have lt2 : (s.heap.push oI).objs.size < a := by
    have : a = (s.heap.push oI).objs.size + 1 := Heap.size_push ..
    rw [this]; exact Nat.lt_succ_self _
  have csLt : ∀ q ∈ cs,q.1 < s.heap.objs.size := fun q hq => Heap.lt_size (S.iv.own q (List.mem_append_right _ hq)).1
  obtain ⟨hts,hes,hs2⟩ := hin (cCx C scope names' a oL Z) rfl rfl rfl rfl hC'
  have loop := comp_loop2 (C := cCx C scope names' a oL Z) (scope := scope) (px := px) (py := py) (pos := pos) (iter := iter) hC' (jx := jx) (jy := jy) hjx (lookup_relabel_local hx) hjy (lookup_relabel_local hy) hts hs2 hes hq hv (I := s.heap.objs.size) (D := (s.heap.push oI).objs.size) (Nat.ne_of_lt lt1) (base := cs)
    (fun q hq => ⟨Nat.ne_of_lt (csLt q hq),Nat.ne_of_lt (Nat.lt_trans (csLt q hq) lt1)⟩)
    (s := { s with heap := pushCells (((s.heap.push oI).push (lstO [] 0)).push { cls := .type "dict",data := .dict #[] }) scope.names }) S3 (List.mem_append_right _ (.tail _ (.head _))) hit (List.mem_append_right _ (.head _)) (fun q hq => List.mem_append_right _ (.tail _ (.tail _ hq)))
    (rvl_nil.mpr rfl) hw' (R := Post (.ref (s.heap.push oI).objs.size) a) (fun acc' c' Z' m' g' cs' lc' s' us' n' hz hr hb S' hD ha hk => ?_)
  · refine codeAny_compStart_list loop (it_self (q := C.q) (S3.iv.own _ (List.mem_append_right _ (List.mem_append_right _ (.tail _ (.head _))))).1 hit loop)
  · have kD := S'.iv.own (_,lstO us' n') (List.mem_append_right _ hD)
    have ndcs : (((((s.heap.push oI).objs.size,lstO us' n') :: cs).map (·.1))).Nodup := by
      rw [List.map_cons,List.nodup_cons]
      refine ⟨fun hm => ?_,S.iv.ndc⟩
      obtain ⟨q,hq,e⟩ := List.mem_map.mp hm
      have := csLt q hq
      rw [e] at this
      exact Nat.lt_irrefl _ (Nat.lt_trans lt1 this)
    obtain ⟨oa,hno,hna,hoff,S5⟩ := S.outA hNs S' (out := ((s.heap.push oI).objs.size,lstO us' n') :: cs) (fun q hq => by
      rcases List.mem_cons.mp hq with rfl | hq
      · exact hD
      · exact hb q hq) ndcs (fun q hq => .tail _ hq) hr
    obtain ⟨le,S6⟩ := S5.swapC.freezeC (fun v q => by cases q)
    refine fin acc' _ g' s' a _ oa m' c' (hz.trans le.k) hr (fun q hq => hoff q (.tail _ hq)) hno hna S6 (rv_lst.mpr ⟨_,us',_,rfl,Zput.at,⟨n',rfl⟩,ha.mono le .refl⟩) hk
theorem sComp2 (hC : C.Ok) {elt iter iter2 : Expr} {x y : Str} {px py pos : Pos} {we we2 wel : WE} (names' : List Str) (pm : List (Option Nat)) (K : CompOk C scope names' pm) (jx jy : Nat) (hjx : names'[jx]? = some x) (hx : scope.names.lookup x = some .local) (hjy : names'[jy]? = some y) (hy : scope.names.lookup y = some .local)
    (hs : ∀ x,foldedSetIterable iter C.env x = pure x) (he : SE C iter we) (hin : ∀ C' : Cx,C'.toGx = C.toGx → C'.n = C.n → C'.names = names' → C'.env = cEnv C scope C'.L → C'.Ok → SE C' iter2 we2 ∧ SE C' elt wel ∧ ∀ x,foldedSetIterable iter2 C'.env x = pure x) :
    SE C (.ListComp elt [⟨.Name x px,iter,[],0⟩,⟨.Name y py,iter2,[],0⟩] scope pos) (fun lc cells k X => we lc cells (fun v c1 => overW C.q v (fun l => comp2W we2 wel C.q jx jy l (lcIn pm lc) c1 [] (fun acc _ c2 => k (.lst acc) c2))) X) := by
  constructor; intro lc cells k X hw Z m g cs s Q E S hQ hE
  rw [eval_ListComp]
  have hnames : ∀ x ∈ scope.names,x.2 = .local → scope.names.lookup x.1 = some .local := fun x hm e => nd_lookup K.nd (by rw [← e]; exact hm)
  refine wpAny_comprehension_free (use := none) rfl hs (closureFor_ok K.has) K.kind hnames (he.run lc cells _ X hw Z m g cs s _ E S (fun v c1 Z1 g1 s1 u hz hr S1 R hk1 => ?_) hE)
  refine comp_core2 hC K hjx hx hjy hy hin S1 R hk1 fun acc Z' g' s' a D oa m2 c' hz' hr' hoff hno hna S' rv hk => ?_
  obtain ⟨es,ep,hd,hkk,hf⟩ := hna
  refine ⟨m2,⟨oa,es,ep,(S'.iv.own (a,oa) (List.mem_append_right _ (.head _))).1,hd,hkk,hf⟩,fun h' hs' => ?_⟩
  have S7 := S'.dropC (.head _) hno (h' := h') fun b x hb e => (hs'.2 b hb).trans e
  rw [List.filter_cons,if_neg (by simp),filter_self hoff] at S7
  exact hQ (.lst acc) c' Z' g' _ _ (hz.trans hz') (hr.trans hr') S7 rv hk
end
noncomputable abbrev TW := Lc → List Cell → V → (Lc → List Cell → Prop) → (List Cell → Prop) → Prop
noncomputable def STg (C : Cx) (t : Value → PySem.Sem Unit) (tw : TW) : Prop := ∀ lc cells v k x,tw lc cells v k x → ∀ Z m g cs s Q E u,St C Z m g cs lc cells s.heap → Rv C.an C.w.params Z (g.map CC.addr) v u →
    (∀ lc' cells' Z' m' g' cs' s',Zk (og s) (og s') Z Z' → Ale (g.map CC.addr) (g'.map CC.addr) → Cle cs cs' → St C Z' m' g' cs' lc' cells' s'.heap → k lc' cells' → Q () s') →
    (∀ cells' u s',RXs C (og s) Z (g.map CC.addr) cells' u s' → x cells' → E u s') → wpAny (model C.prog C.w) C.A (t u) Q E s
noncomputable abbrev TWs := Lc → List Cell → List V → (Lc → List Cell → Prop) → (List Cell → Prop) → Prop
noncomputable def STgs (C : Cx) (ts : List (Value → PySem.Sem Unit)) (tw : TWs) : Prop := ∀ lc cells vs k x,tw lc cells vs k x → ∀ Z m g cs s Q E us,St C Z m g cs lc cells s.heap → RvL C.an C.w.params Z (g.map CC.addr) vs us →
    (∀ lc' cells' Z' m' g' cs' s',Zk (og s) (og s') Z Z' → Ale (g.map CC.addr) (g'.map CC.addr) → Cle cs cs' → St C Z' m' g' cs' lc' cells' s'.heap → k lc' cells' → Q () s') →
    (∀ cells' u s',RXs C (og s) Z (g.map CC.addr) cells' u s' → x cells' → E u s') → wpAny (model C.prog C.w) C.A (assignInOrder ts us) Q E s
section
variable {C : Cx}
theorem tgNil : STgs C [] (fun lc cells vs k _ => match vs with | [] => k lc cells | _ => False) := by
  intro lc cells vs k x hw Z m g cs s Q E us S R hQ hE
  split at hw
  · rw [rvl_nil.mp R]
    exact wpAny_pure (hQ lc cells Z m g cs s .refl .refl .refl S hw)
  · exact hw.elim
theorem tgCons (hC : C.Ok) {t : Value → PySem.Sem Unit} {ts : List (Value → PySem.Sem Unit)} {tw : TW} {tws : TWs} (h : STg C t tw) (hs : STgs C ts tws) :
    STgs C (t :: ts) (fun lc cells vs k x => match vs with | v :: vs => tw lc cells v (fun lc1 c1 => tws lc1 c1 vs k x) x | _ => False) := by
  intro lc cells vs k x hw Z m g cs s Q E us S R hQ hE
  split at hw
  · rename_i v vs
    obtain ⟨u,us,rfl,r1,r2⟩ := rvl_cons.mp R
    refine wpAny_bind (wpAny_holding (h lc cells v _ x hw Z m g cs s _ E u S r1 (fun lc1 c1 Z1 m1 g1 cs1 s1 hz hr hc S1 hk => ?_) hE))
    exact hs lc1 c1 vs k x hk Z1 m1 g1 cs1 s1 Q E us S1 (r2.mono hz.1 hr) (fun lc2 c2 Z2 m2 g2 cs2 s2 hz2 hr2 hc2 S2 hk2 => hQ lc2 c2 Z2 m2 g2 cs2 s2 (hz.trans hz2) (hr.trans hr2) (hc.trans hc2) S2 hk2) (fun c u s' rx hx => hE c u s' (RXs.up S S1 hz hr rx) hx)
  · exact hw.elim
theorem tgBind (hC : C.Ok) {y : Str} (i : Nat) (hi : C.names[i]? = some y) (hk : KindOk C y) : STg C (bindName C.env y) (fun lc cells v k _ => k (lc.set i (some v)) cells) := by
  intro lc cells v k x hw Z m g cs s Q E u S R hQ hE
  exact bindName_ (store_i hC hi hk S R fun m' cs' s' o2 hc S' => hQ _ cells Z m' g cs' s' (Zk.refl.to o2) .refl hc S' hw)
theorem tgName (hC : C.Ok) {y : Str} {pos : Pos} (i : Nat) (hi : C.names[i]? = some y) (hk : KindOk C y) : STg C (assign (.Name y pos) C.env) (fun lc cells v k _ => k (lc.set i (some v)) cells) := by
  intro lc cells v k x hw Z m g cs s Q E u S R hQ hE
  exact assign_Name (store_i hC hi hk S R fun m' cs' s' o2 hc S' => hQ _ cells Z m' g cs' s' (Zk.refl.to o2) .refl hc S' hw)
theorem RvL.reverse {an P Z r} : ∀ {l : List V} {us : List Value},RvL an P Z r l us → RvL an P Z r l.reverse us.reverse
  | [],_,h => by rw [rvl_nil.mp h]; exact rvl_nil.mpr rfl
  | _ :: _,_,h => by
    obtain ⟨u,us,rfl,a,b⟩ := rvl_cons.mp h
    rw [List.reverse_cons,List.reverse_cons]
    exact b.reverse.app (rvl_cons.mpr ⟨u,[],rfl,a,rvl_nil.mpr rfl⟩)
noncomputable def tupV (n : Nat) (v : V) (kk : List V → Prop) : Prop := match v with
  | .tup l => okW (Nat.beq l.length n) (kk l)
  | _ => False
theorem unpack_at (hC : C.Ok) (hq : C.q = true) {Z : Zm} {m : Str → Option Value} {g : List CC} {cs : List (Addr × Obj)} {lc : Lc} {cells : List Cell} {s : Shared} {n : Nat} {v : V} {u : Value} {kk : List V → Prop} (S : St C Z m g cs lc cells s.heap) (R : Rv C.an C.w.params Z (g.map CC.addr) v u) (hw : tupV n v kk)
    {Q : List Value → Shared → Prop} {E : Value → Shared → Prop} (hQ : ∀ l us h',St C Z m g cs lc cells h' → RvL C.an C.w.params Z (g.map CC.addr) l us → kk l → Q us { s with heap := h' }) : wpAny (model C.prog C.w) C.A (unpackItems u n none) Q E s := by
  unfold tupV at hw
  split at hw
  · rename_i l
    obtain ⟨a,us,n',rfl,hz,rl⟩ := rv_tup.mp R
    replace hw := okW_iff hw
    have e : n = us.toArray.size := by rw [List.size_toArray,rl.len]; exact (Nat.eq_of_beq_eq_true hw.1).symm
    rw [e]
    refine unpackItems_tuple (items := us.toArray) (hC.hd.1 hq) ⟨_,S.iv.kz _ _ hz,rfl,n',rfl⟩ fun h' he => ?_
    exact hQ l us h' (S.grow fun b o e => he b o (Nat.ne_of_lt (Heap.lt_size e)) e) rl hw.2
  · exact hw.elim
theorem sTupSet (hC : C.Ok) (hq : C.q = true) {elts : List Expr} {k₀ : Nat} {tpos pos : Pos} {value : Expr} {we : WE} {tws : TWs} (n : Nat) (hs : swapsWithSole [.Tuple elts k₀ tpos] value pos.line C.env = pure false) (hw : swappedStores [.Tuple elts k₀ tpos] value C.env = pure none)
    (hn : (assignEach elts C.env).length = n) (hstar : (assignEach elts C.env).findIdx? (·.1) = none) (he : SE C value we) (ht : STgs C ((assignEach elts C.env).map (·.2)) tws) :
    SSt C (.Assign [.Tuple elts k₀ tpos] value pos) (fun lc cells k X => we lc cells (fun v c1 => tupV n v (fun l => tws lc c1 l (fun lc2 c2 => k .next lc2 c2) X)) X) := by
  constructor; intro lc cells k X hw' Z m g cs s Q E S hQ hE
  refine Assign_Tuple (he.run lc cells _ X hw' Z m g cs s _ E S (fun v c1 Z1 g1 s1 u hz hr S1 R hk => ?_) (fun c u s' rx hx => hE c u s' rx.s hx)) hs hw
  rw [assign_Tuple]
  refine wpAny_bind (wpAny_standAt ?_)
  unfold unpack
  rw [hn,hstar]
  refine wpAny_bind (wpAny_holding (unpack_at hC hq S1 R hk fun l us h' S2 rl hk2 => ?_))
  exact ht lc c1 l _ X hk2 Z1 m g1 cs { s1 with heap := h' } _ E us S2 rl (fun lc2 c2 Z2 m2 g2 cs2 s2 hz2 hr2 hc2 S3 hk3 => hQ .next lc2 c2 Z2 m2 g2 cs2 s2 .next (hz.trans hz2) (hr.trans hr2) hc2 S3 rfl hk3) (fun c u s' rx hx => hE c u s' (RXs.up S S1 hz hr rx) hx)
theorem sTupSwap (hC : C.Ok) (hq : C.q = true) {elts : List Expr} {k₀ : Nat} {tpos pos : Pos} {value : Expr} {we : WE} {tws : TWs} (names : List Str) (n : Nat) (hnl : names.length = n) (hs : swapsWithSole [.Tuple elts k₀ tpos] value pos.line C.env = pure false) (hw : swappedStores [.Tuple elts k₀ tpos] value C.env = pure (some names))
    (he : SE C value we) (ht : STgs C (names.reverse.map fun y => bindName C.env y) tws) :
    SSt C (.Assign [.Tuple elts k₀ tpos] value pos) (fun lc cells k X => we lc cells (fun v c1 => tupV n v (fun l => tws lc c1 l.reverse (fun lc2 c2 => k .next lc2 c2) X)) X) := by
  constructor; intro lc cells k X hw' Z m g cs s Q E S hQ hE
  subst hnl
  refine Assign_Tuple_swapped (he.run lc cells _ X hw' Z m g cs s _ E S (fun v c1 Z1 g1 s1 u hz hr S1 R hk => ?_) (fun c u s' rx hx => hE c u s' rx.s hx)) hs hw
  refine unpack_at hC hq S1 R hk fun l us h' S2 rl hk2 => ?_
  exact ht lc c1 l.reverse _ X hk2 Z1 m g1 cs { s1 with heap := h' } _ E us.reverse S2 rl.reverse (fun lc2 c2 Z2 m2 g2 cs2 s2 hz2 hr2 hc2 S3 hk3 => hQ .next lc2 c2 Z2 m2 g2 cs2 s2 .next (hz.trans hz2) (hr.trans hr2) hc2 S3 rfl hk3) (fun c u s' rx hx => hE c u s' (RXs.up S S1 hz hr rx) hx)
theorem tgAttr (hC : C.Ok) {o : Expr} {attr : Str} {tp : Pos} {wo : WE} (ka : Nat) (hka : ka < 64) (ha : C.an ka = attr) (ho : SE C o wo) :
    STg C (assign (.Attribute o attr tp) C.env) (fun lc cells v k X => wo lc cells (fun vo c2 => setAV C.T c2 vo ka v (fun c3 => k lc c3)) X) := by
  intro lc cells v k X hw Z m g cs s Q E u S R hQ hE
  have e : assign (.Attribute o attr tp) C.env u = (do let ov ← holding [u] (eval o C.env); standAt tp.atName; holding [u,ov] (setAttr ov attr u); release [u,ov] []) := by first | rfl | (unfold assign; rfl)
  rw [e]
  refine wpAny_bind (wpAny_holding (ho.run lc cells _ X hw Z m g cs s _ E S (fun vo c1 Z1 g1 s1 uo hz hr S1 R1 hk => ?_) (fun c u s' rx hx => hE c u s' rx.s hx)))
  refine wpAny_bind (wpAny_standAt (wpAny_bind (wpAny_holding (setAV_at hC S1 hka ha R1 (R.mono hz.1 hr) hk fun c3 g3 s3 o3 hr3 S3 hk3 => ?_))))
  exact wpAny_release (hQ lc c3 Z1 m g3 cs s3 (hz.to o3) (hr.trans hr3) .refl S3 hk3)
end
noncomputable def atL : List String := ["number","code","font","parts","left","right","kind","width","height","depth","items","shift","sign","order","ratio","stretch","stretch_order","shrink","shrink_order","natural","sort","glue","leader","value","pre","post","middle","tokens","size","top","cost","is_on","octets","spans","totals","is_vertical","reason","chars","name","design","check","params","program","kerns","boundary","edge_start","hyphen_char","skew_char","add","widen","stretch_top","shrink_top","a52","a53","a54","a55","a56","a57","a58","a59","a60","a61","a62","a63"]
noncomputable def anm (i : Nat) : Str := S (atL.getD i "")
noncomputable def ownT : List (Nat × List Nat) := [(246,[7,15,16,17,18]),(309,[19,15,17]),(364,[2,1]),(384,[2,1,3,4,5]),(405,[6,7,8,9,10,11,12,13,14]),(426,[7,8,9]),(447,[7,20]),(469,[21,20,22]),(490,[23]),
  (511,[24,25,26]),(532,[27]),(553,[0,28,9,29,30,10]),(574,[10]),(595,[31,7]),(616,[32]),(638,[7,8,9,10,33,34,35]),(968,[0,38,28,39,40,41,37,42,43,44,45,46,47])]
noncomputable def cstT : List ((Nat × Nat) × Int) := [((364,6),0),((384,6),1),((426,6),4),((447,6),5),((469,6),6),((490,6),7),((511,6),8),((532,6),9),((553,6),10),((574,6),11),((595,6),12),((616,6),13),((638,6),14)]
noncomputable def methT : List ((Nat × Nat) × Nat) := [((246,3),200),((309,48),278),((309,49),285),((309,50),292),((309,51),299),((968,7),909),((968,8),916),((968,9),923)]
noncomputable def tb : Tb := { own := fun c k => (ownT.lookup c).any (·.contains k),cst := fun c k => (cstT.lookup (c,k)).map V.int,meth := fun c k => methT.lookup (c,k) }
noncomputable def ownChk (K : Frag) (c k : Nat) : Bool := hasDictIn K c && (findIn K (.ref c) "__getattribute__" == some (some (.builtin "object.__getattribute__"))) && ((findIn K (.ref c) (anm k)).any fun a => noGet K a) &&
  (takerIn K c (anm k) == some none) && plainOver K c && (findIn K (.ref c) "__setattr__" == some (some (.builtin "object.__setattr__")))
noncomputable def cstChk (K : Frag) (c k : Nat) (i : Int) : Bool := hasDictIn K c && k.blt 64 && (findIn K (.ref c) "__getattribute__" == some (some (.builtin "object.__getattribute__"))) && (match findIn K (.ref c) (anm k) with
  | some (some a) => (specialIn K a "__get__" == some none) && handedIn a && !copiedNames.contains (anm k) && (match a with | .int j _ => j == i | _ => false)
  | _ => false)
noncomputable def methChk (K : Frag) (c k f : Nat) : Bool := hasDictIn K c && k.blt 64 && plainGet K c (anm k) && (findIn K (.ref c) (anm k) == some (some (.ref f))) && isFn K (.ref f) && fnIn K f
noncomputable def tbChk (K : Frag) : Bool := (ownT.all fun p => p.2.all fun k => ownChk K p.1 k) && (cstT.all fun p => cstChk K p.1.1 p.1.2 p.2) && (methT.all fun p => methChk K p.1.1 p.1.2 p.2)
theorem tbChk_ok (P : Params) : tbChk (K P) = true := by kernel_rfl
theorem anm_inj : ((List.range 64).all fun i => (List.range 64).all fun j => (i == j) || !(anm i == anm j)) = true := by kernel_rfl
theorem lookup_mem2 {α β : Type} [BEq α] [LawfulBEq α] {l : List (α × β)} {x : α} {k : β} (h : l.lookup x = some k) : (x,k) ∈ l := lookup_mem' h
theorem tb_ok (P : Params) : tb.Ok (K P) P anm := by
  have H := tbChk_ok P
  unfold tbChk at H
  rw [Bool.and_eq_true,Bool.and_eq_true] at H
  obtain ⟨⟨h1,h2⟩,h3⟩ := H
  rw [List.all_eq_true] at h1 h2 h3
  refine ⟨fun i j hi hj e => ?_,fun c k h => ?_,fun c k v h => ?_,fun c k f h => ?_⟩
  · have I := anm_inj
    rw [List.all_eq_true] at I
    have I := I i (List.mem_range.mpr hi)
    rw [List.all_eq_true] at I
    have I := I j (List.mem_range.mpr hj)
    rw [e,beq_self_eq_true,Bool.not_true,Bool.or_false] at I
    exact beq_iff_eq.mp I
  · have h : (ownT.lookup c).any (·.contains k) = true := h
    cases q : ownT.lookup c with
    | none => rw [q] at h; cases h
    | some l =>
      rw [q] at h
      have hk : k ∈ l := by simpa using h
      have := h1 (c,l) (lookup_mem2 q)
      rw [List.all_eq_true] at this
      have := this k hk
      unfold ownChk at this
      simp only [Bool.and_eq_true,beq_iff_eq,Option.any_eq_true] at this
      obtain ⟨⟨⟨⟨⟨a1,a2⟩,a3⟩,a4⟩,a5⟩,a6⟩ := this
      obtain ⟨x,a3,a3'⟩ := a3
      exact ⟨a1,a2,⟨x,a3,a3'⟩,a4,a5,a6⟩
  · have h : (cstT.lookup (c,k)).map V.int = some v := h
    obtain ⟨i,q,e⟩ := Option.map_eq_some_iff.mp h
    subst e
    have := h2 ((c,k),i) (lookup_mem2 q)
    unfold cstChk at this
    simp only [Bool.and_eq_true,beq_iff_eq] at this
    obtain ⟨⟨⟨a1,a2⟩,a3⟩,a4⟩ := this
    split at a4
    · rename_i a ha
      simp only [Bool.and_eq_true,beq_iff_eq,Bool.not_eq_true'] at a4
      obtain ⟨⟨⟨b1,b2⟩,b3⟩,b4⟩ := a4
      refine ⟨a1,Nat.blt_eq.mp a2,a3,a,ha,b1,b2,b3,fun Z r => ?_⟩
      split at b4
      · rename_i j t
        rw [beq_iff_eq] at b4; subst b4
        exact rv_int.mpr ⟨_,rfl⟩
      · cases b4
    · cases a4
  · have h : methT.lookup (c,k) = some f := h
    have := h3 ((c,k),f) (lookup_mem2 h)
    unfold methChk at this
    simp only [Bool.and_eq_true,beq_iff_eq] at this
    obtain ⟨⟨⟨⟨⟨a1,a2⟩,a3⟩,a4⟩,a5⟩,a6⟩ := this
    exact ⟨a1,Nat.blt_eq.mp a2,a3,a4,a5,a6⟩
noncomputable def lettersV : V := .lst [.tup [.int 97,.int 5,.int 7,.int 2],.tup [.int 98,.int 11,.int 3,.int 0],.tup [.int 99,.int 4,.int 1,.int 9]]
noncomputable def nocharV : V := .tup [.int 0,.int 0,.int 0,.int 0,.int 0,.int 0]
noncomputable def paramsV : V := .tup [.int 0,.int 196608,.int 98304,.int 65536,.int 262144,.int 655360,.int 65536]
structure IsG (G : Gx) : Prop where
  k : G.K = K G.w.params
  lt : ∀ Z r,Zle G.zg Z → Rv G.an G.w.params Z r lettersV (.ref 993)
  nt : ∀ Z r,Zle G.zg Z → Rv G.an G.w.params Z r nocharV (.ref 828)
  sp : ∀ Z r,Zle G.zg Z → Rv G.an G.w.params Z r paramsV (.ref 829)
  e0 : ∀ Z r,Zle G.zg Z → Rv G.an G.w.params Z r (.tup []) (.ref 980)
  e1 : ∀ Z r,Zle G.zg Z → Rv G.an G.w.params Z r (.tup []) (.ref 981)
  an : G.an = anm
  t : G.T = tb
  ovf : G.ovf = 64
theorem gl {G : Gx} (I : IsG G) {y : Str} {u : Option Value} (e : ∀ P,nsIn (K P) mainGlobals y = some u) : nsIn G.K mainGlobals y = some u := by rw [I.k]; exact e _
theorem kpk {G : Gx} (I : IsG G) {f : Value} (e : ∀ P,keepIn (K P) f = true) : keepIn G.K f = true := by rw [I.k]; exact e _
theorem nm {C : Cx} {l : List Str} (h : C.names = l) {i : Nat} {y : Str} (e : l[i]? = some y) : C.names[i]? = some y := by rw [h]; exact e
theorem kd {C : Cx} {sc : Scope} (h : C.env.scope = sc) {y : Str} {k : NameKind} (e : sc.names.lookup y = some k) : C.env.kindOf y = some k := by unfold Env.kindOf; rw [h]; exact e
theorem sDead {C : Cx} {t : PySem.Sem Flow} : SS C t (fun _ _ _ _ => False) := ⟨fun _ _ _ _ h => h.elim⟩
theorem Sem.le {G : Gx} {n n' : Nat} (hn : n ≤ n') {f : Value} {args : List V} {cells : List Cell} {Q : V → List Cell → Prop} {X : List Cell → Prop} (h : Sem G n f args cells Q X) : Sem G n' f args cells Q X :=
  ⟨fun A fr P Z g s vals R a b c d e => h.run A fr P Z g s vals R a b c (by omega) (by omega)⟩
theorem Sem.use {G : Gx} {n n' : Nat} {f : Value} {args : List V} {cells : List Cell} {Q Q' : V → List Cell → Prop} {X X' : List Cell → Prop} (h : Sem G n f args cells Q X) (hn : n ≤ n') (hQ : ∀ v c,Q v c → Q' v c) (hX : ∀ c,X c → X' c) : Sem G n' f args cells Q' X' := (h.mono hQ hX).le hn
noncomputable def pD : Params := { strHash := fun _ => 0,shareClass := fun _ => 0,mergeTok := id,idOf := fun _ => 0,idOfShared := fun _ _ => 0,followText := fun _ => false,idOfImm := fun _ => 0 }
noncomputable def fdK (a : Nat) : FuncData := match (K pD).lookup a with
  | some ⟨_,_,.func f,_⟩ => f
  | _ => default
noncomputable def bodyK (a : Nat) : List Stmt := match (fdK a).body with
  | .stmts b => b
  | _ => []
noncomputable def isStmts : FuncBody → Bool
  | .stmts _ => true
  | _ => false
structure FnC (G : Gx) (a : Addr) (fd : FuncData) (body : List Stmt) (pn names : List Str) : Prop where
  at_ : ∃ oc od osl,G.K.lookup a = some ⟨oc,od,.func fd,osl⟩
  code : codeIn G.K fd.code fd.qualname = true
  body : fd.body = .stmts body
  glob : fd.globals = mainGlobals
  clo : fd.closure = []
  blt : fd.builtins = builtinsNs
  kind : fd.scope.kind = .function
  co : fd.scope.isCoroutine = false
  gen : fd.scope.isGenerator = false
  nodup : names.Nodup
  pre : ∃ l,names = pn ++ l
  loc : ∀ y ∈ names,fd.scope.names.lookup y = some .local ∨ fd.scope.names.lookup y = some .cell
noncomputable def setAll (j : Nat) : List V → Lc → Lc
  | [],lc => lc
  | v :: vs,lc => setAll (j + 1) vs (lc.set j (some v))
theorem setAll_eq : ∀ (vs : List V) (pre rest : Lc),vs.length ≤ rest.length → setAll pre.length vs (pre ++ rest) = pre ++ (vs.map some ++ rest.drop vs.length)
  | [],pre,rest,_ => by simp [setAll]
  | v :: vs,pre,[],h => by simp at h
  | v :: vs,pre,r :: rest,h => by
    have ih := setAll_eq vs (pre ++ [some v]) rest (by simpa using h)
    unfold setAll
    rw [List.set_append_right _ _ (Nat.le_refl _),Nat.sub_self,List.set_cons_zero]
    rw [List.length_append,List.length_singleton,List.append_assoc] at ih
    rw [show pre ++ some v :: rest = pre ++ ([some v] ++ rest) from rfl,ih]
    simp
theorem bindLoop {C : Cx} (hC : C.Ok) {Z : Zm} {g : List CC} {cells : List Cell} {A : Around} {E : Value → Shared → Prop} {Q : PUnit → Shared → Prop} (f : Str × Value → PUnit → PySem.Sem (ForInStep PUnit)) (hf : ∀ x u,f (x,u) PUnit.unit = (do storeName C.env x u; pure (ForInStep.yield PUnit.unit))) :
    ∀ (pn : List Str) (vs : List V) (us : List Value) (j : Nat) (lc : Lc) (m : Str → Option Value) (cs : List (Addr × Obj)) (s : Shared),(∀ i y,pn[i]? = some y → C.names[j + i]? = some y) → (∀ y ∈ pn,C.env.kindOf y = some .local ∨ (C.env.kindOf y = some .cell ∧ (C.env.cells.lookup y).isSome = true)) → pn.length = vs.length →
      St C Z m g cs lc cells s.heap → RvL C.an C.w.params Z (g.map CC.addr) vs us → (∀ m' cs' s',og s = og s' → St C Z m' g cs' (setAll j vs lc) cells s'.heap → Q PUnit.unit s') → wpAny (model C.prog C.w) A (forIn (pn.zip us) PUnit.unit f) Q E s
  | [],[],us,j,lc,m,cs,s,_,_,_,S,_,hQ => by rw [List.zip_nil_left,List.forIn_nil]; exact wpAny_pure (hQ m cs s rfl S)
  | [],_ :: _,_,_,_,_,_,_,_,_,e,_,_,_ => by cases e
  | _ :: _,[],_,_,_,_,_,_,_,_,e,_,_,_ => by cases e
  | y :: pn,v :: vs,us,j,lc,m,cs,s,hn,hk,hl,S,R,hQ => by
    obtain ⟨u,us,rfl,r1,r2⟩ := rvl_cons.mp R
    rw [List.zip_cons_cons,List.forIn_cons,hf]
    refine wpAny_bind (wpAny_bind (store_i hC (i := j) (by simpa using hn 0 y rfl) (hk y (.head _)) S r1 fun m' cs' s' o2 _ S' => wpAny_pure ?_))
    exact bindLoop hC f hf pn vs us (j + 1) _ m' cs' s' (fun i y' hi => by have := hn (i + 1) y' (by simpa using hi); rwa [Nat.add_right_comm] ) (fun y' hy => hk y' (.tail _ hy)) (by simpa using hl) S' r2 fun m2 cs2 s2 o3 S2 => hQ m2 cs2 s2 (o2.trans o3) S2
noncomputable def SemF (p : List Env → Prop) (G : Gx) (n : Nat) (f : Value) (args : List V) (cells : List Cell) (Q : V → List Cell → Prop) (X : List Cell → Prop) : Prop :=
  ∀ (A : Around) (fr : List Env) (P Z : Zm) (g : List CC) (s : Shared) (vals : List Value) (R : Result → Shared → Prop),p fr →
    A.frames = some fr → FrP P Z fr → Hd G.q A P → A.depth + n < 1000 → A.units + 4 * n < 9000 → Zle G.P0 P → Zle G.zg Z → Hp P Z g s.heap → CRs G.an G.w.params Z (g.map CC.addr) cells g → RvL G.an G.w.params Z (g.map CC.addr) args vals →
    (∀ v cells' Z' g' s' u,Zk (og s) (og s') Z Z' → Ale (g.map CC.addr) (g'.map CC.addr) → Hp P Z' g' s'.heap → CRs G.an G.w.params Z' (g'.map CC.addr) cells' g' → (∀ b o,Z' b = some o → Z b = some o ∨ P b = none) →
      Rv G.an G.w.params Z' (g'.map CC.addr) v u → Q v cells' → R (.ok (.ret u)) s') →
    (∀ cells' u s',RaisedAt G (og s) fr P Z (g.map CC.addr) cells' u s' → X cells' → R (.error u) s') → codeAny (model G.prog G.w) A (.call f ⟨vals,[]⟩) R s
theorem sem_fnCF {p : List Env → Prop} {G : Gx} (hG : G.Ok) {n : Nat} {a : Addr} {fd : FuncData} {body : List Stmt} {pn names : List Str} (F : FnC G a fd body pn names) {args dv : List V} {dvals : List Value} {cells : List Cell} {Q : V → List Cell → Prop} {X : List Cell → Prop}
    (hdv : ∀ Z r,Zle G.zg Z → RvL G.an G.w.params Z r dv dvals) (hb : BindOk G fd args.length pn dvals) (hl : pn.length = args.length + dv.length)
    (h : ∀ C : Cx,C.toGx = G → C.n = n → C.names = names → C.env.scope = fd.scope → C.env.cells = cellsFrom (C.L + 1) fd.scope.names [] → C.Ok → (∃ fr,p fr ∧ C.frs = C.env :: fr ∧ C.env.frame = some C.L) → ∃ ws,SSs C body ws ∧ ws ((args ++ dv).map some ++ (names.drop pn.length).map fun _ => none) cells (back Q) X) :
    SemF p G (n + 1) (.ref a) args cells Q X := by
  intro A fr P Z g s vals R hpf hfr hfp hhd hdep hun hP hzg H cr rv hR hE
  obtain ⟨oc,od,osl,hlk⟩ := F.at_
  have XK := hG.inK s.heap fun b o e => H.kp b o (hP b o e)
  have lv : vals.length = args.length := rv.len
  refine codeAny_call_function (show A.depth < recursionLimit by unfold recursionLimit; omega) (XK _ _ hlk) rfl F.co F.gen F.body (codeRec_of XK F.code) (hb s vals XK lv _ _ _ _ ?_)
  let env : Env := newEnv fd.scope s.heap.objs.size fd.globals (cellsFrom (s.heap.objs.size + 1) fd.scope.names []) (fd.qualname ++ ".<locals>.") (some a) fd.code none fd.builtins
  let C : Cx := { toGx := G,env := env,L := s.heap.objs.size,names := names,P := P,Z0 := Z,frs := env :: fr,A := A.deeper env,n := n }
  have low : ∀ {b : Addr} {o : Obj},s.heap.get? b = some o → b < s.heap.objs.size := fun e => Heap.lt_size e
  have none_ : ∀ {Y : Zm},ZIn Y s.heap → ∀ b,s.heap.objs.size ≤ b → Y b = none := fun {Y} hy b hb => by
    cases e : Y b with
    | none => rfl
    | some o => exact absurd (low (hy _ _ e)) (Nat.not_lt.mpr hb)
  have cellOk : ∀ y ∈ names,C.env.kindOf y = some .local ∨ (C.env.kindOf y = some .cell ∧ (C.env.cells.lookup y).isSome = true) := fun y hy => by
    rcases F.loc y hy with e | e
    · exact .inl e
    · refine .inr ⟨e,?_⟩
      have hm : (y,NameKind.cell) ∈ fd.scope.names := lookup_mem' e
      have gen : ∀ (ns : List (Str × NameKind)) (k : Nat) (acc : List (Str × Addr)),((y,NameKind.cell) ∈ ns ∨ (acc.lookup y).isSome = true) → ((cellsFrom k ns acc).lookup y).isSome = true := by
        intro ns
        induction ns with
        | nil => intro k acc h; rcases h with h | h; cases h; exact h
        | cons p r ih =>
          obtain ⟨x,kk⟩ := p
          intro k acc h
          unfold cellsFrom
          split
          · refine ih _ _ ?_
            rcases h with h | h
            · rcases List.mem_cons.mp h with e | h
              · cases e; exact .inr (by simp)
              · exact .inl h
            · refine .inr ?_
              rw [List.lookup_cons]
              split
              · rfl
              · exact h
          · rename_i hk
            refine ih _ _ ?_
            rcases h with h | h
            · rcases List.mem_cons.mp h with e | h
              · cases e; exact absurd rfl hk
              · exact .inl h
            · exact .inr h
      exact gen _ _ _ (.inl hm)
  have hC : C.Ok := {
    gok := hG
    p0 := hP
    zg := hzg
    kind := F.kind
    loc := rfl
    glob := F.glob
    blt := F.blt
    frames := by show (A.deeper env).frames = _; unfold Around.deeper; rw [hfr]; rfl
    frp := fun env' he => (List.mem_cons.mp he).elim (fun e => by rw [e]; exact ⟨by rw [show env.scope.kind = _ from F.kind]; decide,_,rfl,.inl rfl⟩) (fun h => let ⟨k,L',o,es,ep,a,b,c,d⟩ := hfp env' h; ⟨k,L',a,.inr ⟨o,es,ep,b,c,d⟩⟩)
    hd := hhd
    depth := by show A.depth + 1 + n < 1000; omega
    units := by show A.units + 3 + 4 * n < 9000; lia
    nodup := F.nodup
    cinj := fun y y' c e e' => by
      have ap : (cellsFrom (s.heap.objs.size + 1) fd.scope.names []).Pairwise (fun x y => x.2 ≠ y.2) := cellsFrom_apart fd.scope.names _ _ List.Pairwise.nil (fun q hq => by cases hq)
      exact name_of_addr ap (mem_of_lookup e) (mem_of_lookup e') }
  simp only [newFunctionEnv,Option.isSome_none,Bool.false_eq_true,if_false]
  refine wpAny_bind (wpAny_alloc ?_)
  rw [F.clo]
  refine wpAny_bind (wpAny_layCells _ (fun name kind cells => by cases hkc : kind == NameKind.cell <;> simp [hkc]) _ _ _ _ ?_)
  have ez : ({ s with heap := s.heap.push { cls := .type "frame",data := .dict #[] } } : Shared).heap.objs.size = s.heap.objs.size + 1 := Heap.size_push ..
  rw [ez]
  have keep : ∀ b o,s.heap.get? b = some o → (pushCells (s.heap.push { cls := .type "frame",data := .dict #[] }) fd.scope.names).get? b = some o := fun b o e => pushCells_keeps _ _ _ _ (Heap.get?_push_of_some _ e)
  have S : St C Z (fun _ => none) g (ownC (s.heap.objs.size + 1) fd.scope.names) (names.map fun _ => none) cells (pushCells (s.heap.push { cls := .type "frame",data := .dict #[] }) fd.scope.names) := by
    refine ⟨⟨(Heap.Ns.new _ (.type "frame")).keeps (pushCells_keeps _ _),fun b o e => keep b o (H.kz b o e),fun b o e => keep b o (H.kp b o e),none_ H.kz _ (Nat.le_refl _),none_ H.kp _ (Nat.le_refl _),fun q hq => ?_,?_,fun b o e => .inl e,.refl⟩,cr,fun i x v hi hv => ?_,fun y c e => ?_⟩
    · rcases List.mem_append.mp hq with hq | hq
      · have O := H.own q hq
        exact ⟨keep _ _ O.1,O.2.1,O.2.2,Nat.ne_of_lt (low O.1)⟩
      · have ge := (ownC_ge _ _ q hq).1
        have ge' : s.heap.objs.size ≤ q.1 := Nat.le_of_succ_le ge
        exact ⟨pushCells_at _ _ q (by rw [Heap.size_push]; exact hq),none_ H.kz _ ge',none_ H.kp _ ge',(Nat.ne_of_lt ge).symm⟩
    · rw [List.map_append,List.nodup_append]
      refine ⟨H.nd,ownC_nd _ _,fun x hx y hy e => ?_⟩
      obtain ⟨q,hq,rfl⟩ := List.mem_map.mp hx
      obtain ⟨p,hp,rfl⟩ := List.mem_map.mp hy
      have := (ownC_ge _ _ p hp).1
      rw [← e] at this
      exact Nat.lt_irrefl _ (Nat.lt_trans (low (H.own q hq).1) this)
    · rw [List.getElem?_map] at hv
      obtain ⟨_,_,e⟩ := Option.map_eq_some_iff.mp hv
      cases e
    · rcases cellsFrom_lookup _ _ _ _ _ (show (cellsFrom (s.heap.objs.size + 1) fd.scope.names []).lookup y = some c from e) with ⟨o,ho⟩ | e
      · have := (ownC_ge _ _ _ ho).2
        exact ⟨o,none,ho,by rw [show o = cellO from this]⟩
      · cases e
  obtain ⟨l,el⟩ := F.pre
  have all := rv.app (hdv Z (g.map CC.addr) hzg)
  have hlen : (args ++ dv).length = pn.length := by rw [List.length_append,hl]
  refine wpAny_bind (bindLoop (C := C) hC _ (fun x u => rfl) pn (args ++ dv) (vals ++ dvals) 0 (names.map fun _ => none) (fun _ => none) _ _ (fun i y hi => ?_) (fun y hy => cellOk y (by rw [el]; exact List.mem_append_left _ hy)) hlen.symm S all fun m' cs' s' o2 S' => wpAny_pure ⟨(hG.top s'.heap fun b o e => S'.iv.kp b o (hP b o e)).nolimit,?_⟩)
  · rw [Nat.zero_add]
    show names[i]? = some y
    rw [el,List.getElem?_append_left (List.getElem?_eq_some_iff.mp hi).1]; exact hi
  have elc : setAll 0 (args ++ dv) (names.map fun _ => none) = (args ++ dv).map some ++ (names.drop pn.length).map fun _ => none := by
    have := setAll_eq (args ++ dv) [] (names.map fun _ => none) (by rw [List.length_map,hlen,el,List.length_append]; lia)
    rw [List.nil_append,List.nil_append,List.length_nil] at this
    rw [this,hlen,List.map_drop]
  rw [elc] at S'
  obtain ⟨ws,hs,hw⟩ := h C rfl rfl rfl rfl rfl hC ⟨fr,hpf,rfl,rfl⟩
  have fresh : ∀ {Y : Zm},ZIn Y s.heap → Y s.heap.objs.size = none := fun {Y} hy => none_ hy _ (Nat.le_refl _)
  refine codeAny_func ?_
  refine hs.run _ cells (back Q) X hw Z _ g _ _ _ _ S' (fun fl lc' c' Z' m' g' cs' s' f hz hr _ S' hf hk => ?_) fun c' u s' rx hx => ?_
  · have fin : ∀ {v u},Rv G.an G.w.params Z' (g'.map CC.addr) v u → Q v c' → R (.ok (.ret u)) s' := fun r q =>
      hR _ c' Z' g' s' _ ((Zk.refl.to o2).trans hz) hr ⟨S'.iv.kz,S'.iv.kp,fun q hq => ⟨(S'.iv.own q (List.mem_append_left _ hq)).1,(S'.iv.own q (List.mem_append_left _ hq)).2.1,(S'.iv.own q (List.mem_append_left _ hq)).2.2.1⟩,S'.iv.ndg⟩ S'.cr S'.iv.zp r q
    cases fl with
    | next => obtain rfl : f = .next := hf; exact fin (rv_none.mpr rfl) hk
    | ret v => obtain ⟨u,rfl,r⟩ := hf; exact fin r hk
    | brk => exact hk.elim
    | cont => exact hk.elim
  · exact leave_sem hC hC.frames rfl rfl hfp (fresh H.kp) rx fun s'' h'' => hE c' u s'' (RaisedB.mono (Zk.refl.to o2) .refl (fun b o e => .inl e) h'') hx
theorem sem_fnC {G : Gx} (hG : G.Ok) {n : Nat} {a : Addr} {fd : FuncData} {body : List Stmt} {pn names : List Str} (F : FnC G a fd body pn names) {args dv : List V} {dvals : List Value} {cells : List Cell} {Q : V → List Cell → Prop} {X : List Cell → Prop}
    (hdv : ∀ Z r,Zle G.zg Z → RvL G.an G.w.params Z r dv dvals) (hb : BindOk G fd args.length pn dvals) (hl : pn.length = args.length + dv.length)
    (h : ∀ C : Cx,C.toGx = G → C.n = n → C.names = names → C.env.scope = fd.scope → C.env.cells = cellsFrom (C.L + 1) fd.scope.names [] → C.Ok → ∃ ws,SSs C body ws ∧ ws ((args ++ dv).map some ++ (names.drop pn.length).map fun _ => none) cells (back Q) X) :
    Sem G (n + 1) (.ref a) args cells Q X := ⟨fun A fr P Z g s vals R =>
  sem_fnCF (p := fun _ => True) hG F hdv hb hl (fun C a b c d e f _ => h C a b c d e f) A fr P Z g s vals R trivial⟩
section
variable {C : Cx}
theorem sBytes {l : List UInt8} {k : Nat} {pos : Pos} : SE C (.Constant (.bytes l) k pos) (fun _ cells k _ => k (.bytes l) cells) := by
  constructor; intro lc cells k x hw Z m g cs s Q E S hQ _
  exact fun _ _ _ => hQ _ _ Z g _ _ .refl .refl S (rv_bytes.mpr ⟨_,rfl⟩) hw
noncomputable def PA (C : Cx) (t : Value → Value → PySem.Sem Value) (pre : V → V → (V → Prop) → Prop) : Prop :=
  ∀ va vb kk,pre va vb kk → ∀ lc cells Z m g cs s ua ub Q E,St C Z m g cs lc cells s.heap → Rv C.an C.w.params Z (g.map CC.addr) va ua → Rv C.an C.w.params Z (g.map CC.addr) vb ub →
    (∀ v Z' s' u,Zk (og s) (og s') Z Z' → St C Z' m g cs lc cells s'.heap → Rv C.an C.w.params Z' (g.map CC.addr) v u → kk v → Q u s') → wpAny (model C.prog C.w) C.A (t ua ub) Q E s
theorem PO.up {t : Value → Value → PySem.Sem Value} {pre : V → V → (V → Prop) → Prop} (h : PO C t pre) : PA C t pre := fun va vb kk hp lc cells Z m g cs s ua ub Q E S ra rb hQ =>
  h va vb kk hp Z _ ua ub s Q E ra rb fun v u tk rv hk => hQ v Z _ u .refl S rv hk
theorem sBinA (hC : C.Ok) {a b : Expr} {op : Operator} {pos : Pos} {wa wb : WE} {pre : V → V → (V → Prop) → Prop} (ha : SE C a wa) (hb : SE C b wb) (ho : PA C (binaryOp op) pre) :
    SE C (.BinOp a op b pos) (fun lc cells k X => wa lc cells (fun va c1 => wb lc c1 (fun vb c2 => pre va vb (fun v => k v c2)) X) X) := by
  constructor; intro lc cells k x hw Z m g cs s Q E S hQ hE
  exact wpAny_BinOp (ha.run lc cells _ x hw Z m g cs s _ E S (fun va c1 Z1 g1 s1 ua hz1 hr1 S1 Ra hk1 => hb.run lc c1 _ x hk1 Z1 m g1 cs s1 _ E S1
    (fun vb c2 Z2 g2 s2 ub hz2 hr2 S2 Rb hk2 => ho va vb _ hk2 lc c2 Z2 m g2 cs s2 ua ub Q E S2 (Ra.mono hz2.1 hr2) Rb fun v Z3 s3 u hz3 S3 rv hv => hQ v c2 Z3 g2 _ u ((hz1.trans hz2).trans hz3) (hr1.trans hr2) S3 rv hv)
    (fun c u s' rx hx => hE c u s' (RX.up S S1 hz1 hr1 rx) hx)) hE)
theorem sCmpA (hC : C.Ok) {a b : Expr} {op : CmpOp} {pos : Pos} {wa wb : WE} {pre : V → V → (V → Prop) → Prop} (ha : SE C a wa) (hb : SE C b wb) (ho : PA C (compareOp op) pre) (hm : behindInMarks op b = false) :
    SE C (.Compare a [op] [b] pos) (fun lc cells k X => wa lc cells (fun va c1 => wb lc c1 (fun vb c2 => pre va vb (fun v => k v c2)) X) X) := by
  constructor; intro lc cells k x hw Z m g cs s Q E S hQ hE
  exact wpAny_Compare1 (ha.run lc cells _ x hw Z m g cs s _ E S (fun va c1 Z1 g1 s1 ua hz1 hr1 S1 Ra hk1 => hb.run lc c1 _ x hk1 Z1 m g1 cs s1 _ E S1
    (fun vb c2 Z2 g2 s2 ub hz2 hr2 S2 Rb hk2 => ho va vb _ hk2 lc c2 Z2 m g2 cs s2 ua ub Q E S2 (Ra.mono hz2.1 hr2) Rb fun v Z3 s3 u hz3 S3 rv hv => hQ v c2 Z3 g2 _ u ((hz1.trans hz2).trans hz3) (hr1.trans hr2) S3 rv hv)
    (fun c u s' rx hx => hE c u s' (RX.up S S1 hz1 hr1 rx) hx)) hE) hm
theorem tCmpA (hC : C.Ok) {a b : Expr} {op : CmpOp} {pos : Pos} {wa wb : WE} {pre : V → V → (V → Prop) → Prop} (ha : SE C a wa) (hb : SE C b wb) (ho : PA C (compareOp op) pre) (hm : behindInMarks op b = false) :
    ST C (.Compare a [op] [b] pos) (fun lc cells k X => wa lc cells (fun va c1 => wb lc c1 (fun vb c2 => pre va vb (asB fun v => k v c2)) X) X) := by
  constructor; intro lc cells k x hw Z m g cs s Q E S hQ hE
  exact wpAny_isTrue_Compare1 (ha.run lc cells _ x hw Z m g cs s _ E S (fun va c1 Z1 g1 s1 ua hz1 hr1 S1 Ra hk1 => hb.run lc c1 _ x hk1 Z1 m g1 cs s1 _ E S1
    (fun vb c2 Z2 g2 s2 ub hz2 hr2 S2 Rb hk2 => ho va vb _ hk2 lc c2 Z2 m g2 cs s2 ua ub _ E S2 (Ra.mono hz2.1 hr2) Rb fun v Z3 s3 u hz3 S3 rv hv => by
      obtain ⟨b,rfl,hb⟩ := asB_spec hv rv
      exact wpAny_truthy_bool (hQ b c2 Z3 g2 _ b ((hz1.trans hz2).trans hz3) (hr1.trans hr2) S3 rfl hb))
    (fun c u s' rx hx => hE c u s' (RX.up S S1 hz1 hr1 rx) hx)) hE) hm
noncomputable def addW (a b : V) (kk : V → Prop) : Prop := match a,b with
  | .tup l,.tup l' => okW (Nat.ble (l.length + l'.length) 16000000) <| kk (.tup (l ++ l'))
  | .lst l,.lst l' => okW (Nat.ble (l.length + l'.length) 16000000) <| kk (.lst (l ++ l'))
  | _,_ => False
theorem aAdd : PA C (binaryOp .Add) addW := by
  intro va vb kk hp lc cells Z m g cs s ua ub Q E S ra rb hQ
  unfold addW at hp
  split at hp
  · rename_i l l'
    replace hp := ok_le hp
    obtain ⟨a,vs,n,rfl,h1,h2⟩ := rv_tup.mp ra
    obtain ⟨b,ws,n',rfl,h3,h4⟩ := rv_tup.mp rb
    have sz : vs.toArray.size + ws.toArray.size ≤ sizeLine := by rw [List.size_toArray,List.size_toArray,h2.len,h4.len,sizeLine_eq]; exact Nat.le_trans hp.1 (by decide)
    have k1 := S.iv.kz _ _ h1
    have k2 := S.iv.kz _ _ h3
    by_cases e1 : l = []
    · subst e1
      obtain rfl := rvl_nil.mp h2
      refine concat_meets ⟨_,k1,rfl⟩ ⟨_,k2,rfl⟩ noFill_tuple_add seq_tuple_add PySem.F.slot_tuple_add PySem.F.entry_tuple_add (PySem.F.args_tuple_add_2 _ _) (tuple_addW0 a b _ _ _ _ none none #[] #[] rfl) ⟨k1,k2,?_⟩
      exact hQ _ Z s _ .refl S (rv_tup.mpr ⟨b,ws,n',rfl,h3,h4⟩) hp.2
    · by_cases e2 : l' = []
      · subst e2
        obtain rfl := rvl_nil.mp h4
        have ne : ¬ vs.toArray.isEmpty = true := fun q => e1 (List.length_eq_zero_iff.mp (by rw [← h2.len]; simpa using q))
        refine concat_meets ⟨_,k1,rfl⟩ ⟨_,k2,rfl⟩ noFill_tuple_add seq_tuple_add PySem.F.slot_tuple_add PySem.F.entry_tuple_add (PySem.F.args_tuple_add_2 _ _) (tuple_addW1 a b _ _ _ _ none none #[] #[] ne rfl) ⟨k1,k2,?_⟩
        exact hQ _ Z s _ .refl S (rv_tup.mpr ⟨a,vs,n,rfl,h1,by rw [List.append_nil]; exact h2⟩) hp.2
      · have ne1 : ¬ vs.toArray.isEmpty = true := fun q => e1 (List.length_eq_zero_iff.mp (by rw [← h2.len]; simpa using q))
        have ne2 : ¬ ws.toArray.isEmpty = true := fun q => e2 (List.length_eq_zero_iff.mp (by rw [← h4.len]; simpa using q))
        have e3 : vs.toArray ++ ws.toArray = (vs ++ ws).toArray := by simp
        refine PySem.P.add_tuple (items := vs.toArray) (items2 := ws.toArray) k1 k2 ne1 ne2 ?_ sz
        rw [e3]
        have S2 := S.alloc (o := tupO (vs ++ ws) 0) rfl
        have z := Zput.le S.iv.kz (o := tupO (vs ++ ws) 0)
        exact hQ _ _ _ _ z.k S2 (rv_tup.mpr ⟨_,vs ++ ws,0,rfl,Zput.at,(h2.mono z .refl).app (h4.mono z .refl)⟩) hp.2
  · rename_i l l'
    replace hp := ok_le hp
    obtain ⟨a,vs,o,rfl,h1,⟨n,rfl⟩,h2⟩ := rv_lst.mp ra
    obtain ⟨b,ws,o',rfl,h3,⟨n',rfl⟩,h4⟩ := rv_lst.mp rb
    have sz : vs.toArray.size + ws.toArray.size ≤ sizeLine := by rw [List.size_toArray,List.size_toArray,h2.len,h4.len,sizeLine_eq]; exact Nat.le_trans hp.1 (by decide)
    have e3 : vs.toArray ++ ws.toArray = (vs ++ ws).toArray := by simp
    refine PySem.P.add_list (items := vs.toArray) (items2 := ws.toArray) (S.iv.kz _ _ h1) (S.iv.kz _ _ h3) ?_ sz
    rw [e3]
    have S2 := S.alloc (o := lstO (vs ++ ws) 0) rfl
    have z := Zput.le S.iv.kz (o := lstO (vs ++ ws) 0)
    exact hQ _ _ _ _ z.k S2 (rv_lst.mpr ⟨_,vs ++ ws,_,rfl,Zput.at,⟨0,rfl⟩,(h2.mono z .refl).app (h4.mono z .refl)⟩) hp.2
  · exact hp.elim
noncomputable def tupOf (vs : List V) (cells : List Cell) (kk : V → List Cell → Prop) : Prop := match vs with
  | [.lst l] => okW (Nat.ble l.length 16000000) <| kk (.tup l) cells
  | [.tup l] => kk (.tup l) cells
  | _ => False
theorem bTup : BO C (.type "tuple") tupOf := by
  intro vs cells kk hp Z m g cs lc s us Q E S R hQ
  unfold tupOf at hp
  split at hp
  · rename_i l
    replace hp := ok_le hp
    obtain ⟨u,rfl,ru⟩ := rvl1 R
    obtain ⟨a,ws,o,rfl,h1,⟨n,rfl⟩,h3⟩ := rv_lst.mp ru
    refine call_tuple_list (items := ws.toArray) ⟨_,S.iv.kz _ _ h1,rfl,n,rfl⟩ (fun h' hk => ?_) (by rw [List.size_toArray,h3.len,sizeLine_eq]; exact Nat.le_trans hp.1 (by decide))
    have S1 := S.grow hk
    have S2 := S1.alloc (o := tupO ws 0) rfl
    have z := Zput.le S1.iv.kz (o := tupO ws 0)
    exact hQ _ _ _ g _ _ z.k .refl S2 (rv_tup.mpr ⟨_,ws,0,rfl,Zput.at,h3.mono z .refl⟩) hp.2
  · rename_i l
    obtain ⟨u,rfl,ru⟩ := rvl1 R
    obtain ⟨a,ws,n,rfl,h1,h3⟩ := rv_tup.mp ru
    exact call_tuple_same (items := ws.toArray) ⟨_,S.iv.kz _ _ h1,rfl,n,rfl⟩ (hQ _ cells Z g s _ .refl .refl S ru hp)
  · exact hp.elim
noncomputable def rngOf (vs : List V) (cells : List Cell) (kk : V → List Cell → Prop) : Prop := m1 vs fun v => mI v fun i => 0 ≤ i ∧ kk (.rng i.toNat) cells
theorem bRng : BO C (.type "range") rngOf := by
  intro vs cells kk hp Z m g cs lc s us Q E S R hQ
  replace hp := m1_ hp
  obtain ⟨v,rfl,hp⟩ := hp
  replace hp := mI_ hp
  obtain ⟨i,rfl,hp⟩ := hp
  obtain ⟨u,rfl,ru⟩ := rvl1 R
  obtain ⟨t,rfl⟩ := rv_int.mp ru
  obtain ⟨n,rfl⟩ := Int.eq_ofNat_of_zero_le hp.1
  refine call_range_1 ?_
  have S2 := S.alloc (o := rngO n s.toks t (s.toks + 1)) rfl
  exact hQ _ cells _ g _ _ (Zput.le S.iv.kz).k .refl S2 (rv_rng.mpr ⟨_,s.toks,t,s.toks + 1,rfl,Zput.at⟩) hp.2
theorem pick_upto (vs : List Value) (n : Nat) : slicePick vs.toArray none (some (n : Int)) none = (vs.take n).toArray := by
  have e : sliceBounds none (some (n : Int)) none vs.toArray.size = (((0 : Nat) : Int),((min n vs.toArray.size : Nat) : Int),1) := by
    simp only [sliceBounds,Option.getD_none,show (1 : Int) > 0 by decide,if_true,if_neg (show ¬ ((n : Int) < 0) by omega)]
    congr 1
    congr 1
    omega
  rw [PySem.W.kmk_pick_nat _ e]
  rw [List.drop_zero,Nat.sub_zero,List.size_toArray,PySem.W.kmk_take_min]
theorem RvL.take {an P Z r} : ∀ {l : List V} {us : List Value} (n : Nat),RvL an P Z r l us → RvL an P Z r (l.take n) (us.take n)
  | _,_,0,h => rvl_nil.mpr rfl
  | [],_,n + 1,h => by rw [rvl_nil.mp h]; exact rvl_nil.mpr rfl
  | _ :: _,_,n + 1,h => by
    obtain ⟨u,us,rfl,a,b⟩ := rvl_cons.mp h
    exact rvl_cons.mpr ⟨u,_,rfl,a,b.take n⟩
theorem sUpto (hC : C.Ok) {a : Expr} {i : Nat} {k₀ : Nat} {p1 p2 pos : Pos} {wa : WE} (ha : SE C a wa) (ht : ∀ o r,letTemporaryGo a o r = pure ()) (hs : ∀ o v,subscripted (.Slice none (some (.Constant (.int i) k₀ p1)) none p2) false o v = operate [v,o] (getItem o v)) :
    SE C (.Subscript a (.Slice none (some (.Constant (.int i) k₀ p1)) none p2) pos) (fun lc cells k X => wa lc cells (fun v c1 => match v with
      | .lst l => okW (Nat.ble l.length 16000000) <| k (.lst (l.take i)) c1
      | _ => False) X) := by
  constructor; intro lc cells k x hw Z m g cs s Q E S hQ hE
  refine Subscript_ (ha.run lc cells _ x hw Z m g cs s _ E S (fun v c1 Z1 g1 s1 u hz hr S1 R hk => ?_) hE)
  split at hk
  · rename_i l
    replace hk := ok_le hk
    obtain ⟨ad,vs,o,rfl,h1,⟨n,rfl⟩,h2⟩ := rv_lst.mp R
    have hl : s1.heap.IsList ad vs.toArray := ⟨_,S1.iv.kz _ _ h1,rfl,n,rfl⟩
    refine wpAny_Slice ?_
    rw [evalPart_none,evalPart_some]
    refine wpAny_pure (wpAny_Constant_int (wpAny_pure ?_))
    have hz1 : vs.toArray.size ≤ sizeLine := by rw [List.size_toArray,h2.len,sizeLine_eq]; exact Nat.le_trans hk.1 (by decide)
    refine subscriptTail_ops (Heap.IsList.typeIs (hl.push _)) list_getitem_lookup (wpAny_getItem_list_slice (lo := none) (hi := some (i : Int)) (hl.push _) (Heap.IsSliceOf.new ..) .none (.int _ _) .none (by simp) ?_ hz1) (hs _ _) (fun r => ht _ r)
    have S2 := S1.grow (h' := s1.heap.push { cls := .type "slice",data := .fields #[.none,.int i (s1.toks),.none] }) (fun b o e => Heap.get?_push_of_some _ e)
    rw [pick_upto]
    have S3 := S2.alloc (o := lstO (vs.take i) 0) rfl
    have z := Zput.le S2.iv.kz (o := lstO (vs.take i) 0)
    exact hQ _ c1 _ g1 _ _ (hz.trans z.k) hr S3 (rv_lst.mpr ⟨_,vs.take i,_,rfl,Zput.at,⟨0,rfl⟩,(h2.take i).mono z .refl⟩) hk.2
  · exact hk.elim
end
mutual
noncomputable def isDat : V → Bool
  | .none => true
  | .bool _ => true
  | .int _ => true
  | .tup l => isDatL l
  | .lst l => isDatL l
  | _ => false
noncomputable def isDatL : List V → Bool
  | [] => true
  | x :: l => isDat x && isDatL l
end
mutual
noncomputable def dat : V → PyData
  | .bool b => .bool b
  | .int i => .int i
  | .tup l => .tuple (datL l)
  | .lst l => .list (datL l)
  | _ => .none
noncomputable def datL : List V → List PyData
  | [] => []
  | x :: l => dat x :: datL l
end
mutual
theorem dat_lay : ∀ v : V,(dat v).canLay0 = true
  | .bool b => rfl
  | .int i => rfl
  | .tup l => by rw [dat,PyData.canLay0]; exact datL_lay l
  | .lst l => by rw [dat,PyData.canLay0]; exact datL_lay l
  | .none => rfl
  | .str _ => rfl
  | .bytes _ => rfl
  | .inst _ _ => rfl
  | .cell _ => rfl
  | .rng _ => rfl
  | .dct _ => rfl
  | .val _ => rfl
theorem datL_lay : ∀ l : List V,PyData.canLayAll0 (datL l) = true
  | [] => rfl
  | x :: l => by rw [datL,PyData.canLayAll0,dat_lay x,datL_lay l]; rfl
end
mutual
theorem dat_reads {an P Z r} {h : Heap} (kz : ZIn Z h) : ∀ {v : V} {u : Value},isDat v = true → Rv an P Z r v u → ∃ as,Reads h u (dat v) as
  | .none,u,_,R => by obtain rfl := rv_none.mp R; exact ⟨_,.none⟩
  | .bool b,u,_,R => by obtain rfl := rv_bool.mp R; exact ⟨_,.bool b⟩
  | .int i,u,_,R => by obtain ⟨t,rfl⟩ := rv_int.mp R; exact ⟨_,.int i t⟩
  | .tup l,u,d,R => by
    obtain ⟨a,vs,n,rfl,h1,h2⟩ := rv_tup.mp R
    rw [isDat] at d
    obtain ⟨as,k⟩ := datL_reads kz d h2
    rw [dat]
    exact ⟨_,.tuple (kz _ _ h1) rfl rfl k⟩
  | .lst l,u,d,R => by
    obtain ⟨a,vs,o,rfl,h1,⟨n,rfl⟩,h2⟩ := rv_lst.mp R
    rw [isDat] at d
    obtain ⟨as,k⟩ := datL_reads kz d h2
    rw [dat]
    exact ⟨_,.list (kz _ _ h1) rfl rfl k⟩
  | .str _,_,d,_ => by simp [isDat] at d
  | .bytes _,_,d,_ => by simp [isDat] at d
  | .inst _ _,_,d,_ => by simp [isDat] at d
  | .cell _,_,d,_ => by simp [isDat] at d
  | .rng _,_,d,_ => by simp [isDat] at d
  | .dct _,_,d,_ => by simp [isDat] at d
  | .val _,_,d,_ => by simp [isDat] at d
theorem datL_reads {an P Z r} {h : Heap} (kz : ZIn Z h) : ∀ {l : List V} {us : List Value},isDatL l = true → RvL an P Z r l us → ∃ as,ReadsAll h us (datL l) as
  | [],_,_,R => by rw [rvl_nil.mp R]; exact ⟨_,.nil⟩
  | x :: l,_,d,R => by
    obtain ⟨u,us,rfl,a,b⟩ := rvl_cons.mp R
    rw [isDatL,Bool.and_eq_true] at d
    obtain ⟨as,k⟩ := dat_reads kz d.1 a
    obtain ⟨bs,k'⟩ := datL_reads kz d.2 b
    rw [datL]
    exact ⟨_,.cons k k'⟩
end
noncomputable def datOk (v : V) : Prop := isDat v = true ∧ (dat v).depth ≤ 64
noncomputable def eqDW (a b : V) (kk : Bool → Prop) : Prop := match a,b with
  | .lst l,.lst [] => (l = [] → kk true) ∧ (l ≠ [] → kk false)
  | a,b => (datOk a ∧ datOk b) ∧ kk (PyData.eqv (dat a) (dat b))
section
variable {C : Cx}
theorem shaped_of {v : V} (h : datOk v) : SeqAt.shaped (dat v) = true := by
  unfold SeqAt.shaped
  rw [dat_lay,decide_eq_true h.2]; rfl
theorem eq_len_ne {prog : Program} {w : World} {A : Around} {E : Value → Shared → Prop} {s : Shared} {l b : Addr} {items items2 : Array Value} {n n2 : Nat} {Q : Value → Shared → Prop} (hl : s.heap.get? l = some { cls := .type "list",dict := none,data := .seq items n,slots := #[] }) (hb : s.heap.get? b = some { cls := .type "list",dict := none,data := .seq items2 n2,slots := #[] }) (hsz : (items.size != items2.size) = true) (hu : A.units < cLine) (h : Q (.bool true) s) :
    wpAny (model prog w) A (compareOp .NotEq (.ref l) (.ref b)) Q E s :=
  richCompare_meets_room (op := .NotEq) ⟨_,hl,rfl⟩ ⟨_,hb,rfl⟩ PySem.F.slot_list_ne PySem.F.entry_list_ne (PySem.F.args_list_ne_2 _ _) (SeqAt.list_ne_lengthsAt l b items items2 n n2 none none #[] #[] hsz)
    ⟨hl,hb,show Value.bool true ≠ Value.notImplemented ∧ Q (.bool true) s from ⟨(fun x => nomatch x),h⟩⟩ hu
theorem aEqD (hC : C.Ok) : PA C (compareOp .Eq) (fun a b kk => eqDW a b fun c => kk (.bool c)) := by
  intro va vb kk hp lc cells Z m g cs s ua ub Q E S ra rb hQ
  have hu : C.A.units + 64 < cLine := by have := hC.units; unfold cLine; omega
  unfold eqDW at hp
  split at hp
  · rename_i l
    obtain ⟨a,vs,o,rfl,h1,⟨n,rfl⟩,h2⟩ := rv_lst.mp ra
    obtain ⟨b,ws,o',rfl,h3,⟨n',rfl⟩,h4⟩ := rv_lst.mp rb
    obtain rfl := rvl_nil.mp h4
    by_cases e : l = []
    · subst e
      obtain rfl := rvl_nil.mp h2
      refine eq_dataH (da := .list []) (db := .list []) (.list (S.iv.kz _ _ h1) rfl rfl .nil) (.list (S.iv.kz _ _ h3) rfl rfl .nil) (by decide) (by decide) hu ?_
      exact hQ _ Z s _ .refl S (rv_bool.mpr rfl) (by have := hp.1 rfl; simpa [PyData.eqv,PyData.eqvAll] using this)
    · refine PySem.P.eq_list_lengths (items := vs.toArray) (items2 := #[]) (S.iv.kz _ _ h1) (S.iv.kz _ _ h3) ?_ (by omega) (hQ _ Z s _ .refl S (rv_bool.mpr rfl) (hp.2 e))
      have : vs.length ≠ 0 := by rw [h2.len]; exact fun q => e (List.length_eq_zero_iff.mp q)
      simpa using this
  · rename_i a b _
    obtain ⟨as,k1⟩ := dat_reads S.iv.kz hp.1.1.1 ra
    obtain ⟨bs,k2⟩ := dat_reads S.iv.kz hp.1.2.1 rb
    exact eq_dataH k1 k2 (shaped_of hp.1.1) (shaped_of hp.1.2) hu (hQ _ Z s _ .refl S (rv_bool.mpr rfl) hp.2)
theorem aNeD (hC : C.Ok) : PA C (compareOp .NotEq) (fun a b kk => eqDW a b fun c => kk (.bool (!c))) := by
  intro va vb kk hp lc cells Z m g cs s ua ub Q E S ra rb hQ
  have hu : C.A.units + 64 < cLine := by have := hC.units; unfold cLine; omega
  unfold eqDW at hp
  split at hp
  · rename_i l
    obtain ⟨a,vs,o,rfl,h1,⟨n,rfl⟩,h2⟩ := rv_lst.mp ra
    obtain ⟨b,ws,o',rfl,h3,⟨n',rfl⟩,h4⟩ := rv_lst.mp rb
    obtain rfl := rvl_nil.mp h4
    by_cases e : l = []
    · subst e
      obtain rfl := rvl_nil.mp h2
      refine ne_dataH (da := .list []) (db := .list []) (.list (S.iv.kz _ _ h1) rfl rfl .nil) (.list (S.iv.kz _ _ h3) rfl rfl .nil) (by decide) (by decide) hu ?_
      exact hQ _ Z s _ .refl S (rv_bool.mpr rfl) (by have := hp.1 rfl; simpa [PyData.eqv,PyData.eqvAll] using this)
    · refine eq_len_ne (items := vs.toArray) (items2 := #[]) (S.iv.kz _ _ h1) (S.iv.kz _ _ h3) ?_ (by omega) (hQ _ Z s _ .refl S (rv_bool.mpr rfl) (hp.2 e))
      have : vs.length ≠ 0 := by rw [h2.len]; exact fun q => e (List.length_eq_zero_iff.mp q)
      simpa using this
  · rename_i a b _
    obtain ⟨as,k1⟩ := dat_reads S.iv.kz hp.1.1.1 ra
    obtain ⟨bs,k2⟩ := dat_reads S.iv.kz hp.1.2.1 rb
    exact ne_dataH k1 k2 (shaped_of hp.1.1) (shaped_of hp.1.2) hu (hQ _ Z s _ .refl S (rv_bool.mpr rfl) hp.2)
theorem sGlobD (hC : C.Ok) {y : Str} {p : Pos} {v : V} {u : Value} (e : nsIn C.K mainGlobals y = some (some u)) (hv : ∀ Z r,Zle C.zg Z → Rv C.an C.w.params Z r v u) (hx : C.env.kindOf y = some .globalImplicit) (hd : (y == ("__debug__" : Str)) = false) :
    SE C (.Name y p) (fun _ cells k _ => k v cells) := by
  constructor; intro lc cells k x hw Z m g cs s Q E S hQ _
  have T := hC.top _ S.iv.kp
  exact Calls.Name_function_global hC.kind hx (Calls.loadGlobal_global (mg := C.mg) (by rw [hC.glob]; exact T.g) (mg_of (hC.inK _ S.iv.kp) T.g e) (hQ _ cells Z g s u .refl .refl S (hv _ _ (hC.zg.trans S.iv.z0)) hw)) hd
end
theorem by_special : typeLookup (.type "bytes") "__bytes__" = pure (some (.builtin "bytes.__bytes__")) := by rw [typeLookup_type,builtinLookup_eq_fast]; kernel_rfl
section
variable {prog : Program} {w : World} {A : Around} {E : Value → Shared → Prop} {s : Shared}
theorem by_new {b : Array UInt8} {t : Tok} {Q : Value → Shared → Prop} (hQ : Q (.bytes b t) s) : codeAny (model prog w) A (.call (.builtin "bytes.__new__") ⟨[.type "bytes",.bytes b t],[]⟩) (wants Q E) s := by
  refine codeAny_of_tree ?_
  show wpAny _ A.in1 (do checkBuiltinCall "bytes.__new__" ⟨[.type "bytes",.bytes b t],[]⟩; again (.builtin "bytes.__new__" ⟨[.type "bytes",.bytes b t],[]⟩)) _ _ s
  refine wpAny_bind (wpAny_of_eq (PySem.F.bm_newCall _) (wpAny_pure ⟨plainId_quiet PySem.F.bm_plain _,codeAny_builtin PySem.F.bm_entry ?_⟩))
  rw [Around.under_plainId PySem.F.bm_plain _]
  have hT : s.TypeIs (.bytes b t) "bytes" := PySem.W.typeIs_bytes _ _ _
  unfold Builtin.«bytes.__new__»
  refine wpAny_bind (wpAny_of_eq (a := true) rfl ?_)
  refine bm_if_false rfl ?_
  refine wpAny_bind (wpAny_of_eq PySem.F.bm_sub ?_)
  refine bm_if_false rfl ?_
  refine wpAny_bind (wpAny_of_eq (PySem.F.bm_bind _) ?_)
  refine wpAny_bind (wpAny_of_eq (a := ()) rfl ?_)
  refine wpAny_bind (wpAny_of_eq (a := ()) rfl ?_)
  refine bm_if_false rfl ?_
  refine wpAny_bind (wpAny_specialOf hT by_special ?_)
  dsimp only
  refine wpAny_bind (wpAny_rule ?_)
  refine wpAny_bind (wpAny_typeOf hT ?_)
  refine bm_if_true (by decide) ?_
  refine wpAny_of_eq (a := Fin.done (.ret (.bytes b t))) (by first | rfl | (unfold Builtin.Bytes.made; rfl)) ?_
  exact hQ
theorem call_bytes_bytes {b : Array UInt8} {t : Tok} {Q : Value → Shared → Prop} (hQ : Q (.bytes b t) s) : wpAny (model prog w) A (call (.type "bytes") [.bytes b t]) Q E s := by
  refine callType_codes (Q₁ := fun obj s₁ => s₁.TypeIs obj "bytes" ∧ Q obj s₁) PySem.F.bm_called (PySem.F.bm_typeCall _) F.entry_object_init
    (by_new ⟨PySem.W.typeIs_bytes _ _ _,hQ⟩) fun obj s₁ h₁ => ?_
  exact ⟨h₁.1,F.args_object_init_2 obj _,object_init_meets PySem.F.bm_called.init.lookup PySem.F.bm_called.made (by decide) prog w A.in1 _ s₁ ⟨h₁.1,rfl,h₁.2⟩⟩
end
section
variable {C : Cx}
noncomputable def bytOf (vs : List V) (cells : List Cell) (kk : V → List Cell → Prop) : Prop := m1 vs fun v => mBy v fun l => kk (.bytes l) cells
theorem bByt : BO C (.type "bytes") bytOf := by
  intro vs cells kk hp Z m g cs lc s us Q E S R hQ
  replace hp := m1_ hp
  obtain ⟨v,rfl,hp⟩ := hp
  replace hp := mBy_ hp
  obtain ⟨l,rfl,hp⟩ := hp
  obtain ⟨u,rfl,ru⟩ := rvl1 R
  obtain ⟨t,rfl⟩ := rv_bytes.mp ru
  exact call_bytes_bytes (hQ _ cells Z g s _ .refl .refl S ru hp)
end
theorem bytes_len : typeLookup (.type "bytes") "__len__" = pure (some (.builtin "bytes.__len__")) := by rw [typeLookup_type,builtinLookup_eq_fast]; kernel_rfl
noncomputable def ByteAt (b : Array UInt8) (i : Nat) (v : Value) : Prop := ∃ c u,b[i]? = some c ∧ v = .int (c.toNat : Int) u
section
variable {prog : Program} {w : World} {A : Around} {E : Value → Shared → Prop} {s : Shared}
theorem collect_bytes {Q : List Value → Shared → Prop} (hh : A.handled = none) (x : Array UInt8) (t : Tok)
    (hQ : ∀ s' acc,(∀ b o,s.heap.get? b = some o → s'.heap.get? b = some o) → s'.gens = s.gens → s'.drawn = s.drawn → s'.os = s.os → ItemsOf (ByteAt x) acc x.size → Q acc.toList s') (hn : x.size ≤ sizeLine) :
    wpAny (model prog w) A (collect (.bytes x t)) Q E s := by
  unfold collect
  refine wpAny_bind (wpAny_runValue (codeAny_builtin PySem.F.entry_proto_collect ?_))
  rw [Around.under_plainId PySem.F.plain_proto_collect _]
  show wpAny _ A.in1 (newList [] >>= fun l => again (.builtin "list.__iadd__" ⟨[l,.bytes x t],[]⟩)) _ _ s
  refine wpAny_bind (wpAny_newObj_type ?_)
  refine wpAny_pure ⟨plainId_quiet PySem.F.plain_list_iadd _,codeAny_builtin PySem.F.entry_list_iadd ?_⟩
  rw [Around.under_plainId PySem.F.plain_list_iadd _]
  show wpAny _ A.in1 (Builtin.List.listExtendWith (.ref s.heap.objs.size) (.bytes x t) (.ref s.heap.objs.size)) _ _ _
  unfold Builtin.List.listExtendWith
  refine wpAny_bind (wpAny_typeOf (T := "bytes") (PySem.W.typeIs_bytes _ _ _) ?_)
  have h1 : Builtin.List.listSameRef (.ref s.heap.objs.size) (.bytes x t) = false := rfl
  have h2 : (Value.type "bytes" == Value.type "list") = false := by decide
  have h3 : (Value.type "bytes" == Value.type "tuple") = false := by decide
  simp only [h1,h2,h3,Bool.or_false,Bool.false_eq_true,if_false]
  refine wpAny_bind (KBw.pyIter_bytes ?_)
  refine wpAny_bind (wpAny_holding ?_)
  unfold Builtin.List.listLengthHint
  refine wpAny_bind (wpAny_specialOf (T := "bytes") (PySem.W.typeIs_bytes _ _ _) bytes_len ?_)
  wp_delta
  refine wpAny_bind (wpAny_isInstance (T := "bytes") (b := true) (PySem.W.typeIs_bytes _ _ _) (by rw [isSubtype_type]; kernel_rfl) ?_)
  show wpAny _ A.in1 (typeOf (Value.bytes x t) >>= _) _ _ _
  refine wpAny_bind (wpAny_typeOf (T := "bytes") (PySem.W.typeIs_bytes _ _ _) ?_)
  refine wpAny_pure ?_
  rw [if_neg (by decide)]
  generalize hH : s.heap.push { cls := .type "list",data := .seq ([] : List Value).toArray } = H
  have hHs : H.objs.size = s.heap.objs.size + 1 := by rw [← hH,Heap.size_push]
  have hSf : s.heap.objs.size ∉ [H.objs.size] := fun hm => by rw [List.mem_singleton.mp hm] at hHs; exact absurd hHs (Nat.ne_of_lt (Nat.lt_succ_self _))
  refine wpAny_pure ⟨plainId_quiet PySem.F.plain_extend_loop _,codeAny_extend_loopS (KBw.walks (A := A.in1) hh H.objs.size x t).toS hn _ hSf _ x.size 0 _ _ _ rfl (Nat.zero_le _) ⟨_,Heap.get?_push_size _ rfl,rfl,rfl⟩ (Heap.get?_push_of_some _ (hH ▸ Heap.get?_push_size _ rfl)) (ItemsOf.nil _) fun s' acc' c' hm hS' hacc => ?_⟩
  show wpAny _ A (load s.heap.objs.size >>= _) _ _ s'
  refine wpAny_bind (wpAny_load hS' ?_)
  refine wpAny_pure (hQ s' acc' (fun b ob e => hm.heap b ob (fun hb => ?_) (Heap.get?_push_of_some _ (hH ▸ Heap.get?_push_of_some _ e))) hm.gens hm.drawn hm.os hacc)
  have hlt := Heap.lt_size e
  rcases List.mem_cons.mp hb with h | h
  · exact absurd hlt (h ▸ Nat.lt_irrefl _)
  · rw [List.mem_singleton.mp h,hHs] at hlt; exact absurd hlt (Nat.not_lt.mpr (Nat.le_succ _))
end
theorem meets_tuple_new_bytes (x : Array UInt8) (t : Tok) (hsz : x.size ≤ sizeLine) :
    Meets (Builtin.«tuple.__new__» ⟨[.type "tuple",.bytes x t],[]⟩)
      (fun A R s => A.handled = none ∧ ∀ (s' : Shared) (acc : Array Value),(∀ b o,s.heap.get? b = some o → s'.heap.get? b = some o) → s'.gens = s.gens → s'.drawn = s.drawn → s'.os = s.os → ItemsOf (ByteAt x) acc x.size →
        R (.ok (.ret (.ref s'.heap.objs.size))) { s' with heap := s'.heap.push { cls := .type "tuple",data := .seq acc } }) :=
  .of_wp fun prog w A R s h => by
    obtain ⟨hh,h⟩ := h
    have hsub := sub_tuple_self
    have hinit := init_tuple_lookup
    have hmh := madeHere_tuple
    have hT : s.TypeIs (.bytes x t) "bytes" := PySem.W.typeIs_bytes _ _ _
    have hh1 : A.in1.handled = none := hh
    wp_walk using wpAny_typeOf hT,collect_bytes (hn := hsz) hh1 x t
    intro s' acc hk hg hd hos hacc
    show wpAny _ _ (Builtin.Tuple.tupleExact acc.toList.toArray >>= fun v => ret v) _ _ _
    unfold Builtin.Tuple.tupleExact
    refine wpAny_bind (wpAny_newObj_type ?_ (show acc.toList.toArray.size ≤ sizeLine by simp only [Array.toArray_toList]; rw [hacc.1]; exact hsz))
    refine wpAny_pure ⟨_,rfl,?_⟩
    have e : acc.toList.toArray = acc := by simp
    rw [e]
    exact h s' acc hk hg hd hos hacc
theorem call_tuple_bytes {prog : Program} {w : World} {A : Around} {E : Value → Shared → Prop} {s : Shared} {Q : Value → Shared → Prop} (hh : A.handled = none) (x : Array UInt8) (t : Tok)
    (h : ∀ (h' : Heap) (tk : Nat) (acc : Array Value),(∀ b o,s.heap.get? b = some o → h'.get? b = some o) → ItemsOf (ByteAt x) acc x.size → Q (.ref h'.objs.size) { s with heap := h'.push { cls := .type "tuple",data := .seq acc },toks := tk })
    (hsz : x.size ≤ sizeLine) : wpAny (model prog w) A (call (.type "tuple") [.bytes x t]) Q E s := by
  refine callType_new F.called_tuple (by decide) (F.typeCall_tuple_1 _) (F.newCall_tuple_1 _) (fun obj => F.args_object_init_2 obj _) F.entry_tuple_new
    (meets_tuple_new_bytes x t hsz) ⟨hh,fun s' acc hk hg hd hos hacc => ⟨⟨_,Heap.get?_push_size _ rfl,rfl⟩,?_⟩⟩
  obtain ⟨h',g',d',tk',os'⟩ := s'
  have e1 : g' = s.gens := hg
  have e2 : d' = s.drawn := hd
  have e3 : os' = s.os := hos
  subst e1 e2 e3
  exact h h' tk' acc hk hacc
section
variable {C : Cx}
noncomputable def tupOfB (vs : List V) (cells : List Cell) (kk : V → List Cell → Prop) : Prop := match vs with
  | [.bytes l] => l.length ≤ 1000 ∧ kk (.tup (bytL l)) cells
  | _ => False
theorem rvl_bytes {an P Z r} : ∀ {l : List UInt8} {us : List Value},us.length = l.length → (∀ i v,us[i]? = some v → ByteAt l.toArray i v) → RvL an P Z r (bytL l) us
  | [],us,e,_ => by rw [List.length_eq_zero_iff.mp e]; exact rvl_nil.mpr rfl
  | c :: l,[],e,_ => by cases e
  | c :: l,u :: us,e,h => by
    obtain ⟨c',t,h1,h2⟩ := h 0 u rfl
    have : c' = c := by simpa using h1.symm
    subst this
    refine rvl_cons.mpr ⟨u,us,rfl,h2 ▸ rv_int.mpr ⟨_,rfl⟩,rvl_bytes (by simpa using e) fun i v hv => ?_⟩
    obtain ⟨c2,t2,a,b⟩ := h (i + 1) v (by simpa using hv)
    exact ⟨c2,t2,by simpa using a,b⟩
theorem bTupB (hC : C.Ok) (hq : C.q = true) : BO C (.type "tuple") tupOfB := by
  intro vs cells kk hp Z m g cs lc s us Q E S R hQ
  unfold tupOfB at hp
  split at hp
  · rename_i l
    obtain ⟨u,rfl,ru⟩ := rvl1 R
    obtain ⟨t,rfl⟩ := rv_bytes.mp ru
    refine call_tuple_bytes (hC.hd.1 hq) l.toArray t (fun h' tk acc hk hacc => ?_) (by rw [List.size_toArray,sizeLine_eq]; exact Nat.le_trans hp.1 (by decide))
    have S1 := S.grow hk
    have S2 := S1.alloc (o := tupO acc.toList 0) rfl
    have z := Zput.le S1.iv.kz (o := tupO acc.toList 0)
    have e : acc.toList.toArray = acc := by simp
    have S3 : St C (Zput Z h'.objs.size (tupO acc.toList 0)) m g cs lc cells (h'.push { cls := .type "tuple",data := .seq acc }) := by
      have := S2
      unfold tupO at this ⊢
      rw [e] at this ⊢
      exact this
    refine hQ _ _ _ g ⟨_,_,_,tk,_⟩ _ z.k .refl S3 (rv_tup.mpr ⟨_,acc.toList,0,rfl,Zput.at,rvl_bytes ?_ ?_⟩) hp.2
    · have := hacc.1
      simpa using this
    · intro i v hv
      have h2 := hacc.2
      first
        | exact h2 i v (by simpa using hv)
        | (have hi := (List.getElem?_eq_some_iff.mp hv).1; have := h2 i v (by simpa using hi) (by simpa using hv); exact this)
        | (have := h2 i (by have := (List.getElem?_eq_some_iff.mp hv).1; have e3 := hacc.1; simp at this; omega); simp_all)
  · exact hp.elim
end
theorem IsG.to {C : Cx} {G : Gx} (e : C.toGx = G) (I : IsG G) : IsG C.toGx := by rw [e]; exact I
theorem hqc {C : Cx} {G : Gx} (e : C.toGx = G) (h : G.q = true) : C.q = true := by rw [show C.q = C.toGx.q from rfl,e]; exact h
theorem nochar_ {C : Cx} (I : IsG C.toGx) : ∀ Z r,Zle C.zg Z → Rv C.an C.w.params Z r nocharV (.ref 828) := I.nt
theorem letters_ {C : Cx} (I : IsG C.toGx) : ∀ Z r,Zle C.zg Z → Rv C.an C.w.params Z r lettersV (.ref 993) := I.lt
theorem an_ {G : Gx} (I : IsG G) {k : Nat} {x : Str} (e : anm k = x) : G.an k = x := by rw [I.an]; exact e
theorem sCall_ {C : Cx} {G : Gx} {n : Nat} (eG : C.toGx = G) (en : C.n = n) (hC : C.Ok) {y : Str} {p pos : Pos} {e : Expr} {es : List Expr} {f : Value} {wl : WL} (hf : SN C (.Name y p) f) (hk : keepIn C.K f = true) (he : starEach (e :: es) C.env = (false,eval e C.env) :: starEach es C.env)
    (hp : (backTo pos (starEach es C.env)).any (·.1) = false) (hl : SL C (e :: es) wl) : SE C (.Call (.Name y p) (e :: es) [] pos) (fun lc cells k X => wl lc cells (fun vs c1 => Sem G n f vs c1 k X) X) := by subst eG en; exact sCall hC hf hk he hp hl
theorem sCall0_ {C : Cx} {G : Gx} {n : Nat} (eG : C.toGx = G) (en : C.n = n) (hC : C.Ok) {y : Str} {p pos : Pos} {f : Value} (hf : SN C (.Name y p) f) (hk : keepIn C.K f = true) : SE C (.Call (.Name y p) [] [] pos) (fun _ cells k X => Sem G n f [] cells k X) := by subst eG en; exact sCall0 hC hf hk
theorem sAttr_ {C : Cx} {G : Gx} (eG : C.toGx = G) (hC : C.Ok) {a : Expr} {attr : Str} {pos : Pos} {wa : WE} (ka : Nat) (hka : ka < 64) (hn : C.an ka = attr) (ha : SE C a wa)
    (he : eval (.Attribute a attr pos) C.env = (do
      let o ← eval a C.env
      standAt pos.atName
      let r ← holding [o] (getAttr o attr true)
      letTemporaryGo a o r
      pure r)) : SE C (.Attribute a attr pos) (fun lc cells k X => wa lc cells (fun va c1 => attrV G.T c1 va ka (fun v => k v c1)) X) := by subst eG; exact sAttr hC ka hka hn ha he
theorem sSetA_ {C : Cx} {G : Gx} (eG : C.toGx = G) (hC : C.Ok) {o e : Expr} {attr : Str} {tp pos : Pos} {wo we : WE} (ka : Nat) (hka : ka < 64) (ha : C.an ka = attr) (hs : swapsWith e (some (.Attribute o attr tp)) pos.line C.env = pure false) (he : SE C e we) (ho : SE C o wo) :
    SSt C (.Assign [.Attribute o attr tp] e pos) (fun lc cells k X => we lc cells (fun v c1 => wo lc c1 (fun vo c2 => setAV G.T c2 vo ka v (fun c3 => k .next lc c3)) X) X) := by subst eG; exact sSetA hC ka hka ha hs he ho
theorem sAugA_ {C : Cx} {G : Gx} (eG : C.toGx = G) (hC : C.Ok) {o e : Expr} {attr : Str} {tp pos : Pos} {op : Operator} {wo we : WE} {pre : V → V → (V → Prop) → Prop} (ka : Nat) (hka : ka < 64) (ha : C.an ka = attr) (hop : PO C (inplaceOp op) pre) (ho : SE C o wo) (he : SE C e we) :
    SSt C (.AugAssign (.Attribute o attr tp) op e pos) (fun lc cells k X => wo lc cells (fun vo c1 => attrV G.T c1 vo ka (fun old => we lc c1 (fun v c2 => pre old v (fun nw => setAV G.T c2 vo ka nw (fun c3 => k .next lc c3))) X)) X) := by subst eG; exact sAugA hC ka hka ha hop ho he
theorem sMeth_ {C : Cx} {G : Gx} {n : Nat} (eG : C.toGx = G) (en : C.n = n) (hC : C.Ok) {o e : Expr} {es : List Expr} {name : Str} {apos pos : Pos} {wo : WE} {wl : WL} (ka : Nat) (hn : C.an ka = name) (hbase : attributeBase o name C.env (eval o C.env) = eval o C.env)
    (hfew : methodCallForm ((e :: es).length + ([] : List Keyword).length) (backTo pos (starEach (e :: es) C.env)) (backToKw pos (keywordEach [] C.env)) = true) (hline : (apos.endLine == pos.line) = true)
    (he : starEach (e :: es) C.env = (false,eval e C.env) :: starEach es C.env) (hp : (backTo pos (starEach es C.env)).any (·.1) = false) (ho : SE C o wo) (hl : SL C (e :: es) wl) :
    SE C (.Call (.Attribute o name apos) (e :: es) [] pos) (fun lc cells k X => wo lc cells (fun vo c1 => methW G.T c1 vo ka (fun f => wl lc c1 (fun vs c2 => Sem G n (.ref f) (vo :: vs) c2 k X) X)) X) := by subst eG en; exact sMeth hC ka hn hbase hfew hline he hp ho hl
theorem sMeth0_ {C : Cx} {G : Gx} {n : Nat} (eG : C.toGx = G) (en : C.n = n) (hC : C.Ok) {o : Expr} {name : Str} {apos pos : Pos} {wo : WE} (ka : Nat) (hn : C.an ka = name) (hbase : attributeBase o name C.env (eval o C.env) = eval o C.env) (hline : (apos.endLine == pos.line) = true) (ho : SE C o wo) :
    SE C (.Call (.Attribute o name apos) [] [] pos) (fun lc cells k X => wo lc cells (fun vo c1 => methW G.T c1 vo ka (fun f => Sem G n (.ref f) [vo] c1 k X)) X) := by subst eG en; exact sMeth0 hC ka hn hbase hline ho
theorem sFor_ {C : Cx} {G : Gx} (eG : C.toGx = G) (hC : C.Ok) {y : Str} {px pos : Pos} {iter : Expr} {body : List Stmt} {we : WE} {wb : WS} (i : Nat) (hi : C.names[i]? = some y) (hk : KindOk C y) (hs : ∀ x,foldedSetIterable iter C.env x = pure x) (he : SE C iter we) (hb : SSs C body wb) :
    SSt C (.For (.Name y px) iter body [] pos) (fun lc cells k X => we lc cells (fun v c1 => overW G.q v (fun l => forW wb i l lc c1 k (fun _ => False))) X) := by subst eG; exact sFor hC i hi hk hs he hb
theorem sComp_ {C : Cx} {G : Gx} (eG : C.toGx = G) {scope : Scope} (hC : C.Ok) {elt iter : Expr} {x : Str} {px pos : Pos} {ifs : List Expr} {we : WE} {wt : WT} {wel : WE} (names' : List Str) (pm : List (Option Nat)) (K : CompOk C scope names' pm) (jx : Nat) (hjx : names'[jx]? = some x) (hx : scope.names.lookup x = some .local ∨ scope.names.lookup x = some .cell)
    (hs : ∀ x,foldedSetIterable iter C.env x = pure x) (he : SE C iter we) (hin : ∀ C' : Cx,C'.toGx = C.toGx → C'.n = C.n → C'.names = names' → C'.env = cEnv C scope C'.L → C'.Ok → STs C' ifs wt ∧ SE C' elt wel) :
    SE C (.ListComp elt [⟨.Name x px,iter,ifs,0⟩] scope pos) (fun lc cells k X => we lc cells (fun v c1 => overW G.q v (fun l => compW wt wel jx l (lcIn pm lc) c1 [] (fun acc _ c2 => k (.lst acc) c2))) X) := by subst eG; exact sComp hC names' pm K jx hjx hx hs he hin
theorem sComp2_ {C : Cx} {G : Gx} (eG : C.toGx = G) {scope : Scope} (hC : C.Ok) {elt iter iter2 : Expr} {x y : Str} {px py pos : Pos} {we we2 wel : WE} (names' : List Str) (pm : List (Option Nat)) (K : CompOk C scope names' pm) (jx jy : Nat) (hjx : names'[jx]? = some x) (hx : scope.names.lookup x = some .local) (hjy : names'[jy]? = some y) (hy : scope.names.lookup y = some .local)
    (hs : ∀ x,foldedSetIterable iter C.env x = pure x) (he : SE C iter we) (hin : ∀ C' : Cx,C'.toGx = C.toGx → C'.n = C.n → C'.names = names' → C'.env = cEnv C scope C'.L → C'.Ok → SE C' iter2 we2 ∧ SE C' elt wel ∧ ∀ x,foldedSetIterable iter2 C'.env x = pure x) :
    SE C (.ListComp elt [⟨.Name x px,iter,[],0⟩,⟨.Name y py,iter2,[],0⟩] scope pos) (fun lc cells k X => we lc cells (fun v c1 => overW G.q v (fun l => comp2W we2 wel G.q jx jy l (lcIn pm lc) c1 [] (fun acc _ c2 => k (.lst acc) c2))) X) := by subst eG; exact sComp2 hC names' pm K jx jy hjx hx hjy hy hs he hin
theorem sCompSet_ {C : Cx} {G : Gx} (eG : C.toGx = G) {scope : Scope} (hC : C.Ok) {elt iter : Expr} {x y : Str} {px py pos spos : Pos} {ifs : List Expr} {we : WE} {wt : WT} {wel : WE} (iy : Nat) (hiy : C.names[iy]? = some y) (hky : KindOk C y) (names' : List Str) (pm : List (Option Nat)) (K : CompOk C scope names' pm) (jx : Nat) (hjx : names'[jx]? = some x) (hx : scope.names.lookup x = some .local ∨ scope.names.lookup x = some .cell)
    (hsw : swapsWith (.ListComp elt [⟨.Name x px,iter,ifs,0⟩] scope pos) (some (.Name y py)) spos.line C.env = pure true)
    (hs : ∀ x,foldedSetIterable iter C.env x = pure x) (he : SE C iter we) (hin : ∀ C' : Cx,C'.toGx = C.toGx → C'.n = C.n → C'.names = names' → C'.env = cEnv C scope C'.L → C'.Ok → STs C' ifs wt ∧ SE C' elt wel) :
    SSt C (.Assign [.Name y py] (.ListComp elt [⟨.Name x px,iter,ifs,0⟩] scope pos) spos) (fun lc cells k X => we lc cells (fun v c1 => overW G.q v (fun l => compW wt wel jx l (lcIn pm lc) c1 [] (fun acc _ c2 => k .next (lc.set iy (some (.lst acc))) c2))) X) := by subst eG; exact sCompSet hC iy hiy hky names' pm K jx hjx hx hsw hs he hin
theorem tgAttr_ {C : Cx} {G : Gx} (eG : C.toGx = G) (hC : C.Ok) {o : Expr} {attr : Str} {tp : Pos} {wo : WE} (ka : Nat) (hka : ka < 64) (ha : C.an ka = attr) (ho : SE C o wo) :
    STg C (assign (.Attribute o attr tp) C.env) (fun lc cells v k X => wo lc cells (fun vo c2 => setAV G.T c2 vo ka v (fun c3 => k lc c3)) X) := by subst eG; exact tgAttr hC ka hka ha ho
theorem sNot {C : Cx} {a : Expr} {pos : Pos} {wa : WE} (ha : SE C a wa) : SE C (.UnaryOp .Not a pos) (fun lc cells k X => wa lc cells (fun v c1 => match v with | .bool b => k (.bool (!b)) c1 | _ => False) X) := by
  constructor; intro lc cells k x hw Z m g cs s Q E S hQ hE
  refine wpAny_bind (ha.run lc cells _ x hw Z m g cs s _ E S (fun v c1 Z1 g1 s1 u hz hr S1 R hk => ?_) hE)
  split at hk
  · obtain rfl := rv_bool.mp R
    exact wpAny_bind (wpAny_standAt (wpAny_holding (not_of (wpAny_truthy_bool (hQ _ c1 Z1 g1 _ _ hz hr S1 (rv_bool.mpr rfl) hk)))))
  · exact hk.elim
theorem inter {C : Cx} (hC : C.Ok) : interactive C.env = false := by
  unfold interactive
  rw [hC.kind]; rfl
theorem relabel_lookup {env : Env} {y : Str} {k : NameKind} (hk : k ≠ .free) : ∀ {ns : List (Str × NameKind)},ns.lookup y = some k → (ns.map fun (n,k) => if (k == NameKind.free && env.scope.kind == .function && env.kindOf n == some .cell) then (n,NameKind.cell) else (n,k)).lookup y = some k
  | [],h => by cases h
  | (n,k') :: r,h => by
    rw [List.map_cons]
    cases hx : y == n with
    | true =>
      simp only [List.lookup_cons,hx] at h
      cases h
      have : (k == NameKind.free) = false := beq_eq_false_iff_ne.mpr hk
      simp [List.lookup_cons,hx,this]
    | false =>
      simp only [List.lookup_cons,hx] at h
      dsimp only
      split <;> (simp only [List.lookup_cons,hx]; exact relabel_lookup hk h)
theorem kdC {C C' : Cx} {scope : Scope} (he : C'.env = cEnv C scope C'.L) {y : Str} {k : NameKind} (e : scope.names.lookup y = some k) (hk : k ≠ .free := by decide) : C'.env.kindOf y = some k := by
  unfold Env.kindOf
  rw [he]
  exact relabel_lookup hk e
theorem comp_has {C : Cx} {sc : Scope} {n : Nat} (hcl : C.env.cells = cellsFrom n sc.names []) {x : Str} (h : sc.names.lookup x = some .cell) : (C.env.cells.lookup x).isSome = true := by
  rw [hcl]; exact cellsFrom_has _ _ _ _ (.inl (lookup_mem' h))
theorem walkFnC {G : Gx} (hG : G.Ok) {n : Nat} {a : Addr} {pn names : List Str} (F : FnC G a (fdK a) (bodyK a) pn names) (dv : List V) (dvals : List Value) (lc : Lc) {args : List V} {cells : List Cell} {Q : V → List Cell → Prop} {X : List Cell → Prop}
    (hdv : ∀ Z r,Zle G.zg Z → RvL G.an G.w.params Z r dv dvals) (hb : BindOk G (fdK a) args.length pn dvals) (hl : pn.length = args.length + dv.length) (hlc : ((args ++ dv).map some ++ (names.drop pn.length).map fun _ => none) = lc)
    (h : ∀ C : Cx,C.toGx = G → C.n = n → C.names = names → C.env.scope = (fdK a).scope → C.env.cells = cellsFrom (C.L + 1) (fdK a).scope.names [] → C.Ok → ∃ ws,SSs C (bodyK a) ws ∧ ws lc cells (back Q) X) : Sem G (n + 1) (.ref a) args cells Q X := by
  subst hlc
  exact sem_fnC hG F hdv hb hl h
noncomputable def fnChkC (a : Nat) (np : Nat) (names : List Str) : Bool := isStmts (fdK a).body && ((fdK a).globals == mainGlobals) && (fdK a).closure.isEmpty && ((fdK a).builtins == builtinsNs) && ((fdK a).scope.kind == .function) && !(fdK a).scope.isCoroutine && !(fdK a).scope.isGenerator &&
  names.Nodup && (names.all fun y => (fdK a).scope.names.lookup y == some .local || (fdK a).scope.names.lookup y == some .cell)
theorem fnC_of {G : Gx} (I : IsG G) {a np : Nat} {names : List Str} (h1 : ∀ P,(K P).lookup a = some ⟨.type "function",none,.func (fdK a),#[]⟩) (hc : ∀ P,codeIn (K P) (fdK a).code (fdK a).qualname = true) (h2 : fnChkC a np names = true) : FnC G a (fdK a) (bodyK a) (names.take np) names := by
  unfold fnChkC at h2
  simp only [Bool.and_eq_true,beq_iff_eq,Bool.not_eq_true',decide_eq_true_eq,List.all_eq_true,Bool.or_eq_true] at h2
  obtain ⟨⟨⟨⟨⟨⟨⟨⟨b1,b2⟩,b3⟩,b4⟩,b5⟩,b6⟩,b7⟩,b9⟩,b10⟩ := h2
  refine ⟨⟨_,_,_,by rw [I.k]; exact h1 _⟩,by rw [I.k]; exact hc _,?_,b2,List.isEmpty_iff.mp b3,b4,b5,b6,b7,b9,⟨names.drop np,(List.take_append_drop _ _).symm⟩,b10⟩
  · unfold bodyK
    cases q : (fdK a).body with
    | stmts b => rfl
    | expr b => rw [q] at b1; cases b1
theorem bindK {G : Gx} (I : IsG G) {s : Shared} {fd : FuncData} {args : Args} {binds : List (Str × Value)} (X : G.K.In s.heap) (e : ∀ P S,peek (K P) S (bindArgs fd args) = some binds) : BindsTo s fd args binds := kp_binds X (fun S => by rw [I.k]; exact e _ S)
structure Ct (C : Cx) (G : Gx) (n : Nat) (l : List Str) (sc : Scope) : Prop where
  e : C.toGx = G
  m : C.n = n
  l : C.names = l
  k : ∀ {y k},sc.names.lookup y = some k → k ≠ .free → C.env.kindOf y = some k
  c : C.Ok
  i : IsG C.toGx
theorem ctC {C C' : Cx} {G : Gx} {n : Nat} {l names' : List Str} {sc scope : Scope} (c : Ct C G n l sc) (e : C'.toGx = C.toGx) (en : C'.n = C.n) (hn : C'.names = names') (he : C'.env = cEnv C scope C'.L) (hC : C'.Ok) : Ct C' G n names' scope :=
  ⟨e.trans c.e,en.trans c.m,hn,fun h hk => kdC he h hk,hC,IsG.to e c.i⟩
noncomputable def notStar : Expr → Bool
  | .Starred _ _ => false
  | _ => true
theorem se_ {e : Expr} {l : List Expr} {env : Env} (h : notStar e = true) : starEach (e :: l) env = (false,eval e env) :: starEach l env := by
  cases e <;> first | rfl | cases h
theorem sp_ {env : Env} {pos : Pos} : ∀ {es : List Expr},es.all notStar = true → (backTo pos (starEach es env)).any (·.1) = false
  | [],_ => rfl
  | e :: l,h => by
    rw [List.all_cons,Bool.and_eq_true] at h
    rw [se_ h.1]
    show (false || (backTo pos (starEach l env)).any (·.1)) = false
    rw [sp_ h.2]; rfl
section
variable {C : Cx} {G : Gx} {n : Nat} {l : List Str} {sc : Scope} (c : Ct C G n l sc)
include c
theorem L {y : Str} {pos : Pos} (i : Nat) (hi : l[i]? = some y) (h : (y == ("__debug__" : Str) || y == ("__classdict__" : Str)) = false) :
    SE C (.Name y pos) (fun lc cells k _ => match lc[i]? with | some (some v) => k v cells | _ => False) := sLoc c.c i (nm c.l hi) (Bool.or_eq_false_iff.mp h).1 (Bool.or_eq_false_iff.mp h).2
theorem gi {y : Str} {p : Pos} {i : Int} {t : Tok} (e : ∀ P,nsIn (K P) mainGlobals y = some (some (.int i t))) (hx : sc.names.lookup y = some .globalImplicit) (hd : (y == ("__debug__" : Str)) = false) : SE C (.Name y p) (fun _ cells k _ => k (.int i) cells) :=
  sGlob c.c (gl c.i e) (fun _ _ => rv_int.mpr ⟨_,rfl⟩) (c.k hx (by decide)) hd
theorem gv {y : Str} {p : Pos} {u : Value} (e : ∀ P,nsIn (K P) mainGlobals y = some (some u)) (hx : sc.names.lookup y = some .globalImplicit) (hd : (y == ("__debug__" : Str)) = false) : SN C (.Name y p) u :=
  sGlob c.c (gl c.i e) (fun _ _ => rv_val.mpr rfl) (c.k hx (by decide)) hd
theorem gd {y : Str} {p : Pos} {v : V} {u : Value} (e : ∀ P,nsIn (K P) mainGlobals y = some (some u)) (hv : ∀ Z r,Zle C.zg Z → Rv C.an C.w.params Z r v u) (hx : sc.names.lookup y = some .globalImplicit) (hd : (y == ("__debug__" : Str)) = false) : SE C (.Name y p) (fun _ cells k _ => k v cells) :=
  sGlobD c.c (gl c.i e) hv (c.k hx (by decide)) hd
theorem gb {y : Str} {p : Pos} {u : Value} (e : ∀ P,nsIn (K P) mainGlobals y = some none) (hb : (bootBuiltins y = some u ∧ y ≠ "__name__") ∧ (y == ("__debug__" : Str)) = false) (hx : sc.names.lookup y = some .globalImplicit) : SN C (.Name y p) u :=
  sBlt c.c (gl c.i e) hb.1.1 hb.1.2 (c.k hx (by decide)) hb.2
theorem A {a : Expr} {attr : Str} {pos : Pos} {wa : WE} (ka : Nat) (hka : Nat.blt ka 64 = true) (hn : anm ka = attr) (ha : SE C a wa)
    (he : eval (.Attribute a attr pos) C.env = (do
      let o ← eval a C.env
      standAt pos.atName
      let r ← holding [o] (getAttr o attr true)
      letTemporaryGo a o r
      pure r)) : SE C (.Attribute a attr pos) (fun lc cells k X => wa lc cells (fun va c1 => attrV G.T c1 va ka (fun v => k v c1)) X) := sAttr_ c.e c.c ka (Nat.blt_eq.mp hka) (an_ c.i hn) ha he
theorem k {e : Expr} {es : List Expr} {we : WE} {wl : WL} (h : notStar e = true) (he : SE C e we) (hl : SL C es wl) : SL C (e :: es) (fun lc cells k X => we lc cells (fun v c1 => wl lc c1 (fun vs c2 => k (v :: vs) c2) X) X) := slCons c.c (se_ h) he hl
theorem ca {y : Str} {p pos : Pos} {e : Expr} {es : List Expr} {f : Value} {wl : WL} (hf : SN C (.Name y p) f) (hk : ∀ P,keepIn (K P) f = true) (h1 : notStar e = true) (h2 : es.all notStar = true) (hl : SL C (e :: es) wl) : SE C (.Call (.Name y p) (e :: es) [] pos) (fun lc cells k X => wl lc cells (fun vs c1 => Sem G n f vs c1 k X) X) :=
  sCall_ c.e c.m c.c hf (kpk c.i hk) (se_ h1) (sp_ h2) hl
theorem ca0 {y : Str} {p pos : Pos} {f : Value} (hf : SN C (.Name y p) f) (hk : ∀ P,keepIn (K P) f = true) : SE C (.Call (.Name y p) [] [] pos) (fun _ cells k X => Sem G n f [] cells k X) := sCall0_ c.e c.m c.c hf (kpk c.i hk)
theorem bc {y : Str} {p pos : Pos} {e : Expr} {es : List Expr} {f : Value} {wl : WL} {pre : List V → List Cell → (V → List Cell → Prop) → Prop} (hf : SN C (.Name y p) f) (hkp : keeperOf f = pure .machine) (h1 : notStar e = true) (h2 : es.all notStar = true) (hl : SL C (e :: es) wl) (hb : BO C f pre) :
    SE C (.Call (.Name y p) (e :: es) [] pos) (fun lc cells k X => wl lc cells (fun vs c1 => pre vs c1 k) X) := sBC c.c hf hkp (se_ h1) (sp_ h2) hl hb
theorem me {o e : Expr} {es : List Expr} {name : Str} {apos pos : Pos} {wo : WE} {wl : WL} (ka : Nat) (hn : anm ka = name) (hbase : attributeBase o name C.env (eval o C.env) = eval o C.env)
    (hfew : methodCallForm ((e :: es).length + ([] : List Keyword).length) (backTo pos (starEach (e :: es) C.env)) (backToKw pos (keywordEach [] C.env)) = true) (hline : (apos.endLine == pos.line) = true) (h1 : notStar e = true) (h2 : es.all notStar = true) (ho : SE C o wo) (hl : SL C (e :: es) wl) :
    SE C (.Call (.Attribute o name apos) (e :: es) [] pos) (fun lc cells k X => wo lc cells (fun vo c1 => methW G.T c1 vo ka (fun f => wl lc c1 (fun vs c2 => Sem G n (.ref f) (vo :: vs) c2 k X) X)) X) := sMeth_ c.e c.m c.c ka (an_ c.i hn) hbase hfew hline (se_ h1) (sp_ h2) ho hl
theorem me0 {o : Expr} {name : Str} {apos pos : Pos} {wo : WE} (ka : Nat) (hn : anm ka = name) (hbase : attributeBase o name C.env (eval o C.env) = eval o C.env) (hline : (apos.endLine == pos.line) = true) (ho : SE C o wo) :
    SE C (.Call (.Attribute o name apos) [] [] pos) (fun lc cells k X => wo lc cells (fun vo c1 => methW G.T c1 vo ka (fun f => Sem G n (.ref f) [vo] c1 k X)) X) := sMeth0_ c.e c.m c.c ka (an_ c.i hn) hbase hline ho
theorem tn {y : Str} {pos : Pos} (i : Nat) (hi : l[i]? = some y) (hk : KindOk C y) : STg C (assign (.Name y pos) C.env) (fun lc cells v k _ => k (lc.set i (some v)) cells) := tgName c.c i (nm c.l hi) hk
theorem st {y : Str} {np pos : Pos} {e : Expr} {we : WE} (i : Nat) (hi : l[i]? = some y) (hk : KindOk C y) (hs : swapsWith e (some (.Name y np)) pos.line C.env = pure false) (h : SE C e we) :
    SSt C (.Assign [.Name y np] e pos) (fun lc cells k X => we lc cells (fun v c1 => k .next (lc.set i (some v)) c1) X) := sSet c.c i (nm c.l hi) hk hs h
end
theorem nodv {an : Nat → Str} {P : Params} {zg : Zm} : ∀ (Z : Zm) (r : Adr),Zle zg Z → RvL an P Z r [] [] := fun _ _ _ => rvl_nil.mpr rfl
noncomputable def gTab : List (Str × Option Value) := [(S "ADJUST",some (.int 11 617)),(S "ALEADERS",some (.int 1 643)),(S "Adjust",some (.ref 574)),(S "Box",some (.ref 405)),(S "CHAR",some (.int 0 598)),(S "Char",some (.ref 364)),(S "DEEPEST",some (.int 60 656)),(S "DISC",some (.int 8 614)),(S "Disc",some (.ref 511)),(S "EDGE",some (.int 256 1392)),(S "EXACTLY",some (.int 0 1214)),(S "FIL",some (.int 1 307)),(S "FILL",some (.int 2 308)),(S "FILLL",some (.int 3 309)),(S "FINE",some (.int 0 1218)),(S "FONT_KERN",some (.int 0 634)),(S "Font",some (.ref 968)),(S "GLUE",some (.int 6 604)),(S "Glue",some (.ref 246)),(S "HBOX",some (.int 2 600)),(S "INF_BAD",some (.int 10000 304)),(S "INSERT",some (.int 10 616)),(S "Insert",some (.ref 553)),(S "KERN",some (.int 5 603)),(S "Kern",some (.ref 447)),(S "LARGER_SORT",some (.int 2 1406)),(S "LEAD",some (.int 255 1414)),(S "LETTERS",some (.str (S "abcdefghjklmnopqrstuvwxyz") 1425)),(S "LIGATURE",some (.int 1 599)),(S "LOOSE",some (.int 1 1219)),(S "Ligature",some (.ref 384)),(S "MARK",some (.int 9 615)),(S "MATH",some (.int 12 618)),(S "MAX_DIMEN",some (.int 1073741823 296)),(S "MAX_NUMBER",some (.int 2147483647 302)),(S "MOST_FONTS",some (.int 255 1394)),(S "MOST_PARAMS",some (.int 64 1396)),(S "MOST_SIZE",some (.int 134217727 1402)),(S "MU_KERN",some (.int 3 637)),(S "Mark",some (.ref 532)),(S "MathEdge",some (.ref 595)),(S "NAMED",some (.int 100 648)),(S "NATURAL",some (.int 0 628)),(S "NONSCRIPT",some (.int 5 647)),(S "NORMAL",some (.int 0 306)),(S "NO_CHARACTER",some (.ref 828)),(S "OVERFULL",some (.int 3 1221)),(S "Overflow",some (.ref 64)),(S "PENALTY",some (.int 7 605)),(S "PIECES_SORT",some (.int 3 1407)),(S "PLAIN",some (.int 0 642)),(S "PLAIN_SORT",some (.int 0 1404)),(S "PROGRAM_SORT",some (.int 1 1405)),(S "Penalty",some (.ref 490)),(S "RULE",some (.int 4 602)),(S "Rule",some (.ref 426)),(S "SHRUNK",some (.int 2 630)),(S "SPECIAL",some (.int 13 619)),(S "SPREAD",some (.int 1 1215)),(S "STRETCHED",some (.int 1 629)),(S "Skip",some (.ref 469)),(S "Special",some (.ref 616)),(S "TIGHT",some (.int 2 1220)),(S "Totals",some (.ref 309)),(S "UNSET",some (.int 14 620)),(S "Unset",some (.ref 638)),(S "VBOX",some (.int 3 601)),(S "XLEADERS",some (.int 3 645)),(S "_law_amount",some (.ref 1080)),(S "_law_bad",some (.ref 1073)),(S "_law_flow",some (.ref 1042)),(S "_law_glue",some (.ref 1021)),(S "_law_gone",some (.ref 1049)),(S "_law_heap",some (.ref 1000)),(S "_law_letter",some (.ref 1056)),(S "_law_letters",some (.ref 993)),(S "_law_near",some (.ref 1094)),(S "_law_part",some (.ref 1061)),(S "_law_placed",some (.ref 1101)),(S "_law_shut",some (.ref 1028)),(S "_law_size",some (.ref 1014)),(S "_law_stands",some (.ref 1035)),(S "_law_take",some (.ref 1007)),(S "_law_told",some (.ref 1087)),(S "_law_top",some (.ref 1066)),(S "across",some (.ref 719)),(S "badness",some (.ref 164)),(S "check_chars",some (.ref 857)),(S "check_code",some (.ref 340)),(S "check_column",some (.ref 726)),(S "check_depth",some (.ref 649)),(S "check_dimen",some (.ref 122)),(S "check_larger",some (.ref 864)),(S "check_number",some (.ref 115)),(S "check_pieces",some (.ref 850)),(S "check_program",some (.ref 871)),(S "check_short",some (.ref 347)),(S "check_sizes",some (.ref 843)),(S "check_whole",some (.ref 108)),(S "depth_of",some (.ref 683)),(S "described",some (.ref 662)),(S "described_list",some (.ref 668)),(S "described_rest",some (.ref 656)),(S "flex",some (.ref 754)),(S "font_name",some (.ref 979)),(S "font_of_rows",some (.ref 989)),(S "glue_size",some (.ref 768)),(S "goal_size",some (.ref 796)),(S "height_of",some (.ref 678)),(S "hpack",some (.ref 811)),(S "is_size",some (.ref 836)),(S "is_whole",some (.ref 101)),(S "left_start",some (.ref 878)),(S "line_depth",some (.ref 697)),(S "line_height",some (.ref 690)),(S "moved",some (.ref 789)),(S "natural_column",some (.ref 733)),(S "natural_line",some (.ref 712)),(S "part_size",some (.ref 775)),(S "places",some (.ref 782)),(S "quotient",some (.ref 740)),(S "rounded",some (.ref 129)),(S "set_box",some (.ref 803)),(S "set_glue",some (.ref 747)),(S "set_part",some (.ref 761)),(S "top_order",some (.ref 257)),(S "vpack",some (.ref 819)),(S "width_of",some (.ref 673)),(S "abs",none),(S "bool",none),(S "bytes",none),(S "dict",none),(S "enumerate",none),(S "int",none),(S "isinstance",none),(S "len",none),(S "list",none),(S "max",none),(S "min",none),(S "range",none),(S "str",none),(S "sum",none),(S "tuple",none)]
theorem gTab_ok (P : Params) : (gTab.all fun p => nsIn (K P) mainGlobals p.1 == some p.2) = true := by kernel_rfl
theorem gAt (P : Params) (i : Nat) {x : Str} {v : Option Value} (e : gTab[i]? = some (x,v)) : nsIn (K P) mainGlobals x = some v := beq_iff_eq.mp (List.all_eq_true.mp (gTab_ok P) (x,v) (List.mem_of_getElem? e))
theorem ga (i : Nat) {x : Str} {v : Option Value} (e : gTab[i]? = some (x,v)) (P : Params) : nsIn (K P) mainGlobals x = some v := gAt P i e
noncomputable def kTab : List Value := [.ref 574,.ref 405,.ref 364,.ref 511,.ref 968,.ref 246,.ref 553,.ref 447,.ref 384,.ref 532,.ref 595,.ref 64,.ref 490,.ref 426,.ref 469,.ref 616,.ref 309,.ref 638,.ref 1080,.ref 1073,.ref 1042,.ref 1021,.ref 1049,.ref 1000,.ref 1056,.ref 1094,.ref 1061,.ref 1101,.ref 1028,.ref 1014,.ref 1035,.ref 1007,.ref 1087,.ref 1066,.ref 719,.ref 164,.ref 857,.ref 340,.ref 726,.ref 649,.ref 122,.ref 864,.ref 115,.ref 850,.ref 871,.ref 347,.ref 843,.ref 108,.ref 683,.ref 662,.ref 668,.ref 656,.ref 754,.ref 979,.ref 989,.ref 768,.ref 796,.ref 678,.ref 811,.ref 836,.ref 101,.ref 878,.ref 697,.ref 690,.ref 789,.ref 733,.ref 712,.ref 775,.ref 782,.ref 740,.ref 129,.ref 803,.ref 747,.ref 761,.ref 257,.ref 819,.ref 673]
theorem kTab_ok (P : Params) : (kTab.all fun v => keepIn (K P) v) = true := by kernel_rfl
theorem kAt (P : Params) (i : Nat) {v : Value} (e : kTab[i]? = some v) : keepIn (K P) v = true := List.all_eq_true.mp (kTab_ok P) v (List.mem_of_getElem? e)
theorem kA (i : Nat) {v : Value} (e : kTab[i]? = some v) (P : Params) : keepIn (K P) v = true := kAt P i e
theorem g_Overflow (P : Params) : nsIn (K P) mainGlobals (S "Overflow") = some (some (.ref 64)) := ga 47 rfl P
theorem kp_Overflow (P : Params) : keepIn (K P) (.ref 64) = true := kA 11 rfl P
noncomputable def fnTab : List Nat := [122,101,108,115,129,164,193,200,257,271,278,285,292,299,340,347,361,381,402,423,444,466,487,508,529,550,571,592,613,635,649,656,662,668,673,678,683,690,697,712,719,726,733,740,747,754,761,768,775,782,789,796,803,811,819,1000,1007,1014,1021,1028,1035,1042,1049,1056,1061,1066,1073,1080,1087,1094,1101,836,843,857,864,871,878,895,909,916,923,979,989,1106]
theorem fnAll (P : Params) : fnTab.map (fun a => (K P).lookup a) = fnTab.map (fun a => some ⟨.type "function",none,.func (fdK a),#[]⟩) := by kernel_rfl
theorem fcAll (P : Params) : (fnTab.all fun a => codeIn (K P) (fdK a).code (fdK a).qualname) = true := by kernel_rfl
theorem fnAt {i a : Nat} (h : fnTab[i]? = some a) (P : Params) : (K P).lookup a = some ⟨.type "function",none,.func (fdK a),#[]⟩ := by
  have := congrArg (·[i]?) (fnAll P)
  simpa [List.getElem?_map,h] using this
theorem fcAt {i a : Nat} (h : fnTab[i]? = some a) (P : Params) : codeIn (K P) (fdK a).code (fdK a).qualname = true := List.all_eq_true.mp (fcAll P) a (List.mem_of_getElem? h)
end Mine
end
section
open PySem PySem.W PyProof.Rows
open Builtin Builtin.ObjectAttr
namespace Mine
noncomputable def cd64 : ClassData := (clsIn (K pD) 64).getD default
theorem cd64_ok (P : Params) : clsIn (K P) 64 = some cd64 := by kernel_rfl
theorem cd64_mro : cd64.mro = [.ref 64,.ref 39,.type "ValueError",.type "Exception",.type "BaseException",.type "object"] := by kernel_rfl
theorem ov_set (P : Params) : findIn (K P) (.ref 64) "__setattr__" = some (some (.builtin "object.__setattr__")) := by kernel_rfl
theorem ov_init (P : Params) : findIn (K P) (.ref 64) "__init__" = some (some (.ref 36)) := by kernel_rfl
theorem ov_reason (P : Params) : findIn (K P) (.ref 64) (S "reason") = some none := by kernel_rfl
theorem ov_fn (P : Params) : typeIn (K P) (.ref 36) = some (.type "function") := by kernel_rfl
noncomputable abbrev excO (vs : Array Value) (d : Option Addr) : Obj := { cls := .ref 64,dict := d,data := .fields vs }
section
variable {prog : Program} {w : World} {A : Around} {E : Value → Shared → Prop} {s : Shared}
theorem exc_set (X : (K w.params).In s.heap) {e : Addr} {vs : Array Value} (he : s.heap.get? e = some (excO vs none)) {v : Value} {Q : Unit → Shared → Prop}
    (h : ∀ h' tk d,h'.get? e = some (excO vs (some d)) → (∀ b o,b ≠ e → s.heap.get? b = some o → h'.get? b = some o) → Q () { s with heap := h',toks := tk }) : wpAny (model prog w) A (setAttr (.ref e) (S "reason") v) Q E s := by
  have I : InstAt s.heap e (excO vs none) 64 none := ⟨he,rfl,rfl,trivial⟩
  refine set_plain X I (ov_set _) ?_
  obtain ⟨hh,gg,dd,tt,os⟩ := s
  have SF := PySem.F.store_object
  have hc := cd64_ok w.params
  have hm : Looks (model prog w) hh (mroOf (.ref 64)) cd64.mro := (looks_clsIn X hc).andThen .now
  have sub : Looks (model prog w) hh (isInstance (.ref e) (.type "object")) true := I.type.andThen (looks_mroIn X (by unfold mroIn; rw [hc,Option.bind_some,cd64_mro]; rfl))
  refine codeAny_call_builtin SF.slot.plain SF.entry (@check_slot (model prog w) _ _ _ "object.__setattr__" "object" "__setattr__" (.ref e) [.str (S "reason") tt,v] [] _ SF.kind SF.split sub (SF.args (.ref e) (.str (S "reason") tt) v) ?_)
  rw [osa_eq,refuse_eq]
  refine wpAny_bind (wpAny_bind (I.type.at (wpAny_bind (hm.at ?_))))
  rw [cd64_mro,refuseLoop_ref,refuseLoop_ref,PySem.F.store_ValueError.passes]
  refine wpAny_pure (wpAny_bind (I.type.at (wpAny_bind ((looks_findIn X (ov_reason _)).at (wpAny_bind (wpAny_pure ?_))))))
  dsimp only
  unfold storeInOwnDict
  refine wpAny_bind (wpAny_pure ?_)
  rw [if_neg (by decide)]
  refine wpAny_bind ?_
  unfold ownDictForStores instanceDict
  refine wpAny_bind (wpAny_loadPart he ?_)
  dsimp only
  refine wpAny_bind ((looks_clsIn X hc).at ?_)
  have hd : cd64.hasDict = true := by kernel_rfl
  rw [hd]
  refine wpAny_bind (wpAny_alloc ?_)
  have hx₁ : (hh.push { cls := .type "dict",data := .dict #[] }).get? e = some (excO vs none) := Heap.get?_push_of_some _ he
  have hxs : e ≠ hh.objs.size := Nat.ne_of_lt (Heap.lt_size he)
  refine wpAny_bind (wpAny_update hx₁ ?_)
  unfold dictMade
  refine wpAny_pure ?_
  show wpAny _ _ (storeInDict hh.objs.size (.str (S "reason") tt) (S "reason") v) _ _ _
  have hgd : ((hh.push { cls := .type "dict",data := .dict #[] }).update e fun o => { o with dict := some hh.objs.size }).get? hh.objs.size = some (dictOf [] 0) :=
    (Heap.get?_update_other _ _ hxs).trans (Heap.get?_push_size _ rfl)
  have hge : ((hh.push { cls := .type "dict",data := .dict #[] }).update e fun o => { o with dict := some hh.objs.size }).get? e = some (excO vs (some hh.objs.size)) :=
    Heap.get?_update_self _ hx₁ rfl
  unfold storeInDict newKeyGuard
  refine wpAny_bind (wpAny_pure (wpAny_bind ?_))
  unfold nsSet
  refine wpAny_bind (wpAny_bind (wpAny_askSetting (wpAny_pure (wpAny_bind (wpAny_mkText (wpAny_bind (wpAny_loadPart hgd ?_)))))))
  dsimp only
  rw [aRefKeyMayBeTheName_at]
  have cc : (!(List.toArray ([] : List DictEntry)).any (·.key.isStr (S "reason")) && (List.toArray ([] : List DictEntry)).any (·.refKey)) = false := by simp
  rw [cc]
  refine wpAny_updatePart hgd ?_
  have keep : ∀ b o,b ≠ e → hh.get? b = some o → (((hh.push { cls := .type "dict",data := .dict #[] }).update e fun o => { o with dict := some hh.objs.size }).update hh.objs.size (Obj.putName (S "reason") (PyData.keyHash w.params (S "reason")) (.str (S "reason") (tt + 1)) v)).get? b = some o := fun b o hb eb => by
    rw [Heap.get?_update_other _ _ (Nat.ne_of_gt (Heap.lt_size eb)),Heap.get?_update_other _ _ (Ne.symm hb)]
    exact Heap.get?_push_of_some _ eb
  refine wpAny_bind (wpAny_lookBehind (o := dictOf (putL (S "reason") (PyData.keyHash w.params (S "reason")) (.str (S "reason") (tt + 1)) v []) (putN (S "reason") [] 0)) ((Heap.get?_update_self _ hgd ?_).trans ?_) ?_ ?_)
  · rw [putName_dict]; rfl
  · rw [putName_dict]; rfl
  · exact pastItsLine_dict (by rw [List.size_toArray,sizeLine_eq]; show 1 ≤ 16777216 + 1; decide)
  · refine wpAny_pure ?_
    exact h _ _ hh.objs.size ((Heap.get?_update_other _ _ (Ne.symm hxs)).trans hge) keep
theorem init_call (X : (K w.params).In s.heap) (hlim : s.heap.NoLimit) (hdep : A.depth < 1000) {e : Addr} {vs : Array Value} (he : s.heap.get? e = some (excO vs none)) {msg : Str} {t : Tok} {R : Result → Shared → Prop}
    (h : ∀ h' tk d,h'.get? e = some (excO vs (some d)) → (∀ b o,b ≠ e → s.heap.get? b = some o → h'.get? b = some o) → R (.ok (.ret .none)) { s with heap := h',toks := tk }) : codeAny (model prog w) A (.call (.ref 36) ⟨[.ref e,.str msg t],[]⟩) R s := by
  have hat : (K w.params).lookup 36 = some ⟨.type "function",none,.func (fdK 36),#[]⟩ := by kernel_rfl
  have hcode : codeIn (K w.params) (fdK 36).code (fdK 36).qualname = true := by kernel_rfl
  refine codeAny_call_def (fd := fdK 36) (body := bodyK 36) (binds := [(S "self",.ref e),(S "reason",.str msg t)]) (show A.depth < recursionLimit by unfold recursionLimit; omega) (X _ _ hat) rfl hlim (codeRec_of X hcode) (by rfl) (kp_binds X fun S => by rfl) (by decide +kernel) (fun x hx => ?_) (fun h₁ hns hk₁ => ?_) (by rfl) (by rfl) (by rfl)
  · rcases List.mem_cons.mp hx with rfl | hx
    · rfl
    · rcases List.mem_cons.mp hx with rfl | hx
      · rfl
      · cases hx
  · refine wpAny_execs_cons (plainObj_wpAny_Assign_Attribute (wpAny_Name (wpAny_loadName_local rfl rfl hns rfl (wpAny_Name (wpAny_loadName_local rfl rfl hns rfl ?_) rfl)) rfl) rfl)
    refine exc_set (s := { s with heap := h₁,toks := _ }) (fun b o e => hk₁ b o (X b o e)) (hk₁ _ _ he) fun h' tk d h1 h2 => ?_
    exact wpAny_execs_nil (h h' tk d h1 fun b o hb eb => h2 b o hb (hk₁ b o eb))
end
noncomputable abbrev ovBm : List Value := [.ref 39,.type "ValueError",.type "Exception",.type "BaseException",.type "object"]
theorem ov_obj (P : Params) : ∃ (nm q : Str) (sn : List Str) (sub : List Value) (ab : Bool) (col : Option Bool) (dd : Option Addr) (k0 k1 k2 k3 k5 : Option Value),(K P).lookup 64 = some (excClassObj nm q 64 63 [.ref 39] ovBm true sn sub ab col dd k0 k1 k2 k3 k5 "ValueError.__new__") :=
  ⟨_,_,_,_,_,_,_,_,_,_,_,_,by rfl⟩
section
variable {h : Heap} {g : Array GenState} {d : Drawn} {t : Nat} {os : OsState}
variable {nm q : Str} {C N : Addr} {bs bm : List Value} {hdct : Bool} {sn : List Str} {sub : List Value} {ab : Bool} {col : Option Bool} {dd : Option Addr} {k0 k1 k2 k3 k5 : Option Value} {B newId initId : String} {bmB : List Value}
theorem ov_check_new {M : Model} {A : Around} {E : Value → Shared → Prop} (F : ExcBaseFacts B newId initId bmB) (hb : bm.contains (.type B) = true) {rest : List Value} {Q : Unit → Shared → Prop} (hC : h.get? C = some (excClassObj nm q C N bs bm hdct sn sub ab col dd k0 k1 k2 k3 k5 newId))
    (hq : Q () ⟨h,g,d,t,os⟩) : wpAny M A (checkBuiltinCall newId ⟨.ref C :: rest,[]⟩) Q E ⟨h,g,d,t,os⟩ := by
  have hcont : (Value.ref C :: bm).contains (.type B) = true := by rw [List.contains_cons,hb,Bool.or_true]
  have hstar := F.noStar
  simp only [checkBuiltinCall,F.newKind,F.newSplit,F.newRow]
  repeat (first | refine wpAny_loadPart_at hC ?_ | (refine wpAny_isSubtype_exc hC ?_; rw [hcont]) | refine wpAny_staticBase_exc hC ?_ | refine wpAny_madeBy_exc hC ?_ | simp only [bne_self_eq_false,Bool.false_eq_true,if_false] | wp_step)
  exact hq
theorem ov_new {prog : Program} {w : World} {A : Around} {R : Result → Shared → Prop} (F : ExcBaseFacts B newId initId bmB) (hb : bm.contains (.type B) = true) (ha : bm.contains (.type "AttributeError") = false) (hn : bm.contains (.type "NameError") = false) {rest : List Value}
    (hC : h.get? C = some (excClassObj nm q C N bs bm hdct sn sub ab col dd k0 k1 k2 k3 k5 newId))
    (hq : R (.ok (.ret (.ref (h.objs.size + 1)))) ⟨(h.push { cls := .type "tuple",data := .seq rest.toArray }).push
      { cls := .ref C,data := .fields #[.ref h.objs.size,.none,.none,.none,.bool false,.none] },g,d,t,os⟩) (hrest : rest.length ≤ sizeLine) :
    codeAny (model prog w) A (.builtin newId ⟨.ref C :: rest,[]⟩) R ⟨h,g,d,t,os⟩ := by
  have hends := F.ends
  have hcB : (Value.ref C :: bm).contains (.type B) = true := by rw [List.contains_cons,hb,Bool.or_true]
  have hcA : (Value.ref C :: bm).contains (.type "AttributeError") = false := by rw [List.contains_cons,ha]; rfl
  have hcN : (Value.ref C :: bm).contains (.type "NameError") = false := by rw [List.contains_cons,hn]; rfl
  refine codeAny_builtinAt F.entry ?_
  unfold Builtin.«BaseException.__new__»
  refine PySem.wpAt_bind ?_
  show PySem.wpAt _ _ _ (stack >>= _) _ _ _
  refine PySem.wpAt_bind (PySem.wpAt_stack fun p below => PySem.wpAt_of_wpAny ?_)
  wp_walk
  refine PySem.wpAt_of_wpAny ?_
  rw [F.owner]
  repeat (first | with_reducible refine wpAny_madeHere_exc F.canon hC ?_ | with_reducible refine wpAny_loadPart_at hC ?_ | (with_reducible refine wpAny_isSubtype_exc hC ?_; first | rw [hcB] | rw [hcA] | rw [hcN]) | wp_step)
  show R _ _
  rw [Heap.size_push]
  exact hq
theorem ov_type_call {prog : Program} {w : World} {A : Around} {E : Value → Shared → Prop} (F : ExcBaseFacts B newId initId bmB) (hb : bm.contains (.type B) = true) (ha : bm.contains (.type "AttributeError") = false) (hn : bm.contains (.type "NameError") = false) {rest : List Value} {Q : Fin → Shared → Prop}
    (hC : h.get? C = some (excClassObj nm q C N bs bm hdct sn sub ab col dd k0 k1 k2 k3 k5 newId)) {init : Value} (hi : Looks (model prog w) h (typeLookup (.ref C) "__init__") (some init)) (hbd : ∀ self,Looks (model prog w) h (bindSpecial init self) (init,[self]))
    (hq : codeAny (model prog w) A (.call init ⟨.ref (h.objs.size + 1) :: rest,[]⟩) (fun r s' => match r with | .ok (.ret .none) => Q (.done (.ret (.ref (h.objs.size + 1)))) s' | _ => False) ⟨(h.push { cls := .type "tuple",data := .seq rest.toArray }).push
      { cls := .ref C,data := .fields #[.ref h.objs.size,.none,.none,.none,.bool false,.none] },g,d,t,os⟩) (hrest : rest.length ≤ sizeLine) :
    wpAny (model prog w) A (Builtin.«type.__call__» ⟨.ref C :: rest,[]⟩) Q E ⟨h,g,d,t,os⟩ := by
  repeat (first | with_reducible refine wpAny_loadPart_at hC ?_ | with_reducible refine wpAny_madeBy_exc hC ?_ | wp_step)
  refine codeAny_call_builtin_code (Code.quiet_builtin _ F.quiet) (ov_check_new F hb hC ?_)
  refine ov_new F hb ha hn hC ?_ hrest
  show wpAny _ _ _ _ _ _
  have k : ∀ b o,h.get? b = some o → ((h.push { cls := .type "tuple",data := .seq rest.toArray }).push { cls := .ref C,data := .fields #[.ref h.objs.size,.none,.none,.none,.bool false,.none] }).get? b = some o := fun b o e => Heap.get?_push_of_some _ (Heap.get?_push_of_some _ e)
  have hC₁ := k _ _ hC
  have hget : ((h.push { cls := .type "tuple",data := .seq rest.toArray }).push
      { cls := .ref C,data := .fields #[.ref h.objs.size,.none,.none,.none,.bool false,.none] }).get? (h.objs.size + 1) = some
      { cls := .ref C,data := .fields #[.ref h.objs.size,.none,.none,.none,.bool false,.none] } := by heap_get
  have hcC : (Value.ref C :: bm).contains (.ref C) = true := by simp
  unfold isInstance
  repeat (first | with_reducible refine wpAny_loadPart_at hget ?_ | (with_reducible refine wpAny_isSubtype_exc hC₁ ?_; rw [hcC]) | wp_step)
  show wpAny _ _ (typeLookup (.ref C) _) _ _ _
  refine (hi.keeps k).at ?_
  refine wpAny_holding (wpAny_bind (((hbd _).keeps k).at ?_))
  refine wpAny_bind (wpAny_call (codeAny_mono hq fun r s' z => ?_))
  rcases r with e | (v | _ | _ | _) <;> first | exact z.elim | skip
  rename_i v
  cases v <;> first | exact z.elim | skip
  wp_walk
  exact z
end
theorem ov_call {prog : Program} {w : World} {A : Around} {E : Value → Shared → Prop} {s : Shared} (X : (K w.params).In s.heap) (hlim : ∀ h' : Heap,(∀ b o,s.heap.get? b = some o → h'.get? b = some o) → h'.NoLimit) (hdep : A.depth + 1 < 1000) {msg : Str} {t : Tok} {Q : Value → Shared → Prop}
    (hq : ∀ (h' : Heap) tk e a d,s.heap.objs.size ≤ e → h'.get? e = some (excO #[.ref a,.none,.none,.none,.bool false,.none] (some d)) → (∀ b o,s.heap.get? b = some o → h'.get? b = some o) → Q (.ref e) { s with heap := h',toks := tk }) :
    wpAny (model prog w) A (call (.ref 64) [.str msg t]) Q E s := by
  obtain ⟨nm,q,sn,sub,ab,col,dd,k0,k1,k2,k3,k5,hl⟩ := ov_obj w.params
  have hC := X _ _ hl
  obtain ⟨hh,gg,dr,tt,os⟩ := s
  have f1 := tc_lookup
  have f2 := tc_bind (.ref 64)
  have hT : (⟨hh,gg,dr,tt,os⟩ : Shared).TypeIs (.ref 64) "type" := ⟨_,hC,rfl⟩
  refine wpAny_call (codeAny_of_tree ?_)
  show wpAny _ _ (callAny (.ref 64) _) _ _ _
  repeat (any_goals (first | assumption | with_reducible refine wpAny_loadPart_at hC ?_ | wp_step))
  refine ⟨rfl,?_⟩
  have k : ∀ b o,hh.get? b = some o → ((hh.push { cls := .type "tuple",data := .seq [Value.str msg t].toArray }).push { cls := .ref 64,data := .fields #[.ref hh.objs.size,.none,.none,.none,.bool false,.none] }).get? b = some o := fun b o e => Heap.get?_push_of_some _ (Heap.get?_push_of_some _ e)
  refine codeAny_call_builtin_at (Code.quiet_builtin _ (by decide +kernel)) entry_typeCall (wpAny_check_type_call_sub hC (ov_type_call (init := .ref 36) PySem.F.excBase_ValueError (by decide) (by decide) (by decide) hC (looks_findIn X (ov_init _)) (fun self => bind_fn X self (ov_fn _)) ?_ (by rw [sizeLine_eq]; show 1 ≤ _; decide)))
  refine init_call (vs := #[.ref hh.objs.size,.none,.none,.none,.bool false,.none]) (s := ⟨_,gg,dr,tt,os⟩) (fun b o e => k b o (X b o e)) (hlim _ k) ?_ ?_ fun h' tk d h1 h2 => ?_
  · unfold Around.under
    dsimp only
    show A.depth + 1 < 1000
    omega
  · have := Heap.get?_push_size (hh.push { cls := .type "tuple",data := .seq [Value.str msg t].toArray }) (o := { cls := .ref 64,data := .fields #[.ref hh.objs.size,.none,.none,.none,.bool false,.none] }) rfl
    rwa [Heap.size_push] at this
  · exact hq h' tk _ _ d (Nat.le_succ _) h1 fun b o e => h2 b o (fun q => by have := Heap.lt_size e; rw [q] at this; exact absurd (Nat.lt_of_succ_lt this) (Nat.lt_irrefl _)) (k b o e)
theorem ov_raiseStmt {M : Model} {A : Around} {E : Value → Shared → Prop} {s : Shared} {env : Env} {nm q : Str} {C N : Addr} {bs bm : List Value} {hdct : Bool} {sn : List Str} {sub : List Value} {ab : Bool} {col : Option Bool} {dd : Option Addr} {k0 k1 k2 k3 k5 : Option Value} {newId : String}
    {x : PySem.Sem Value} {Q : Flow → Shared → Prop} (hbase : bm.contains (.type "BaseException") = true)
    (h : wpAny M A x (fun v s₁ => ∃ e a dx,v = .ref e ∧ s₁.heap.get? C = some (excClassObj nm q C N bs bm hdct sn sub ab col dd k0 k1 k2 k3 k5 newId) ∧
      s₁.heap.get? e = some { cls := .ref C,dict := dx,data := .fields #[.ref a,.none,.none,.none,.bool false,.none] } ∧ wpAny M A (raiseNew (.ref e)) Q E s₁) E s) :
    wpAny M A (raiseStmt env (some x) none) Q E s := by
  have hcB : (Value.ref C :: bm).contains (.type "BaseException") = true := by rw [List.contains_cons,hbase,Bool.or_true]
  unfold raiseStmt
  refine wpAny_bind (wpAny_mono h (fun v s₁ h₁ => ?_) fun _ _ x => x)
  obtain ⟨e,t,dx,rfl,hC,he,hE⟩ := h₁
  obtain ⟨hp,g,d,tk,os⟩ := s₁
  repeat (first | with_reducible refine wpAny_loadPart_at he ?_ | with_reducible refine wpAny_loadPart_at hC ?_ | (with_reducible refine wpAny_isSubtype_exc hC ?_; rw [hcB]) | wp_step)
  exact hE
theorem funFrames_mk {B h : Heap} : ∀ {l : List Env},(∀ env ∈ l,env.scope.kind ≠ .module ∧ ∃ L o,env.frame = some L ∧ B.get? L = none ∧ h.get? L = some o ∧ ∀ vs,o.data ≠ .fields vs) → h.FunFrames B l
  | [],_ => trivial
  | env :: l,hh => by
    obtain ⟨k,L,o,a,b,c,d⟩ := hh env (.head _)
    exact ⟨k,⟨L,o,a,b,c,d⟩,funFrames_mk fun e he => hh e (.tail _ he)⟩
section
variable {C : Cx} {Z : Zm} {m : Str → Option Value} {g : List CC} {cs : List (Addr × Obj)} {lc : Lc} {cells : List Cell} {h : Heap}
theorem St.frames (hC : C.Ok) (S : St C Z m g cs lc cells h) : ∀ env ∈ C.frs,env.scope.kind ≠ .module ∧ ∃ L o,env.frame = some L ∧ h.get? L = some o ∧ (∀ vs,o.data ≠ .fields vs) ∧ Z L = none ∧ (L = C.L ∨ C.P L = some o) := by
  intro env he
  obtain ⟨k,L',a,b⟩ := hC.frp env he
  rcases b with rfl | ⟨o,es,ep,b,c,d⟩
  · obtain ⟨oL,es,ep,hL,hd,_⟩ := S.iv.ns
    exact ⟨k,C.L,oL,a,hL,(fun vs q => by rw [hd] at q; cases q),S.iv.zl,.inl rfl⟩
  · refine ⟨k,L',o,a,S.iv.kp _ _ b,(fun vs q => by rw [c] at q; cases q),?_,.inr b⟩
    cases z : Z L' with
    | none => rfl
    | some y => rcases S.iv.zp _ _ z with q | q
                · rw [d] at q; cases q
                · rw [b] at q; cases q
theorem St.fresh_raise (hC : C.Ok) (S : St C Z m g cs lc cells h) {e : Addr} {s' : Shared} {oe : Obj} {vs : Array Value} {a0 : Value} (he : h.get? e = none) (keep : ∀ b o,h.get? b = some o → s'.heap.get? b = some o) (hoe : s'.heap.get? e = some oe) (hcls : oe.cls = .ref C.ovf) (hd : oe.data = .fields vs) (h0 : vs[0]? = some a0) (h1 : vs[1]? = some .none) (h2 : C.q = true → vs[2]? = some .none) {x : OG} (ho : x = og s') :
    RXs C x Z (g.map CC.addr) cells (.ref e) s' := by
  have FR := S.frames hC
  have notFr : ∀ {b : Addr},b ∈ C.frs.filterMap (·.frame) → ∃ o,h.get? b = some o ∧ (∀ vs,o.data ≠ .fields vs) ∧ Z b = none ∧ (b = C.L ∨ C.P b = some o) := fun {b} hb => by
    obtain ⟨env,he,hf⟩ := List.mem_filterMap.mp hb
    obtain ⟨_,L,o,a,r⟩ := FR env he
    rw [a] at hf; cases hf
    exact ⟨o,r⟩
  refine ⟨e,hideAll h (C.frs.filterMap (·.frame)),Z,g,a0,rfl,⟨.inr ⟨fun b o eb => keep b o (of_hideAll _ eb),?_,funFrames_mk fun env he => ?_,oe,vs,hoe,hcls,hd,h0,h1⟩,fun q => ⟨oe,vs,hoe,hd,h2 q⟩⟩,Zk.refl.to ho,.refl,fun b o eb => ?_,fun q hq => ?_,S.iv.ndg,S.cr,fun b o x => .inl x,fun b o eb nb => ?_,fun b o eb hb => ?_⟩
  · cases q : (hideAll h (C.frs.filterMap (·.frame))).get? e with
    | none => rfl
    | some o => have := of_hideAll _ q; rw [he] at this; cases this
  · obtain ⟨k,L,o,a,b,c,_⟩ := FR env he
    exact ⟨k,L,o,a,hideAll_none _ (List.mem_filterMap.mpr ⟨env,he,a⟩),keep _ _ b,c⟩
  · refine hideAll_get _ (S.iv.kz b o eb) fun hm => ?_
    obtain ⟨_,_,_,z,_⟩ := notFr hm
    rw [z] at eb; cases eb
  · have O := S.iv.own q (List.mem_append_left _ hq)
    refine ⟨hideAll_get _ O.1 fun hm => ?_,O.2.1,O.2.2.1⟩
    obtain ⟨o,_,_,_,z⟩ := notFr hm
    rcases z with z | z
    · exact O.2.2.2 z
    · rw [O.2.2.1] at z; cases z
  · exact hideAll_get _ (S.iv.kp b o eb) nb
  · exact ⟨o.slots,by obtain ⟨c,d,dt,sl⟩ := o; exact keep b _ (S.iv.kp b _ eb)⟩
end
theorem raiseOvf {C : Cx} (hC : C.Ok) (I : IsG C.toGx) (hn2 : 2 ≤ C.n) {sc : Scope} (hs : C.env.scope = sc) {np p1 p2 pos : Pos} {msg : Str} {k₀ : Nat} {rest : List Stmt} (hk : sc.names.lookup (S "Overflow") = some .globalImplicit) :
    SSs C (.Raise (some (.Call (.Name (S "Overflow") np) [.Constant (.str msg) k₀ p1] [] p2)) none pos :: rest) (fun _ cells _ X => X cells) := by
  constructor; intro lc cells k x hw Z m g cs s Q E S hQ hE
  refine wpAny_execs_cons ?_
  rw [arm_exec_Raise]
  refine wpAny_bind (wpAny_standAt ?_)
  obtain ⟨nm,q,sn,sub,ab,col,dd,k0,k1,k2,k3,k5,hl⟩ := ov_obj C.w.params
  refine ov_raiseStmt (C := 64) (nm := nm) (q := q) (N := 63) (bs := [.ref 39]) (bm := ovBm) (hdct := true) (sn := sn) (sub := sub) (ab := ab) (col := col) (dd := dd) (k0 := k0) (k1 := k1) (k2 := k2) (k3 := k3) (k5 := k5) (newId := "ValueError.__new__") (by decide) ?_
  refine wpAny_bind (wpAny_Call_NameR ((sGlob hC (gl I g_Overflow) (fun _ _ => rv_val.mpr rfl) (kd hs hk) rfl).run lc cells (fun v c1 => v = .val (.ref 64) ∧ c1 = cells) x ⟨rfl,rfl⟩ Z m g cs s _ E S (fun v c1 Z1 g1 s1 u hz hr S1 R hk1 => ?_) (fun c u s' rx hx => hE c u s' rx.s hx)))
  obtain ⟨rfl,rfl⟩ := hk1
  obtain rfl := rv_val.mp R
  have hl' := slCons hC (l := []) (e := .Constant (.str msg) k₀ p1) rfl sStr slNil p2
  refine callWith_K (hC.inK _ S1.iv.kp) (kpk I kp_Overflow) (hl'.run lc c1 (fun vs c => vs = [.str msg] ∧ c = c1) x ⟨rfl,rfl⟩ Z1 m g1 cs s1 _ E S1 (fun vs c2 Z2 g2 s2 us hz2 hr2 S2 R2 hk2 => ⟨hC.inK _ S2.iv.kp,?_⟩) (fun c u s' rx hx => hE c u s' (RXs.up S S1 hz hr rx.s) hx)) rfl rfl
  obtain ⟨rfl,rfl⟩ := hk2
  obtain ⟨u,rfl,ru⟩ := rvl1 R2
  obtain ⟨t,rfl⟩ := rv_str.mp ru
  have XK : (K C.w.params).In s2.heap := by
    have := hC.inK s2.heap S2.iv.kp
    rw [I.k] at this; exact this
  refine ov_call XK (fun h' k => (hC.top h' fun b o e => k b o (S2.iv.kp b o e)).nolimit) (by have := hC.depth; lia) fun h' tk e a d ge he keep => ?_
  refine wpAny_bind (wpAny_standAt (wpAny_pure ⟨e,a,some d,rfl,keep _ _ (XK _ _ hl),he,?_⟩))
  have hnew : s2.heap.get? e = none := Heap.get?_none_of_le ge
  refine raise_hd (s := ⟨h',_,_,tk,_⟩) hC.hd (fun b o eb => keep b o (S2.iv.kp b o eb)) he rfl (by simp) ?_ fun h'' hs' ho => ?_
  · cases q : C.P e with
    | none => rfl
    | some o => have := S2.iv.kp _ _ q; rw [hnew] at this; cases this
  · obtain ⟨o',ho',hc',vs',hv',e0,e1,e2⟩ := ho
    refine hE c2 _ _ (RXs.up S S2 (hz.trans hz2) (hr.trans hr2) (S2.fresh_raise hC hnew (fun b o eb => (hs'.2 b fun q => by rw [q,hnew] at eb; cases eb).trans (keep b o eb)) ho' ?_ hv' (e0.trans rfl) (e1.trans rfl) (fun q => (e2 q).trans rfl) rfl)) hw
    rw [hc',I.ovf]
end Mine
end
section
open PySem PySem.W PyProof.Rows
namespace Mine
mutual
noncomputable def cl (n : Nat) : V → Prop
  | .cell k => k < n
  | .tup l => clL n l
  | .lst l => clL n l
  | .inst _ fs => clF n fs
  | .dct l => clD n l
  | .none => True
  | .bool _ => True
  | .int _ => True
  | .str _ => True
  | .bytes _ => True
  | .rng _ => True
  | .val _ => True
noncomputable def clL (n : Nat) : List V → Prop
  | [] => True
  | x :: l => cl n x ∧ clL n l
noncomputable def clF (n : Nat) : List (Nat × V) → Prop
  | [] => True
  | (_,x) :: l => cl n x ∧ clF n l
noncomputable def clD (n : Nat) : List (Int × V) → Prop
  | [] => True
  | (_,x) :: l => cl n x ∧ clD n l
end
noncomputable def clC (n : Nat) : Cell → Prop
  | .lst l => clL n l
  | .inst _ fs => clF n fs
  | .dct l => clD n l
  | .dead => True
noncomputable abbrev nc (v : V) : Prop := cl 0 v
noncomputable abbrev ncL (l : List V) : Prop := clL 0 l
noncomputable abbrev ncF (l : List (Nat × V)) : Prop := clF 0 l
noncomputable abbrev ncD (l : List (Int × V)) : Prop := clD 0 l
mutual
theorem cl_le {n n' : Nat} (h : n ≤ n') : ∀ {v : V},cl n v → cl n' v
  | .cell k,x => by unfold cl at x ⊢; omega
  | .tup l,x => by unfold cl at x ⊢; exact clL_le h x
  | .lst l,x => by unfold cl at x ⊢; exact clL_le h x
  | .inst _ fs,x => by unfold cl at x ⊢; exact clF_le h x
  | .dct _,x => by unfold cl at x ⊢; exact clD_le h x
  | .none,_ => by unfold cl; trivial
  | .bool _,_ => by unfold cl; trivial
  | .int _,_ => by unfold cl; trivial
  | .str _,_ => by unfold cl; trivial
  | .bytes _,_ => by unfold cl; trivial
  | .rng _,_ => by unfold cl; trivial
  | .val _,_ => by unfold cl; trivial
theorem clL_le {n n' : Nat} (h : n ≤ n') : ∀ {l : List V},clL n l → clL n' l
  | [],_ => by unfold clL; trivial
  | _ :: _,x => by unfold clL at x ⊢; exact ⟨cl_le h x.1,clL_le h x.2⟩
theorem clF_le {n n' : Nat} (h : n ≤ n') : ∀ {l : List (Nat × V)},clF n l → clF n' l
  | [],_ => by unfold clF; trivial
  | (_,_) :: _,x => by unfold clF at x ⊢; exact ⟨cl_le h x.1,clF_le h x.2⟩
theorem clD_le {n n' : Nat} (h : n ≤ n') : ∀ {l : List (Int × V)},clD n l → clD n' l
  | [],_ => by unfold clD; trivial
  | (_,_) :: _,x => by unfold clD at x ⊢; exact ⟨cl_le h x.1,clD_le h x.2⟩
end
theorem clC_le {n n' : Nat} (h : n ≤ n') : ∀ {c : Cell},clC n c → clC n' c
  | .lst _,x => clL_le h x
  | .inst _ _,x => clF_le h x
  | .dct _,x => clD_le h x
  | .dead,_ => trivial
mutual
theorem rv_cl {an P Z r} : ∀ {v : V} {u : Value},Rv an P Z r v u → cl r.length v
  | .cell k,_,x => by obtain ⟨a,_,h⟩ := rv_cell.mp x; unfold cl; exact (List.getElem?_eq_some_iff.mp h).1
  | .tup l,_,x => by obtain ⟨_,_,_,_,_,h⟩ := rv_tup.mp x; unfold cl; exact rvl_cl h
  | .lst l,_,x => by obtain ⟨_,_,_,_,_,_,h⟩ := rv_lst.mp x; unfold cl; exact rvl_cl h
  | .inst _ fs,_,x => by obtain ⟨_,_,_,_,_,_,_,h⟩ := rv_inst.mp x; unfold cl; exact rvf_cl h
  | .dct _,_,x => by obtain ⟨_,_,_,_,_,_,_,h⟩ := rv_dct.mp x; unfold cl; exact rvd_cl h
  | .none,_,_ => by unfold cl; trivial
  | .bool _,_,_ => by unfold cl; trivial
  | .int _,_,_ => by unfold cl; trivial
  | .str _,_,_ => by unfold cl; trivial
  | .bytes _,_,_ => by unfold cl; trivial
  | .rng _,_,_ => by unfold cl; trivial
  | .val _,_,_ => by unfold cl; trivial
theorem rvl_cl {an P Z r} : ∀ {l : List V} {us : List Value},RvL an P Z r l us → clL r.length l
  | [],_,_ => by unfold clL; trivial
  | _ :: _,_,x => by obtain ⟨_,_,_,a,b⟩ := rvl_cons.mp x; unfold clL; exact ⟨rv_cl a,rvl_cl b⟩
theorem rvf_cl {an P Z r} : ∀ {l : List (Nat × V)} {es : List DictEntry},RvF an P Z r l es → clF r.length l
  | [],_,_ => by unfold clF; trivial
  | (_,_) :: _,_,x => by
    unfold RvF at x
    obtain ⟨_,_,_,_,_,_,a,b⟩ := x
    unfold clF; exact ⟨rv_cl a,rvf_cl b⟩
theorem rvd_cl {an P Z r} : ∀ {l : List (Int × V)} {es : List (Int × Value)},RvD an P Z r l es → clD r.length l
  | [],_,_ => by unfold clD; trivial
  | (_,_) :: _,_,x => by
    unfold RvD at x
    obtain ⟨_,_,_,a,b⟩ := x
    unfold clD; exact ⟨rv_cl a,rvd_cl b⟩
end
mutual
theorem rv_take {an P Z r r' n} (hr : ∀ k,k < n → r'[k]? = r[k]?) : ∀ {v : V} {u : Value},cl n v → Rv an P Z r v u → Rv an P Z r' v u
  | .cell k,_,c,x => by obtain ⟨a,e,h⟩ := rv_cell.mp x; unfold cl at c; exact rv_cell.mpr ⟨a,e,(hr k c).trans h⟩
  | .tup l,_,c,x => by obtain ⟨a,vs,m,e,z,h⟩ := rv_tup.mp x; unfold cl at c; exact rv_tup.mpr ⟨a,vs,m,e,z,rvl_take hr c h⟩
  | .lst l,_,c,x => by obtain ⟨a,vs,m,e,z,o,h⟩ := rv_lst.mp x; unfold cl at c; exact rv_lst.mpr ⟨a,vs,m,e,z,o,rvl_take hr c h⟩
  | .inst _ fs,_,c,x => by obtain ⟨a,d,es,m,e,z,o,h⟩ := rv_inst.mp x; unfold cl at c; exact rv_inst.mpr ⟨a,d,es,m,e,z,o,rvf_take hr c h⟩
  | .dct _,_,c,x => by obtain ⟨a,d,es,m,e,z,o,h⟩ := rv_dct.mp x; unfold cl at c; exact rv_dct.mpr ⟨a,d,es,m,e,z,o,rvd_take hr c h⟩
  | .none,_,_,x => by unfold Rv at x ⊢; exact x
  | .bool _,_,_,x => by unfold Rv at x ⊢; exact x
  | .int _,_,_,x => by unfold Rv at x ⊢; exact x
  | .str _,_,_,x => by unfold Rv at x ⊢; exact x
  | .bytes _,_,_,x => by unfold Rv at x ⊢; exact x
  | .rng _,_,_,x => by unfold Rv at x ⊢; exact x
  | .val _,_,_,x => by unfold Rv at x ⊢; exact x
theorem rvl_take {an P Z r r' n} (hr : ∀ k,k < n → r'[k]? = r[k]?) : ∀ {l : List V} {us : List Value},clL n l → RvL an P Z r l us → RvL an P Z r' l us
  | [],_,_,x => rvl_nil.mpr (rvl_nil.mp x)
  | _ :: _,_,c,x => by obtain ⟨u,us,e,a,b⟩ := rvl_cons.mp x; unfold clL at c; exact rvl_cons.mpr ⟨u,us,e,rv_take hr c.1 a,rvl_take hr c.2 b⟩
theorem rvf_take {an P Z r r' n} (hr : ∀ k,k < n → r'[k]? = r[k]?) : ∀ {l : List (Nat × V)} {es : List DictEntry},clF n l → RvF an P Z r l es → RvF an P Z r' l es
  | [],_,_,x => by unfold RvF at x ⊢; exact x
  | (_,_) :: _,_,c,x => by
    unfold RvF at x ⊢
    obtain ⟨h1,h2,h3,h4,h5,h6,a,b⟩ := x
    unfold clF at c
    exact ⟨h1,h2,h3,h4,h5,h6,rv_take hr c.1 a,rvf_take hr c.2 b⟩
theorem rvd_take {an P Z r r' n} (hr : ∀ k,k < n → r'[k]? = r[k]?) : ∀ {l : List (Int × V)} {es : List (Int × Value)},clD n l → RvD an P Z r l es → RvD an P Z r' l es
  | [],_,_,x => by unfold RvD at x ⊢; exact x
  | (_,_) :: _,_,c,x => by
    unfold RvD at x ⊢
    obtain ⟨h1,h2,h3,a,b⟩ := x
    unfold clD at c
    exact ⟨h1,h2,h3,rv_take hr c.1 a,rvd_take hr c.2 b⟩
end
theorem cr_take {an P Z r r' n} (hr : ∀ k,k < n → r'[k]? = r[k]?) : ∀ {x : Cell} {c : CC},clC n x → CR an P Z r x c → CR an P Z r' x c
  | .lst _,.lst _ _ _,c,h => ⟨h.1,rvl_take hr c h.2⟩
  | .inst _ _,.inst _ _ _ _ _,c,h => ⟨h.1,rvf_take hr c h.2⟩
  | .dct _,.dct _ _ _,c,h => ⟨h.1,h.2.1,rvd_take hr c h.2.2⟩
  | .dead,_,_,_ => trivial
  | .lst _,.inst _ _ _ _ _,_,h => h.elim
  | .lst _,.dct _ _ _,_,h => h.elim
  | .lst _,.dead _,_,h => h.elim
  | .inst _ _,.lst _ _ _,_,h => h.elim
  | .inst _ _,.dct _ _ _,_,h => h.elim
  | .inst _ _,.dead _,_,h => h.elim
  | .dct _,.lst _ _ _,_,h => h.elim
  | .dct _,.inst _ _ _ _ _,_,h => h.elim
  | .dct _,.dead _,_,h => h.elim
theorem cr_cl {an P Z r} : ∀ {x : Cell} {c : CC},CR an P Z r x c → clC r.length x
  | .lst _,.lst _ _ _,h => rvl_cl h.2
  | .inst _ _,.inst _ _ _ _ _,h => rvf_cl h.2
  | .dct _,.dct _ _ _,h => rvd_cl h.2.2
  | .dead,_,_ => trivial
  | .lst _,.inst _ _ _ _ _,h => h.elim
  | .lst _,.dct _ _ _,h => h.elim
  | .lst _,.dead _,h => h.elim
  | .inst _ _,.lst _ _ _,h => h.elim
  | .inst _ _,.dct _ _ _,h => h.elim
  | .inst _ _,.dead _,h => h.elim
  | .dct _,.lst _ _ _,h => h.elim
  | .dct _,.inst _ _ _ _ _,h => h.elim
  | .dct _,.dead _,h => h.elim
theorem crs_of {an P Z r} : ∀ {l : List Cell} {g : List CC},l.length = g.length → (∀ (i : Nat) (x : Cell) (c : CC),l[i]? = some x → g[i]? = some c → CR an P Z r x c) → CRs an P Z r l g
  | [],[],_,_ => trivial
  | x :: l,c :: g,e,h => ⟨h 0 x c rfl rfl,crs_of (by simpa using e) fun i x c a b => h (i + 1) x c (by simpa using a) (by simpa using b)⟩
  | [],_ :: _,e,_ => by cases e
  | _ :: _,[],e,_ => by cases e
noncomputable def Kept (c c' : List Cell) : Prop := c.length ≤ c'.length ∧ ∀ i,i < c.length → c'[i]? = c[i]? ∨ ∃ x,c'[i]? = some x ∧ clC 0 x
theorem Kept.refl {c : List Cell} : Kept c c := ⟨Nat.le_refl _,fun _ _ => .inl rfl⟩
theorem Kept.app {c c' l : List Cell} (h : Kept c c') : Kept c (c' ++ l) := ⟨by rw [List.length_append]; have := h.1; lia,fun i hi => by
  rw [List.getElem?_append_left (Nat.lt_of_lt_of_le hi h.1)]; exact h.2 i hi⟩
theorem Kept.set {c c' : List Cell} {j : Nat} {x : Cell} (h : Kept c c') (hx : clC 0 x) : Kept c (c'.set j x) := ⟨by rw [List.length_set]; exact h.1,fun i hi => by
  by_cases e : i = j
  · subst e
    exact .inr ⟨x,by rw [List.getElem?_set_self (Nat.lt_of_lt_of_le hi h.1)],hx⟩
  · rw [List.getElem?_set_ne (Ne.symm e)]; exact h.2 i hi⟩
theorem Kept.trans {c c' c'' : List Cell} (h : Kept c c') (h' : Kept c' c'') : Kept c c'' := ⟨Nat.le_trans h.1 h'.1,fun i hi => by
  rcases h'.2 i (Nat.lt_of_lt_of_le hi h.1) with e | e
  · rw [e]; exact h.2 i hi
  · exact .inr e⟩
theorem sem_drop {G : Gx} {n : Nat} {f : Value} {args : List V} {cells : List Cell} {Q : V → List Cell → Prop} {X : List Cell → Prop}
    (h : Sem G n f args cells (fun v c' => (nc (fz cells.length c' 6 v) ∧ Kept cells c') ∧ Q (fz cells.length c' 6 v) (c'.take cells.length)) X) : Sem G n f args cells Q X := by
  constructor; intro A fr P Z g s vals R hfr hfp hhd hdep hun hP hzg H cr rv hR hE
  refine h.run A fr P Z g s vals R hfr hfp hhd hdep hun hP hzg H cr rv (fun v c' Z' g' s' u hz hr H' cr' zn rv' hq => ?_) hE
  obtain ⟨⟨hnc,hkept⟩,hq⟩ := hq
  have ln : cells.length = g.length := cr.len
  have ln' : c'.length = g'.length := cr'.len
  let Z2 : Zm := fun b => match ((g'.drop cells.length).flatMap CC.objs).lookup b with
    | some o => some o
    | none => Z' b
  have sub : ∀ q ∈ (g'.drop cells.length).flatMap CC.objs,q ∈ g'.flatMap CC.objs := fun q hq => by
    obtain ⟨c,hc,hq⟩ := List.mem_flatMap.mp hq
    exact List.mem_flatMap.mpr ⟨c,List.mem_of_mem_drop hc,hq⟩
  have subt : ∀ q ∈ (g'.take cells.length).flatMap CC.objs,q ∈ g'.flatMap CC.objs := fun q hq => by
    obtain ⟨c,hc,hq⟩ := List.mem_flatMap.mp hq
    exact List.mem_flatMap.mpr ⟨c,List.mem_of_mem_take hc,hq⟩
  have le : Zle Z' Z2 := fun b o e => by
    show (match ((g'.drop cells.length).flatMap CC.objs).lookup b with | some o => some o | none => Z' b) = some o
    split
    · rename_i o' q
      have := (H'.own (b,o') (sub _ (lookup_mem q))).2.1
      rw [e] at this; cases this
    · exact e
  have nd := H'.nd
  rw [← List.take_append_drop cells.length g',List.flatMap_append,List.map_append,List.nodup_append] at nd
  have at2 : ∀ q ∈ (g'.drop cells.length).flatMap CC.objs,Z2 q.1 = some q.2 := fun q hq => by
    show (match ((g'.drop cells.length).flatMap CC.objs).lookup q.1 with | some o => some o | none => Z' q.1) = some q.2
    rw [mem_lookup nd.2.1 (show (q.1,q.2) ∈ _ from hq)]
  have addr : ∀ k,k < cells.length → ((g'.take cells.length).map CC.addr)[k]? = (g'.map CC.addr)[k]? := fun k hk => by
    rw [List.getElem?_map,List.getElem?_map,List.getElem?_take_of_lt hk]
  have ale : Ale (g.map CC.addr) ((g'.take cells.length).map CC.addr) := fun k a e => by
    have hk : k < cells.length := by rw [ln]; have := (List.getElem?_eq_some_iff.mp e).1; simpa using this
    rw [addr k hk]; exact hr k a e
  have rv2 : Rv G.an G.w.params Z2 (g'.map CC.addr) (fz cells.length c' 6 v) u := fz_rv le rfl cr' (fun k c hk hn q hq => at2 q (List.mem_flatMap.mpr ⟨c,by
    refine List.mem_of_getElem? (i := k - cells.length) ?_
    rw [List.getElem?_drop,show cells.length + (k - cells.length) = k by omega]; exact hk,hq⟩)) 6 v u rv'
  refine hR _ _ Z2 (g'.take cells.length) s' u (hz.trans le.k) ale ⟨fun b o e => ?_,H'.kp,fun q hq => ?_,nd.1⟩ ?_ (fun b o e => ?_) (rv_take (n := 0) (fun k hk => absurd hk (Nat.not_lt_zero _)) hnc rv2) hq
  · have e : (match ((g'.drop cells.length).flatMap CC.objs).lookup b with | some o => some o | none => Z' b) = some o := e
    split at e
    · rename_i q; cases e; exact (H'.own (b,o) (sub _ (lookup_mem q))).1
    · exact H'.kz b o e
  · have O := H'.own q (subt q hq)
    refine ⟨O.1,?_,O.2.2⟩
    show (match ((g'.drop cells.length).flatMap CC.objs).lookup q.1 with | some o => some o | none => Z' q.1) = none
    rw [lookup_none]
    · exact O.2.1
    · intro hm
      exact nd.2.2 q.1 (List.mem_map_of_mem hq) q.1 hm rfl
  · refine crs_of (by rw [List.length_take,List.length_take,ln']) fun i x c hx hc => ?_
    have hi : i < cells.length := by have := (List.getElem?_eq_some_iff.mp hx).1; rw [List.length_take] at this; grind
    rw [List.getElem?_take_of_lt hi] at hx hc
    obtain ⟨cc,hcc,crx⟩ := cr'.get hx
    rw [hc] at hcc; cases hcc
    have clx : clC cells.length x := by
      rcases hkept.2 i hi with e | ⟨y,e,hy⟩
      · rw [hx] at e
        obtain ⟨cc0,_,cr0⟩ := cr.get e.symm
        have := cr_cl cr0
        rw [List.length_map,← ln] at this; exact this
      · rw [hx] at e; cases e; exact clC_le (Nat.zero_le _) hy
    exact cr_take (n := cells.length) addr clx (crx.mono le .refl)
  · have e : (match ((g'.drop cells.length).flatMap CC.objs).lookup b with | some o => some o | none => Z' b) = some o := e
    split at e
    · rename_i q; exact .inr (H'.own (b,_) (sub _ (lookup_mem q))).2.2
    · exact zn b o e
mutual
theorem fz_nc {n0 : Nat} {c : List Cell} : ∀ (f : Nat) {v : V},nc v → fz n0 c f v = v
  | 0,_,_ => by unfold fz; rfl
  | f + 1,.cell k,h => by unfold nc cl at h; exact absurd h (Nat.not_lt_zero _)
  | f + 1,.tup l,h => by unfold nc cl at h; unfold fz; exact congrArg V.tup (fz_ncL f h)
  | f + 1,.lst l,h => by unfold nc cl at h; unfold fz; exact congrArg V.lst (fz_ncL f h)
  | f + 1,.inst c fs,h => by unfold nc cl at h; unfold fz; exact congrArg (V.inst c) (fz_ncF f h)
  | f + 1,.dct l,h => by unfold nc cl at h; unfold fz; exact congrArg V.dct (fz_ncD f h)
  | f + 1,.none,_ => by unfold fz; rfl
  | f + 1,.bool _,_ => by unfold fz; rfl
  | f + 1,.int _,_ => by unfold fz; rfl
  | f + 1,.str _,_ => by unfold fz; rfl
  | f + 1,.bytes _,_ => by unfold fz; rfl
  | f + 1,.rng _,_ => by unfold fz; rfl
  | f + 1,.val _,_ => by unfold fz; rfl
theorem fz_ncL {n0 : Nat} {c : List Cell} : ∀ (f : Nat) {l : List V},ncL l → l.map (fz n0 c f) = l
  | _,[],_ => rfl
  | f,x :: l,h => by unfold ncL clL at h; rw [List.map_cons,fz_nc f h.1,fz_ncL f h.2]
theorem fz_ncF {n0 : Nat} {c : List Cell} : ∀ (f : Nat) {l : List (Nat × V)},ncF l → (l.map fun p => (p.1,fz n0 c f p.2)) = l
  | _,[],_ => rfl
  | f,(k,x) :: l,h => by unfold ncF clF at h; rw [List.map_cons,fz_nc f h.1,fz_ncF f h.2]
theorem fz_ncD {n0 : Nat} {c : List Cell} : ∀ (f : Nat) {l : List (Int × V)},ncD l → (l.map fun p => (p.1,fz n0 c f p.2)) = l
  | _,[],_ => rfl
  | f,(k,x) :: l,h => by unfold ncD clD at h; rw [List.map_cons,fz_nc f h.1,fz_ncD f h.2]
end
theorem kept_take {c l : List Cell} : (c ++ l).take c.length = c := by simp
theorem getApp {c l : List Cell} {j : Nat} : (c ++ l)[c.length + j]? = l[j]? := by
  rw [List.getElem?_append_right (by omega)]; congr 1; omega
theorem getApp0 {c l : List Cell} : (c ++ l)[c.length]? = l[0]? := getApp (j := 0)
theorem setApp {c l : List Cell} {j : Nat} {x : Cell} : (c ++ l).set (c.length + j) x = c ++ l.set j x := by
  rw [List.set_append_right _ _ (by omega)]; congr 2; omega
theorem setApp0 {c l : List Cell} {x : Cell} : (c ++ l).set c.length x = c ++ l.set 0 x := setApp (j := 0)
theorem lenApp {c l : List Cell} : (c ++ l).length = c.length + l.length := List.length_append
section
variable {n0 f : Nat} {c : List Cell}
noncomputable def fzC (n0 : Nat) (c : List Cell) (f : Nat) (k : Nat) : Option Cell → V
  | some (.lst l) => .lst (l.map (fz n0 c f))
  | some (.inst c' fs) => .inst c' (fs.map fun p => (p.1,fz n0 c f p.2))
  | some (.dct l) => .dct (l.map fun p => (p.1,fz n0 c f p.2))
  | _ => .cell k
theorem fz_cellj {cells l : List Cell} {j : Nat} : fz cells.length (cells ++ l) (f + 1) (.cell (cells.length + j)) = fzC cells.length (cells ++ l) f (cells.length + j) l[j]? := by
  rw [fz]
  rw [if_neg (by omega),getApp]
  rcases l[j]? with _ | (_ | _ | _ | _) <;> rfl
theorem fz_cell0 {cells l : List Cell} : fz cells.length (cells ++ l) (f + 1) (.cell cells.length) = fzC cells.length (cells ++ l) f cells.length l[0]? := fz_cellj (j := 0)
end
theorem pairs_all {p p' : Program} {w w' : World} {es : List DictEntry} {kvs : List (Int × Value)} (h : Pairs (PySem.intKind p w) es kvs) : Pairs (PySem.intKind p' w') es kvs := by
  induction h with
  | nil => exact .nil
  | cons a b _ ih => exact .cons a b ih
theorem dct_all {p : Program} {w : World} {o : Obj} {kvs : List (Int × Value)} (h : o.IsDictOf (PySem.intKind p w) kvs) : DctO o kvs := fun p' w' => by
  obtain ⟨es,ep,a,b,c,d,e⟩ := h
  exact ⟨es,ep,a,b,c,pairs_all d,e⟩
theorem dct_new (h : Heap) : DctO { cls := .type "dict",data := .dict #[] } [] := fun p w => by
  obtain ⟨o,ho,hd⟩ := Heap.dictOf_iff.mp (Heap.DictOf.new (knd := PySem.intKind p w) h)
  rw [Heap.get?_push_size _ rfl] at ho
  exact (Option.some.inj ho) ▸ hd
noncomputable def dget {α : Type} (l : List (Int × α)) (i : Int) : Option α := (l.find? fun kv => kv.1 = i).map (·.2)
theorem rvd_get {an P Z r} {i : Int} : ∀ {l : List (Int × V)} {es : List (Int × Value)},RvD an P Z r l es → match dget l i with
    | some v => ∃ u,valueAt es i = some u ∧ Rv an P Z r v u
    | none => valueAt es i = none
  | [],es,h => by unfold RvD at h; subst h; rfl
  | (k,x) :: l,es,h => by
    unfold RvD at h
    obtain ⟨v,vs,rfl,a,b⟩ := h
    have ih := rvd_get (i := i) b
    unfold dget valueAt at ih ⊢
    rw [List.find?_cons,List.find?_cons]
    by_cases e : k = i
    · simp only [e,decide_true]; exact ⟨v,rfl,a⟩
    · simp only [e,decide_false]; exact ih
theorem rvd_isSome {an P Z r} {i : Int} {l : List (Int × V)} {es : List (Int × Value)} (h : RvD an P Z r l es) : (valueAt es i).isSome = (dget l i).isSome := by
  have := rvd_get (i := i) h
  split at this
  · rename_i v e; obtain ⟨u,e2,_⟩ := this; rw [e,e2]; rfl
  · rename_i e; rw [this,e]; rfl
theorem rvd_len {an P Z r} : ∀ {l : List (Int × V)} {es : List (Int × Value)},RvD an P Z r l es → es.length = l.length
  | [],es,h => by unfold RvD at h; subst h; rfl
  | (k,x) :: l,es,h => by unfold RvD at h; obtain ⟨v,vs,rfl,a,b⟩ := h; exact congrArg (· + 1) (rvd_len b)
noncomputable def dput (l : List (Int × V)) (i : Int) (v : V) : List (Int × V) := if l.any (fun kv => kv.1 = i) then l.map (fun kv => if kv.1 = i then (kv.1,v) else kv) else l ++ [(i,v)]
theorem rvd_any {an P Z r} {i : Int} : ∀ {l : List (Int × V)} {es : List (Int × Value)},RvD an P Z r l es → (es.any fun kv => kv.1 = i) = l.any fun kv => kv.1 = i
  | [],es,h => by unfold RvD at h; subst h; rfl
  | (k,x) :: l,es,h => by unfold RvD at h; obtain ⟨v,vs,rfl,a,b⟩ := h; rw [List.any_cons,List.any_cons,rvd_any b]
theorem rvd_upd {an P Z r} {i : Int} {v : V} {u : Value} (hv : Rv an P Z r v u) : ∀ {l : List (Int × V)} {es : List (Int × Value)},RvD an P Z r l es → RvD an P Z r (l.map fun kv => if kv.1 = i then (kv.1,v) else kv) (es.map fun kv => if kv.1 = i then (kv.1,u) else kv)
  | [],es,h => by unfold RvD at h; subst h; show RvD an P Z r [] []; unfold RvD; rfl
  | (k,x) :: l,es,h => by
    unfold RvD at h
    obtain ⟨y,vs,rfl,a,b⟩ := h
    rw [List.map_cons,List.map_cons]
    by_cases e : k = i
    · simp only [e,if_true]; unfold RvD; exact ⟨u,_,rfl,hv,by have := rvd_upd hv b (i := i); simpa [e] using this⟩
    · simp only [e,if_false]; unfold RvD; exact ⟨y,_,rfl,a,rvd_upd hv b⟩
theorem rvd_snoc {an P Z r} {i : Int} {v : V} {u : Value} (hv : Rv an P Z r v u) : ∀ {l : List (Int × V)} {es : List (Int × Value)},RvD an P Z r l es → RvD an P Z r (l ++ [(i,v)]) (es ++ [(i,u)])
  | [],es,h => by unfold RvD at h; subst h; show RvD an P Z r [(i,v)] [(i,u)]; unfold RvD; exact ⟨u,[],rfl,hv,by unfold RvD; rfl⟩
  | (k,x) :: l,es,h => by
    unfold RvD at h
    obtain ⟨y,vs,rfl,a,b⟩ := h
    rw [List.cons_append,List.cons_append]
    unfold RvD; exact ⟨y,_,rfl,a,rvd_snoc hv b⟩
theorem rvd_put {an P Z r} {i : Int} {v : V} {u : Value} (hv : Rv an P Z r v u) {l : List (Int × V)} {es : List (Int × Value)} (h : RvD an P Z r l es) : RvD an P Z r (dput l i v) (stored es i u) := by
  unfold dput stored
  rw [rvd_any h]
  split
  · exact rvd_upd hv h
  · exact rvd_snoc hv h
noncomputable def dctW (cells : List Cell) (v : V) (kk : List (Int × V) → Prop) : Prop := match v with
  | .dct l => kk l
  | .cell n => (match cells[n]? with
      | some (.dct l) => kk l
      | _ => False)
  | _ => False
section
variable {C : Cx} {Z : Zm} {m : Str → Option Value} {g : List CC} {cs : List (Addr × Obj)} {lc : Lc} {cells : List Cell}
inductive DctAt (C : Cx) (Z : Zm) (g : List CC) (h : Heap) (u : Value) (kk : List (Int × V) → Prop) : Prop
  | mk (d : Addr) (o : Obj) (kvs : List (Int × Value)) (l : List (Int × V)) (h1 : u = .ref d) (h2 : h.get? d = some o) (h3 : (d == sysModules) = false) (h4 : DctO o kvs) (h5 : RvD C.an C.w.params Z (g.map CC.addr) l kvs) (h6 : kk l) : DctAt C Z g h u kk
theorem dct_at {h : Heap} (S : St C Z m g cs lc cells h) {v : V} {u : Value} {kk : List (Int × V) → Prop} (R : Rv C.an C.w.params Z (g.map CC.addr) v u) (hw : dctW cells v kk) : DctAt C Z g h u kk := by
  unfold dctW at hw
  split at hw
  · obtain ⟨a,kvs,o,rfl,h1,h2,h3,h4⟩ := rv_dct.mp R
    exact ⟨a,o,kvs,_,rfl,S.iv.kz _ _ h1,h2,h3,h4,hw⟩
  · split at hw
    · rename_i l hc
      obtain ⟨ad,rfl,had⟩ := rv_cell.mp R
      obtain ⟨cc,hg,hcr⟩ := S.cr.get hc
      cases cc with
      | dct a' kvs o =>
        have e : a' = ad := by rw [List.getElem?_map,hg] at had; exact Option.some.inj had
        subst e
        exact ⟨a',o,kvs,l,rfl,S.iv.objAt hg (q := (a',o)) (by simp [CC.objs]),hcr.1,hcr.2.1,hcr.2.2,hw⟩
      | lst _ _ _ => exact hcr.elim
      | inst _ _ _ _ _ => exact hcr.elim
      | dead _ => exact hcr.elim
    · exact hw.elim
  · exact hw.elim
end
section
variable {C : Cx}
theorem sDct0 (hC : C.Ok) {pos : Pos} : SE C (.Dict [] [] pos) (fun lc cells k X => k (.cell cells.length) (cells ++ [.dct []])) := by
  constructor; intro lc cells k x hw Z m g cs s Q E S hQ hE
  have hlo : (s.heap.objs.size == sysModules) = false := beq_eq_false_iff_ne.mpr (Nat.ne_of_gt (modules_low (hC.top s.heap fun b o e => S.iv.kp b o e).nolimit))
  have I2 := S.iv.cells (c := .dct s.heap.objs.size [] { cls := .type "dict",data := .dict #[] }) (h' := s.heap.push { cls := .type "dict",data := .dict #[] }) (fun b o e => Heap.get?_push_of_some _ e) (fun q hq => by simp only [CC.objs,List.mem_singleton] at hq; subst hq; exact ⟨Heap.get?_push_size _ rfl,Nat.le_refl _⟩) (by simp [CC.objs])
  have le : Ale (g.map CC.addr) ((g ++ [CC.dct s.heap.objs.size [] { cls := .type "dict",data := .dict #[] }]).map CC.addr) := by rw [List.map_append]; exact .app
  have c2 : CRs C.an C.w.params Z ((g ++ [CC.dct s.heap.objs.size [] { cls := .type "dict",data := .dict #[] }]).map CC.addr) (cells ++ [.dct []]) (g ++ [.dct s.heap.objs.size [] { cls := .type "dict",data := .dict #[] }]) := (S.cr.mono .refl le).app ⟨⟨hlo,dct_new s.heap,by unfold RvD; rfl⟩,trivial⟩
  refine wpAny_Dict_empty (hQ _ _ Z _ _ _ .refl le (S.go .refl le I2 c2) (rv_cell.mpr ⟨_,rfl,?_⟩) hw)
  rw [S.cr.len,List.map_append,List.getElem?_append_right (by simp)]
  simp [CC.addr]
noncomputable def hasW (cells : List Cell) (a b : V) (kk : Bool → Prop) : Prop := match a with
  | .int i => dctW cells b fun l => kk (dget l i).isSome
  | _ => False
theorem tIn (hC : C.Ok) {a b : Expr} {pos : Pos} {wa wb : WE} (ha : SE C a wa) (hb : SE C b wb) (hm : behindInMarks .In b = false) :
    ST C (.Compare a [.In] [b] pos) (fun lc cells k X => wa lc cells (fun va c1 => wb lc c1 (fun vb c2 => hasW c2 va vb (fun c => k c c2)) X) X) := by
  constructor; intro lc cells k x hw Z m g cs s Q E S hQ hE
  refine wpAny_isTrue_Compare1 (ha.run lc cells _ x hw Z m g cs s _ E S (fun va c1 Z1 g1 s1 ua hz1 hr1 S1 Ra hk1 => hb.run lc c1 _ x hk1 Z1 m g1 cs s1 _ E S1
    (fun vb c2 Z2 g2 s2 ub hz2 hr2 S2 Rb hk2 => ?_) (fun c u s' rx hx => hE c u s' (RX.up S S1 hz1 hr1 rx) hx)) hE) hm
  unfold hasW at hk2
  split at hk2
  · rename_i i
    obtain ⟨t,rfl⟩ := rv_int.mp (Ra.mono hz2.1 hr2)
    obtain ⟨d,o,kvs,l,rfl,h1,h2,h3,h4,hk⟩ := dct_at S2 Rb hk2
    refine wpAny_in_of (knd := PySem.intKind C.prog C.w) (k := i) (intKind_is _ _ _ _) h2 (Heap.dictOf_iff.mpr ⟨o,h1,h3 _ _⟩).mapOf ?_
    rw [rvd_isSome h4]
    exact wpAny_truthy_bool (hQ _ c2 Z2 g2 _ _ (hz1.trans hz2) (hr1.trans hr2) S2 rfl hk)
  · exact hk2.elim
noncomputable def setDW (cells : List Cell) (a i v : V) (kk : List Cell → Prop) : Prop := match a,i with
  | .cell n,.int j => (match cells[n]? with
      | some (.dct l) => l.length ≤ 1000 ∧ kk (cells.set n (.dct (dput l j v)))
      | _ => False)
  | _,_ => False
theorem sSetD (hC : C.Ok) {o i e : Expr} {tp pos : Pos} {wo wi we : WE} (hs : swapsWith e (some (.Subscript o i tp)) pos.line C.env = pure false) (he : SE C e we) (ho : SE C o wo) (hi : SE C i wi) :
    SSt C (.Assign [.Subscript o i tp] e pos) (fun lc cells k X => we lc cells (fun v c1 => wo lc c1 (fun vo c2 => wi lc c2 (fun vi c3 => setDW c3 vo vi v (fun c4 => k .next lc c4)) X) X) X) := by
  constructor; intro lc cells k x hw Z m g cs s Q E S hQ hE
  refine wpAny_Assign_Subscript (he.run lc cells _ x hw Z m g cs s _ E S (fun v c1 Z1 g1 s1 u hz hr S1 R hk => ho.run lc c1 _ x hk Z1 m g1 cs s1 _ E S1 (fun vo c2 Z2 g2 s2 uo hz2 hr2 S2 R2 hk2 => hi.run lc c2 _ x hk2 Z2 m g2 cs s2 _ E S2 (fun vi c3 Z3 g3 s3 ui hz3 hr3 S3 R3 hk3 => ?_)
    (fun c u s' rx hx => hE c u s' (RX.up S S2 (hz.trans hz2) (hr.trans hr2) rx).s hx)) (fun c u s' rx hx => hE c u s' (RX.up S S1 hz hr rx).s hx)) (fun c u s' rx hx => hE c u s' rx.s hx)) hs
  replace R2 := R2.mono hz3.1 hr3
  replace R := R.mono (hz2.trans hz3).1 (hr2.trans hr3)
  unfold setDW at hk3
  split at hk3
  · rename_i n j
    split at hk3
    · rename_i l hc
      obtain ⟨hlen,hk3⟩ := hk3
      obtain ⟨ad,rfl,had⟩ := rv_cell.mp R2
      obtain ⟨t,rfl⟩ := rv_int.mp R3
      obtain ⟨cc,hg,hcr⟩ := S3.cr.get hc
      cases cc with
      | dct a' kvs ob =>
        have e : a' = ad := by rw [List.getElem?_map,hg] at had; exact Option.some.inj had
        subst e
        have hx := S3.iv.objAt hg (q := (a',ob)) (by simp [CC.objs])
        refine wpAny_setItem_pairs (knd := PySem.intKind C.prog C.w) (k := j) (hsz := by rw [rvd_len hcr.2.2,sizeLine_eq]; exact Nat.le_trans hlen (by decide)) (intKind_is _ _ _ _) (Heap.dictOf_iff.mpr ⟨ob,hx,hcr.2.1 _ _⟩) fun h' hd' hs' => ?_
        obtain ⟨o',ho',hd'⟩ := Heap.dictOf_iff.mp hd'
        refine hQ .next lc _ Z3 m (g3.set n (.dct a' (stored kvs j u) o')) cs _ _ ((hz.trans hz2).trans hz3) (((hr.trans hr2).trans hr3).trans (by rw [set_addr hg (by rfl)]; exact .refl)) .refl (S3.put (x' := .dct (dput l j v)) hg rfl rfl (fun b hb => hs'.2 b fun e => hb (by simp [CC.objs,e])) (fun q hq => ?_) ⟨hcr.1,dct_all hd',rvd_put R hcr.2.2⟩) rfl hk3
        simp only [CC.objs,List.mem_singleton] at hq; subst hq; exact ho'
      | lst _ _ _ => exact hcr.elim
      | inst _ _ _ _ _ => exact hcr.elim
      | dead _ => exact hcr.elim
    · exact hk3.elim
  · exact hk3.elim
end
section
variable {prog : Program} {w : World} {A : Around} {E : Value → Shared → Prop} {s : Shared}
theorem part_of {v : Value} {o : Option Int} (h : IsPart v o) {Q : Option Int → Shared → Prop} (hq : Q o s) : wpAny (model prog w) A (Builtin.Slice.slicePartIndex v) Q E s := by
  cases h with
  | none => exact slicePart_none hq
  | int i t => exact slicePart_int hq
theorem applied_of {sl : Addr} {n : Nat} {va vb : Value} {lo hi : Option Int} {start count : Nat} {Q : Int × Int × Nat → Shared → Prop} (hs : s.heap.IsSliceOf sl va vb .none) (pa : IsPart va lo) (pb : IsPart vb hi)
    (hadj : (Builtin.Slice.sliceAdjust lo hi 1 (n : Int)).1 = start ∧ Builtin.Slice.slicePlaces (Builtin.Slice.sliceAdjust lo hi 1 (n : Int)).1 (Builtin.Slice.sliceAdjust lo hi 1 (n : Int)).2 1 = count) (h : Q ((start : Int),1,count) s) :
    wpAny (model prog w) A (Builtin.Slice.sliceApplied (.ref sl) (pure (n : Int))) Q E s := by
  obtain ⟨os,hos,hcs,hds⟩ := id hs
  unfold Builtin.Slice.sliceApplied Builtin.Slice.sliceFields
  refine wpAny_bind (wpAny_bind (wpAny_field hos hds (x := va) rfl (wpAny_bind (wpAny_field hos hds (x := vb) rfl (wpAny_bind (wpAny_field hos hds (x := .none) rfl (wpAny_pure ?_)))))))
  refine wpAny_bind (slicePart_none ?_)
  show wpAny _ _ (if ((1 : Int) == 0) = true then _ else _) _ _ s
  rw [if_neg (by decide)]
  refine wpAny_bind (part_of pa (wpAny_bind (part_of pb (wpAny_bind (wpAny_pure ?_)))))
  show wpAny _ _ (match Builtin.Slice.sliceAdjust lo hi 1 (n : Int) with | (lo,hi) => pure (lo,(1 : Int),Builtin.Slice.slicePlaces lo hi 1)) _ _ s
  obtain ⟨h1,h2⟩ := hadj
  generalize Builtin.Slice.sliceAdjust lo hi 1 (n : Int) = p at h1 h2
  obtain ⟨p1,p2⟩ := p
  dsimp only at h1 h2 ⊢
  rw [h2,h1]
  exact wpAny_pure h
theorem getItem_tuple_part {t sl : Addr} {items : Array Value} {va vb : Value} {lo hi : Option Int} {start count : Nat} {Q : Value → Shared → Prop} (ht : IsTup s.heap t items) (hs : s.heap.IsSliceOf sl va vb .none) (pa : IsPart va lo) (pb : IsPart vb hi)
    (hadj : (Builtin.Slice.sliceAdjust lo hi 1 (items.size : Int)).1 = start ∧ Builtin.Slice.slicePlaces (Builtin.Slice.sliceAdjust lo hi 1 (items.size : Int)).1 (Builtin.Slice.sliceAdjust lo hi 1 (items.size : Int)).2 1 = count) (hne : count ≠ items.size) (hc : count ≤ 1000)
    (h : Q (.ref s.heap.objs.size) { s with heap := s.heap.push { cls := .type "tuple",data := .seq ((items.toList.drop start).take count).toArray } }) : wpAny (model prog w) A (getItem (.ref t) (.ref sl)) Q E s := by
  have hsz : sizeOk (.seq ((items.toList.drop start).take count).toArray) := by
    show ((items.toList.drop start).take count).toArray.size ≤ sizeLine
    rw [List.size_toArray,List.length_take,sizeLine_eq]
    grind
  obtain ⟨os,hos,hcs,hds⟩ := id hs
  have hTs : s.TypeIs (.ref sl) "slice" := ⟨os,hos,hcs⟩
  unfold getItem
  try with_reducible refine wpAny_holding ?_
  first | refine wpAny_bind (wpAny_pure ?_) | skip
  refine wpAny_bind (wpAny_sequenceKey ht.typeIs (by decide) ?_)
  refine wpAny_bind (wpAny_callSpecial?_slot (name := Str.ofString "__getitem__") ht.typeIs slot_tuple_getitem
    (wpAny_call_entry slot_tuple_getitem ht.typeIs entry_tuple_getitem ?_ (args_tuple_getitem _ _)))
  show wpAny _ _ (Builtin.Tuple.tupleItemsOf (.ref t) >>= _) _ _ s
  refine wpAny_bind (tupleItemsOf_ ht ?_)
  refine wpAny_bind (wpAny_typeOf hTs ?_)
  rw [if_pos (by decide)]
  refine wpAny_bind (applied_of hs pa pb hadj ?_)
  have hno : ¬ (((start : Int) == 0 && (1 : Int) == 1 && (count == items.size)) = true) := by
    have : (count == items.size) = false := beq_eq_false_iff_ne.mpr hne
    rw [this]; simp
  show wpAny _ _ (if ((start : Int) == 0 && (1 : Int) == 1 && (count == items.size)) = true then _ else _) _ _ s
  have pk : ((List.range count).filterMap fun (k : Nat) => items[((start : Int) + (k : Int) * 1).toNat]?).toArray = ((items.toList.drop start).take count).toArray := by
    have e : (fun (k : Nat) => items[((start : Int) + (k : Int) * 1).toNat]?) = fun k => items[start + k]? := by
      funext k
      rw [show ((start : Int) + (k : Int) * 1).toNat = start + k by lia]
    rw [e]
    have := pick_run items start count
    rw [List.filterMap_map] at this
    have e2 : ((fun x => items[x]?) ∘ fun x => start + x) = fun k => items[start + k]? := rfl
    rw [e2] at this
    rw [this]
  rw [if_neg hno,pk]
  first
    | exact wpAny_bind (m := Builtin.Tuple.tupleExact _) (wpAny_newObj_type (wpAny_pure ⟨_,rfl,wpAny_pure h⟩) hsz)
    | exact wpAny_bind (m := Builtin.Tuple.tupleExact _) (wpAny_newObj_type (wpAny_bind (wpAny_pure (wpAny_pure ⟨_,rfl,wpAny_pure h⟩))) hsz)
    | exact wpAny_bind (wpAny_bind (m := Builtin.Tuple.tupleExact _) (wpAny_newObj_type (wpAny_pure (wpAny_pure ⟨_,rfl,wpAny_pure h⟩)) hsz))
    | exact wpAny_bind (wpAny_bind (m := Builtin.Tuple.tupleExact _) (wpAny_newObj_type (wpAny_pure ⟨_,rfl,wpAny_pure h⟩) hsz))
end
section
variable {C : Cx}
theorem RvL.drop {an P Z r} : ∀ {l : List V} {us : List Value} (n : Nat),RvL an P Z r l us → RvL an P Z r (l.drop n) (us.drop n)
  | _,_,0,h => h
  | [],_,n + 1,h => by obtain rfl := rvl_nil.mp h; exact rvl_nil.mpr rfl
  | _ :: _,_,n + 1,h => by obtain ⟨_,_,rfl,_,b⟩ := rvl_cons.mp h; exact RvL.drop n b
theorem sSliceT (hC : C.Ok) {a : Expr} {lo hi : Nat} {k1 k2 : Nat} {p1 p2 p3 pos : Pos} {wa : WE} (m : Nat) (hadj : (Builtin.Slice.sliceAdjust (some (lo : Int)) (some (hi : Int)) 1 (m : Int)).1 = (lo : Nat) ∧ Builtin.Slice.slicePlaces (Builtin.Slice.sliceAdjust (some (lo : Int)) (some (hi : Int)) 1 (m : Int)).1 (Builtin.Slice.sliceAdjust (some (lo : Int)) (some (hi : Int)) 1 (m : Int)).2 1 = hi - lo) (hne : hi - lo ≠ m ∧ hi - lo ≤ 1000) (ha : SE C a wa)
    (hs : ∀ o v,subscripted (.Slice (some (.Constant (.int lo) k1 p1)) (some (.Constant (.int hi) k2 p2)) none p3) false o v = operate [v,o] (getItem o v)) :
    SE C (.Subscript a (.Slice (some (.Constant (.int lo) k1 p1)) (some (.Constant (.int hi) k2 p2)) none p3) pos) (fun lc cells k X => wa lc cells (fun v c1 => match v with
      | .tup l => okW (Nat.beq l.length m) <| k (.tup ((l.drop lo).take (hi - lo))) c1
      | _ => False) X) := by
  constructor; intro lc cells k x hw Z mm g cs s Q E S hQ hE
  refine Subscript_ (ha.run lc cells _ x hw Z mm g cs s _ E S (fun v c1 Z1 g1 s1 u hz hr S1 R hk => ?_) hE)
  split at hk
  · rename_i l
    replace hk := And.imp_left Nat.eq_of_beq_eq_true (okW_iff hk)
    obtain ⟨ad,vs,n,rfl,h1,h2⟩ := rv_tup.mp R
    have hl : IsTup s1.heap ad vs.toArray := ⟨_,S1.iv.kz _ _ h1,rfl,n,rfl⟩
    have hsz : vs.toArray.size = m := by rw [List.size_toArray,h2.len]; exact hk.1
    refine wpAny_Slice ?_
    rw [evalPart_some,evalPart_some]
    refine wpAny_Constant_int (wpAny_Constant_int (wpAny_pure ?_))
    have hl2 : ∀ o,IsTup (s1.heap.push o) ad vs.toArray := fun o => hl.keeps fun _ _ e => Heap.get?_push_of_some _ e
    refine tail_any (hl2 _).typeIs slot_tuple_getitem.lookup (getItem_tuple_part (start := lo) (count := hi - lo) (hl2 _) (Heap.IsSliceOf.new ..) (.int _ _) (.int _ _) (by rw [hsz]; exact hadj) (by rw [hsz]; exact hne.1) hne.2 ?_) (hs _ _)
    have S2 := S1.grow (h' := s1.heap.push { cls := .type "slice",data := .fields #[.int lo (s1.toks),.int hi (s1.toks + 1),.none] }) (fun b o e => Heap.get?_push_of_some _ e)
    have S3 := S2.alloc (o := tupO ((vs.drop lo).take (hi - lo)) 0) rfl
    have z := Zput.le S2.iv.kz (o := tupO ((vs.drop lo).take (hi - lo)) 0)
    exact hQ _ c1 _ g1 _ _ (hz.trans z.k) hr S3 (rv_tup.mpr ⟨_,_,_,rfl,Zput.at,((h2.drop lo).take (hi - lo)).mono z .refl⟩) hk.2
  · exact hk.elim
theorem sUptoT (hC : C.Ok) {a : Expr} {hi : Nat} {k2 : Nat} {p2 p3 pos : Pos} {wa : WE} (m : Nat) (hadj : (Builtin.Slice.sliceAdjust none (some (hi : Int)) 1 (m : Int)).1 = (0 : Nat) ∧ Builtin.Slice.slicePlaces (Builtin.Slice.sliceAdjust none (some (hi : Int)) 1 (m : Int)).1 (Builtin.Slice.sliceAdjust none (some (hi : Int)) 1 (m : Int)).2 1 = hi) (hne : hi ≠ m ∧ hi ≤ 1000) (ha : SE C a wa) (ht : ∀ o r,letTemporaryGo a o r = pure ())
    (hs : ∀ o v,subscripted (.Slice none (some (.Constant (.int hi) k2 p2)) none p3) false o v = operate [v,o] (getItem o v)) :
    SE C (.Subscript a (.Slice none (some (.Constant (.int hi) k2 p2)) none p3) pos) (fun lc cells k X => wa lc cells (fun v c1 => match v with
      | .tup l => okW (Nat.beq l.length m) <| k (.tup (l.take hi)) c1
      | _ => False) X) := by
  constructor; intro lc cells k x hw Z mm g cs s Q E S hQ hE
  refine Subscript_ (ha.run lc cells _ x hw Z mm g cs s _ E S (fun v c1 Z1 g1 s1 u hz hr S1 R hk => ?_) hE)
  split at hk
  · rename_i l
    replace hk := And.imp_left Nat.eq_of_beq_eq_true (okW_iff hk)
    obtain ⟨ad,vs,n,rfl,h1,h2⟩ := rv_tup.mp R
    have hl : IsTup s1.heap ad vs.toArray := ⟨_,S1.iv.kz _ _ h1,rfl,n,rfl⟩
    have hsz : vs.toArray.size = m := by rw [List.size_toArray,h2.len]; exact hk.1
    refine wpAny_Slice ?_
    rw [evalPart_none,evalPart_some]
    refine wpAny_pure (wpAny_Constant_int (wpAny_pure ?_))
    have hl2 : ∀ o,IsTup (s1.heap.push o) ad vs.toArray := fun o => hl.keeps fun _ _ e => Heap.get?_push_of_some _ e
    refine subscriptTail_ops (hl2 _).typeIs slot_tuple_getitem.lookup (getItem_tuple_part (start := 0) (count := hi) (hl2 _) (Heap.IsSliceOf.new ..) .none (.int _ _) (by rw [hsz]; exact hadj) (by rw [hsz]; exact hne.1) hne.2 ?_) (hs _ _) (fun r => ht _ r)
    have S2 := S1.grow (h' := s1.heap.push { cls := .type "slice",data := .fields #[.none,.int hi (s1.toks),.none] }) (fun b o e => Heap.get?_push_of_some _ e)
    have S3 := S2.alloc (o := tupO (vs.take hi) 0) rfl
    have z := Zput.le S2.iv.kz (o := tupO (vs.take hi) 0)
    exact hQ _ c1 _ g1 _ _ (hz.trans z.k) hr S3 (rv_tup.mpr ⟨_,_,_,rfl,Zput.at,(h2.take hi).mono z .refl⟩) hk.2
  · exact hk.elim
end
section
variable {C : Cx}
theorem St.adopt {Z : Zm} {m : Str → Option Value} {g : List CC} {cs : List (Addr × Obj)} {lc : Lc} {cells : List Cell} {h h' : Heap} (S : St C Z m g cs lc cells h) (k : ∀ b o,h.get? b = some o → h'.get? b = some o) {o : Obj} (ho : h'.get? h.objs.size = some o) :
    Zle Z (Zput Z h.objs.size o) ∧ St C (Zput Z h.objs.size o) m g cs lc cells h' := by
  have le : Zle Z (Zput Z h.objs.size o) := Zput.le S.iv.kz
  have I := S.iv
  have I2 := (S.grow k).iv
  refine ⟨le,(S.grow k).go le .refl ⟨I2.ns,fun b x e => ?_,I2.kp,?_,I2.pl,fun q hq => ?_,I2.nd,fun b x e => ?_,I2.z0.trans le⟩ ((S.grow k).cr.mono le .refl)⟩
  · unfold Zput at e
    split at e
    · rename_i q; cases e; rw [q]; exact ho
    · exact I2.kz b x e
  · unfold Zput
    rw [if_neg (Nat.ne_of_lt I.ns.lt)]; exact I.zl
  · have O := I.own q hq
    refine ⟨k _ _ O.1,?_,O.2.2⟩
    unfold Zput
    rw [if_neg (Nat.ne_of_lt (Heap.lt_size O.1))]; exact O.2.1
  · unfold Zput at e
    split at e
    · rename_i q
      refine .inr ?_
      cases z : C.P b with
      | none => rfl
      | some y => have := Heap.lt_size (I.kp b y z); rw [q] at this; exact absurd this (Nat.lt_irrefl _)
    · exact I.zp b x e
noncomputable def lstOf (vs : List V) (cells : List Cell) (kk : V → List Cell → Prop) : Prop := m1 vs fun v => mTp v fun l => okW (Nat.ble l.length 16000000) <| kk (.lst l) cells
theorem bLst : BO C (.type "list") lstOf := by
  intro vs cells kk hp Z m g cs lc s us Q E S R hQ
  replace hp := m1_ hp
  obtain ⟨v,rfl,hp⟩ := hp
  replace hp := mTp_ hp
  obtain ⟨l,rfl,hp⟩ := hp
  replace hp := ok_le hp
  obtain ⟨u,rfl,ru⟩ := rvl1 R
  obtain ⟨a,ws,n,rfl,h1,h3⟩ := rv_tup.mp ru
  refine call_list_seq (T := "tuple") (hsz := by rw [List.size_toArray,h3.len,sizeLine_eq]; exact Nat.le_trans hp.1 (by decide)) a (.inr rfl) (S.iv.kz _ _ h1) rfl rfl fun h' c' hk hD => ?_
  obtain ⟨le,S2⟩ := S.adopt hk hD
  exact hQ _ _ _ g _ _ le.k .refl S2 (rv_lst.mpr ⟨_,ws,_,rfl,Zput.at,⟨c',rfl⟩,h3.mono le .refl⟩) hp.2
noncomputable def dctOf (vs : List V) (cells : List Cell) (kk : V → List Cell → Prop) : Prop := m1 vs fun v => mDc v fun l => l.length ≤ 1000 ∧ kk (.dct l) cells
theorem bDct (hC : C.Ok) : BO C (.type "dict") dctOf := by
  intro vs cells kk hp Z m g cs lc s us Q E S R hQ
  replace hp := m1_ hp
  obtain ⟨v,rfl,hp⟩ := hp
  replace hp := mDc_ hp
  obtain ⟨l,rfl,hp⟩ := hp
  obtain ⟨u,rfl,ru⟩ := rvl1 R
  obtain ⟨a,kvs,o,rfl,h1,h2,h3,h4⟩ := rv_dct.mp ru
  have hlo : (s.heap.objs.size == sysModules) = false := beq_eq_false_iff_ne.mpr (Nat.ne_of_gt (modules_low (hC.top s.heap fun b o e => S.iv.kp b o e).nolimit))
  refine kt_call_dict (knd := PySem.intKind C.prog C.w) h2 (Heap.dictOf_iff.mpr ⟨o,S.iv.kz _ _ h1,h3 _ _⟩) (by rw [rvd_len h4,sizeLine_eq]; exact Nat.le_trans hp.1 (by decide)) fun h' hd hs => ?_
  obtain ⟨o',ho',hd'⟩ := Heap.dictOf_iff.mp hd
  have hk : ∀ b x,s.heap.get? b = some x → h'.get? b = some x := fun b x e => (hs.2 b (Nat.ne_of_lt (Heap.lt_size e))).trans (Heap.get?_push_of_some _ e)
  obtain ⟨le,S2⟩ := S.adopt hk ho'
  exact hQ _ _ _ g _ _ le.k .refl S2 (rv_dct.mpr ⟨_,kvs,o',rfl,Zput.at,hlo,dct_all hd',h4.mono le .refl⟩) hp.2
noncomputable def isiS (vs : List V) (cells : List Cell) (kk : V → List Cell → Prop) : Prop := ((∃ x,vs = [.str x,.val (.type "str")]) ∨ (∃ l,vs = [.tup l,.val (.type "tuple")])) ∧ kk (.bool true) cells
theorem bIsiS : BO C (.builtin "isinstance") isiS := by
  intro vs cells kk hp Z m g cs lc s us Q E S R hQ
  obtain ⟨⟨x,rfl⟩ | ⟨l,rfl⟩,hp⟩ := hp
  · obtain ⟨u,t,rfl,ru,rt⟩ := rvl2 R
    obtain ⟨t1,rfl⟩ := rv_str.mp ru
    obtain rfl := rv_val.mp rt
    exact IsiPair.str_str (hQ _ cells Z g _ _ .refl .refl S (rv_bool.mpr rfl) hp)
  · obtain ⟨u,t,rfl,ru,rt⟩ := rvl2 R
    obtain ⟨a,ws,n,rfl,h1,h3⟩ := rv_tup.mp ru
    obtain rfl := rv_val.mp rt
    exact call_isinstance (isinstance_true (Tx := "tuple") F.isi_meta_tuple AutoSeq1.sub_tuple_tuple) ⟨⟨_,S.iv.kz _ _ h1,rfl⟩,hQ _ cells Z g _ _ .refl .refl S (rv_bool.mpr rfl) hp⟩
noncomputable def on2s (f : Str → Str → (V → Prop) → Prop) (a b : V) (kk : V → Prop) : Prop := mS a fun i => mS b fun j => f i j kk
theorem oEqS : PO C (compareOp .Eq) (on2s fun i j kk => kk (.bool (i == j))) := by
  intro va vb kk hp Z r ua ub s Q E ra rb hQ
  replace hp := mS_ hp
  obtain ⟨i,rfl,hp⟩ := hp
  replace hp := mS_ hp
  obtain ⟨j,rfl,hp⟩ := hp
  obtain ⟨t,rfl⟩ := rv_str.mp ra
  obtain ⟨t',rfl⟩ := rv_str.mp rb
  exact eq_str (hQ _ _ _ (rv_bool.mpr rfl) hp)
theorem oAddS : PO C (binaryOp .Add) (on2s fun i j kk => i.length + j.length ≤ 1000 ∧ kk (.str (i ++ j))) := by
  intro va vb kk hp Z r ua ub s Q E ra rb hQ
  replace hp := mS_ hp
  obtain ⟨i,rfl,hp⟩ := hp
  replace hp := mS_ hp
  obtain ⟨j,rfl,hp⟩ := hp
  obtain ⟨t,rfl⟩ := rv_str.mp ra
  obtain ⟨t',rfl⟩ := rv_str.mp rb
  exact add_str (fun t' tk => hQ _ _ _ (rv_str.mpr ⟨_,rfl⟩) hp.2) (by rw [sizeLine_eq]; exact Nat.le_trans hp.1 (by decide))
theorem sIdxS (hC : C.Ok) {a i : Expr} {pos : Pos} {wa wi : WE} (ha : SE C a wa) (hi : SE C i wi) (hs : ∀ o j,subscripted i false o j = operate [o,j] (getItem o j)) (ht : ∀ o r,letTemporaryGo a o r = pure ()) :
    SE C (.Subscript a i pos) (fun lc cells k X => wa lc cells (fun va c1 => wi lc c1 (fun vi c2 => match va,vi with
      | .str x,.int j => (0 ≤ j ∧ j < 2 ^ 63) ∧ ∃ c,x.cps[j.toNat]? = some c ∧ k (.str ⟨#[c]⟩) c2
      | _,_ => False) X) X) := by
  constructor; intro lc cells k x hw Z m g cs s Q E S hQ hE
  refine Subscript_ (ha.run lc cells _ x hw Z m g cs s _ E S (fun va c1 Z1 g1 s1 ua hz1 hr1 S1 Ra hk1 => hi.run lc c1 _ x hk1 Z1 m g1 cs s1 _ E S1
    (fun vi c2 Z2 g2 s2 ui hz2 hr2 S2 Ri hk2 => ?_) (fun c u s' rx hx => hE c u s' (RX.up S S1 hz1 hr1 rx) hx)) hE)
  split at hk2
  · rename_i y j
    obtain ⟨t,rfl⟩ := rv_str.mp (Ra.mono hz2.1 hr2)
    obtain ⟨t',rfl⟩ := rv_int.mp Ri
    obtain ⟨⟨b1,b2⟩,c,e,hk⟩ := hk2
    have hlt : j.toNat < y.length := (Array.getElem?_eq_some_iff.mp e).1
    refine subscriptTail_builtin (typeIs_str _ _ _) slot_str_getitem.lookup (getItem_str (c := c) ?_ ?_ (hQ _ c2 Z2 g2 _ _ (hz1.trans hz2) (hr1.trans hr2) S2 (rv_str.mpr ⟨_,rfl⟩) hk)) (hs _ _) (fun r => ht _ r)
    · simp; omega
    · have : seqIndex? j y.length = some j.toNat := by
        unfold seqIndex?
        simp only [show ¬ j < 0 by lia,if_false]
        simp; lia
      rw [this]; exact e
  · exact hk2.elim
end
theorem perm_dead {a : Addr} {o : Obj} : ∀ {g : List CC} {n : Nat} {c : CC},g[n]? = some c → c.objs = [(a,o)] → (g.flatMap CC.objs).Perm ((a,o) :: (g.set n (.dead a)).flatMap CC.objs)
  | [],n,c,h,_ => by simp at h
  | x :: g,0,c,h,e => by
    simp at h; subst h
    rw [List.set_cons_zero,List.flatMap_cons,List.flatMap_cons,e]
    simp [CC.objs]
  | x :: g,n + 1,c,h,e => by
    have ih := perm_dead (g := g) (n := n) (by simpa using h) e
    rw [List.set_cons_succ,List.flatMap_cons,List.flatMap_cons]
    exact (List.Perm.append_left x.objs ih).trans List.perm_middle
section
variable {C : Cx} {Z : Zm} {m : Str → Option Value} {g : List CC} {cs : List (Addr × Obj)} {lc : Lc} {cells : List Cell} {h : Heap}
theorem St.freezeG (S : St C Z m g cs lc cells h) {n : Nat} {c : CC} {a : Addr} {o : Obj} (hg : g[n]? = some c) (hc : c.objs = [(a,o)]) (ha : c.addr = a) (hn : ∀ v,o.data ≠ .cell v) :
    Zle Z (Zput Z a o) ∧ St C (Zput Z a o) m (g.set n (.dead a)) cs lc (cells.set n .dead) h := by
  have I := S.iv
  have pm := perm_dead hg hc
  have pm2 : (g.flatMap CC.objs ++ cs).Perm ((g.set n (.dead a)).flatMap CC.objs ++ (a,o) :: cs) := (pm.append_right cs).trans List.perm_middle.symm
  have ad : (g.set n (.dead a)).map CC.addr = g.map CC.addr := set_addr hg (by rw [ha]; rfl)
  have S2 : St C Z m (g.set n (.dead a)) ((a,o) :: cs) lc (cells.set n .dead) h := by
    refine ⟨⟨I.ns,I.kz,I.kp,I.zl,I.pl,fun q hq => I.own q (pm2.symm.subset hq),(pm2.map (·.1)).nodup_iff.mp I.nd,I.zp,I.z0⟩,?_,by rw [ad]; exact S.lr.sub (fun a _ => .tail _ a) .refl .refl,S.cl.sub fun a _ => .tail _ a⟩
    · rw [ad]
      refine crs_of (by rw [List.length_set,List.length_set]; exact S.cr.len) fun i x c' hx hc' => ?_
      by_cases e : n = i
      · subst e
        have hl := (List.getElem?_eq_some_iff.mp hx).1
        rw [List.length_set] at hl
        rw [List.getElem?_set_self hl] at hx
        cases hx
        trivial
      · rw [List.getElem?_set_ne e] at hx hc'
        obtain ⟨cc,h1,h2⟩ := S.cr.get hx
        rw [hc'] at h1; cases h1
        exact h2
  exact S2.freezeC hn
end
section
variable {C : Cx}
noncomputable def fzW (cells : List Cell) (v : V) (kk : V → List Cell → Prop) : Prop := match v with
  | .cell n => (match cells[n]? with
      | some (.lst l) => kk (.lst l) (cells.set n .dead)
      | some (.dct l) => kk (.dct l) (cells.set n .dead)
      | _ => False)
  | _ => False
theorem sFz {e : Expr} {we : WE} (h : SE C e we) : SE C e (fun lc cells k X => we lc cells (fun v c1 => fzW c1 v k) X) := by
  constructor; intro lc cells k x hw Z m g cs s Q E S hQ hE
  refine h.run lc cells _ x hw Z m g cs s Q E S (fun v c1 Z1 g1 s1 u hz hr S1 R hk => ?_) hE
  unfold fzW at hk
  split at hk
  · rename_i n
    obtain ⟨ad,rfl,had⟩ := rv_cell.mp R
    split at hk
    · rename_i l hc
      obtain ⟨cc,hg,hcr⟩ := S1.cr.get hc
      cases cc with
      | lst a' vs o =>
        have e' : a' = ad := by rw [List.getElem?_map,hg] at had; exact Option.some.inj had
        subst e'
        have ho : ∀ v,o.data ≠ .cell v := fun v q => by obtain ⟨k',rfl⟩ := hcr.1; cases q
        obtain ⟨le,S2⟩ := S1.freezeG hg rfl rfl ho
        refine hQ _ _ _ _ _ _ (hz.trans le.k) (hr.trans (by rw [set_addr hg (by rfl)]; exact .refl)) S2 (rv_lst.mpr ⟨_,vs,o,rfl,Zput.at,hcr.1,?_⟩) hk
        rw [set_addr hg (by rfl)]; exact hcr.2.mono le .refl
      | inst _ _ _ _ _ => exact hcr.elim
      | dct _ _ _ => exact hcr.elim
      | dead _ => exact hcr.elim
    · rename_i l hc
      obtain ⟨cc,hg,hcr⟩ := S1.cr.get hc
      cases cc with
      | dct a' kvs o =>
        have e' : a' = ad := by rw [List.getElem?_map,hg] at had; exact Option.some.inj had
        subst e'
        have ho : ∀ v,o.data ≠ .cell v := fun v q => by
          obtain ⟨es,ep,h1,h2,_⟩ := hcr.2.1 C.prog C.w
          rw [h2] at q; cases q
        obtain ⟨le,S2⟩ := S1.freezeG hg rfl rfl ho
        refine hQ _ _ _ _ _ _ (hz.trans le.k) (hr.trans (by rw [set_addr hg (by rfl)]; exact .refl)) S2 (rv_dct.mpr ⟨_,kvs,o,rfl,Zput.at,hcr.1,hcr.2.1,?_⟩) hk
        rw [set_addr hg (by rfl)]; exact hcr.2.2.mono le .refl
      | inst _ _ _ _ _ => exact hcr.elim
      | lst _ _ _ => exact hcr.elim
      | dead _ => exact hcr.elim
    · exact hk.elim
  · exact hk.elim
theorem sIdxD (hC : C.Ok) {a i : Expr} {pos : Pos} {wa wi : WE} (ha : SE C a wa) (hi : SE C i wi) (hs : ∀ o j,subscripted i false o j = operate [o,j] (getItem o j)) (ht : ∀ o r,letTemporaryGo a o r = pure ()) :
    SE C (.Subscript a i pos) (fun lc cells k X => wa lc cells (fun va c1 => wi lc c1 (fun vi c2 => match vi with
      | .int j => dctW c2 va fun l => ∃ v,dget l j = some v ∧ k v c2
      | _ => False) X) X) := by
  constructor; intro lc cells k x hw Z m g cs s Q E S hQ hE
  refine Subscript_ (ha.run lc cells _ x hw Z m g cs s _ E S (fun va c1 Z1 g1 s1 ua hz1 hr1 S1 Ra hk1 => hi.run lc c1 _ x hk1 Z1 m g1 cs s1 _ E S1
    (fun vi c2 Z2 g2 s2 ui hz2 hr2 S2 Ri hk2 => ?_) (fun c u s' rx hx => hE c u s' (RX.up S S1 hz1 hr1 rx) hx)) hE)
  split at hk2
  · rename_i j
    obtain ⟨t,rfl⟩ := rv_int.mp Ri
    obtain ⟨d,o,kvs,l,rfl,h1,h2,h3,h4,v,hv,hk⟩ := dct_at S2 (Ra.mono hz2.1 hr2) hk2
    have hg := rvd_get (i := j) h4
    rw [hv] at hg
    obtain ⟨u,hu,ru⟩ := hg
    have hD : s2.heap.DictOf (PySem.intKind C.prog C.w) d kvs := Heap.dictOf_iff.mpr ⟨o,h1,h3 _ _⟩
    exact subscriptTail_builtin hD.typeIs slot_dict_getitem.lookup (wpAny_getItem_of (intKind_is _ _ _ _) hD.mapOf hu (hQ _ c2 Z2 g2 _ _ (hz1.trans hz2) (hr1.trans hr2) S2 ru hk)) (hs _ _) (fun r => ht _ r)
  · exact hk2.elim
end
section
variable {C : Cx}
theorem sGetD (hC : C.Ok) {o e e2 : Expr} {apos pos : Pos} {wo : WE} {wl : WL} (hbase : attributeBase o "get" C.env (eval o C.env) = eval o C.env)
    (hfew : methodCallForm ([e,e2].length + ([] : List Keyword).length) (backTo pos (starEach [e,e2] C.env)) (backToKw pos (keywordEach [] C.env)) = true) (hline : (apos.endLine == pos.line) = true)
    (he : starEach [e,e2] C.env = (false,eval e C.env) :: starEach [e2] C.env) (hp : (backTo pos (starEach [e2] C.env)).any (·.1) = false) (ho : SE C o wo) (hl : SL C [e,e2] wl) :
    SE C (.Call (.Attribute o "get" apos) [e,e2] [] pos) (fun lc cells k X => wo lc cells (fun vo c1 => dctW c1 vo (fun _ => True) ∧ wl lc c1 (fun vs c2 => match vs with
      | [.int j,dv] => dctW c2 vo (fun l => k ((dget l j).getD dv) c2)
      | _ => False) X) X) := by
  constructor; intro lc cells k x hw Z m g cs s Q E S hQ hE
  refine meth_call hbase hfew hline (ho.run lc cells _ x hw Z m g cs s _ E S (fun vo c1 Z1 g1 s1 uo hz hr S1 R hk => ?_) hE)
  obtain ⟨d,ob,kvs,l,rfl,h1,h2,h3,h4,_⟩ := dct_at S1 R hk.1
  have hD : s1.heap.DictOf (PySem.intKind C.prog C.w) d kvs := Heap.dictOf_iff.mpr ⟨ob,h1,h3 _ _⟩
  refine getMethod_builtin hD.typeIs PySem.F.plainAttrs_dict PySem.F.slot_dict_get PySem.F.type_dict_get hD.mapOf.noDict ?_
  have hbt : backTo pos (starEach [e,e2] C.env) = (false,eval e C.env) :: backTo pos (starEach [e2] C.env) := by rw [he]; rfl
  have hl' := hl pos
  rw [hbt] at hl' ⊢
  refine Calls.callWith_builtin (by rw [List.any_cons,hp]; rfl) (Calls.evalArgs_plain ?_)
  refine hl'.run lc c1 _ x hk.2 Z1 m g1 cs s1 _ E S1 (fun ws c2 Z2 g2 s2 us hz2 hr2 S2 R2 hk2 => ?_) (fun c u s' rx hx => hE c u s' (RX.up S S1 hz hr rx) hx)
  split at hk2
  · rename_i j dv
    obtain ⟨u1,u2,rfl,r1,r2⟩ := rvl2 R2
    obtain ⟨t,rfl⟩ := rv_int.mp r1
    obtain ⟨d',ob',kvs',l',e',h1',h2',h3',h4',hk3⟩ := dct_at S2 (R.mono hz2.1 hr2) hk2
    cases e'
    have hD2 : s2.heap.DictOf (PySem.intKind C.prog C.w) d kvs' := Heap.dictOf_iff.mpr ⟨ob',h1',h3' _ _⟩
    have hg := rvd_get (i := j) h4'
    refine call_meetsIn PySem.F.slot_dict_get hD2.typeIs PySem.F.entry_dict_get (PySem.F.args_dict_get_3 _ _ _) (meets_dict_get_default (PySem.intKind C.prog C.w) d (intKind_is _ _ j t) h2' u2) ⟨_,hD2.mapOf,?_⟩
    cases e : dget l' j with
    | some v =>
      rw [e] at hg hk3
      obtain ⟨u,hu,ru⟩ := hg
      rw [hu]
      exact hQ _ c2 Z2 g2 _ _ (hz.trans hz2) (hr.trans hr2) S2 ru hk3
    | none =>
      rw [e] at hg hk3
      rw [hg]
      exact hQ _ c2 Z2 g2 _ _ (hz.trans hz2) (hr.trans hr2) S2 r2 hk3
  · exact hk2.elim
theorem sWhile0 (hC : C.Ok) {test : Expr} {body : List Stmt} {pos : Pos} {wt : WT} (ht : ST C test wt) :
    SSt C (.While test body [] pos) (fun lc cells k X => wt lc cells (fun b c1 => b = false ∧ k .next lc c1) (fun _ => False)) := by
  constructor; intro lc cells k x hw Z m g cs s Q E S hQ hE
  refine wpAny_While (codeAny_whileLoop (fun n s' => n = 0 ∧ s' = s) ?_ 0 ⟨rfl,rfl⟩)
  rintro n s' ⟨rfl,rfl⟩
  refine ht.run lc cells _ _ hw Z m g cs s' _ _ S (fun b c1 Z1 g1 s1 b' hz hr S1 R hk => ?_) (fun c u s' rx hx => hx.elim)
  obtain ⟨rfl,hk⟩ := hk
  obtain rfl : b' = false := R
  simp only [Bool.false_eq_true,if_false]
  exact wpAny_execs_nil (hQ .next lc c1 Z1 m g1 cs s1 _ hz hr .refl S1 rfl hk)
end
section
variable {C : Cx} {Z : Zm} {m : Str → Option Value} {g : List CC} {cs : List (Addr × Obj)} {lc : Lc} {cells : List Cell} {h : Heap}
theorem St.ownC (S : St C Z m g cs lc cells h) {I : Addr} {o : Obj} (hI : h.get? I = some o) (hz : Z I = none) (hp : C.P I = none) (hl : I ≠ C.L) (ng : ∀ q ∈ g.flatMap CC.objs ++ cs,q.1 ≠ I) : St C Z m g ((I,o) :: cs) lc cells h := by
  have J := S.iv
  refine ⟨⟨J.ns,J.kz,J.kp,J.zl,J.pl,fun q hq => ?_,?_,J.zp,J.z0⟩,S.cr,S.lr.sub (fun a _ => .tail _ a) .refl .refl,S.cl.sub fun a _ => .tail _ a⟩
  · rcases List.mem_append.mp hq with hq | hq
    · exact J.own q (List.mem_append_left _ hq)
    · rcases List.mem_cons.mp hq with rfl | hq
      · exact ⟨hI,hz,hp,hl⟩
      · exact J.own q (List.mem_append_right _ hq)
  · have pm : (g.flatMap CC.objs ++ (I,o) :: cs).Perm ((I,o) :: (g.flatMap CC.objs ++ cs)) := List.perm_middle
    refine (pm.map (·.1)).nodup_iff.mpr ?_
    rw [List.map_cons,List.nodup_cons]
    exact ⟨fun hm => by obtain ⟨q,hq,e⟩ := List.mem_map.mp hm; exact ng q hq e,J.nd⟩
theorem St.renewC (S : St C Z m g cs lc cells h) {I : Addr} {o o' : Obj} {h' : Heap} (hm : (I,o) ∈ cs) (hn : ∀ v,o.data ≠ .cell v) (hk : ∀ b x,b ≠ I → h.get? b = some x → h'.get? b = some x) (ho : h'.get? I = some o') :
    St C Z m g ((I,o') :: cs.filter fun q => q.1 != I) lc cells h' := by
  have J := S.iv
  have O := J.own (I,o) (List.mem_append_right _ hm)
  refine (S.dropC hm hn hk).ownC ho O.2.1 O.2.2.1 O.2.2.2 fun q hq e => ?_
  rcases List.mem_append.mp hq with hq | hq
  · exact J.disj hq (e ▸ List.mem_map_of_mem hm)
  · have := (List.mem_filter.mp hq).2
    simp at this; exact this e
end
noncomputable def forDW (tws : TWs) (wb : WS) : List (Int × V) → WS
  | [],lc,cells,k,_ => k .next lc cells
  | (i,v) :: l,lc,cells,k,X => tws lc cells [.int i,v] (fun lc1 c1 => wb lc1 c1 (fun f lc2 c2 => match f with
      | .next => forDW tws wb l lc2 c2 k X
      | .cont => forDW tws wb l lc2 c2 k X
      | .brk => k .next lc2 c2
      | .ret u => k (.ret u) lc2 c2) X) X
theorem rvd_at {an P Z r} : ∀ {l : List (Int × V)} {es : List (Int × Value)} {j : Nat} {i : Int} {v : V},RvD an P Z r l es → l[j]? = some (i,v) → ∃ u,es[j]? = some (i,u) ∧ Rv an P Z r v u
  | [],es,j,i,v,h,e => by simp at e
  | (k,x) :: l,es,j,i,v,h,e => by
    unfold RvD at h
    obtain ⟨y,vs,rfl,a,b⟩ := h
    cases j with
    | zero => simp at e; obtain ⟨rfl,rfl⟩ := e; exact ⟨y,rfl,a⟩
    | succ j => simpa using rvd_at b (j := j) (by simpa using e)
noncomputable abbrev itemIt (d : Addr) (i n ep : Nat) (ok ov : Value) : Obj := { cls := .type "dict_itemiterator",dict := none,data := .fields #[.none,.bool false,.ref d,.int i 0,.int n 0,.int ep 0,ok,ov],slots := #[] }
noncomputable abbrev itemOut (d : Addr) (i n ep : Nat) (ok ov : Value) (a : Addr) : Obj := { cls := .type "dict_itemiterator",dict := none,data := .fields #[rawInt a,.bool false,.ref d,.int i 0,.int n 0,.int ep 0,ok,ov],slots := #[] }
section
variable {C : Cx}
theorem sForItems (hC : C.Ok) (hq : C.q = true) {o : Expr} {apos cpos tpos pos : Pos} {elts : List Expr} {k₀ : Nat} {body : List Stmt} {wo : WE} {tws : TWs} {wb : WS} (hbase : attributeBase o "items" C.env (eval o C.env) = eval o C.env) (hline : (apos.endLine == cpos.line) = true)
    (hn : (assignEach elts C.env).length = 2) (hstar : (assignEach elts C.env).findIdx? (·.1) = none) (hs : ∀ x,foldedSetIterable (.Call (.Attribute o "items" apos) [] [] cpos) C.env x = pure x) (ho : SE C o wo) (ht : STgs C ((assignEach elts C.env).map (·.2)) tws) (hb : SSs C body wb) :
    SSt C (.For (.Tuple elts k₀ tpos) (.Call (.Attribute o "items" apos) [] [] cpos) body [] pos) (fun lc cells k X => wo lc cells (fun v c1 => match v with
      | .dct l => forDW tws wb l lc c1 k (fun _ => False)
      | _ => False) X) := by
  constructor; intro lc cells k x hw Z m g cs s Q E S hQ hE
  have ex : exec (.For (.Tuple elts k₀ tpos) (.Call (.Attribute o "items" apos) [] [] cpos) body [] pos) C.env = (do
      standAt pos
      let x ← foldedSetIterable (.Call (.Attribute o "items" apos) [] [] cpos) C.env (← eval (.Call (.Attribute o "items" apos) [] [] cpos) C.env)
      standAt (Expr.Call (.Attribute o "items" apos) [] [] cpos).pos
      runOwn (.forLoop (.Tuple elts k₀ tpos) (← holding [x] (pyIter x)) body [] C.env) C.env) := rfl
  rw [ex]
  refine wpAny_bind (wpAny_standAt (wpAny_bind (meth_call hbase rfl hline (ho.run lc cells _ x hw Z m g cs s _ E S (fun v c1 Z1 g1 s1 u hz hr S1 R hk1 => ?_) (fun c u s' rx hx => hE c u s' rx.s hx)))))
  split at hk1
  · rename_i l
    obtain ⟨d,kvs,od,rfl,h1,h2,h3,h4⟩ := rv_dct.mp R
    have hod := S1.iv.kz _ _ h1
    obtain ⟨es,ep,hx1,hx2,hx3,hx4,hx5⟩ := h3 C.prog C.w
    have hD : s1.heap.DictOf (PySem.intKind C.prog C.w) d kvs := Heap.dictOf_iff.mpr ⟨od,hod,h3 _ _⟩
    have hAt : ∀ hh : Heap,hh.get? d = some od → hh.DictAt (PySem.intKind C.prog C.w) d kvs ep := fun hh e => ⟨od,es,e,hx1,hx2,hx3,hx4,hx5⟩
    refine getMethod_builtin hD.typeIs PySem.F.plainAttrs_dict PySem.F.slot_dict_items PySem.F.type_dict_items hD.mapOf.noDict ?_
    refine Calls.callWith_builtin rfl (evalArgs_nil3 ?_)
    refine call_meetsIn PySem.F.slot_dict_items hD.typeIs PySem.F.entry_dict_items (PySem.F.args_dict_items_1 _) (meets_dict_items (PySem.intKind C.prog C.w) d h2) ⟨⟨kvs,hD⟩,?_⟩
    show wpAny _ _ (do
          let x ← foldedSetIterable (.Call (.Attribute o "items" apos) [] [] cpos) C.env (.ref s1.heap.objs.size)
          standAt (Expr.Call (.Attribute o "items" apos) [] [] cpos).pos
          runOwn (.forLoop (.Tuple elts k₀ tpos) (← holding [x] (pyIter x)) body [] C.env) C.env) _ _ _
    rw [hs]
    refine wpAny_bind (wpAny_pure (wpAny_bind (wpAny_standAt ?_)))
    have S2 := S1.grow (h' := s1.heap.push { cls := .type "dict_items",data := .fields #[.ref d] }) (fun b o e => Heap.get?_push_of_some _ e)
    refine wpAny_bind (wpAny_holding (wpAny_pyIter_items (knd := PySem.intKind C.prog C.w) (kvs := kvs) (ep := ep) ⟨_,Heap.get?_push_size _ rfl,rfl,rfl⟩ (hAt _ (S2.iv.kz _ _ h1)) ?_))
    have S3 := S2.addC (o := itemIt d 0 kvs.length ep .none .none) rfl
    generalize hI : (s1.heap.push { cls := .type "dict_items",data := .fields #[.ref d] }).objs.size = I at S3 ⊢
    refine wpAny_runOwn ?_
    have noC : ∀ {i n ok ov},∀ v : Option Value,(itemIt d i n ep ok ov).data ≠ .cell v := fun v q => by cases q
    have noO : ∀ {i n ok ov a},∀ v : Option Value,(itemOut d i n ep ok ov a).data ≠ .cell v := fun v q => by cases q
    have lenk : kvs.length = l.length := rvd_len h4
    have notI : ∀ q ∈ cs,q.1 ≠ I := fun q hq => by rw [← hI]; exact Nat.ne_of_lt (Heap.lt_size (S2.iv.own q (List.mem_append_right _ hq)).1)
    refine codeAny_forLoop_any (LoopI C (og s1) Z1 g1 cs I (fun j => (l.drop j).length) (fun j o => ∃ ok ov,o = itemIt d j kvs.length ep ok ov) (fun j lc' c' => forDW tws wb (l.drop j) lc' c' k (fun _ => False))) ?_ l.length
      ⟨0,lc,c1,Z1,m,g1,_,_,rfl,.refl,.refl,fun q hq _ => .tail _ hq,S3,.head _,⟨_,_,rfl⟩,hk1⟩
    rintro n s' ⟨j,lc',c',Z',m',g',cs',_,rfl,hz',hr',hcl',S',hmem,⟨ok,ov,rfl⟩,hfw'⟩
    have hA : C.A.mark none = C.A := by unfold Around.mark; rfl
    rw [hA]
    have hkI := S'.iv.own (I,_) (List.mem_append_right _ hmem)
    have hdk : s'.heap.get? d = some od := S'.iv.kz _ _ (hz'.1 _ _ h1)
    cases hl' : l.drop j with
    | nil =>
      have hend : kvs[j]? = none := by
        have := List.drop_eq_nil_iff.mp hl'
        exact List.getElem?_eq_none_iff.mpr (by lia)
      rw [hl'] at hfw'
      refine wpAny_pyNext_items_end (knd := PySem.intKind C.prog C.w) (kvs := kvs) (hC.hd.1 hq) hkI.1 (hAt _ hdk) hend fun h' hx => wpAny_execs_nil ?_
      refine hQ .next lc' c' Z' m' g' _ _ _ (hz.trans hz') (hr.trans hr') ?_ (S'.dropC hmem noC fun b' x hb e => hx b' x hb e) rfl hfw'
      exact fun q hq hn => List.mem_filter.mpr ⟨hcl' q hq hn,by simpa using notI q hq⟩
    | cons p l' =>
      obtain ⟨i,v⟩ := p
      have hat : l[j]? = some (i,v) := by
        have := congrArg (·[0]?) hl'
        simpa using this
      have hdrop : l.drop (j + 1) = l' := by
        have := congrArg List.tail hl'
        simpa using this
      obtain ⟨u,hku,ru⟩ := rvd_at h4 hat
      rw [hl'] at hfw'
      refine wpAny_pyNext_items_item (knd := PySem.intKind C.prog C.w) hkI.1 (hAt _ hdk) hku fun key h1' hkey heo ht1 hz1 hk1' => ?_
      obtain ⟨t,rfl⟩ := Value.isInt_shape (show key.isInt i = true from hkey)
      have S4 := S'.renewC hmem noC (fun b x hb e => hk1' b x hb e) heo
      show wpAny _ _ (letOwnedTupleGo (.Tuple elts k₀ tpos) (.ref I) (.ref s'.heap.objs.size)) _ _ _
      refine wpAny_letOwnedTupleGo_items heo fun h2' he2 hs2 => ?_
      have S5 := S4.updC (.head _) noO hs2 he2
      have hiH : I < s'.heap.objs.size := Heap.lt_size hkI.1
      have ht2 : h2'.IsTuple s'.heap.objs.size #[.int i t,u] := ⟨_,(hs2.2 _ (Nat.ne_of_gt hiH)).trans ht1,rfl,_,rfl⟩
      have memI := mem_putC (o' := itemIt d (j + 1) kvs.length ep (.int i t) u) (List.mem_cons_self (a := (I,itemOut d (j + 1) kvs.length ep (.int i t) u s'.heap.objs.size)) (l := cs'.filter fun q => q.1 != I))
      have keep5 : ∀ q ∈ cs,(∀ v,q.2.data ≠ .cell v) → q ∈ putC I (itemIt d (j + 1) kvs.length ep (.int i t) u) ((I,itemOut d (j + 1) kvs.length ep (.int i t) u s'.heap.objs.size) :: cs'.filter fun q => q.1 != I) := fun q hq hn =>
        mem_putC_ne (b := q.1) (o := q.2) (.tail _ (List.mem_filter.mpr ⟨hcl' q hq hn,by simpa using notI q hq⟩)) (notI q hq)
      generalize putC I (itemIt d (j + 1) kvs.length ep (.int i t) u) ((I,itemOut d (j + 1) kvs.length ep (.int i t) u s'.heap.objs.size) :: cs'.filter fun q => q.1 != I) = cs6 at S5 memI keep5
      clear S4 heo he2 ht1 hk1' hz1
      refine wpAny_assign_Tuple (hC.hd.1 hq) ht2 hn hstar fun h3' hx3 => ?_
      have S6 := S5.grow (h' := h3') (fun b o e => hx3 b o (Nat.ne_of_lt (Heap.lt_size e)) e)
      refine ht lc' c' [.int i,v] _ _ hfw' Z' m' g' _ ⟨h3',_,_,_,_⟩ _ _ [.int i t,u] S6 (rvl_cons.mpr ⟨_,_,rfl,rv_int.mpr ⟨t,rfl⟩,rvl_cons.mpr ⟨u,[],rfl,ru.mono hz'.1 hr',rvl_nil.mpr rfl⟩⟩) (fun lc4 c4 Z4 m4 g4 cs4 s4 hz4 hr4 hc4 S7 hk4 => ?_) (fun c u s' _ hx => hx.elim)
      refine hb.run _ c4 _ _ hk4 Z4 m4 g4 cs4 s4 _ _ S7 (fun fl lc5 c5 Z5 m5 g5 cs5 s5 f hz5 hr5 hc5 S8 hf hk5 => ?_) (fun c u s' _ hx => hx.elim)
      have mem5 := hc5 _ (hc4 _ memI noC) noC
      have cl5 : ∀ q ∈ cs,(∀ v,q.2.data ≠ .cell v) → q ∈ cs5 := fun q hq hn => hc5 q (hc4 q (keep5 q hq hn) hn) hn
      have again : forDW tws wb l' lc5 c5 k (fun _ => False) → ∃ m,m < ((i,v) :: l').length ∧ LoopI C (og s1) Z1 g1 cs I (fun j => (l.drop j).length) (fun j o => ∃ ok ov,o = itemIt d j kvs.length ep ok ov) (fun j lc' c' => forDW tws wb (l.drop j) lc' c' k (fun _ => False)) m s5 := fun hw5 =>
        ⟨l'.length,Nat.lt_succ_self _,j + 1,lc5,c5,Z5,m5,g5,cs5,_,by rw [hdrop],hz'.trans (hz4.trans hz5),hr'.trans (hr4.trans hr5),cl5,S8,mem5,⟨_,_,rfl⟩,by rw [hdrop]; exact hw5⟩
      cases fl with
      | next => obtain rfl : f = .next := hf; exact again hk5
      | cont => obtain rfl : f = .cont := hf; exact again hk5
      | brk => obtain rfl : f = .brk := hf; exact hQ .next lc5 c5 Z5 m5 g5 cs5 _ _ ((hz.trans hz').trans (hz4.trans hz5)) ((hr.trans hr').trans (hr4.trans hr5)) (fun q hq hn => cl5 q hq hn) S8 rfl hk5
      | ret v => obtain ⟨u',rfl,r⟩ := hf; exact hQ (.ret v) lc5 c5 Z5 m5 g5 cs5 _ _ ((hz.trans hz').trans (hz4.trans hz5)) ((hr.trans hr').trans (hr4.trans hr5)) (fun q hq hn => cl5 q hq hn) S8 ⟨u',rfl,r⟩ hk5
  · exact hk1.elim
end
section
variable {C : Cx}
noncomputable def KeyO (d : Addr) (n ep : Nat) (o : Obj) (i : Nat) : Prop := o.cls = .type "dict_keyiterator" ∧ o.data = .fields #[.ref d,.int i 0,.int n 0,.int ep 0]
theorem sForKeys (hC : C.Ok) (hq : C.q = true) {y : Str} {px pos : Pos} {iter : Expr} {body : List Stmt} {we : WE} {wb : WS} (i : Nat) (hi : C.names[i]? = some y) (hk : KindOk C y) (hs : ∀ x,foldedSetIterable iter C.env x = pure x) (he : SE C iter we) (hb : SSs C body wb) :
    SSt C (.For (.Name y px) iter body [] pos) (fun lc cells k X => we lc cells (fun v c1 => match v with
      | .dct l => forW wb i (l.map fun p => V.int p.1) lc c1 k (fun _ => False)
      | _ => False) X) := by
  constructor; intro lc cells k x hw Z m g cs s Q E S hQ hE
  have ex : exec (.For (.Name y px) iter body [] pos) C.env = (do
      standAt pos
      let x ← foldedSetIterable iter C.env (← eval iter C.env)
      standAt iter.pos
      runOwn (.forLoop (.Name y px) (← holding [x] (pyIter x)) body [] C.env) C.env) := rfl
  rw [ex]
  refine wpAny_bind (wpAny_standAt (wpAny_bind (he.run lc cells _ x hw Z m g cs s _ E S (fun v c1 Z1 g1 s1 u hz hr S1 R hk1 => ?_) (fun c u s' rx hx => hE c u s' rx.s hx))))
  split at hk1
  · rename_i l
    obtain ⟨d,kvs,od,rfl,h1,h2,h3,h4⟩ := rv_dct.mp R
    have hod := S1.iv.kz _ _ h1
    obtain ⟨es,ep,hx1,hx2,hx3,hx4,hx5⟩ := h3 C.prog C.w
    have hAt : ∀ hh : Heap,hh.get? d = some od → hh.DictAt (PySem.intKind C.prog C.w) d kvs ep := fun hh e => ⟨od,es,e,hx1,hx2,hx3,hx4,hx5⟩
    rw [hs]
    refine wpAny_bind (wpAny_pure (wpAny_bind (wpAny_standAt ?_)))
    refine wpAny_bind (wpAny_holding (wpAny_pyIter_dict (knd := PySem.intKind C.prog C.w) (kvs := kvs) (ep := ep) h2 (hAt _ hod) ?_))
    have S2 := S1.addC (o := { cls := .type "dict_keyiterator",data := .fields #[.ref d,.int 0 0,.int kvs.length 0,.int ep 0] }) rfl
    have lenk : kvs.length = l.length := rvd_len h4
    have noC : ∀ {o : Obj} {i : Nat},KeyO d kvs.length ep o i → ∀ v : Option Value,o.data ≠ .cell v := fun h v q => by rw [h.2] at q; cases q
    refine wpAny_runOwn ?_
    refine codeAny_forLoop_any (LoopI C (og s1) Z1 g1 cs s1.heap.objs.size (fun j => (l.drop j).length) (fun j o => KeyO d kvs.length ep o j) (fun j lc' c' => forW wb i ((l.drop j).map fun p => V.int p.1) lc' c' k (fun _ => False))) ?_ l.length
      ⟨0,lc,c1,Z1,m,g1,_,_,rfl,.refl,.refl,fun q hq _ => .tail _ hq,S2,.head _,⟨rfl,rfl⟩,hk1⟩
    rintro n s' ⟨j,lc',c',Z',m',g',cs',oJ,rfl,hz',hr',hcl',S',hmem,hitJ,hfw'⟩
    have hA : C.A.mark none = C.A := by unfold Around.mark; rfl
    rw [hA]
    have hkI := S'.iv.own (_,oJ) (List.mem_append_right _ hmem)
    have notI : ∀ q ∈ cs,q.1 ≠ s1.heap.objs.size := fun q hq => Nat.ne_of_lt (Heap.lt_size (S1.iv.own q (List.mem_append_right _ hq)).1)
    have hdk : s'.heap.get? d = some od := S'.iv.kz _ _ (hz'.1 _ _ h1)
    have hit : s'.heap.IsKeyIter s1.heap.objs.size d j kvs.length ep := ⟨oJ,hkI.1,hitJ⟩
    cases hl' : l.drop j with
    | nil =>
      have hend : kvs[j]? = none := by
        have := List.drop_eq_nil_iff.mp hl'
        exact List.getElem?_eq_none_iff.mpr (by lia)
      rw [hl'] at hfw'
      refine wpAny_pyNext_dict_end (knd := PySem.intKind C.prog C.w) (hC.hd.1 hq) hit (hAt _ hdk) hend fun h' hx => wpAny_execs_nil ?_
      refine hQ .next lc' c' Z' m' g' _ _ _ (hz.trans hz') (hr.trans hr') ?_ (S'.dropC hmem (noC hitJ) fun b' x hb e => hx b' x hb e) rfl hfw'
      exact fun q hq hn => List.mem_filter.mpr ⟨hcl' q hq hn,by simpa using notI q hq⟩
    | cons p l' =>
      obtain ⟨ki,v⟩ := p
      have hat : l[j]? = some (ki,v) := by
        have := congrArg (·[0]?) hl'
        simpa using this
      have hdrop : l.drop (j + 1) = l' := by
        have := congrArg List.tail hl'
        simpa using this
      obtain ⟨u0,hku,_⟩ := rvd_at h4 hat
      rw [hl'] at hfw'
      refine wpAny_pyNext_dict_item (knd := PySem.intKind C.prog C.w) hit (hAt _ hdk) hku fun key h' hkey hitK hsame => ?_
      obtain ⟨t,rfl⟩ := Value.isInt_shape (show key.isInt ki = true from hkey)
      obtain ⟨oK,hK,hitK⟩ := hitK
      have S3 := S'.updC hmem (noC hitJ) hsame hK
      show wpAny _ _ (letOwnedTupleGo (.Name y px) _ _) _ _ _
      refine wpAny_of_eq (a := ()) rfl ?_
      refine wpAny_assign_Name (store_i (s := ⟨h',_,_,_,_⟩) hC hi hk S3 (rv_int.mpr ⟨t,rfl⟩ : Rv C.an C.w.params Z' (g'.map CC.addr) (.int ki) _) fun m4 cs4 s4 o4 hc4 S4 => ?_)
      have hz4 : Zk (og s1) (og s4) Z1 Z' := hz'.to o4
      have mem4 : (s1.heap.objs.size,oK) ∈ cs4 := hc4 _ (mem_putC hmem) (noC hitK)
      have cl4 : ∀ q ∈ cs,(∀ v,q.2.data ≠ .cell v) → q ∈ cs4 := fun q hq hn => hc4 q (mem_putC_ne (b := q.1) (o := q.2) (hcl' q hq hn) (notI q hq)) hn
      refine hb.run _ c' _ _ hfw' Z' m4 g' cs4 s4 _ _ S4 (fun fl lc5 c5 Z5 m5 g5 cs5 s5 f hz5 hr5 hc5 S5 hf hk5 => ?_) (fun c u s' _ hx => hx.elim)
      have mem5 := hc5 _ mem4 (noC hitK)
      have cl5 : ∀ q ∈ cs,(∀ v,q.2.data ≠ .cell v) → q ∈ cs5 := fun q hq hn => hc5 q (cl4 q hq hn) hn
      have again : forW wb i (l'.map fun p => V.int p.1) lc5 c5 k (fun _ => False) → ∃ m,m < ((ki,v) :: l').length ∧ LoopI C (og s1) Z1 g1 cs s1.heap.objs.size (fun j => (l.drop j).length) (fun j o => KeyO d kvs.length ep o j) (fun j lc' c' => forW wb i ((l.drop j).map fun p => V.int p.1) lc' c' k (fun _ => False)) m s5 := fun hw5 =>
        ⟨l'.length,Nat.lt_succ_self _,j + 1,lc5,c5,Z5,m5,g5,cs5,oK,by rw [hdrop],hz4.trans hz5,hr'.trans hr5,cl5,S5,mem5,hitK,by rw [hdrop]; exact hw5⟩
      cases fl with
      | next => obtain rfl : f = .next := hf; exact again hk5
      | cont => obtain rfl : f = .cont := hf; exact again hk5
      | brk => obtain rfl : f = .brk := hf; exact hQ .next lc5 c5 Z5 m5 g5 cs5 _ _ ((hz.trans hz4).trans hz5) ((hr.trans hr').trans hr5) (fun q hq hn => cl5 q hq hn) S5 rfl hk5
      | ret v => obtain ⟨u',rfl,r⟩ := hf; exact hQ (.ret v) lc5 c5 Z5 m5 g5 cs5 _ _ ((hz.trans hz4).trans hz5) ((hr.trans hr').trans hr5) (fun q hq hn => cl5 q hq hn) S5 ⟨u',rfl,r⟩ hk5
  · exact hk1.elim
end
end Mine
end
section
open PySem PySem.W PyProof.Rows
open AutoSeq1 (wpAny_loadPart')
namespace Mine
section
theorem enum_newT (t : Addr) (items : Array Value) (n : Nat) : Meets (Builtin.«enumerate.__new__» ⟨[.type "enumerate",.ref t],[]⟩) (fun _ R s => s.heap.get? t = some { cls := .type "tuple",dict := none,data := .seq items n,slots := #[] } ∧
    R (.ok (.ret (.ref (s.heap.push { cls := .type "tuple_iterator",data := .fields #[.ref t,.int 0 0] }).objs.size)))
      { s with heap := (s.heap.push { cls := .type "tuple_iterator",data := .fields #[.ref t,.int 0 0] }).push { cls := .type "enumerate",data := .fields #[.none,.bool false,.ref s.heap.objs.size,rawInt 0,.none,.none] } }) :=
  .of_wp fun prog w A R s h => by
    obtain ⟨hp,g,d,tk,os⟩ := s
    obtain ⟨hl,h⟩ := h
    have hsub := sub_enumerate
    have hL : Heap.IsTuple (Shared.heap ⟨hp,g,d,tk,os⟩) t items := ⟨_,hl,rfl,n,rfl⟩
    wp_walk using wpAny_loadPart' hL
    refine wpAny_stack_any fun st => wpAny_pure ?_
    split
    · rename_i c _ _ _ _ _
      cases (c == Value.type "enumerate") <;> (wp_walk using wpAny_loadPart' hL,wpAny_pyIter_tuple hL; exact ⟨_,rfl,h⟩)
    · wp_walk using wpAny_loadPart' hL,wpAny_pyIter_tuple hL
      exact ⟨_,rfl,h⟩
end
section
variable {prog : Program} {w : World} {A : Around} {E : Value → Shared → Prop} {s : Shared}
theorem call_enumT {t : Addr} {items : Array Value} {n : Nat} {Q : Value → Shared → Prop} (ht : s.heap.get? t = some { cls := .type "tuple",dict := none,data := .seq items n,slots := #[] })
    (h : ∀ h',IsEnum h' (s.heap.objs.size + 1) s.heap.objs.size 0 .none → h'.get? s.heap.objs.size = some { cls := .type "tuple_iterator",data := .fields #[.ref t,.int 0 0] } → (∀ b o,s.heap.get? b = some o → h'.get? b = some o) → Q (.ref (s.heap.objs.size + 1)) { s with heap := h' }) :
    wpAny (model prog w) A (call (.type "enumerate") [.ref t]) Q E s := by
  refine callType_new F.called_enumerate (by decide) (F.typeCall_enumerate_1 _) (F.newCall_enumerate_1 _) (fun obj => F.args_object_init_2 obj _) F.entry_enumerate_new (enum_newT t items n) ⟨ht,?_⟩
  have hz : (s.heap.push { cls := .type "tuple_iterator",data := .fields #[.ref t,.int 0 0] }).objs.size = s.heap.objs.size + 1 := Heap.size_push ..
  show _ ∧ _
  rw [hz]
  have he := Heap.get?_push_size (s.heap.push { cls := .type "tuple_iterator",data := .fields #[.ref t,.int 0 0] }) (o := { cls := .type "enumerate",data := .fields #[.none,.bool false,.ref s.heap.objs.size,rawInt 0,.none,.none] }) rfl
  rw [hz] at he
  exact ⟨⟨_,he,rfl⟩,h _ he (Heap.get?_push_of_some _ (Heap.get?_push_size _ rfl)) fun b o x => Heap.get?_push_of_some _ (Heap.get?_push_of_some _ x)⟩
theorem nextOfT_end {it t : Addr} {o : Obj} {ot : Obj} {items : Array Value} {n : Nat} {Q : Value → Shared → Prop} (hh : A.handled = none) (ho : s.heap.get? it = some { cls := .type "tuple_iterator",data := .fields #[.ref t,.int 0 0] })
    (hot : s.heap.get? t = some ot) (hdt : ot.data = .seq #[] n)
    (hE : ∀ h' e,Heap.ExtBut it s.heap h' → (∃ o,h'.get? e = some o ∧ o.cls = .type "StopIteration") → E (.ref e) { s with heap := h' }) : wpAny (model prog w) A (Builtin.SmallTypes.nextOf (.ref it)) Q E s := by
  have hT : s.TypeIs (.ref it) "tuple_iterator" := ⟨_,ho,rfl⟩
  unfold Builtin.SmallTypes.nextOf
  refine wpAny_bind (wpAny_callSpecial?_slot (name := Str.ofString "__next__") hT F.slot_tuple_iterator_next (wpAny_call_entry F.slot_tuple_iterator_next hT F.entry_tuple_iterator_next ?_ (F.args_tuple_iterator_next_1 _)))
  show wpAny _ _ (field (.ref it) 0 >>= _) _ _ s
  refine wpAny_bind (wpAny_field ho rfl (x := .ref t) rfl ?_)
  show wpAny _ _ (if (Value.ref t == Value.none) = true then _ else _) _ _ s
  rw [if_neg (show ¬ ((Value.ref t == Value.none) = true) from Bool.false_ne_true)]
  show wpAny _ _ (field (.ref it) 1 >>= _) _ _ s
  refine wpAny_bind (wpAny_field ho rfl (x := .int 0 0) rfl ?_)
  show wpAny _ _ (seqItems? (.ref t) >>= _) _ _ s
  refine wpAny_bind (wpAny_seqItems hot hdt ?_)
  refine wpAny_bind (wpAny_rule (wpAny_bind (wpAny_setField ho rfl (by simp) ?_)))
  show wpAny _ _ (newExc (.type "StopIteration") [] >>= _) _ _ _
  refine wpAny_bind ?_
  simp only [newExc,newTuple]
  refine wpAny_bind (wpAny_newObj_type ?_ (by size_fits))
  refine wpAny_bind (m := firstArgMember _ _) (wpAny_of_eq (a := Value.none) (by first | rfl | (simp only [firstArgMember]; rfl)) ?_)
  refine wpAny_newObj_type ?_ (by size_fits)
  simp only [raiseNew]
  refine wpAny_bind (wpAny_handled ?_)
  first | rw [show A.in1.handled = none from hh] | rw [hh]
  refine wpAny_bind (wpAny_pure (wpAny_throw ?_))
  exact hE _ _ (((Heap.SameBut.update ..).extBut.push _).push _) ⟨_,Heap.get?_push_size _ rfl,rfl⟩
theorem nextE_end {e it t : Addr} {ot : Obj} {n : Nat} {old : Value} {Q : Option Value → Shared → Prop} (hh : A.handled = none) (he : IsEnum s.heap e it 0 old) (ho : s.heap.get? it = some { cls := .type "tuple_iterator",data := .fields #[.ref t,.int 0 0] })
    (hot : s.heap.get? t = some ot) (hdt : ot.data = .seq #[] n) (hQ : ∀ h',Heap.ExtBut it s.heap h' → Q none { s with heap := h' }) : wpAny (model prog w) A (pyNext (.ref e)) Q E s := by
  have hT : s.TypeIs (.ref e) "enumerate" := ⟨_,he,rfl⟩
  unfold pyNext
  refine wpAny_bind (wpAny_attempt (wpAny_callSpecial?_slot (name := Str.ofString "__next__") hT F.slot_enumerate_next (wpAny_call_entry F.slot_enumerate_next hT F.entry_enumerate_next ?_ (F.args_enumerate_next_1 _))))
  show wpAny _ _ (field (.ref e) 2 >>= _) _ _ _
  refine wpAny_bind (wpAny_field he rfl (x := .ref it) rfl ?_)
  refine wpAny_bind (nextOfT_end (o := ot) (items := #[]) hh ho hot hdt fun h' x he' hx' => ?_)
  obtain ⟨o,ho',hc⟩ := hx'
  refine wpAny_bind (wpAny_isInstance (T := "StopIteration") (b := true) ⟨o,ho',hc⟩ isSubtype_stop ?_)
  exact wpAny_pure (hQ _ he')
end
end Mine
end
section
open PySem PySem.W PyProof.Rows
namespace Mine
section
variable {C : Cx}
theorem sForEnum0 (hC : C.Ok) (hq : C.q = true) {y : Str} {p cpos pos : Pos} {e target : Expr} {body : List Stmt} {wl : WL} (hf : SN C (.Name y p) (.type "enumerate")) (hkp : keeperOf (.type "enumerate") = pure .machine) (he : starEach [e] C.env = (false,eval e C.env) :: starEach [] C.env)
    (hl : SL C [e] wl) (hs : ∀ x,foldedSetIterable (.Call (.Name y p) [e] [] cpos) C.env x = pure x) :
    SSt C (.For target (.Call (.Name y p) [e] [] cpos) body [] pos) (fun lc cells k X => wl lc cells (fun vs c1 => match vs with
      | [.tup []] => k .next lc c1
      | _ => False) X) := by
  constructor; intro lc cells k x hw Z m g cs s Q E S hQ hE
  have ex : exec (.For target (.Call (.Name y p) [e] [] cpos) body [] pos) C.env = (do
      standAt pos
      let x ← foldedSetIterable (.Call (.Name y p) [e] [] cpos) C.env (← eval (.Call (.Name y p) [e] [] cpos) C.env)
      standAt (Expr.Call (.Name y p) [e] [] cpos).pos
      runOwn (.forLoop target (← holding [x] (pyIter x)) body [] C.env) C.env) := rfl
  rw [ex]
  refine wpAny_bind (wpAny_standAt (wpAny_bind ?_))
  refine wpAny_Call_NameR (hf.run lc cells (fun v c1 => v = .val (.type "enumerate") ∧ c1 = cells) x ⟨rfl,rfl⟩ Z m g cs s _ E S (fun v c1 Z1 g1 s1 u hz hr S1 R hk1 => ?_) (fun c u s' rx hx => hE c u s' rx.s hx))
  obtain ⟨rfl,rfl⟩ := hk1
  obtain rfl := rv_val.mp R
  have hbt : backTo cpos (starEach [e] C.env) = (false,eval e C.env) :: backTo cpos (starEach [] C.env) := by rw [he]; rfl
  have hl' := hl cpos
  rw [hbt] at hl' ⊢
  refine callWith_of (P := fun _ => True) rfl (fun _ _ => ⟨.machine,.inr (.inl rfl),Looks.of_pure hkp⟩) (Calls.evalArgs_plain ?_)
  refine hl'.run lc c1 _ x hw Z1 m g1 cs s1 _ E S1 (fun vs c2 Z2 g2 s2 us hz2 hr2 S2 R2 hk2 => ⟨trivial,?_⟩) (fun c u s' rx hx => hE c u s' (RX.up S S1 hz hr rx).s hx)
  split at hk2
  · obtain ⟨u,rfl,ru⟩ := rvl1 R2
    obtain ⟨t,ws,n,rfl,h1,h3⟩ := rv_tup.mp ru
    obtain rfl := rvl_nil.mp h3
    have ht := S2.iv.kz _ _ h1
    refine call_enumT (items := #[]) (n := n) ht fun h' hE1 hI1 hk => ?_
    rw [hs]
    refine wpAny_bind (wpAny_pure (wpAny_bind (wpAny_standAt ?_)))
    refine wpAny_bind (wpAny_holding (wpAny_pyIter_enum hE1 ?_))
    refine wpAny_runOwn ?_
    refine codeAny_forLoop_any (fun n' s' => s' = { s2 with heap := h' }) ?_ 0 rfl
    rintro n' s' rfl
    have hA : C.A.mark none = C.A := by unfold Around.mark; rfl
    rw [hA]
    refine nextE_end (hC.hd.1 hq) hE1 hI1 (hk _ _ ht) rfl fun h2 hx => wpAny_execs_nil ?_
    have S3 := S2.grow (h' := h2) (fun b o e => hx b o (Nat.ne_of_lt (Heap.lt_size e)) (hk b o e))
    exact hQ .next lc c2 Z2 m g2 cs _ _ (hz.trans hz2) (hr.trans hr2) .refl S3 rfl hk2
  · exact hk2.elim
end
noncomputable abbrev Gx.off (G : Gx) : Gx := { G with q := false }
theorem Gx.Ok.off {G : Gx} (h : G.Ok) : G.off.Ok := ⟨h.inK,h.top,h.tab⟩
theorem IsG.off {G : Gx} (I : IsG G) : IsG G.off := ⟨I.k,I.lt,I.nt,I.sp,I.e0,I.e1,I.an,I.t,I.ovf⟩
noncomputable def Cx.caught (C : Cx) (e : Addr) (oe : Obj) : Cx := { C with toGx := C.toGx.off,P := Zput C.P e oe,A := C.A.mark (some (.ref e)) }
section
variable {C : Cx} {Z : Zm} {m : Str → Option Value} {g : List CC} {cs : List (Addr × Obj)} {lc : Lc} {cells : List Cell} {h : Heap}
theorem no_le {P P' : Zm} (hp : Zle P P') {b : Addr} (e : P' b = none) : P b = none := by
  cases q : P b with
  | none => rfl
  | some o => rw [hp b o q] at e; cases e
theorem Zput.none {Z : Zm} {a b : Addr} {o : Obj} (h : Z b = none) (n : b ≠ a) : Zput Z a o b = none := by
  unfold Zput; rw [if_neg n]; exact h
theorem Cx.Ok.caught (hC : C.Ok) {e : Addr} {oe : Obj} {vs : Array Value} (hp : C.P e = none) (hd : oe.data = .fields vs) (h2 : vs[2]? = some .none) : (C.caught e oe).Ok := by
  have le : Zle C.P (Zput C.P e oe) := fun b o q => by
    unfold Zput
    rw [if_neg (fun z => by rw [z,hp] at q; cases q)]; exact q
  exact { gok := hC.gok.off,p0 := hC.p0.trans le,zg := hC.zg,kind := hC.kind,loc := hC.loc,glob := hC.glob,blt := hC.blt,frames := hC.frames,frp := fun env he => let ⟨k,L',a,b⟩ := hC.frp env he; ⟨k,L',a,b.imp id fun ⟨o,es,ep,x,y,z⟩ => ⟨o,es,ep,le _ _ x,y,z⟩⟩,hd := ⟨fun q => Bool.noConfusion q,.inr ⟨e,oe,vs.toList.toArray,rfl,Zput.at,by simpa using hd,by simpa using h2⟩⟩,depth := hC.depth,units := hC.units,nodup := hC.nodup,cinj := hC.cinj }
theorem St.down {e : Addr} {oe : Obj} (hp : C.P e = none) (S : St (C.caught e oe) Z m g cs lc cells h) : St C Z m g cs lc cells h := by
  have le : Zle C.P (Zput C.P e oe) := fun b o q => by
    unfold Zput
    rw [if_neg (fun z => by rw [z,hp] at q; cases q)]; exact q
  exact ⟨⟨S.iv.ns,S.iv.kz,fun b o q => S.iv.kp b o (le b o q),S.iv.zl,no_le le S.iv.pl,fun q hq => let ⟨a,b,c,d⟩ := S.iv.own q hq; ⟨a,b,no_le le c,d⟩,S.iv.nd,fun b o q => (S.iv.zp b o q).imp id (no_le le),S.iv.z0⟩,S.cr,S.lr,S.cl⟩
theorem St.catch (hC : C.Ok) (S : St C Z m g cs lc cells h) {oL : Obj} (nL : NsO oL m) (zle : Zle C.P (Pcall C.P C.L oL cs)) {e : Addr} {B : Heap} {Z₂ : Zm} {g₂ : List CC} {cells' : List Cell} {cls a0 : Value} {s1 h6 : Heap} (hfr : C.frs.filterMap (·.frame) = [C.L]) (hfl : Heap.FlyingW B C.frs e cls a0 h6) (hu : s1.UpToSlots h6)
    (h3 : Zle Z Z₂) (h4 : Ale (g.map CC.addr) (g₂.map CC.addr)) (h5 : ZIn Z₂ B) (h6' : ∀ q ∈ g₂.flatMap CC.objs,B.get? q.1 = some q.2 ∧ Z₂ q.1 = none ∧ Pcall C.P C.L oL cs q.1 = none) (h7 : ((g₂.flatMap CC.objs).map (·.1)).Nodup) (h8 : CRs C.an C.w.params Z₂ (g₂.map CC.addr) cells' g₂)
    (hn : ∀ b o,Z₂ b = some o → Z b = some o ∨ Pcall C.P C.L oL cs b = none) (h9 : ∀ b o,Pcall C.P C.L oL cs b = some o → b ∉ C.frs.filterMap (·.frame) → B.get? b = some o) (h10 : ∀ b o,Pcall C.P C.L oL cs b = some o → b ∈ C.frs.filterMap (·.frame) → ∃ sl,s1.get? b = some { o with slots := sl })
    {oe : Obj} {vs : Array Value} (he : h6.get? e = some oe) (hd : oe.data = .fields vs) : C.P e = none ∧ ZIn C.P h6 ∧ St (C.caught e oe) Z₂ m g₂ cs lc cells' h6 := by
  have I := S.iv
  have stay := hfl.1
  have Be := hfl.2.1
  obtain ⟨es,ep,dL,kL,fL⟩ := nL
  have pL : Pcall C.P C.L oL cs C.L = some oL := if_pos rfl
  obtain ⟨sl,hL⟩ := h10 C.L oL pL (by rw [hfr]; exact .head _)
  have nf : ∀ vs,({ oL with slots := sl } : Obj).data ≠ .fields vs := fun vs q => by
    rw [show ({ oL with slots := sl } : Obj).data = oL.data from rfl,dL] at q; cases q
  obtain ⟨sl2,hL6⟩ := hu C.L _ hL nf
  have neL : C.L ≠ e := field_ne he hd hL6 nf
  have pc : ∀ q ∈ cs,Pcall C.P C.L oL cs q.1 = some q.2 := fun q hq => by
    unfold Pcall
    rw [if_neg (I.own q (List.mem_append_right _ hq)).2.2.2,mem_lookup I.ndc (show (q.1,q.2) ∈ cs from hq)]
  have atB : ∀ b o,C.P b = some o → B.get? b = some o := fun b o q => h9 b o (zle b o q) (by rw [hfr]; exact fun hm => by rw [List.mem_singleton.mp hm,I.pl] at q; cases q)
  have Pe : C.P e = none := by
    cases q : C.P e with
    | none => rfl
    | some o => rw [atB e o q] at Be; cases Be
  have notE : ∀ b o,B.get? b = some o → b ≠ e := fun b o q z => by rw [z,Be] at q; cases q
  have kp : ZIn C.P h6 := fun b o q => stay b o (atB b o q)
  have zno : ∀ b,Z b = none → Pcall C.P C.L oL cs b ≠ none → Z₂ b = none := fun b a n => by
    cases q : Z₂ b with
    | none => rfl
    | some o => rcases hn b o q with x | x
                · rw [a] at x; cases x
                · exact absurd x n
  refine ⟨Pe,kp,⟨⟨_,es,ep,hL6,dL,kL,fL⟩,fun b o q => stay b o (h5 b o q),fun b o q => ?_,zno C.L I.zl (by rw [pL]; exact (fun q => nomatch q)),Zput.none I.pl neL,fun q hq => ?_,?_,fun b o q => ?_,I.z0.trans h3⟩,h8,fun i x v a b => let ⟨u,p,r⟩ := S.lr i x v a b; ⟨u,p,r.mono h3 h4⟩,S.cl⟩
  · change Zput C.P e oe b = some o at q
    unfold Zput at q
    split at q
    · rename_i z; cases q; rw [z]; exact he
    · exact kp b o q
  · rcases List.mem_append.mp hq with hq | hq
    · have O := h6' q hq
      refine ⟨stay _ _ O.1,O.2.1,Zput.none (no_le zle O.2.2) (notE _ _ O.1),fun z => ?_⟩
      have z : q.1 = C.L := z
      rw [z,pL] at O; cases O.2.2
    · have O := I.own q (List.mem_append_right _ hq)
      have b := h9 _ _ (pc q hq) (by rw [hfr]; exact fun hm => O.2.2.2 (List.mem_singleton.mp hm))
      exact ⟨stay _ _ b,zno _ O.2.1 (by rw [pc q hq]; exact fun q => by cases q),Zput.none O.2.2.1 (notE _ _ b),O.2.2.2⟩
  · rw [List.map_append,List.nodup_append]
    refine ⟨h7,I.ndc,fun a ha b hb z => ?_⟩
    obtain ⟨q,hq,rfl⟩ := List.mem_map.mp ha
    obtain ⟨p,hp,rfl⟩ := List.mem_map.mp hb
    have := (h6' q hq).2.2
    rw [z,pc p hp] at this; cases this
  · have ne := notE b o (h5 b o q)
    rcases hn b o q with x | x
    · exact (I.zp b o x).imp id fun y => Zput.none y ne
    · exact .inr (Zput.none (no_le zle x) ne)
end
section
variable {C : Cx}
theorem sTry (hC : C.Ok) (I : IsG C.toGx) (hq : C.q = true) (hfr : C.frs = [C.env]) (hfm : C.env.frame = some C.L) {sc : Scope} (hsc : C.env.scope = sc) (hk : sc.names.lookup (S "Overflow") = some .globalImplicit) {elts : List Expr} {k₀ : Nat} {tpos apos np hpos pos : Pos} {value : Expr} {b₀ : Stmt} {suite : List Stmt} {we : WE} {tws : TWs} {wb : WS} (n : Nat)
    (hs : swapsWithSole [.Tuple elts k₀ tpos] value apos.line C.env = pure false) (hw : swappedStores [.Tuple elts k₀ tpos] value C.env = pure none) (hn : (assignEach elts C.env).length = n) (hstar : (assignEach elts C.env).findIdx? (·.1) = none) (he : SE C value we) (ht : STgs C ((assignEach elts C.env).map (·.2)) tws)
    (hb : ∀ C2 : Cx,C2.toGx = C.toGx.off → C2.n = C.n → C2.names = C.names → C2.env = C.env → C2.L = C.L → C2.Ok → SSs C2 (b₀ :: suite) wb) :
    SSt C (.Try [.Assign [.Tuple elts k₀ tpos] value apos] [.ExceptHandler (some (.Name (S "Overflow") np)) none (b₀ :: suite) hpos] [] [] pos)
      (fun lc cells k X => we lc cells (fun v c1 => tupV n v (fun l => tws lc c1 l (fun lc2 c2 => k .next lc2 c2) (fun _ => False))) (fun c => wb lc c k (fun _ => False))) := by
  constructor; intro lc cells k x hw' Z m g cs s Q E S0 hQ hE
  refine wpAny_Try_except (wpAny_execs_cons ?_)
  have hfr' : C.frs.filterMap (·.frame) = [C.L] := by rw [hfr]; simp [hfm]
  have caught : ∀ cells' u s',RX C (og s) Z m cs (g.map CC.addr) cells' u s' → wb lc cells' k (fun _ => False) → wpAny (model C.prog C.w) C.A (noteFrame u C.env) (fun _ s₂ => wpAny (model C.prog C.w) C.A (setFlight u none) (fun _ s₃ => wpAny (model C.prog C.w) C.A (handleBy u C.env [.ExceptHandler (some (.Name (S "Overflow") np)) none (b₀ :: suite) hpos]) Q E s₃) E s₂) E s' := by
    intro cells' u s' rx hx
    obtain ⟨oL,nL,zle,e,B,Z₂,g₂,a0,rfl,⟨⟨f1,f2,f3,oe,vs,T,oT,ts,eo,⟨ec,e0⟩,ed,e1,bT,nT,hT,dT,e3⟩,hcx⟩,h3,h4,h5,h6,h7,h8,hnn,h9,h10⟩ := rx
    obtain ⟨o0,v0,x0,y0,z0⟩ := hcx hq
    rw [eo] at x0; cases x0
    rw [ed] at y0; cases y0
    refine note_x (outer := []) (by rw [hC.frames,hfr]) (by rw [hfr] at f3; exact f3) hfm eo ec ed e0 e1 f1 f2 (.inr ⟨T,oT,ts,rfl,bT,nT,hT,dT,e3⟩) fun h4' held u4 k4 => ?_
    refine flight_x (s := { s' with heap := h4' }) held.1 held.2.1 held.2.2.1 held.2.2.2 fun h5' fl5 u5 k5 => ?_
    obtain ⟨o5,v5,eo5,ed5,ez5⟩ := (k4.trans k5) _ _ eo ed
    obtain ⟨o5',eo5',ec5⟩ := fl5.there
    rw [eo5] at eo5'; cases eo5'
    rw [← hfr] at fl5
    obtain ⟨Pe,kp5,S5⟩ := S0.catch hC nL zle hfr' fl5 (u4.trans u5) h3.1 h4 h5 h6 h7 h8 hnn h9 h10 eo5 ed5
    have T5 := hC.top _ kp5
    refine wpAny_handleBy_cons (codeAny_handlers_test ?_) (by intro q; cases q)
    refine Calls.Name_function_global (env := C.env) hC.kind (kd hsc hk) (Calls.loadGlobal_global (mg := C.mg) (by rw [hC.glob]; exact T5.g) (mg_of (hC.inK _ kp5) T5.g (gl I g_Overflow)) ?_) rfl
    obtain ⟨nm,q,sn,sub,ab,col,dd,k0,k1,k2,k3,k5',hl⟩ := ov_obj C.w.params
    have XK := hC.inK _ kp5
    rw [I.k] at XK
    obtain ⟨hh5,gg5,dd5,tt5,oo5⟩ := s'
    refine wpAny_excMatches_sub_self (XK _ _ hl) eo5 (by rw [ec5,I.ovf]) (by decide) (codeAny_handlers_suite ?_)
    refine flight_x (s := ⟨h5',gg5,dd5,tt5,oo5⟩) fl5.1 fl5.2.1 fl5.2.2.1 fl5.2.2.2.at fun h6' fl6 u6 k6 => ?_
    obtain ⟨o6,v6,eo6,ed6,ez6⟩ := k6 _ _ eo5 ed5
    obtain ⟨_,_,S6⟩ := S0.catch hC nL zle hfr' fl6 ((u4.trans u5).trans u6) h3.1 h4 h5 h6 h7 h8 hnn h9 h10 eo6 ed6
    refine (hb (C.caught e o6) rfl rfl rfl rfl rfl (hC.caught Pe ed6 (ez6.trans (ez5.trans z0)))).run lc cells' k _ hx Z₂ m g₂ cs ⟨h6',gg5,dd5,tt5,oo5⟩ _ _ S6 (fun fl lc2 c2 Z2 m2 g2 cs2 s2 f hz2 hr2 hc2 S2 R2 hk2 => ?_) (fun _ _ _ _ hx => hx.elim)
    exact hQ fl lc2 c2 Z2 m2 g2 cs2 s2 f (h3.trans hz2) (h4.trans hr2) hc2 (S2.down Pe) R2 hk2
  refine Assign_Tuple (he.run lc cells _ _ hw' Z m g cs s _ _ S0 (fun v c1 Z1 g1 s1 u hz hr S1 R hk' => ?_) (fun c u s' rx hx => caught c u s' rx hx)) hs hw
  rw [assign_Tuple]
  refine wpAny_bind (wpAny_standAt ?_)
  unfold unpack
  rw [hn,hstar]
  refine wpAny_bind (wpAny_holding (unpack_at hC hq S1 R hk' fun l us h' S2 rl hk2 => ?_))
  refine ht lc c1 l _ _ hk2 Z1 m g1 cs { s1 with heap := h' } _ _ us S2 rl (fun lc2 c2 Z2 m2 g2 cs2 s2 hz2 hr2 hc2 S3 hk3 => ?_) (fun c u s' rx hx => hx.elim)
  exact wpAny_execs_nil (wpAny_execs_nil (hQ .next lc2 c2 Z2 m2 g2 cs2 s2 .next (hz.trans hz2) (hr.trans hr2) hc2 S3 rfl hk3))
end
section
variable {prog : Program} {w : World} {A : Around}
theorem walks_tuple_hd {qq : Bool} {e : Addr} {oe : Obj} (hd : Hd qq A (Zput (fun _ => none) e oe)) (I t : Addr) (hne : t ≠ I) (hei : e ≠ I) (items : Array Value) :
    Walks prog w A I [I,t,e] [I] items.size (fun i v => items[i]? = some v) (fun i h => h.get? e = some oe ∧ h.IsTupleIter I t i ∧ h.IsTuple t items) where
  sub := fun b hb => by simp at hb; simp [hb]
  frame := fun _ _ _ st hk => ⟨hk e (by simp) _ st.1,st.2.1.at fun o x => hk I (by simp) o x,st.2.2.at fun o x => hk t (by simp) o x⟩
  item := fun i s Q E hi st hQ => wpAny_pyNext_tuple_item st.2.1 st.2.2 (x := items[i]) (by simp [hi]) fun h' a b =>
    hQ _ h' s.toks (by simp [hi]) ⟨b.extBut e oe hei st.1,a,st.2.2.extBut b.extBut hne⟩ fun c o hc x => b.extBut c o (fun z => hc (by simp [z])) x
  done := fun s Q E st hQ => tuple_end_hd hd (fun b o x => by
    unfold Zput at x
    split at x
    · rename_i z; cases x; rw [z]; exact st.1
    · cases x) (Zput.none rfl (Ne.symm hei)) st.2.1 st.2.2 (by simp) fun h' x => hQ h' s.toks fun c o hc y => x c o (fun z => hc (by simp [z])) y
  self := fun _ _ _ _ st hQ => wpAny_pyIter_tupleiter st.2.1 hQ
theorem max_two_hd {E : Value → Shared → Prop} {s : Shared} {Q : Value → Shared → Prop} {a b : Value} {qq : Bool} {P : Zm} (hd : Hd qq A P) (hP : ZIn P s.heap) (ha : Flt.NumV a) (hb : Flt.NumV b)
    (h : ∀ h' tk,(∀ c o,s.heap.get? c = some o → h'.get? c = some o) → Q (if Flt.ltV a b then b else a) { s with heap := h',toks := tk }) : wpAny (model prog w) A (call (.builtin "max") [a,b]) Q E s := by
  rcases hd.2 with hh | ⟨e,oe,vs,hh,he,hde,h2⟩
  · exact Flt.max_two_num hh ha hb h
  · have hd' : Hd qq A.in1 (Zput (fun _ => none) e oe) := ⟨hd.1,.inr ⟨e,oe,vs,hh,Zput.at,hde,h2⟩⟩
    have he := hP _ _ he
    have lt := Heap.lt_size he
    have hT : (s.heap.push { cls := .type "tuple",data := .seq #[a,b] }).IsTuple s.heap.objs.size #[a,b] := ⟨_,Heap.get?_push_size _ rfl,rfl,0,rfl⟩
    have sz : (s.heap.push { cls := .type "tuple",data := .seq #[a,b] }).objs.size = s.heap.objs.size + 1 := Heap.size_push ..
    refine call_max_two (wpAny_pyIter_tuple hT ?_)
    refine ⟨_,[_,s.heap.objs.size,e],[_],_,_,_,_,rfl,walks_tuple_hd hd' _ s.heap.objs.size (by rw [sz]; exact Nat.ne_of_lt (Nat.lt_succ_self _)) (by rw [sz]; exact Nat.ne_of_lt (Nat.lt_succ_of_lt lt)) #[a,b],
      ⟨Heap.get?_push_of_some _ (Heap.get?_push_of_some _ he),⟨_,Heap.get?_push_size _ rfl,rfl,rfl⟩,hT.push _⟩,fun c hc => ?_,by simp,Flt.cmpOf_gt #[a,b] (by simp [ha,hb]),fun v h' tk hp hk => ?_⟩
    · show c < ((s.heap.push _).push _).objs.size
      rw [Heap.size_push,sz]
      simp only [List.mem_cons,List.not_mem_nil,or_false] at hc
      rcases hc with rfl | rfl | rfl
      · rw [sz]; exact Nat.lt_succ_self _
      · exact Nat.lt_succ_of_lt (Nat.lt_succ_self _)
      · exact Nat.lt_succ_of_lt (Nat.lt_succ_of_lt lt)
    · have old : ∀ c o,s.heap.get? c = some o → h'.get? c = some o := fun c o x => by
        refine hk c o (fun hm => ?_) (Heap.get?_push_of_some _ (Heap.get?_push_of_some _ x))
        rw [List.mem_singleton,sz] at hm
        have := Heap.lt_size x
        rw [hm] at this
        exact Nat.lt_irrefl _ (Nat.lt_of_succ_lt this)
      have := h h' tk old
      have hv : v = if Flt.ltV a b then b else a := by
        cases hc : Flt.ltV a b <;> simp [argBest,hc] at hp <;> simp [hp]
      rw [hv]; exact this
end
section
variable {C : Cx}
theorem bMaxX (hC : C.Ok) : BO C (.builtin "max") (int2 fun i j => .int (if i < j then j else i)) := by
  intro vs cells kk hp Z m g cs lc s us Q E S R hQ
  replace hp := m2_ hp
  obtain ⟨v,w,rfl,hp⟩ := hp
  replace hp := mI_ hp
  obtain ⟨i,rfl,hp⟩ := hp
  replace hp := mI_ hp
  obtain ⟨j,rfl,hp⟩ := hp
  obtain ⟨u,t,rfl,ru,rt⟩ := rvl2 R
  obtain ⟨t1,rfl⟩ := rv_int.mp ru
  obtain ⟨t2,rfl⟩ := rv_int.mp rt
  refine max_two_hd hC.hd S.iv.kp (.int _ _) (.int _ _) fun h' tk hk => ?_
  refine hQ _ cells Z g ⟨h',_,_,tk,_⟩ _ .refl .refl (S.grow hk) ?_ hp
  show Rv _ _ _ _ (V.int (if i < j then j else i)) _
  by_cases c : i < j
  · rw [if_pos c,if_pos (show Flt.ltV (.int i t1) (.int j t2) = true from decide_eq_true c)]; exact rv_int.mpr ⟨_,rfl⟩
  · rw [if_neg c,if_neg (show ¬ Flt.ltV (.int i t1) (.int j t2) = true from fun q => c (of_decide_eq_true q))]; exact rv_int.mpr ⟨_,rfl⟩
end
noncomputable abbrev GE := Gx → Nat → WE
noncomputable abbrev GT := Gx → Nat → WT
noncomputable abbrev GL := Gx → Nat → WL
noncomputable abbrev GS := Gx → Nat → WS
noncomputable abbrev GW := Gx → Nat → TW
noncomputable abbrev GWs := Gx → Nat → TWs
noncomputable abbrev P2 := V → V → (V → Prop) → Prop
noncomputable abbrev KE := V → List Cell → Prop
noncomputable abbrev KT := Bool → List Cell → Prop
noncomputable abbrev KL := List V → List Cell → Prop
noncomputable abbrev KS := Fl → Lc → List Cell → Prop
noncomputable abbrev KC := List Cell → Prop
noncomputable abbrev KW := Lc → List Cell → Prop
noncomputable def no_ (_ : List Cell) : Prop := False
noncomputable def kGo (k : KE) (c : List Cell) (v : V) : Prop := k v c
noncomputable def wC (v : V) (G : Gx) (n : Nat) (lc : Lc) (cells : List Cell) (k : KE) (X : KC) : Prop := k v cells
noncomputable def wL (i : Nat) (G : Gx) (n : Nat) (lc : Lc) (cells : List Cell) (k : KE) (X : KC) : Prop := match lc[i]? with | some (some v) => k v cells | _ => False
noncomputable def kOp2 (p : P2) (k : KE) (va vb : V) (c2 : List Cell) : Prop := p va vb (kGo k c2)
noncomputable def kOp (p : P2) (b : GE) (G : Gx) (n : Nat) (lc : Lc) (k : KE) (X : KC) (va : V) (c1 : List Cell) : Prop := b G n lc c1 (kOp2 p k va) X
noncomputable def wOp (p : P2) (a b : GE) (G : Gx) (n : Nat) (lc : Lc) (cells : List Cell) (k : KE) (X : KC) : Prop := a G n lc cells (kOp p b G n lc k X) X
noncomputable def kNeg (k : KE) (v : V) (c1 : List Cell) : Prop := match v with | .int i => k (.int (-i)) c1 | _ => False
noncomputable def wNeg (a : GE) (G : Gx) (n : Nat) (lc : Lc) (cells : List Cell) (k : KE) (X : KC) : Prop := a G n lc cells (kNeg k) X
noncomputable def kNot (k : KE) (v : V) (c1 : List Cell) : Prop := match v with | .bool b => k (.bool (!b)) c1 | _ => False
noncomputable def wNot (a : GE) (G : Gx) (n : Nat) (lc : Lc) (cells : List Cell) (k : KE) (X : KC) : Prop := a G n lc cells (kNot k) X
noncomputable def kCh3 (p2 : P2) (c : GE) (G : Gx) (n : Nat) (lc : Lc) (k : KE) (X : KC) (vb : V) (c2 : List Cell) (t : Bool) : Prop := brW t (c G n lc c2 (kOp2 p2 k vb) X) (k (.bool false) c2)
noncomputable def kCh2 (p p2 : P2) (c : GE) (G : Gx) (n : Nat) (lc : Lc) (k : KE) (X : KC) (va vb : V) (c2 : List Cell) : Prop := p va vb (asB (kCh3 p2 c G n lc k X vb c2))
noncomputable def kCh (p p2 : P2) (b c : GE) (G : Gx) (n : Nat) (lc : Lc) (k : KE) (X : KC) (va : V) (c1 : List Cell) : Prop := b G n lc c1 (kCh2 p p2 c G n lc k X va) X
noncomputable def wChain (p p2 : P2) (a b c : GE) (G : Gx) (n : Nat) (lc : Lc) (cells : List Cell) (k : KE) (X : KC) : Prop := a G n lc cells (kCh p p2 b c G n lc k X) X
noncomputable def kAnd2 (b : GE) (G : Gx) (n : Nat) (lc : Lc) (k : KE) (X : KC) (c1 : List Cell) (t : Bool) : Prop := brW t (b G n lc c1 k X) (k (.bool false) c1)
noncomputable def kAnd (b : GE) (G : Gx) (n : Nat) (lc : Lc) (k : KE) (X : KC) (v : V) (c1 : List Cell) : Prop := asB (kAnd2 b G n lc k X c1) v
noncomputable def wAnd (a b : GE) (G : Gx) (n : Nat) (lc : Lc) (cells : List Cell) (k : KE) (X : KC) : Prop := a G n lc cells (kAnd b G n lc k X) X
noncomputable def kOr2 (b : GE) (G : Gx) (n : Nat) (lc : Lc) (k : KE) (X : KC) (c1 : List Cell) (t : Bool) : Prop := brW t (k (.bool true) c1) (b G n lc c1 k X)
noncomputable def kOr (b : GE) (G : Gx) (n : Nat) (lc : Lc) (k : KE) (X : KC) (v : V) (c1 : List Cell) : Prop := asB (kOr2 b G n lc k X c1) v
noncomputable def wOr (a b : GE) (G : Gx) (n : Nat) (lc : Lc) (cells : List Cell) (k : KE) (X : KC) : Prop := a G n lc cells (kOr b G n lc k X) X
noncomputable def kIfE (a b : GE) (G : Gx) (n : Nat) (lc : Lc) (k : KE) (X : KC) (c : Bool) (c1 : List Cell) : Prop := brW c (a G n lc c1 k X) (b G n lc c1 k X)
noncomputable def wIfE (t : GT) (a b : GE) (G : Gx) (n : Nat) (lc : Lc) (cells : List Cell) (k : KE) (X : KC) : Prop := t G n lc cells (kIfE a b G n lc k X) X
noncomputable def lN (G : Gx) (n : Nat) (lc : Lc) (cells : List Cell) (k : KL) (X : KC) : Prop := k [] cells
noncomputable def kC2 (k : KL) (v : V) (vs : List V) (c1 : List Cell) : Prop := k (v :: vs) c1
noncomputable def kC (l : GL) (G : Gx) (n : Nat) (lc : Lc) (k : KL) (X : KC) (v : V) (c1 : List Cell) : Prop := l G n lc c1 (kC2 k v) X
noncomputable def lC (e : GE) (l : GL) (G : Gx) (n : Nat) (lc : Lc) (cells : List Cell) (k : KL) (X : KC) : Prop := e G n lc cells (kC l G n lc k X) X
noncomputable def kTup (k : KE) (vs : List V) (c1 : List Cell) : Prop := okW (Nat.ble vs.length 16000000) <| k (.tup vs) c1
noncomputable def wTup (l : GL) (G : Gx) (n : Nat) (lc : Lc) (cells : List Cell) (k : KE) (X : KC) : Prop := l G n lc cells (kTup k) X
noncomputable def kLst (k : KE) (vs : List V) (c1 : List Cell) : Prop := okW (Nat.ble vs.length 16000000) <| k (.lst vs) c1
noncomputable def wLst (l : GL) (G : Gx) (n : Nat) (lc : Lc) (cells : List Cell) (k : KE) (X : KC) : Prop := l G n lc cells (kLst k) X
noncomputable def kCell (k : KE) (vs : List V) (c1 : List Cell) : Prop := okW (Nat.ble vs.length 16000000) <| k (.cell c1.length) (c1 ++ [.lst vs])
noncomputable def wCell (l : GL) (G : Gx) (n : Nat) (lc : Lc) (cells : List Cell) (k : KE) (X : KC) : Prop := l G n lc cells (kCell k) X
noncomputable def wDct0 (G : Gx) (n : Nat) (lc : Lc) (cells : List Cell) (k : KE) (X : KC) : Prop := k (.cell cells.length) (cells ++ [.dct []])
noncomputable def kAtr (ka : Nat) (k : KE) (v : V) (c1 : List Cell) : Prop := attrV tb c1 v ka (kGo k c1)
noncomputable def wA (ka : Nat) (a : GE) (G : Gx) (n : Nat) (lc : Lc) (cells : List Cell) (k : KE) (X : KC) : Prop := a G n lc cells (kAtr ka k) X
noncomputable def kIdx2 (k : KE) (va vi : V) (c2 : List Cell) : Prop := idxW c2 va vi (kGo k c2)
noncomputable def kIdx (i : GE) (G : Gx) (n : Nat) (lc : Lc) (k : KE) (X : KC) (v : V) (c1 : List Cell) : Prop := i G n lc c1 (kIdx2 k v) X
noncomputable def wIdx (a i : GE) (G : Gx) (n : Nat) (lc : Lc) (cells : List Cell) (k : KE) (X : KC) : Prop := a G n lc cells (kIdx i G n lc k X) X
noncomputable def kIdxS2 (k : KE) (va vi : V) (c2 : List Cell) : Prop := match va,vi with
  | .str x,.int j => (0 ≤ j ∧ j < 2 ^ 63) ∧ ∃ c,x.cps[j.toNat]? = some c ∧ k (.str ⟨#[c]⟩) c2
  | _,_ => False
noncomputable def kIdxS (i : GE) (G : Gx) (n : Nat) (lc : Lc) (k : KE) (X : KC) (v : V) (c1 : List Cell) : Prop := i G n lc c1 (kIdxS2 k v) X
noncomputable def wIdxS (a i : GE) (G : Gx) (n : Nat) (lc : Lc) (cells : List Cell) (k : KE) (X : KC) : Prop := a G n lc cells (kIdxS i G n lc k X) X
noncomputable def kIdxD3 (j : Int) (k : KE) (c2 : List Cell) (l : List (Int × V)) : Prop := ∃ v,dget l j = some v ∧ k v c2
noncomputable def kIdxD2 (k : KE) (va vi : V) (c2 : List Cell) : Prop := match vi with
  | .int j => dctW c2 va (kIdxD3 j k c2)
  | _ => False
noncomputable def kIdxD (i : GE) (G : Gx) (n : Nat) (lc : Lc) (k : KE) (X : KC) (v : V) (c1 : List Cell) : Prop := i G n lc c1 (kIdxD2 k v) X
noncomputable def wIdxD (a i : GE) (G : Gx) (n : Nat) (lc : Lc) (cells : List Cell) (k : KE) (X : KC) : Prop := a G n lc cells (kIdxD i G n lc k X) X
noncomputable def kUpto (i : Nat) (k : KE) (v : V) (c1 : List Cell) : Prop := match v with
  | .lst l => okW (Nat.ble l.length 16000000) <| k (.lst (l.take i)) c1
  | _ => False
noncomputable def wUpto (i : Nat) (a : GE) (G : Gx) (n : Nat) (lc : Lc) (cells : List Cell) (k : KE) (X : KC) : Prop := a G n lc cells (kUpto i k) X
noncomputable def kUptoT (m i : Nat) (k : KE) (v : V) (c1 : List Cell) : Prop := match v with
  | .tup l => okW (Nat.beq l.length m) <| k (.tup (l.take i)) c1
  | _ => False
noncomputable def wUptoT (m i : Nat) (a : GE) (G : Gx) (n : Nat) (lc : Lc) (cells : List Cell) (k : KE) (X : KC) : Prop := a G n lc cells (kUptoT m i k) X
noncomputable def kSliceT (m lo hi : Nat) (k : KE) (v : V) (c1 : List Cell) : Prop := match v with
  | .tup l => okW (Nat.beq l.length m) <| k (.tup ((l.drop lo).take (hi - lo))) c1
  | _ => False
noncomputable def wSliceT (m lo hi : Nat) (a : GE) (G : Gx) (n : Nat) (lc : Lc) (cells : List Cell) (k : KE) (X : KC) : Prop := a G n lc cells (kSliceT m lo hi k) X
noncomputable def kCa (f : Value) (G : Gx) (n : Nat) (k : KE) (X : KC) (vs : List V) (c1 : List Cell) : Prop := Sem G n f vs c1 k X
noncomputable def wCa (f : Value) (l : GL) (G : Gx) (n : Nat) (lc : Lc) (cells : List Cell) (k : KE) (X : KC) : Prop := l G n lc cells (kCa f G n k X) X
noncomputable def kB (p : List V → List Cell → KE → Prop) (k : KE) (vs : List V) (c1 : List Cell) : Prop := p vs c1 k
noncomputable def wB (p : List V → List Cell → KE → Prop) (l : GL) (G : Gx) (n : Nat) (lc : Lc) (cells : List Cell) (k : KE) (X : KC) : Prop := l G n lc cells (kB p k) X
noncomputable def kMe3 (G : Gx) (n : Nat) (k : KE) (X : KC) (vo : V) (f : Addr) (vs : List V) (c1 : List Cell) : Prop := Sem G n (.ref f) (vo :: vs) c1 k X
noncomputable def kMe2 (l : GL) (G : Gx) (n : Nat) (lc : Lc) (k : KE) (X : KC) (vo : V) (c1 : List Cell) (f : Addr) : Prop := l G n lc c1 (kMe3 G n k X vo f) X
noncomputable def kMe (ka : Nat) (l : GL) (G : Gx) (n : Nat) (lc : Lc) (k : KE) (X : KC) (v : V) (c1 : List Cell) : Prop := methW tb c1 v ka (kMe2 l G n lc k X v c1)
noncomputable def wMe (ka : Nat) (o : GE) (l : GL) (G : Gx) (n : Nat) (lc : Lc) (cells : List Cell) (k : KE) (X : KC) : Prop := o G n lc cells (kMe ka l G n lc k X) X
noncomputable def kMe02 (G : Gx) (n : Nat) (k : KE) (X : KC) (vo : V) (c1 : List Cell) (f : Addr) : Prop := Sem G n (.ref f) [vo] c1 k X
noncomputable def kMe0 (ka : Nat) (G : Gx) (n : Nat) (k : KE) (X : KC) (v : V) (c1 : List Cell) : Prop := methW tb c1 v ka (kMe02 G n k X v c1)
noncomputable def wMe0 (ka : Nat) (o : GE) (G : Gx) (n : Nat) (lc : Lc) (cells : List Cell) (k : KE) (X : KC) : Prop := o G n lc cells (kMe0 ka G n k X) X
noncomputable def any1 {α : Type} (_ : α) : Prop := True
noncomputable def any2 {α β : Type} (_ : α) (_ : β) : Prop := True
noncomputable def kGetD3 (j : Int) (dv : V) (k : KE) (c2 : List Cell) (l : List (Int × V)) : Prop := k ((dget l j).getD dv) c2
noncomputable def kGetD2 (vo : V) (k : KE) (vs : List V) (c1 : List Cell) : Prop := match vs with
  | [.int j,dv] => dctW c1 vo (kGetD3 j dv k c1)
  | _ => False
noncomputable def kGetD (l : GL) (G : Gx) (n : Nat) (lc : Lc) (k : KE) (X : KC) (v : V) (c1 : List Cell) : Prop := dctW c1 v any1 ∧ l G n lc c1 (kGetD2 v k) X
noncomputable def wGetD (o : GE) (l : GL) (G : Gx) (n : Nat) (lc : Lc) (cells : List Cell) (k : KE) (X : KC) : Prop := o G n lc cells (kGetD l G n lc k X) X
noncomputable def kFz (k : KE) (v : V) (c1 : List Cell) : Prop := fzW c1 v k
noncomputable def wFz (e : GE) (G : Gx) (n : Nat) (lc : Lc) (cells : List Cell) (k : KE) (X : KC) : Prop := e G n lc cells (kFz k) X
noncomputable def kApp3 (k : KE) (c3 : List Cell) : Prop := k .none c3
noncomputable def kApp2 (vo : V) (k : KE) (v : V) (c1 : List Cell) : Prop := appW c1 vo v (kApp3 k)
noncomputable def kApp (e : GE) (G : Gx) (n : Nat) (lc : Lc) (k : KE) (X : KC) (vo : V) (c1 : List Cell) : Prop := lstV c1 vo any2 ∧ e G n lc c1 (kApp2 vo k) X
noncomputable def wApp (o e : GE) (G : Gx) (n : Nat) (lc : Lc) (cells : List Cell) (k : KE) (X : KC) : Prop := o G n lc cells (kApp e G n lc k X) X
noncomputable def kExt2 (vo : V) (k : KE) (v : V) (c1 : List Cell) : Prop := extW c1 vo v (kApp3 k)
noncomputable def kExt (e : GE) (G : Gx) (n : Nat) (lc : Lc) (k : KE) (X : KC) (vo : V) (c1 : List Cell) : Prop := lstV c1 vo any2 ∧ e G n lc c1 (kExt2 vo k) X
noncomputable def wExt (o e : GE) (G : Gx) (n : Nat) (lc : Lc) (cells : List Cell) (k : KE) (X : KC) : Prop := o G n lc cells (kExt e G n lc k X) X
noncomputable def kCpE (k : KE) (acc : List V) (_ : Lc) (c2 : List Cell) : Prop := k (.lst acc) c2
noncomputable def kCp2 (t : GT) (el : GE) (jx : Nat) (pm : List (Option Nat)) (G : Gx) (n : Nat) (lc : Lc) (k : KE) (X : KC) (c1 : List Cell) (l : List V) : Prop := compW (t G n) (el G n) jx l (lcIn pm lc) c1 [] (kCpE k)
noncomputable def kCp (t : GT) (el : GE) (jx : Nat) (pm : List (Option Nat)) (G : Gx) (n : Nat) (lc : Lc) (k : KE) (X : KC) (v : V) (c1 : List Cell) : Prop := overW G.q v (kCp2 t el jx pm G n lc k X c1)
noncomputable def wComp (t : GT) (el : GE) (jx : Nat) (pm : List (Option Nat)) (it : GE) (G : Gx) (n : Nat) (lc : Lc) (cells : List Cell) (k : KE) (X : KC) : Prop := it G n lc cells (kCp t el jx pm G n lc k X) X
noncomputable def kCq2 (i2 el : GE) (jx jy : Nat) (pm : List (Option Nat)) (G : Gx) (n : Nat) (lc : Lc) (k : KE) (X : KC) (c1 : List Cell) (l : List V) : Prop := comp2W (i2 G n) (el G n) G.q jx jy l (lcIn pm lc) c1 [] (kCpE k)
noncomputable def kCq (i2 el : GE) (jx jy : Nat) (pm : List (Option Nat)) (G : Gx) (n : Nat) (lc : Lc) (k : KE) (X : KC) (v : V) (c1 : List Cell) : Prop := overW G.q v (kCq2 i2 el jx jy pm G n lc k X c1)
noncomputable def wComp2 (i2 el : GE) (jx jy : Nat) (pm : List (Option Nat)) (it : GE) (G : Gx) (n : Nat) (lc : Lc) (cells : List Cell) (k : KE) (X : KC) : Prop := it G n lc cells (kCq i2 el jx jy pm G n lc k X) X
noncomputable def tT (G : Gx) (n : Nat) (lc : Lc) (cells : List Cell) (k : KT) (X : KC) : Prop := k true cells
noncomputable def tF (G : Gx) (n : Nat) (lc : Lc) (cells : List Cell) (k : KT) (X : KC) : Prop := k false cells
noncomputable def kTA (b : GT) (G : Gx) (n : Nat) (lc : Lc) (k : KT) (X : KC) (c : Bool) (c1 : List Cell) : Prop := brW c (b G n lc c1 k X) (k false c1)
noncomputable def tA (a b : GT) (G : Gx) (n : Nat) (lc : Lc) (cells : List Cell) (k : KT) (X : KC) : Prop := a G n lc cells (kTA b G n lc k X) X
noncomputable def kTO (b : GT) (G : Gx) (n : Nat) (lc : Lc) (k : KT) (X : KC) (c : Bool) (c1 : List Cell) : Prop := brW c (k true c1) (b G n lc c1 k X)
noncomputable def tO (a b : GT) (G : Gx) (n : Nat) (lc : Lc) (cells : List Cell) (k : KT) (X : KC) : Prop := a G n lc cells (kTO b G n lc k X) X
noncomputable def kTN (k : KT) (c : Bool) (c1 : List Cell) : Prop := k (!c) c1
noncomputable def tN (a : GT) (G : Gx) (n : Nat) (lc : Lc) (cells : List Cell) (k : KT) (X : KC) : Prop := a G n lc cells (kTN k) X
noncomputable def kTt (k : KT) (c : List Cell) (b : Bool) : Prop := k b c
noncomputable def kHas2 (k : KT) (va vb : V) (c2 : List Cell) : Prop := hasW c2 va vb (kTt k c2)
noncomputable def kHas (b : GE) (G : Gx) (n : Nat) (lc : Lc) (k : KT) (X : KC) (v : V) (c1 : List Cell) : Prop := b G n lc c1 (kHas2 k v) X
noncomputable def tHas (a b : GE) (G : Gx) (n : Nat) (lc : Lc) (cells : List Cell) (k : KT) (X : KC) : Prop := a G n lc cells (kHas b G n lc k X) X
noncomputable def kTop2 (p : P2) (k : KT) (va vb : V) (c2 : List Cell) : Prop := p va vb (asB (kTt k c2))
noncomputable def kTop (p : P2) (b : GE) (G : Gx) (n : Nat) (lc : Lc) (k : KT) (X : KC) (v : V) (c1 : List Cell) : Prop := b G n lc c1 (kTop2 p k v) X
noncomputable def tOp (p : P2) (a b : GE) (G : Gx) (n : Nat) (lc : Lc) (cells : List Cell) (k : KT) (X : KC) : Prop := a G n lc cells (kTop p b G n lc k X) X
noncomputable def kTc3 (p2 : P2) (c : GE) (G : Gx) (n : Nat) (lc : Lc) (k : KT) (X : KC) (vb : V) (c2 : List Cell) (t : Bool) : Prop := brW t (c G n lc c2 (kTop2 p2 k vb) X) (k false c2)
noncomputable def kTc2 (p p2 : P2) (c : GE) (G : Gx) (n : Nat) (lc : Lc) (k : KT) (X : KC) (va vb : V) (c2 : List Cell) : Prop := p va vb (asB (kTc3 p2 c G n lc k X vb c2))
noncomputable def kTc (p p2 : P2) (b c : GE) (G : Gx) (n : Nat) (lc : Lc) (k : KT) (X : KC) (va : V) (c1 : List Cell) : Prop := b G n lc c1 (kTc2 p p2 c G n lc k X va) X
noncomputable def tCh (p p2 : P2) (a b c : GE) (G : Gx) (n : Nat) (lc : Lc) (cells : List Cell) (k : KT) (X : KC) : Prop := a G n lc cells (kTc p p2 b c G n lc k X) X
noncomputable def kTV (k : KT) (v : V) (c1 : List Cell) : Prop := asB (kTt k c1) v
noncomputable def tV (e : GE) (G : Gx) (n : Nat) (lc : Lc) (cells : List Cell) (k : KT) (X : KC) : Prop := e G n lc cells (kTV k) X
noncomputable def bN (G : Gx) (n : Nat) (lc : Lc) (cells : List Cell) (k : KS) (X : KC) : Prop := k .next lc cells
noncomputable def bD (G : Gx) (n : Nat) (lc : Lc) (cells : List Cell) (k : KS) (X : KC) : Prop := False
noncomputable def kSeq (b : GS) (G : Gx) (n : Nat) (k : KS) (X : KC) (f : Fl) (lc1 : Lc) (c1 : List Cell) : Prop := match f with | .next => b G n lc1 c1 k X | f => k f lc1 c1
noncomputable def bC (a b : GS) (G : Gx) (n : Nat) (lc : Lc) (cells : List Cell) (k : KS) (X : KC) : Prop := a G n lc cells (kSeq b G n k X) X
noncomputable def kR (lc : Lc) (k : KS) (v : V) (c1 : List Cell) : Prop := k (.ret v) lc c1
noncomputable def sR (e : GE) (G : Gx) (n : Nat) (lc : Lc) (cells : List Cell) (k : KS) (X : KC) : Prop := e G n lc cells (kR lc k) X
noncomputable def kI (a b : GS) (G : Gx) (n : Nat) (lc : Lc) (k : KS) (X : KC) (c : Bool) (c1 : List Cell) : Prop := brW c (a G n lc c1 k X) (b G n lc c1 k X)
noncomputable def sI (t : GT) (a b : GS) (G : Gx) (n : Nat) (lc : Lc) (cells : List Cell) (k : KS) (X : KC) : Prop := t G n lc cells (kI a b G n lc k X) X
noncomputable def kE (lc : Lc) (k : KS) (v : V) (c1 : List Cell) : Prop := dropW v (k .next lc c1)
noncomputable def sE (e : GE) (G : Gx) (n : Nat) (lc : Lc) (cells : List Cell) (k : KS) (X : KC) : Prop := e G n lc cells (kE lc k) X
noncomputable def kW (lc : Lc) (k : KS) (c : Bool) (c1 : List Cell) : Prop := c = false ∧ k .next lc c1
noncomputable def sW (t : GT) (G : Gx) (n : Nat) (lc : Lc) (cells : List Cell) (k : KS) (X : KC) : Prop := t G n lc cells (kW lc k) no_
@[irreducible] noncomputable def forI (wb : WS) (i : Nat) (l : List V) (lc : Lc) (c1 : List Cell) (k : KS) (X : KC) : Prop := forW wb i l lc c1 k X
noncomputable def kFor (wb : WS) (i : Nat) (l : List V) (k : KS) (X : KC) (f : Fl) (lc1 : Lc) (c1 : List Cell) : Prop := match f with
  | .next => forI wb i l lc1 c1 k X
  | .cont => forI wb i l lc1 c1 k X
  | .brk => k .next lc1 c1
  | .ret u => k (.ret u) lc1 c1
noncomputable def kF2 (i : Nat) (b : GS) (G : Gx) (n : Nat) (lc : Lc) (k : KS) (c1 : List Cell) (l : List V) : Prop := forI (b G n) i l lc c1 k no_
noncomputable def kF (i : Nat) (b : GS) (G : Gx) (n : Nat) (lc : Lc) (k : KS) (v : V) (c1 : List Cell) : Prop := overW G.q v (kF2 i b G n lc k c1)
noncomputable def sF (i : Nat) (e : GE) (b : GS) (G : Gx) (n : Nat) (lc : Lc) (cells : List Cell) (k : KS) (X : KC) : Prop := e G n lc cells (kF i b G n lc k) X
@[irreducible] noncomputable def forJ (tw : TWs) (wb : WS) (l : List (Int × V)) (lc : Lc) (c1 : List Cell) (k : KS) (X : KC) : Prop := forDW tw wb l lc c1 k X
noncomputable def kFI (t : GWs) (b : GS) (G : Gx) (n : Nat) (lc : Lc) (k : KS) (v : V) (c1 : List Cell) : Prop := match v with
  | .dct l => forJ (t G n) (b G n) l lc c1 k no_
  | _ => False
noncomputable def sFI (o : GE) (t : GWs) (b : GS) (G : Gx) (n : Nat) (lc : Lc) (cells : List Cell) (k : KS) (X : KC) : Prop := o G n lc cells (kFI t b G n lc k) X
noncomputable def kFK (i : Nat) (b : GS) (G : Gx) (n : Nat) (lc : Lc) (k : KS) (v : V) (c1 : List Cell) : Prop := match v with
  | .dct l => forI (b G n) i (l.map fun p => V.int p.1) lc c1 k no_
  | _ => False
noncomputable def sFK (i : Nat) (e : GE) (b : GS) (G : Gx) (n : Nat) (lc : Lc) (cells : List Cell) (k : KS) (X : KC) : Prop := e G n lc cells (kFK i b G n lc k) X
noncomputable def kFE (lc : Lc) (k : KS) (vs : List V) (c1 : List Cell) : Prop := match vs with
  | [.tup []] => k .next lc c1
  | _ => False
noncomputable def sFE (l : GL) (G : Gx) (n : Nat) (lc : Lc) (cells : List Cell) (k : KS) (X : KC) : Prop := l G n lc cells (kFE lc k) X
noncomputable def kS (i : Nat) (lc : Lc) (k : KS) (v : V) (c1 : List Cell) : Prop := k .next (lc.set i (some v)) c1
noncomputable def sS (i : Nat) (e : GE) (G : Gx) (n : Nat) (lc : Lc) (cells : List Cell) (k : KS) (X : KC) : Prop := e G n lc cells (kS i lc k) X
noncomputable def kCS3 (i : Nat) (lc : Lc) (k : KS) (acc : List V) (_ : Lc) (c2 : List Cell) : Prop := k .next (lc.set i (some (.lst acc))) c2
noncomputable def kCS2 (i : Nat) (t : GT) (el : GE) (jx : Nat) (pm : List (Option Nat)) (G : Gx) (n : Nat) (lc : Lc) (k : KS) (c1 : List Cell) (l : List V) : Prop := compW (t G n) (el G n) jx l (lcIn pm lc) c1 [] (kCS3 i lc k)
noncomputable def kCS (i : Nat) (t : GT) (el : GE) (jx : Nat) (pm : List (Option Nat)) (G : Gx) (n : Nat) (lc : Lc) (k : KS) (v : V) (c1 : List Cell) : Prop := overW G.q v (kCS2 i t el jx pm G n lc k c1)
noncomputable def sCS (i : Nat) (t : GT) (el : GE) (jx : Nat) (pm : List (Option Nat)) (it : GE) (G : Gx) (n : Nat) (lc : Lc) (cells : List Cell) (k : KS) (X : KC) : Prop := it G n lc cells (kCS i t el jx pm G n lc k) X
noncomputable def kNx (lc : Lc) (k : KS) (c3 : List Cell) : Prop := k .next lc c3
noncomputable def kSA2 (ka : Nat) (lc : Lc) (k : KS) (v vo : V) (c2 : List Cell) : Prop := setAV tb c2 vo ka v (kNx lc k)
noncomputable def kSA (ka : Nat) (o : GE) (G : Gx) (n : Nat) (lc : Lc) (k : KS) (X : KC) (v : V) (c1 : List Cell) : Prop := o G n lc c1 (kSA2 ka lc k v) X
noncomputable def sSA (ka : Nat) (o e : GE) (G : Gx) (n : Nat) (lc : Lc) (cells : List Cell) (k : KS) (X : KC) : Prop := e G n lc cells (kSA ka o G n lc k X) X
noncomputable def kAA4 (ka : Nat) (lc : Lc) (k : KS) (vo : V) (c2 : List Cell) (nw : V) : Prop := setAV tb c2 vo ka nw (kNx lc k)
noncomputable def kAA3 (p : P2) (ka : Nat) (lc : Lc) (k : KS) (vo old v : V) (c2 : List Cell) : Prop := p old v (kAA4 ka lc k vo c2)
noncomputable def kAA2 (p : P2) (ka : Nat) (e : GE) (G : Gx) (n : Nat) (lc : Lc) (k : KS) (X : KC) (vo : V) (c1 : List Cell) (old : V) : Prop := e G n lc c1 (kAA3 p ka lc k vo old) X
noncomputable def kAA (p : P2) (ka : Nat) (e : GE) (G : Gx) (n : Nat) (lc : Lc) (k : KS) (X : KC) (v : V) (c1 : List Cell) : Prop := attrV tb c1 v ka (kAA2 p ka e G n lc k X v c1)
noncomputable def sAA (p : P2) (ka : Nat) (o e : GE) (G : Gx) (n : Nat) (lc : Lc) (cells : List Cell) (k : KS) (X : KC) : Prop := o G n lc cells (kAA p ka e G n lc k X) X
noncomputable def kAI5 (lc : Lc) (k : KS) (vo vi : V) (c3 : List Cell) (nw : V) : Prop := setIV c3 vo vi nw (kNx lc k)
noncomputable def kAI4 (p : P2) (lc : Lc) (k : KS) (vo vi old v : V) (c3 : List Cell) : Prop := p old v (kAI5 lc k vo vi c3)
noncomputable def kAI3 (p : P2) (e : GE) (G : Gx) (n : Nat) (lc : Lc) (k : KS) (X : KC) (vo vi : V) (c2 : List Cell) (old : V) : Prop := e G n lc c2 (kAI4 p lc k vo vi old) X
noncomputable def kAI2 (p : P2) (e : GE) (G : Gx) (n : Nat) (lc : Lc) (k : KS) (X : KC) (vo vi : V) (c2 : List Cell) : Prop := getIV c2 vo vi (kAI3 p e G n lc k X vo vi c2)
noncomputable def kAI (p : P2) (i e : GE) (G : Gx) (n : Nat) (lc : Lc) (k : KS) (X : KC) (v : V) (c1 : List Cell) : Prop := i G n lc c1 (kAI2 p e G n lc k X v) X
noncomputable def sAI (p : P2) (o i e : GE) (G : Gx) (n : Nat) (lc : Lc) (cells : List Cell) (k : KS) (X : KC) : Prop := o G n lc cells (kAI p i e G n lc k X) X
noncomputable def kSI3 (lc : Lc) (k : KS) (v vo vi : V) (c3 : List Cell) : Prop := setIV c3 vo vi v (kNx lc k)
noncomputable def kSI2 (i : GE) (G : Gx) (n : Nat) (lc : Lc) (k : KS) (X : KC) (v vo : V) (c2 : List Cell) : Prop := i G n lc c2 (kSI3 lc k v vo) X
noncomputable def kSI (o i : GE) (G : Gx) (n : Nat) (lc : Lc) (k : KS) (X : KC) (v : V) (c1 : List Cell) : Prop := o G n lc c1 (kSI2 i G n lc k X v) X
noncomputable def sSI (o i e : GE) (G : Gx) (n : Nat) (lc : Lc) (cells : List Cell) (k : KS) (X : KC) : Prop := e G n lc cells (kSI o i G n lc k X) X
noncomputable def kSD3 (lc : Lc) (k : KS) (v vo vi : V) (c3 : List Cell) : Prop := setDW c3 vo vi v (kNx lc k)
noncomputable def kSD2 (i : GE) (G : Gx) (n : Nat) (lc : Lc) (k : KS) (X : KC) (v vo : V) (c2 : List Cell) : Prop := i G n lc c2 (kSD3 lc k v vo) X
noncomputable def kSD (o i : GE) (G : Gx) (n : Nat) (lc : Lc) (k : KS) (X : KC) (v : V) (c1 : List Cell) : Prop := o G n lc c1 (kSD2 i G n lc k X v) X
noncomputable def sSD (o i e : GE) (G : Gx) (n : Nat) (lc : Lc) (cells : List Cell) (k : KS) (X : KC) : Prop := e G n lc cells (kSD o i G n lc k X) X
noncomputable def kN2 (k : KS) (lc2 : Lc) (c2 : List Cell) : Prop := k .next lc2 c2
noncomputable def kTW2 (t : GWs) (G : Gx) (n : Nat) (lc : Lc) (k : KS) (X : KC) (c1 : List Cell) (l : List V) : Prop := t G n lc c1 l.reverse (kN2 k) X
noncomputable def kTW (m : Nat) (t : GWs) (G : Gx) (n : Nat) (lc : Lc) (k : KS) (X : KC) (v : V) (c1 : List Cell) : Prop := tupV m v (kTW2 t G n lc k X c1)
noncomputable def sTW (m : Nat) (e : GE) (t : GWs) (G : Gx) (n : Nat) (lc : Lc) (cells : List Cell) (k : KS) (X : KC) : Prop := e G n lc cells (kTW m t G n lc k X) X
noncomputable def kTS2 (t : GWs) (G : Gx) (n : Nat) (lc : Lc) (k : KS) (X : KC) (c1 : List Cell) (l : List V) : Prop := t G n lc c1 l (kN2 k) X
noncomputable def kTS (m : Nat) (t : GWs) (G : Gx) (n : Nat) (lc : Lc) (k : KS) (X : KC) (v : V) (c1 : List Cell) : Prop := tupV m v (kTS2 t G n lc k X c1)
noncomputable def sTS (m : Nat) (e : GE) (t : GWs) (G : Gx) (n : Nat) (lc : Lc) (cells : List Cell) (k : KS) (X : KC) : Prop := e G n lc cells (kTS m t G n lc k X) X
noncomputable def kTy (b : GS) (G : Gx) (n : Nat) (lc : Lc) (k : KS) (c : List Cell) : Prop := b G.off n lc c k no_
noncomputable def sTry' (m : Nat) (e : GE) (t : GWs) (b : GS) (G : Gx) (n : Nat) (lc : Lc) (cells : List Cell) (k : KS) (X : KC) : Prop := e G n lc cells (kTS m t G n lc k no_) (kTy b G n lc k)
noncomputable def sOvf (G : Gx) (n : Nat) (lc : Lc) (cells : List Cell) (k : KS) (X : KC) : Prop := X cells
noncomputable def gN (i : Nat) (G : Gx) (n : Nat) (lc : Lc) (cells : List Cell) (v : V) (k : KW) (X : KC) : Prop := k (lc.set i (some v)) cells
noncomputable def kGA2 (lc : Lc) (k : KW) (c3 : List Cell) : Prop := k lc c3
noncomputable def kGA (ka : Nat) (lc : Lc) (k : KW) (v vo : V) (c2 : List Cell) : Prop := setAV tb c2 vo ka v (kGA2 lc k)
noncomputable def gA (ka : Nat) (o : GE) (G : Gx) (n : Nat) (lc : Lc) (cells : List Cell) (v : V) (k : KW) (X : KC) : Prop := o G n lc cells (kGA ka lc k v) X
noncomputable def gs0 (G : Gx) (n : Nat) (lc : Lc) (cells : List Cell) (vs : List V) (k : KW) (X : KC) : Prop := match vs with | [] => k lc cells | _ => False
noncomputable def kGs (l : GWs) (G : Gx) (n : Nat) (k : KW) (X : KC) (vs : List V) (lc1 : Lc) (c1 : List Cell) : Prop := l G n lc1 c1 vs k X
noncomputable def gsC (t : GW) (l : GWs) (G : Gx) (n : Nat) (lc : Lc) (cells : List Cell) (vs : List V) (k : KW) (X : KC) : Prop := match vs with | v :: vs => t G n lc cells v (kGs l G n k X vs) X | _ => False
theorem forN {wb : WS} {i : Nat} {lc : Lc} {c : List Cell} {k : KS} {X : KC} (h : k .next lc c) : forI wb i [] lc c k X := by unfold forI; exact h
theorem forC {wb : WS} {i : Nat} {v : V} {l : List V} {lc : Lc} {c : List Cell} {k : KS} {X : KC} (h : wb (lc.set i (some v)) c (kFor wb i l k X) X) : forI wb i (v :: l) lc c k X := by
  unfold forI
  have e : kFor wb i l k X = fun f lc1 c1 => match f with
      | .next => forW wb i l lc1 c1 k X
      | .cont => forW wb i l lc1 c1 k X
      | .brk => k .next lc1 c1
      | .ret u => k (.ret u) lc1 c1 := by
    funext f lc1 c1
    cases f <;> unfold kFor <;> first | (unfold forI; rfl) | rfl
  rw [e] at h
  exact h
theorem forJN {tw : TWs} {wb : WS} {lc : Lc} {c : List Cell} {k : KS} {X : KC} (h : k .next lc c) : forJ tw wb [] lc c k X := by unfold forJ; exact h
theorem forJC {tw : TWs} {wb : WS} {i : Int} {v : V} {l : List (Int × V)} {lc : Lc} {c : List Cell} {k : KS} {X : KC} (h : ∀ kk : KS,(∀ lc c,forJ tw wb l lc c k X → kk .next lc c) → tw lc c [.int i,v] (fun lc1 c1 => wb lc1 c1 kk X) X) : forJ tw wb ((i,v) :: l) lc c k X := by
  unfold forJ at h ⊢
  exact h (fun f lc2 c2 => match f with
      | .next => forDW tw wb l lc2 c2 k X
      | .cont => forDW tw wb l lc2 c2 k X
      | .brk => k .next lc2 c2
      | .ret u => k (.ret u) lc2 c2) fun _ _ x => x
noncomputable def pAdd : P2 := on2i fun i j kk => kk (.int (i + j))
noncomputable def pSub : P2 := on2i fun i j kk => kk (.int (i - j))
noncomputable def pMul : P2 := on2i fun i j kk => IntMulOk i j ∧ kk (.int (i * j))
noncomputable def pDiv : P2 := on2i fun i j kk => (j ≠ 0 ∧ Builtin.divisionGoesByPylong i j = false) ∧ kk (.int (i.fdiv j))
noncomputable def pMod : P2 := on2i fun i j kk => j ≠ 0 ∧ kk (.int (i.fmod j))
noncomputable def pPow : P2 := on2i fun i j kk => (0 ≤ j ∧ j ≤ 1000000 ∧ i.natAbs < 2 ^ 64) ∧ kk (.int (i ^ j.toNat))
noncomputable def pLt : P2 := on2i fun i j kk => kk (.bool (decide (i < j)))
noncomputable def pGt : P2 := on2i fun i j kk => kk (.bool (decide (j < i)))
noncomputable def pLe : P2 := on2i fun i j kk => kk (.bool (decide (i ≤ j)))
noncomputable def pGe : P2 := on2i fun i j kk => kk (.bool (decide (j ≤ i)))
noncomputable def pIs : P2 := fun a b kk => match b with | .none => isNo a (fun c => kk (.bool c)) | _ => False
noncomputable def pIsN : P2 := fun a b kk => match b with | .none => isNo a (fun c => kk (.bool (!c))) | _ => False
noncomputable def pAddU : P2 := fun a b kk => match a,b with
  | .int i,.int j => kk (.int (i + j))
  | .str x,.str y => x.length + y.length ≤ 1000 ∧ kk (.str (x ++ y))
  | a,b => addW a b kk
noncomputable def pEqU : P2 := fun a b kk => match a,b with
  | .int i,.int j => kk (.bool (decide (i = j)))
  | .bool i,.bool j => kk (.bool (i == j))
  | .str i,.str j => kk (.bool (i == j))
  | a,b => eqDW a b fun c => kk (.bool c)
noncomputable def pNeU : P2 := fun a b kk => match a,b with
  | .int i,.int j => kk (.bool (!decide (i = j)))
  | a,b => eqDW a b fun c => kk (.bool (!c))
noncomputable def qAbs : List V → List Cell → (V → List Cell → Prop) → Prop := int1 fun i => .int (if i < 0 then -i else i)
noncomputable def qMax : List V → List Cell → (V → List Cell → Prop) → Prop := int2 fun i j => .int (if i < j then j else i)
noncomputable def qMin : List V → List Cell → (V → List Cell → Prop) → Prop := int2 fun i j => .int (if j < i then j else i)
noncomputable def V_check_dimen : GS := (bC (sI (tN (tCh pLe pLe (wNeg (wC (.int 1073741823))) (wCa (.ref 108) (lC (wL 0) lN)) (wC (.int 1073741823)))) sOvf bN) (bC (sR (wL 0)) bN))
noncomputable def V_is_whole : GS := (bC (sR (wAnd (wB isI (lC (wL 0) (lC (wC (.val (.type "int"))) lN))) (wAnd (wNot (wB isI (lC (wL 0) (lC (wC (.val (.type "bool"))) lN)))) (wChain pLe pLe (wL 1) (wL 0) (wL 2))))) bN)
noncomputable def V_check_whole : GS := (bC (sI (tO (tN (tV (wB isI (lC (wL 0) (lC (wC (.val (.type "int"))) lN))))) (tO (tV (wB isI (lC (wL 0) (lC (wC (.val (.type "bool"))) lN)))) tF)) bD bN) (bC (sR (wL 0)) bN))
noncomputable def V_check_number : GS := (bC (sI (tN (tCh pLe pLe (wNeg (wC (.int 2147483647))) (wCa (.ref 108) (lC (wL 0) lN)) (wC (.int 2147483647)))) bD bN) (bC (sR (wL 0)) bN))
noncomputable def V_rounded : GS := (bC (sI (tOp pLe (wL 1) (wC (.int 0))) bD bN) (bC (sI (tOp pLt (wL 0) (wC (.int 0))) (bC (sR (wNeg (wOp pDiv (wOp pSub (wL 1) (wOp pMul (wC (.int 2)) (wL 0))) (wOp pMul (wC (.int 2)) (wL 1))))) bN) bN) (bC (sR (wOp pDiv (wOp pAddU (wOp pMul (wC (.int 2)) (wL 0)) (wL 1)) (wOp pMul (wC (.int 2)) (wL 1)))) bN)))
noncomputable def V_badness : GS := (bC (sI (tOp pLt (wL 0) (wC (.int 0))) bD bN) (bC (sI (tOp pEqU (wL 0) (wC (.int 0))) (bC (sR (wC (.int 0))) bN) bN) (bC (sI (tOp pLe (wL 1) (wC (.int 0))) (bC (sR (wC (.int 10000))) bN) bN) (bC (sI (tOp pLe (wL 0) (wC (.int 7230584))) (bC (sS 2 (wOp pDiv (wOp pMul (wL 0) (wC (.int 297))) (wL 1))) bN) (bC (sI (tOp pGe (wL 1) (wC (.int 1663497))) (bC (sS 2 (wOp pDiv (wL 0) (wOp pDiv (wL 1) (wC (.int 297))))) bN) (bC (sS 2 (wL 0)) bN)) bN)) (bC (sI (tOp pGt (wL 2) (wC (.int 1290))) (bC (sR (wC (.int 10000))) bN) bN) (bC (sR (wOp pDiv (wOp pAddU (wOp pMul (wOp pMul (wL 2) (wL 2)) (wL 2)) (wC (.int 131072))) (wC (.int 262144)))) bN))))))
noncomputable def V_Glue_init : GS := (bC (sI (tO (tN (tV (wCa (.ref 101) (lC (wL 3) (lC (wC (.int 0)) (lC (wC (.int 3)) lN)))))) (tO (tN (tV (wCa (.ref 101) (lC (wL 5) (lC (wC (.int 0)) (lC (wC (.int 3)) lN)))))) tF)) bD bN) (bC (sSA 7 (wL 0) (wCa (.ref 122) (lC (wL 1) lN))) (bC (sSA 15 (wL 0) (wCa (.ref 122) (lC (wL 2) lN))) (bC (sSA 16 (wL 0) (wIfE (tOp pNeU (wL 2) (wC (.int 0))) (wL 3) (wC (.int 0)))) (bC (sSA 17 (wL 0) (wCa (.ref 122) (lC (wL 4) lN))) (bC (sSA 18 (wL 0) (wIfE (tOp pNeU (wL 4) (wC (.int 0))) (wL 5) (wC (.int 0)))) bN))))))
noncomputable def V_Glue_parts : GS := (bC (sR (wTup (lC (wA 7 (wL 0)) (lC (wA 15 (wL 0)) (lC (wA 16 (wL 0)) (lC (wA 17 (wL 0)) (lC (wA 18 (wL 0)) lN))))))) bN)
noncomputable def V_top_order : GS := (bC (sF 1 (wTup (lC (wC (.int 3)) (lC (wC (.int 2)) (lC (wC (.int 1)) lN)))) (bC (sI (tOp pNeU (wIdx (wL 0) (wL 1)) (wC (.int 0))) (bC (sR (wL 1)) bN) bN) bN)) (bC (sR (wC (.int 0))) bN))
noncomputable def V_Totals_init : GS := (bC (sSA 19 (wL 0) (wC (.int 0))) (bC (sSA 15 (wL 0) (wCell (lC (wC (.int 0)) (lC (wC (.int 0)) (lC (wC (.int 0)) (lC (wC (.int 0)) lN)))))) (bC (sSA 17 (wL 0) (wCell (lC (wC (.int 0)) (lC (wC (.int 0)) (lC (wC (.int 0)) (lC (wC (.int 0)) lN)))))) bN)))
noncomputable def V_Totals_add : GS := (bC (sAA pAdd 19 (wL 0) (wA 7 (wL 1))) (bC (sAI pAdd (wA 15 (wL 0)) (wA 16 (wL 1)) (wA 15 (wL 1))) (bC (sAI pAdd (wA 17 (wL 0)) (wA 18 (wL 1)) (wA 17 (wL 1))) bN)))
noncomputable def V_Totals_widen : GS := (bC (sAA pAdd 19 (wL 0) (wL 1)) bN)
noncomputable def V_Totals_stretch_top : GS := (bC (sR (wCa (.ref 257) (lC (wA 15 (wL 0)) lN))) bN)
noncomputable def V_Totals_shrink_top : GS := (bC (sR (wCa (.ref 257) (lC (wA 17 (wL 0)) lN))) bN)
noncomputable def V_check_code : GS := (bC (sI (tN (tV (wCa (.ref 101) (lC (wL 0) (lC (wC (.int 0)) (lC (wC (.int 255)) lN)))))) bD bN) (bC (sR (wL 0)) bN))
noncomputable def V_check_short : GS := (bC (sF 1 (wL 0) (bC (sI (tOp pGt (wA 6 (wL 1)) (wC (.int 5))) bD bN) bN)) (bC (sR (wL 0)) bN))
noncomputable def V_Char_init : GS := (bC (sSA 2 (wL 0) (wL 1)) (bC (sSA 1 (wL 0) (wCa (.ref 340) (lC (wL 2) lN))) bN))
noncomputable def V_Ligature_init : GS := (bC (sSA 2 (wL 0) (wL 1)) (bC (sSA 1 (wL 0) (wCa (.ref 340) (lC (wL 2) lN))) (bC (sSA 3 (wL 0) (wB tupOf (lC (wComp tT (wCa (.ref 340) (lC (wL 0) lN)) 0 [none] (wL 3)) lN))) (bC (sSA 4 (wL 0) (wL 4)) (bC (sSA 5 (wL 0) (wL 5)) bN)))))
noncomputable def V_Box_init : GS := (bC (sI (tN (tV (wCa (.ref 101) (lC (wL 1) (lC (wC (.int 2)) (lC (wC (.int 3)) lN)))))) bD bN) (bC (sSA 6 (wL 0) (wL 1)) (bC (sSA 7 (wL 0) (wCa (.ref 122) (lC (wL 2) lN))) (bC (sSA 8 (wL 0) (wCa (.ref 122) (lC (wL 3) lN))) (bC (sSA 9 (wL 0) (wCa (.ref 122) (lC (wL 4) lN))) (bC (sSA 10 (wL 0) (wL 5)) (bC (sSA 11 (wL 0) (wC (.int 0))) (bC (sSA 12 (wL 0) (wC (.int 0))) (bC (sSA 13 (wL 0) (wC (.int 0))) (bC (sSA 14 (wL 0) (wTup (lC (wC (.int 0)) (lC (wC (.int 1)) lN)))) bN))))))))))
noncomputable def V_Rule_init : GS := (bC (sF 4 (wTup (lC (wL 1) (lC (wL 2) (lC (wL 3) lN)))) (bC (sI (tOp pIsN (wL 4) (wC .none)) (bC (sE (wCa (.ref 122) (lC (wL 4) lN))) bN) bN) bN)) (bC (sSA 7 (wL 0) (wL 1)) (bC (sSA 8 (wL 0) (wL 2)) (bC (sSA 9 (wL 0) (wL 3)) bN))))
noncomputable def V_Kern_init : GS := (bC (sI (tN (tV (wCa (.ref 101) (lC (wL 2) (lC (wC (.int 0)) (lC (wC (.int 3)) lN)))))) bD bN) (bC (sSA 7 (wL 0) (wCa (.ref 122) (lC (wL 1) lN))) (bC (sSA 20 (wL 0) (wL 2)) bN)))
noncomputable def V_Skip_init : GS := (bC (sI (tA (tN (tV (wCa (.ref 101) (lC (wL 2) (lC (wC (.int 0)) (lC (wC (.int 5)) lN)))))) (tA (tN (tV (wCa (.ref 101) (lC (wL 2) (lC (wC (.int 100)) (lC (wOp pAddU (wC (.int 100)) (wC (.int 99))) lN)))))) tT)) bD bN) (bC (sI (tOp pEqU (wOp pIs (wL 3) (wC .none)) (wChain pLe pLe (wC (.int 1)) (wL 2) (wC (.int 3)))) bD bN) (bC (sI (tA (tOp pIsN (wL 3) (wC .none)) (tA (tN (tCh pLe pLe (wC (.int 2)) (wA 6 (wL 3)) (wC (.int 4)))) tT)) bD bN) (bC (sSA 21 (wL 0) (wL 1)) (bC (sSA 20 (wL 0) (wL 2)) (bC (sSA 22 (wL 0) (wL 3)) bN))))))
noncomputable def V_Penalty_init : GS := (bC (sSA 23 (wL 0) (wCa (.ref 115) (lC (wL 1) lN))) bN)
noncomputable def V_Disc_init : GS := (bC (sSA 24 (wL 0) (wCa (.ref 347) (lC (wL 1) lN))) (bC (sSA 25 (wL 0) (wCa (.ref 347) (lC (wL 2) lN))) (bC (sSA 26 (wL 0) (wCa (.ref 347) (lC (wL 3) lN))) bN)))
noncomputable def V_Mark_init : GS := (bC (sSA 27 (wL 0) (wB tupOf (lC (wL 1) lN))) bN)
noncomputable def V_Insert_init : GS := (bC (sI (tN (tV (wCa (.ref 101) (lC (wL 1) (lC (wC (.int 0)) (lC (wC (.int 254)) lN)))))) bD bN) (bC (sSA 0 (wL 0) (wL 1)) (bC (sSA 28 (wL 0) (wCa (.ref 122) (lC (wL 2) lN))) (bC (sSA 9 (wL 0) (wCa (.ref 122) (lC (wL 3) lN))) (bC (sSA 29 (wL 0) (wL 4)) (bC (sSA 30 (wL 0) (wCa (.ref 115) (lC (wL 5) lN))) (bC (sSA 10 (wL 0) (wL 6)) bN)))))))
noncomputable def V_Adjust_init : GS := (bC (sSA 10 (wL 0) (wL 1)) bN)
noncomputable def V_MathEdge_init : GS := (bC (sSA 31 (wL 0) (wL 1)) (bC (sSA 7 (wL 0) (wCa (.ref 122) (lC (wL 2) lN))) bN))
noncomputable def V_Special_init : GS := (bC (sF 2 (wL 1) (bC (sI (tN (tV (wCa (.ref 101) (lC (wL 2) (lC (wC (.int 0)) (lC (wC (.int 255)) lN)))))) bD bN) bN)) (bC (sSA 32 (wL 0) (wB bytOf (lC (wL 1) lN))) bN))
noncomputable def V_Unset_init : GS := (bC (sI (tN (tV (wCa (.ref 101) (lC (wL 5) (lC (wC (.int 1)) (lC (wC (.int 2147483647)) lN)))))) bD bN) (bC (sSA 7 (wL 0) (wCa (.ref 122) (lC (wL 1) lN))) (bC (sSA 8 (wL 0) (wCa (.ref 122) (lC (wL 2) lN))) (bC (sSA 9 (wL 0) (wCa (.ref 122) (lC (wL 3) lN))) (bC (sSA 10 (wL 0) (wL 4)) (bC (sSA 33 (wL 0) (wL 5)) (bC (sSA 34 (wL 0) (wL 6)) (bC (sSA 35 (wL 0) (wL 7)) bN))))))))
noncomputable def V_check_depth : GS := (bC (sI (tOp pGt (wL 0) (wC (.int 60))) bD bN) bN)
noncomputable def V_described_rest : GS := (bC (sS 2 (wA 6 (wL 0))) (bC (sI (tOp pEqU (wL 2) (wC (.int 8))) (bC (sR (wTup (lC (wC (.int 8)) (lC (wCa (.ref 668) (lC (wA 24 (wL 0)) (lC (wOp pAddU (wL 1) (wC (.int 1))) lN))) (lC (wCa (.ref 668) (lC (wA 25 (wL 0)) (lC (wOp pAddU (wL 1) (wC (.int 1))) lN))) (lC (wCa (.ref 668) (lC (wA 26 (wL 0)) (lC (wOp pAddU (wL 1) (wC (.int 1))) lN))) lN)))))) bN) bN) (bC (sI (tOp pEqU (wL 2) (wC (.int 10))) (bC (sR (wTup (lC (wC (.int 10)) (lC (wA 0 (wL 0)) (lC (wA 28 (wL 0)) (lC (wA 9 (wL 0)) (lC (wMe0 3 (wA 29 (wL 0))) (lC (wA 30 (wL 0)) (lC (wCa (.ref 668) (lC (wA 10 (wL 0)) (lC (wOp pAddU (wL 1) (wC (.int 1))) lN))) lN))))))))) bN) bN) (bC (sI (tOp pEqU (wL 2) (wC (.int 11))) (bC (sR (wTup (lC (wC (.int 11)) (lC (wCa (.ref 668) (lC (wA 10 (wL 0)) (lC (wOp pAddU (wL 1) (wC (.int 1))) lN))) lN)))) bN) bN) (bC (sI (tOp pEqU (wL 2) (wC (.int 13))) (bC (sR (wTup (lC (wC (.int 13)) (lC (wB tupOfB (lC (wA 32 (wL 0)) lN)) lN)))) bN) bN) (bC (sI (tOp pEqU (wL 2) (wC (.int 14))) (bC (sS 3 (wTup (lC (wA 19 (wA 34 (wL 0))) (lC (wB tupOf (lC (wA 15 (wA 34 (wL 0))) lN)) (lC (wB tupOf (lC (wA 17 (wA 34 (wL 0))) lN)) lN))))) (bC (sS 4 (wTup (lC (wA 7 (wL 0)) (lC (wA 8 (wL 0)) (lC (wA 9 (wL 0)) (lC (wA 33 (wL 0)) (lC (wIfE (tV (wA 35 (wL 0))) (wC (.int 1)) (wC (.int 0))) lN))))))) (bC (sR (wOp pAddU (wOp pAddU (wOp pAddU (wTup (lC (wC (.int 14)) lN)) (wL 4)) (wL 3)) (wTup (lC (wCa (.ref 668) (lC (wA 10 (wL 0)) (lC (wOp pAddU (wL 1) (wC (.int 1))) lN))) lN)))) bN))) bN) bD))))))
noncomputable def V_described : GS := (bC (sE (wCa (.ref 649) (lC (wL 1) lN))) (bC (sS 2 (wA 6 (wL 0))) (bC (sI (tOp pEqU (wL 2) (wC (.int 0))) (bC (sR (wTup (lC (wC (.int 0)) (lC (wA 0 (wA 2 (wL 0))) (lC (wA 1 (wL 0)) lN))))) bN) bN) (bC (sI (tOp pEqU (wL 2) (wC (.int 1))) (bC (sR (wTup (lC (wC (.int 1)) (lC (wA 0 (wA 2 (wL 0))) (lC (wA 1 (wL 0)) (lC (wA 3 (wL 0)) (lC (wIfE (tV (wA 4 (wL 0))) (wC (.int 1)) (wC (.int 0))) (lC (wIfE (tV (wA 5 (wL 0))) (wC (.int 1)) (wC (.int 0))) lN)))))))) bN) bN) (bC (sI (tO (tOp pEqU (wL 2) (wC (.int 2))) (tO (tOp pEqU (wL 2) (wC (.int 3))) tF)) (bC (sS 3 (wTup (lC (wA 7 (wL 0)) (lC (wA 8 (wL 0)) (lC (wA 9 (wL 0)) (lC (wA 11 (wL 0)) (lC (wA 12 (wL 0)) (lC (wA 13 (wL 0)) (lC (wA 14 (wL 0)) lN))))))))) (bC (sR (wOp pAddU (wOp pAddU (wTup (lC (wL 2) lN)) (wL 3)) (wTup (lC (wCa (.ref 668) (lC (wA 10 (wL 0)) (lC (wOp pAddU (wL 1) (wC (.int 1))) lN))) lN)))) bN)) bN) (bC (sI (tOp pEqU (wL 2) (wC (.int 4))) (bC (sR (wOp pAddU (wTup (lC (wC (.int 4)) lN)) (wB tupOf (lC (wComp tT (wIfE (tOp pIs (wL 0) (wC .none)) (wTup lN) (wTup (lC (wL 0) lN))) 0 [none] (wTup (lC (wA 7 (wL 0)) (lC (wA 8 (wL 0)) (lC (wA 9 (wL 0)) lN))))) lN)))) bN) bN) (bC (sI (tOp pEqU (wL 2) (wC (.int 5))) (bC (sR (wTup (lC (wC (.int 5)) (lC (wA 7 (wL 0)) (lC (wA 20 (wL 0)) lN))))) bN) bN) (bC (sI (tOp pEqU (wL 2) (wC (.int 6))) (bC (sR (wTup (lC (wC (.int 6)) (lC (wMe0 3 (wA 21 (wL 0))) (lC (wA 20 (wL 0)) (lC (wIfE (tOp pIs (wA 22 (wL 0)) (wC .none)) (wTup lN) (wCa (.ref 662) (lC (wA 22 (wL 0)) (lC (wOp pAddU (wL 1) (wC (.int 1))) lN)))) lN)))))) bN) bN) (bC (sI (tOp pEqU (wL 2) (wC (.int 7))) (bC (sR (wTup (lC (wC (.int 7)) (lC (wA 23 (wL 0)) lN)))) bN) bN) (bC (sI (tOp pEqU (wL 2) (wC (.int 9))) (bC (sR (wTup (lC (wC (.int 9)) (lC (wA 27 (wL 0)) lN)))) bN) bN) (bC (sI (tOp pEqU (wL 2) (wC (.int 12))) (bC (sR (wTup (lC (wC (.int 12)) (lC (wIfE (tV (wA 31 (wL 0))) (wC (.int 1)) (wC (.int 0))) (lC (wA 7 (wL 0)) lN))))) bN) bN) (bC (sR (wCa (.ref 656) (lC (wL 0) (lC (wL 1) lN)))) bN))))))))))))
noncomputable def V_described_list : GS := (bC (sR (wB tupOf (lC (wComp tT (wCa (.ref 662) (lC (wL 0) (lC (wL 1) lN))) 0 [none,some 1] (wL 0)) lN))) bN)
noncomputable def V_width_of : GS := (bC (sS 1 (wA 6 (wL 0))) (bC (sI (tO (tOp pEqU (wL 1) (wC (.int 0))) (tO (tOp pEqU (wL 1) (wC (.int 1))) tF)) (bC (sR (wMe 7 (wA 2 (wL 0)) (lC (wA 1 (wL 0)) lN))) bN) bN) (bC (sI (tO (tOp pEqU (wL 1) (wC (.int 2))) (tO (tOp pEqU (wL 1) (wC (.int 3))) (tO (tOp pEqU (wL 1) (wC (.int 5))) (tO (tOp pEqU (wL 1) (wC (.int 12))) (tO (tOp pEqU (wL 1) (wC (.int 14))) tF))))) (bC (sR (wA 7 (wL 0))) bN) bN) (bC (sI (tOp pEqU (wL 1) (wC (.int 4))) (bC (sR (wIfE (tOp pIs (wA 7 (wL 0)) (wC .none)) (wC (.int 0)) (wA 7 (wL 0)))) bN) bN) (bC (sI (tOp pEqU (wL 1) (wC (.int 6))) (bC (sR (wA 7 (wA 21 (wL 0)))) bN) bN) (bC (sI (tOp pEqU (wL 1) (wC (.int 8))) (bC (sR (wB sum1 (lC (wComp tT (wCa (.ref 673) (lC (wL 0) lN)) 0 [none] (wA 26 (wL 0))) lN))) bN) bN) (bC (sR (wC (.int 0))) bN)))))))
noncomputable def V_height_of : GS := (bC (sS 1 (wA 6 (wL 0))) (bC (sI (tO (tOp pEqU (wL 1) (wC (.int 0))) (tO (tOp pEqU (wL 1) (wC (.int 1))) tF)) (bC (sR (wMe 8 (wA 2 (wL 0)) (lC (wA 1 (wL 0)) lN))) bN) bN) (bC (sI (tO (tOp pEqU (wL 1) (wC (.int 2))) (tO (tOp pEqU (wL 1) (wC (.int 3))) (tO (tOp pEqU (wL 1) (wC (.int 14))) tF))) (bC (sR (wA 8 (wL 0))) bN) bN) (bC (sI (tOp pEqU (wL 1) (wC (.int 4))) (bC (sR (wIfE (tOp pIs (wA 8 (wL 0)) (wC .none)) (wC (.int 0)) (wA 8 (wL 0)))) bN) bN) (bC (sI (tA (tOp pEqU (wL 1) (wC (.int 6))) (tA (tOp pIsN (wA 22 (wL 0)) (wC .none)) tT)) (bC (sR (wCa (.ref 678) (lC (wA 22 (wL 0)) lN))) bN) bN) (bC (sI (tOp pEqU (wL 1) (wC (.int 8))) (bC (sR (wB maxL (lC (wOp pAddU (wLst (lC (wC (.int 0)) lN)) (wComp tT (wCa (.ref 690) (lC (wL 0) lN)) 0 [none] (wA 26 (wL 0)))) lN))) bN) bN) (bC (sR (wC (.int 0))) bN)))))))
noncomputable def V_depth_of : GS := (bC (sS 1 (wA 6 (wL 0))) (bC (sI (tO (tOp pEqU (wL 1) (wC (.int 0))) (tO (tOp pEqU (wL 1) (wC (.int 1))) tF)) (bC (sR (wMe 9 (wA 2 (wL 0)) (lC (wA 1 (wL 0)) lN))) bN) bN) (bC (sI (tO (tOp pEqU (wL 1) (wC (.int 2))) (tO (tOp pEqU (wL 1) (wC (.int 3))) (tO (tOp pEqU (wL 1) (wC (.int 14))) tF))) (bC (sR (wA 9 (wL 0))) bN) bN) (bC (sI (tOp pEqU (wL 1) (wC (.int 4))) (bC (sR (wIfE (tOp pIs (wA 9 (wL 0)) (wC .none)) (wC (.int 0)) (wA 9 (wL 0)))) bN) bN) (bC (sI (tA (tOp pEqU (wL 1) (wC (.int 6))) (tA (tOp pIsN (wA 22 (wL 0)) (wC .none)) tT)) (bC (sR (wCa (.ref 683) (lC (wA 22 (wL 0)) lN))) bN) bN) (bC (sI (tOp pEqU (wL 1) (wC (.int 8))) (bC (sR (wB maxL (lC (wOp pAddU (wLst (lC (wC (.int 0)) lN)) (wComp tT (wCa (.ref 697) (lC (wL 0) lN)) 0 [none] (wA 26 (wL 0)))) lN))) bN) bN) (bC (sR (wC (.int 0))) bN)))))))
noncomputable def V_line_height : GS := (bC (sI (tO (tOp pEqU (wA 6 (wL 0)) (wC (.int 2))) (tO (tOp pEqU (wA 6 (wL 0)) (wC (.int 3))) tF)) (bC (sR (wOp pSub (wA 8 (wL 0)) (wA 11 (wL 0)))) bN) bN) (bC (sR (wCa (.ref 678) (lC (wL 0) lN))) bN))
noncomputable def V_line_depth : GS := (bC (sI (tO (tOp pEqU (wA 6 (wL 0)) (wC (.int 2))) (tO (tOp pEqU (wA 6 (wL 0)) (wC (.int 3))) tF)) (bC (sR (wOp pAddU (wA 9 (wL 0)) (wA 11 (wL 0)))) bN) bN) (bC (sR (wCa (.ref 683) (lC (wL 0) lN))) bN))
noncomputable def V_natural_line : GS := (bC (sS 1 (wCa (.ref 309) lN)) (bC (sTS 2 (wTup (lC (wC (.int 0)) (lC (wC (.int 0)) lN))) (gsC (gN 2) (gsC (gN 3) gs0))) (bC (sF 4 (wL 0) (bC (sI (tOp pEqU (wA 6 (wL 4)) (wC (.int 6))) (bC (sE (wMe 48 (wL 1) (lC (wA 21 (wL 4)) lN))) bN) (bC (sE (wMe 49 (wL 1) (lC (wCa (.ref 673) (lC (wL 4) lN)) lN))) bN)) (bC (sS 2 (wB qMax (lC (wL 2) (lC (wCa (.ref 690) (lC (wL 4) lN)) lN)))) (bC (sS 3 (wB qMax (lC (wL 3) (lC (wCa (.ref 697) (lC (wL 4) lN)) lN)))) bN)))) (bC (sR (wTup (lC (wL 1) (lC (wL 2) (lC (wL 3) lN))))) bN))))
noncomputable def V_across : GS := (bC (sI (tO (tOp pEqU (wA 6 (wL 0)) (wC (.int 2))) (tO (tOp pEqU (wA 6 (wL 0)) (wC (.int 3))) tF)) (bC (sR (wOp pAddU (wA 7 (wL 0)) (wA 11 (wL 0)))) bN) bN) (bC (sI (tOp pEqU (wA 6 (wL 0)) (wC (.int 6))) (bC (sR (wIfE (tOp pIs (wA 22 (wL 0)) (wC .none)) (wC (.int 0)) (wCa (.ref 673) (lC (wA 22 (wL 0)) lN)))) bN) bN) (bC (sR (wIfE (tOp pEqU (wA 6 (wL 0)) (wC (.int 5))) (wC (.int 0)) (wCa (.ref 673) (lC (wL 0) lN)))) bN)))
noncomputable def V_check_column : GS := (bC (sF 1 (wL 0) (bC (sI (tO (tOp pEqU (wA 6 (wL 1)) (wC (.int 0))) (tO (tOp pEqU (wA 6 (wL 1)) (wC (.int 1))) (tO (tOp pEqU (wA 6 (wL 1)) (wC (.int 8))) (tO (tOp pEqU (wA 6 (wL 1)) (wC (.int 12))) tF)))) bD bN) bN)) bN)
noncomputable def V_natural_column : GS := (bC (sE (wCa (.ref 726) (lC (wL 0) lN))) (bC (sS 1 (wCa (.ref 309) lN)) (bC (sTS 2 (wTup (lC (wC (.int 0)) (lC (wC (.int 0)) lN))) (gsC (gN 2) (gsC (gN 3) gs0))) (bC (sF 4 (wL 0) (bC (sS 2 (wB qMax (lC (wL 2) (lC (wCa (.ref 719) (lC (wL 4) lN)) lN)))) (bC (sI (tOp pEqU (wA 6 (wL 4)) (wC (.int 6))) (bC (sE (wMe 49 (wL 1) (lC (wL 3) lN))) (bC (sE (wMe 48 (wL 1) (lC (wA 21 (wL 4)) lN))) (bC (sS 3 (wC (.int 0))) bN))) (bC (sI (tOp pEqU (wA 6 (wL 4)) (wC (.int 5))) (bC (sE (wMe 49 (wL 1) (lC (wOp pAddU (wL 3) (wA 7 (wL 4))) lN))) (bC (sS 3 (wC (.int 0))) bN)) (bC (sI (tO (tOp pEqU (wA 6 (wL 4)) (wC (.int 2))) (tO (tOp pEqU (wA 6 (wL 4)) (wC (.int 3))) (tO (tOp pEqU (wA 6 (wL 4)) (wC (.int 4))) (tO (tOp pEqU (wA 6 (wL 4)) (wC (.int 14))) tF)))) (bC (sE (wMe 49 (wL 1) (lC (wOp pAddU (wL 3) (wCa (.ref 678) (lC (wL 4) lN))) lN))) (bC (sS 3 (wCa (.ref 683) (lC (wL 4) lN))) bN)) bN) bN)) bN)) bN))) (bC (sR (wTup (lC (wL 1) (lC (wL 2) (lC (wL 3) lN))))) bN)))))
noncomputable def V_quotient : GS := (bC (sR (wIfE (tOp pGt (wL 1) (wC (.int 0))) (wTup (lC (wL 0) (lC (wL 1) lN))) (wTup (lC (wNeg (wL 0)) (lC (wNeg (wL 1)) lN))))) bN)
noncomputable def V_set_glue : GS := (bC (sI (tOp pEqU (wL 1) (wC (.int 0))) (bC (sR (wTup (lC (wC (.int 0)) (lC (wC (.int 0)) (lC (wTup (lC (wC (.int 0)) (lC (wC (.int 1)) lN))) (lC (wTup (lC (wC (.int 0)) (lC (wC (.int 0)) lN))) lN)))))) bN) bN) (bC (sS 2 (wIfE (tOp pGt (wL 1) (wC (.int 0))) (wMe0 50 (wL 0)) (wMe0 51 (wL 0)))) (bC (sS 3 (wIfE (tOp pGt (wL 1) (wC (.int 0))) (wIdx (wA 15 (wL 0)) (wL 2)) (wIdx (wA 17 (wL 0)) (wL 2)))) (bC (sS 4 (wTup (lC (wC (.int 0)) (lC (wC (.int 0)) lN)))) (bC (sI (tOp pEqU (wL 2) (wC (.int 0))) (bC (sS 4 (wTup (lC (wIfE (tOp pGt (wL 1) (wC (.int 0))) (wC (.int 1)) (wC (.int 2))) (lC (wCa (.ref 164) (lC (wB qAbs (lC (wL 1) lN)) (lC (wL 3) lN))) lN)))) bN) bN) (bC (sI (tA (tOp pEqU (wL 2) (wC (.int 0))) (tA (tOp pLt (wL 1) (wC (.int 0))) (tA (tOp pLt (wL 3) (wNeg (wL 1))) tT))) (bC (sS 4 (wTup (lC (wC (.int 3)) (lC (wOp pSub (wNeg (wL 1)) (wL 3)) lN)))) bN) bN) (bC (sI (tOp pEqU (wL 3) (wC (.int 0))) (bC (sR (wTup (lC (wC (.int 0)) (lC (wC (.int 0)) (lC (wTup (lC (wC (.int 0)) (lC (wC (.int 1)) lN))) (lC (wL 4) lN)))))) bN) bN) (bC (sI (tOp pEqU (wIdx (wL 4) (wC (.int 0))) (wC (.int 3))) (bC (sR (wTup (lC (wC (.int 2)) (lC (wL 2) (lC (wTup (lC (wC (.int 1)) (lC (wC (.int 1)) lN))) (lC (wL 4) lN)))))) bN) bN) (bC (sR (wTup (lC (wIfE (tOp pGt (wL 1) (wC (.int 0))) (wC (.int 1)) (wC (.int 2))) (lC (wL 2) (lC (wCa (.ref 740) (lC (wB qAbs (lC (wL 1) lN)) (lC (wL 3) lN))) (lC (wL 4) lN)))))) bN)))))))))
noncomputable def V_flex : GS := (bC (sI (tA (tOp pEqU (wA 12 (wL 0)) (wC (.int 1))) (tA (tOp pEqU (wA 16 (wL 1)) (wA 13 (wL 0))) tT)) (bC (sR (wA 15 (wL 1))) bN) bN) (bC (sI (tA (tOp pEqU (wA 12 (wL 0)) (wC (.int 2))) (tA (tOp pEqU (wA 18 (wL 1)) (wA 13 (wL 0))) tT)) (bC (sR (wNeg (wA 17 (wL 1)))) bN) bN) (bC (sR (wC (.int 0))) bN)))
noncomputable def V_set_part : GS := (bC (sR (wCa (.ref 129) (lC (wOp pMul (wIdx (wA 14 (wL 0)) (wC (.int 0))) (wL 1)) (lC (wIdx (wA 14 (wL 0)) (wC (.int 1))) lN)))) bN)
noncomputable def V_glue_size : GS := (bC (sS 3 (wOp pAddU (wL 1) (wCa (.ref 754) (lC (wL 0) (lC (wL 2) lN))))) (bC (sR (wTup (lC (wOp pSub (wOp pAddU (wA 7 (wL 2)) (wCa (.ref 761) (lC (wL 0) (lC (wL 3) lN)))) (wCa (.ref 761) (lC (wL 0) (lC (wL 1) lN)))) (lC (wL 3) lN)))) bN))
noncomputable def V_part_size : GS := (bC (sI (tOp pEqU (wA 6 (wL 0)) (wC (.int 2))) (bC (sR (wCa (.ref 673) (lC (wL 1) lN))) bN) bN) (bC (sR (wIfE (tOp pEqU (wA 6 (wL 1)) (wC (.int 5))) (wA 7 (wL 1)) (wOp pAddU (wCa (.ref 678) (lC (wL 1) lN)) (wCa (.ref 683) (lC (wL 1) lN))))) bN))
noncomputable def V_places : GS := (bC (sI (tOp pEqU (wA 6 (wL 0)) (wC (.int 3))) (bC (sE (wCa (.ref 726) (lC (wA 10 (wL 0)) lN))) bN) bN) (bC (sS 1 (wCell (lC (wC (.int 0)) lN))) (bC (sTS 2 (wTup (lC (wC (.int 0)) (lC (wC (.int 0)) lN))) (gsC (gN 2) (gsC (gN 3) gs0))) (bC (sF 4 (wA 10 (wL 0)) (bC (sI (tOp pEqU (wA 6 (wL 4)) (wC (.int 6))) (bC (sS 2 (wOp pAddU (wL 2) (wA 7 (wA 21 (wL 4))))) (bC (sS 3 (wOp pAddU (wL 3) (wCa (.ref 754) (lC (wL 0) (lC (wA 21 (wL 4)) lN))))) bN)) (bC (sS 2 (wOp pAddU (wL 2) (wCa (.ref 775) (lC (wL 0) (lC (wL 4) lN))))) bN)) (bC (sE (wApp (wL 1) (wOp pAddU (wL 2) (wCa (.ref 761) (lC (wL 0) (lC (wL 3) lN)))))) bN))) (bC (sR (wL 1)) bN)))))
noncomputable def V_moved : GS := (bC (sTW 2 (wTup (lC (wCell lN) (lC (wCell lN) lN))) (gsC (gN 2) (gsC (gN 1) gs0))) (bC (sF 3 (wL 0) (bC (sI (tOp pEqU (wA 6 (wL 3)) (wC (.int 11))) (bC (sE (wExt (wL 2) (wA 10 (wL 3)))) bN) (bC (sI (tO (tOp pEqU (wA 6 (wL 3)) (wC (.int 9))) (tO (tOp pEqU (wA 6 (wL 3)) (wC (.int 10))) tF)) (bC (sE (wApp (wL 2) (wL 3))) bN) (bC (sE (wApp (wL 1) (wL 3))) bN)) bN)) bN)) (bC (sR (wTup (lC (wL 1) (lC (wL 2) lN)))) bN)))
noncomputable def V_goal_size : GS := (bC (sI (tA (tOp pNeU (wL 1) (wC (.int 0))) (tA (tOp pNeU (wL 1) (wC (.int 1))) tT)) bD bN) (bC (sE (wCa (.ref 122) (lC (wL 2) lN))) (bC (sR (wIfE (tOp pEqU (wL 1) (wC (.int 0))) (wL 2) (wOp pAddU (wL 0) (wL 2)))) bN)))
noncomputable def V_set_box : GS := (bC (sTS 4 (wCa (.ref 747) (lC (wL 1) (lC (wL 2) lN))) (gsC (gA 12 (wL 0)) (gsC (gA 13 (wL 0)) (gsC (gA 14 (wL 0)) (gsC (gN 3) gs0))))) (bC (sR (wIfE (tOp pNeU (wA 10 (wL 0)) (wLst lN)) (wL 3) (wTup (lC (wC (.int 0)) (lC (wC (.int 0)) lN))))) bN))
noncomputable def V_hpack : GS := (bC (sTS 2 (wIfE (tOp pIs (wL 3) (wC .none)) (wTup (lC (wL 0) (lC (wLst lN) lN))) (wCa (.ref 789) (lC (wL 0) lN))) (gsC (gN 4) (gsC (gN 5) gs0))) (bC (sTS 3 (wCa (.ref 712) (lC (wL 4) lN)) (gsC (gN 6) (gsC (gN 7) (gsC (gN 8) gs0)))) (bC (sS 9 (wCa (.ref 796) (lC (wA 19 (wL 6)) (lC (wL 1) (lC (wL 2) lN))))) (bC (sS 10 (wCa (.ref 405) (lC (wC (.int 2)) (lC (wL 9) (lC (wL 7) (lC (wL 8) (lC (wL 4) lN))))))) (bC (sI (tOp pIsN (wL 3) (wC .none)) (bC (sE (wExt (wL 3) (wL 5))) bN) bN) (bC (sR (wTup (lC (wL 10) (lC (wCa (.ref 803) (lC (wL 10) (lC (wL 6) (lC (wOp pSub (wL 9) (wA 19 (wL 6))) lN)))) lN)))) bN))))))
noncomputable def V_vpack : GS := (bC (sE (wCa (.ref 122) (lC (wL 3) lN))) (bC (sTS 3 (wCa (.ref 733) (lC (wL 0) lN)) (gsC (gN 4) (gsC (gN 5) (gsC (gN 6) gs0)))) (bC (sI (tOp pGt (wL 6) (wL 3)) (bC (sE (wMe 49 (wL 4) (lC (wOp pSub (wL 6) (wL 3)) lN))) (bC (sS 6 (wL 3)) bN)) bN) (bC (sS 7 (wCa (.ref 796) (lC (wA 19 (wL 4)) (lC (wL 1) (lC (wL 2) lN))))) (bC (sS 8 (wCa (.ref 405) (lC (wC (.int 3)) (lC (wL 5) (lC (wL 7) (lC (wL 6) (lC (wL 0) lN))))))) (bC (sR (wTup (lC (wL 8) (lC (wCa (.ref 803) (lC (wL 8) (lC (wL 4) (lC (wOp pSub (wL 7) (wA 19 (wL 4))) lN)))) lN)))) bN))))))
noncomputable def V_law_heap : GS := (bC (sS 1 (wC (.int 0))) (bC (sF 2 (wUpto 24 (wL 0)) (bC (sS 1 (wOp pAddU (wOp pAddU (wOp pMul (wL 1) (wC (.int 1000003))) (wOp pMul (wOp pMod (wB qAbs (lC (wL 2) lN)) (wOp pPow (wC (.int 10)) (wC (.int 30)))) (wC (.int 2)))) (wB intOf (lC (wOp pLt (wL 2) (wC (.int 0))) lN)))) bN)) (bC (sR (wCell (lC (wL 1) (lC (wC (.int 0)) lN)))) bN)))
noncomputable def V_law_take : GS := (bC (sSI (wL 0) (wC (.int 1)) (wOp pAddU (wIdx (wL 0) (wC (.int 1))) (wC (.int 1)))) (bC (sI (tOp pEqU (wIdx (wL 0) (wC (.int 0))) (wC (.int 0))) (bC (sR (wOp pMod (wOp pMod (wOp pAddU (wOp pAddU (wOp pMul (wOp pMul (wC (.int 7)) (wIdx (wL 0) (wC (.int 1)))) (wIdx (wL 0) (wC (.int 1)))) (wOp pMul (wC (.int 5)) (wIdx (wL 0) (wC (.int 1))))) (wC (.int 3))) (wC (.int 101))) (wL 1))) bN) bN) (bC (sS 2 (wOp pMod (wIdx (wL 0) (wC (.int 0))) (wL 1))) (bC (sSI (wL 0) (wC (.int 0)) (wOp pDiv (wIdx (wL 0) (wC (.int 0))) (wL 1))) (bC (sR (wL 2)) bN)))))
noncomputable def V_law_size : GS := (bC (sS 1 (wCa (.ref 1007) (lC (wL 0) (lC (wC (.int 6)) lN)))) (bC (sI (tOp pEqU (wL 1) (wC (.int 0))) (bC (sR (wC (.int 0))) bN) bN) (bC (sI (tOp pEqU (wL 1) (wC (.int 4))) (bC (sR (wOp pSub (wNeg (wC (.int 1))) (wCa (.ref 1007) (lC (wL 0) (lC (wC (.int 12)) lN))))) bN) bN) (bC (sR (wIfE (tOp pEqU (wL 1) (wC (.int 5))) (wOp pAddU (wOp pMul (wC (.int 65536)) (wCa (.ref 1007) (lC (wL 0) (lC (wC (.int 90)) lN)))) (wCa (.ref 1007) (lC (wL 0) (lC (wC (.int 7)) lN)))) (wOp pAddU (wC (.int 1)) (wCa (.ref 1007) (lC (wL 0) (lC (wC (.int 40)) lN)))))) bN))))
noncomputable def V_law_glue : GS := (bC (sTW 3 (wTup (lC (wCa (.ref 1014) (lC (wL 0) lN)) (lC (wCa (.ref 1014) (lC (wL 0) lN)) (lC (wCa (.ref 1014) (lC (wL 0) lN)) lN)))) (gsC (gN 4) (gsC (gN 3) (gsC (gN 2) gs0)))) (bC (sTW 2 (wTup (lC (wCa (.ref 1007) (lC (wL 0) (lC (wL 1) lN))) (lC (wCa (.ref 1007) (lC (wL 0) (lC (wL 1) lN))) lN))) (gsC (gN 6) (gsC (gN 5) gs0))) (bC (sS 7 (wTup (lC (wL 3) (lC (wIfE (tOp pNeU (wL 3) (wC (.int 0))) (wL 5) (wC (.int 0))) (lC (wL 4) (lC (wIfE (tOp pNeU (wL 4) (wC (.int 0))) (wL 6) (wC (.int 0))) lN)))))) (bC (sR (wTup (lC (wCa (.ref 246) (lC (wL 2) (lC (wL 3) (lC (wL 5) (lC (wL 4) (lC (wL 6) lN)))))) (lC (wL 2) (lC (wL 7) lN))))) bN))))
noncomputable def V_law_shut : GS := (bC (sS 1 (wCa (.ref 405) (lC (wOp pAddU (wC (.int 2)) (wCa (.ref 1007) (lC (wL 0) (lC (wC (.int 2)) lN)))) (lC (wCa (.ref 1014) (lC (wL 0) lN)) (lC (wCa (.ref 1014) (lC (wL 0) lN)) (lC (wCa (.ref 1014) (lC (wL 0) lN)) (lC (wLst lN) lN))))))) (bC (sSA 11 (wL 1) (wCa (.ref 1014) (lC (wL 0) lN))) (bC (sR (wL 1)) bN)))
noncomputable def V_law_stands : GS := (bC (sI (tV (wL 0)) (bC (sR (wTup (lC (wOp pAddU (wL 2) (wL 3)) (lC (wOp pAddU (wL 1) (wL 4)) (lC (wL 3) (lC (wTup lN) (lC (wC (.bool true)) (lC (wLst lN) lN)))))))) bN) bN) (bC (sR (wTup (lC (wL 1) (lC (wOp pSub (wL 2) (wL 4)) (lC (wOp pAddU (wL 3) (wL 4)) (lC (wTup lN) (lC (wC (.bool true)) (lC (wLst lN) lN)))))))) bN))
noncomputable def V_law_flow : GS := (bC (sTS 3 (wCa (.ref 1021) (lC (wL 0) (lC (wL 2) lN))) (gsC (gN 4) (gsC (gN 5) (gsC (gN 6) gs0)))) (bC (sI (tOp pLt (wL 3) (wC (.int 7))) (bC (sR (wTup (lC (wCa (.ref 469) (lC (wL 4) (lC (wC (.int 0)) lN))) (lC (wTup (lC (wL 5) (lC (wC (.int 0)) (lC (wC (.int 0)) (lC (wL 6) (lC (wC (.bool true)) (lC (wLst lN) lN))))))) lN)))) bN) bN) (bC (sS 7 (wCa (.ref 1028) (lC (wL 0) lN))) (bC (sS 8 (wIfE (tV (wL 1)) (wTup (lC (wA 7 (wL 7)) (lC (wC (.int 0)) lN))) (wTup (lC (wA 8 (wL 7)) (lC (wA 9 (wL 7)) lN))))) (bC (sR (wTup (lC (wCa (.ref 469) (lC (wL 4) (lC (wOp pSub (wL 3) (wC (.int 6))) (lC (wL 7) lN)))) (lC (wTup (lC (wL 5) (lC (wIdx (wL 8) (wC (.int 0))) (lC (wIdx (wL 8) (wC (.int 1))) (lC (wL 6) (lC (wC (.bool true)) (lC (wLst lN) lN))))))) lN)))) bN)))))
noncomputable def V_law_gone : GS := (bC (sS 2 (wCa (.ref 1007) (lC (wL 0) (lC (wC (.int 3)) lN)))) (bC (sI (tOp pEqU (wL 2) (wC (.int 0))) (bC (sS 3 (wCa (.ref 532) (lC (wTup (lC (wTup (lC (wC (.int 11)) (lC (wOp pAddU (wC (.int 97)) (wCa (.ref 1007) (lC (wL 0) (lC (wC (.int 20)) lN)))) lN))) lN)) lN))) bN) (bC (sI (tO (tOp pEqU (wL 2) (wC (.int 1))) (tO (tV (wL 1)) tF)) (bC (sS 3 (wCa (.ref 553) (lC (wCa (.ref 1007) (lC (wL 0) (lC (wC (.int 255)) lN))) (lC (wC (.int 7)) (lC (wC (.int 0)) (lC (wCa (.ref 246) lN) (lC (wCa (.ref 1007) (lC (wL 0) (lC (wC (.int 9)) lN))) (lC (wLst (lC (wCa (.ref 447) (lC (wC (.int 5)) (lC (wC (.int 1)) lN))) lN)) lN)))))))) bN) (bC (sS 4 (wLst (lC (wCa (.ref 490) (lC (wCa (.ref 1007) (lC (wL 0) (lC (wC (.int 50)) lN))) lN)) (lC (wCa (.ref 447) (lC (wC (.int 9)) (lC (wC (.int 1)) lN))) lN)))) (bC (sR (wTup (lC (wCa (.ref 574) (lC (wL 4) lN)) (lC (wTup (lC (wC (.int 0)) (lC (wC (.int 0)) (lC (wC (.int 0)) (lC (wTup lN) (lC (wC (.bool false)) (lC (wL 4) lN))))))) lN)))) bN))) bN)) (bC (sR (wTup (lC (wL 3) (lC (wTup (lC (wC (.int 0)) (lC (wC (.int 0)) (lC (wC (.int 0)) (lC (wTup lN) (lC (wC (.bool false)) (lC (wLst (lC (wL 3) lN)) lN))))))) lN)))) bN)))
noncomputable def V_law_letter : GS := (bC (sTS 4 (wIdx (wC lettersV) (wCa (.ref 1007) (lC (wL 0) (lC (wC (.int 3)) lN)))) (gsC (gN 3) (gsC (gN 4) (gsC (gN 5) (gsC (gN 6) gs0))))) (bC (sI (tOp pLt (wL 2) (wC (.int 2))) (bC (sR (wTup (lC (wCa (.ref 364) (lC (wL 1) (lC (wL 3) lN))) (lC (wTup (lC (wL 4) (lC (wL 5) (lC (wL 6) (lC (wTup lN) (lC (wC (.bool true)) (lC (wLst lN) lN))))))) lN)))) bN) bN) (bC (sI (tOp pEqU (wL 2) (wC (.int 2))) (bC (sR (wTup (lC (wCa (.ref 384) (lC (wL 1) (lC (wL 3) (lC (wTup (lC (wC (.int 97)) (lC (wC (.int 98)) lN))) lN)))) (lC (wTup (lC (wL 4) (lC (wL 5) (lC (wL 6) (lC (wTup lN) (lC (wC (.bool true)) (lC (wLst lN) lN))))))) lN)))) bN) bN) (bC (sS 7 (wCa (.ref 1014) (lC (wL 0) lN))) (bC (sR (wTup (lC (wCa (.ref 511) (lC (wLst (lC (wCa (.ref 364) (lC (wL 1) (lC (wC (.int 98)) lN))) lN)) (lC (wLst lN) (lC (wLst (lC (wCa (.ref 364) (lC (wL 1) (lC (wL 3) lN))) (lC (wCa (.ref 447) (lC (wL 7) (lC (wC (.int 0)) lN))) lN))) lN)))) (lC (wTup (lC (wOp pAddU (wL 4) (wL 7)) (lC (wL 5) (lC (wL 6) (lC (wTup lN) (lC (wC (.bool true)) (lC (wLst lN) lN))))))) lN)))) bN)))))
noncomputable def V_law_part : GS := (bC (sS 4 (wCa (.ref 1007) (lC (wL 0) (lC (wC (.int 18)) lN)))) (bC (sI (tCh pLe pLe (wC (.int 3)) (wL 4) (wC (.int 9))) (bC (sR (wCa (.ref 1042) (lC (wL 0) (lC (wL 1) (lC (wL 2) (lC (wL 4) lN)))))) bN) bN) (bC (sI (tOp pEqU (wL 4) (wC (.int 10))) (bC (sCS 5 tT (wIfE (tOp pEqU (wCa (.ref 1007) (lC (wL 1) (lC (wC (.int 3)) lN))) (wC (.int 0))) (wC .none) (wCa (.ref 1014) (lC (wL 1) lN))) 0 [none,some 0] (wB rngOf (lC (wC (.int 3)) lN))) (bC (sCS 6 tT (wIfE (tOp pIs (wL 0) (wC .none)) (wC (.int 0)) (wL 0)) 0 [none] (wL 5)) (bC (sR (wTup (lC (wCa (.ref 426) (lC (wIdx (wL 5) (wC (.int 0))) (lC (wIdx (wL 5) (wC (.int 1))) (lC (wIdx (wL 5) (wC (.int 2))) lN)))) (lC (wCa (.ref 1035) (lC (wL 1) (lC (wIdx (wL 6) (wC (.int 0))) (lC (wIdx (wL 6) (wC (.int 1))) (lC (wIdx (wL 6) (wC (.int 2))) (lC (wC (.int 0)) lN)))))) lN)))) bN))) bN) (bC (sI (tO (tOp pEqU (wL 4) (wC (.int 12))) (tO (tA (tOp pEqU (wL 4) (wC (.int 13))) (tA (tV (wL 1)) tT)) tF)) (bC (sS 7 (wIfE (tOp pEqU (wCa (.ref 1007) (lC (wL 0) (lC (wC (.int 2)) lN))) (wC (.int 0))) (wCa (.ref 490) (lC (wCa (.ref 1014) (lC (wL 0) lN)) lN)) (wCa (.ref 616) (lC (wC (.bytes [103,108])) lN)))) (bC (sR (wTup (lC (wL 7) (lC (wTup (lC (wC (.int 0)) (lC (wC (.int 0)) (lC (wC (.int 0)) (lC (wTup lN) (lC (wC (.bool false)) (lC (wLst lN) lN))))))) lN)))) bN)) bN) (bC (sI (tO (tOp pEqU (wL 4) (wC (.int 13))) (tO (tOp pEqU (wL 4) (wC (.int 14))) tF)) (bC (sS 8 (wCa (.ref 1014) (lC (wL 0) lN))) (bC (sR (wTup (lC (wIfE (tOp pEqU (wL 4) (wC (.int 13))) (wCa (.ref 595) (lC (wC (.bool true)) (lC (wL 8) lN))) (wCa (.ref 447) (lC (wL 8) (lC (wCa (.ref 1007) (lC (wL 0) (lC (wC (.int 3)) lN))) lN)))) (lC (wTup (lC (wL 8) (lC (wC (.int 0)) (lC (wC (.int 0)) (lC (wTup lN) (lC (wC (.bool true)) (lC (wLst lN) lN))))))) lN)))) bN)) bN) (bC (sI (tOp pEqU (wL 4) (wC (.int 15))) (bC (sR (wCa (.ref 1049) (lC (wL 0) (lC (wL 1) lN)))) bN) bN) (bC (sI (tOp pEqU (wL 4) (wC (.int 16))) (bC (sTW 3 (wTup (lC (wCa (.ref 1014) (lC (wL 0) lN)) (lC (wCa (.ref 1014) (lC (wL 0) lN)) (lC (wCa (.ref 1014) (lC (wL 0) lN)) lN)))) (gsC (gN 11) (gsC (gN 10) (gsC (gN 9) gs0)))) (bC (sR (wTup (lC (wCa (.ref 638) (lC (wL 9) (lC (wL 10) (lC (wL 11) (lC (wLst lN) (lC (wC (.int 1)) (lC (wCa (.ref 309) lN) lN))))))) (lC (wCa (.ref 1035) (lC (wL 1) (lC (wL 9) (lC (wL 10) (lC (wL 11) (lC (wC (.int 0)) lN)))))) lN)))) bN)) bN) (bC (sI (tA (tN (tV (wL 1))) (tA (tO (tOp pLt (wL 4) (wC (.int 3))) (tO (tOp pEqU (wL 4) (wC (.int 11))) tF)) tT)) (bC (sR (wCa (.ref 1056) (lC (wL 0) (lC (wL 3) (lC (wL 4) lN))))) bN) bN) (bC (sS 12 (wCa (.ref 1028) (lC (wL 0) lN))) (bC (sR (wTup (lC (wL 12) (lC (wCa (.ref 1035) (lC (wL 1) (lC (wA 7 (wL 12)) (lC (wA 8 (wL 12)) (lC (wA 9 (wL 12)) (lC (wA 11 (wL 12)) lN)))))) lN)))) bN))))))))))
noncomputable def V_law_top : GS := (bC (sR (wB maxL (lC (wOp pAddU (wLst (lC (wC (.int 0)) lN)) (wComp (tOp pNeU (wIdx (wL 1) (wL 0)) (wC (.int 0))) (wL 0) 0 [none,some 0] (wB rngOf (lC (wC (.int 4)) lN)))) lN))) bN)
noncomputable def V_law_bad : GS := (bC (sI (tOp pLe (wL 1) (wC (.int 0))) (bC (sR (wC (.int 10000))) bN) bN) (bC (sS 2 (wOp pDiv (wOp pMul (wC (.int 297)) (wL 0)) (wL 1))) (bC (sI (tOp pGt (wL 0) (wC (.int 7230584))) (bC (sS 2 (wIfE (tOp pGe (wL 1) (wC (.int 1663497))) (wOp pDiv (wL 0) (wOp pDiv (wL 1) (wC (.int 297)))) (wL 0))) bN) bN) (bC (sR (wIfE (tOp pGt (wL 2) (wC (.int 1290))) (wC (.int 10000)) (wOp pDiv (wOp pAddU (wOp pMul (wC (.int 2)) (wOp pPow (wL 2) (wC (.int 3)))) (wOp pPow (wC (.int 2)) (wC (.int 18)))) (wOp pPow (wC (.int 2)) (wC (.int 19)))))) bN))))
noncomputable def V_law_amount : GS := (bC (sS 5 (wCa (.ref 1007) (lC (wL 0) (lC (wC (.int 10)) lN)))) (bC (sI (tOp pEqU (wL 5) (wC (.int 9))) (bC (sR (wOp pMul (wOp pSub (wC (.int 1)) (wOp pMul (wC (.int 2)) (wCa (.ref 1007) (lC (wL 0) (lC (wC (.int 2)) lN))))) (wOp pAddU (wOp pSub (wOp pPow (wC (.int 2)) (wC (.int 30))) (wC (.int 60))) (wCa (.ref 1007) (lC (wL 0) (lC (wC (.int 64)) lN)))))) bN) bN) (bC (sS 6 (wIdx (wLst (lC (wC (.int 0)) (lC (wOp pAddU (wC (.int 1)) (wCa (.ref 1007) (lC (wL 0) (lC (wC (.int 30)) lN)))) (lC (wOp pSub (wNeg (wC (.int 1))) (wCa (.ref 1007) (lC (wL 0) (lC (wC (.int 30)) lN)))) (lC (wNeg (wIdx (wL 4) (wC (.int 0)))) (lC (wOp pSub (wOp pSub (wNeg (wIdx (wL 4) (wC (.int 0)))) (wC (.int 1))) (wCa (.ref 1007) (lC (wL 0) (lC (wC (.int 3)) lN)))) (lC (wIdx (wL 3) (wC (.int 0))) (lC (wCa (.ref 1014) (lC (wL 0) lN)) (lC (wC (.int 0)) (lC (wC (.int 0)) lN)))))))))) (wL 5))) (bC (sI (tOp pGt (wL 5) (wC (.int 6))) (bC (sS 6 (wOp pMul (wOp pMul (wOp pSub (wOp pMul (wC (.int 2)) (wL 5)) (wC (.int 15))) (wC (.int 65536))) (wCa (.ref 1007) (lC (wL 0) (lC (wC (.int 400)) lN))))) bN) bN) (bC (sR (wIfE (tOp pEqU (wL 1) (wC (.int 1))) (wL 6) (wOp pAddU (wL 2) (wL 6)))) bN)))))
noncomputable def V_law_told : GS := (bC (sS 3 (wIfE (tOp pGt (wL 0) (wC (.int 0))) (wL 1) (wL 2))) (bC (sS 4 (wCa (.ref 1066) (lC (wL 3) lN))) (bC (sS 5 (wIdx (wL 3) (wL 4))) (bC (sS 6 (wTup (lC (wC (.int 0)) (lC (wC (.int 0)) lN)))) (bC (sI (tA (tOp pEqU (wL 4) (wC (.int 0))) (tA (tOp pGt (wL 0) (wC (.int 0))) tT)) (bC (sS 6 (wTup (lC (wC (.int 1)) (lC (wCa (.ref 1073) (lC (wL 0) (lC (wL 5) lN))) lN)))) bN) (bC (sI (tA (tOp pEqU (wL 4) (wC (.int 0))) (tA (tOp pLt (wL 0) (wC (.int 0))) tT)) (bC (sS 6 (wIfE (tOp pLt (wL 5) (wNeg (wL 0))) (wTup (lC (wC (.int 3)) (lC (wOp pSub (wNeg (wL 0)) (wL 5)) lN))) (wTup (lC (wC (.int 2)) (lC (wCa (.ref 1073) (lC (wNeg (wL 0)) (lC (wL 5) lN))) lN))))) bN) bN) bN)) (bC (sI (tO (tOp pEqU (wL 0) (wC (.int 0))) (tO (tOp pEqU (wL 5) (wC (.int 0))) tF)) (bC (sR (wTup (lC (wC (.int 0)) (lC (wC (.int 0)) (lC (wC (.int 0)) (lC (wC (.int 1)) (lC (wL 6) lN))))))) bN) bN) (bC (sI (tOp pEqU (wIdx (wL 6) (wC (.int 0))) (wC (.int 3))) (bC (sR (wTup (lC (wC (.int 2)) (lC (wC (.int 0)) (lC (wC (.int 1)) (lC (wC (.int 1)) (lC (wL 6) lN))))))) bN) bN) (bC (sR (wTup (lC (wIfE (tOp pGt (wL 0) (wC (.int 0))) (wC (.int 1)) (wC (.int 2))) (lC (wL 4) (lC (wB qAbs (lC (wL 0) lN)) (lC (wL 5) (lC (wL 6) lN))))))) bN))))))))
noncomputable def V_law_near : GS := (bC (sS 3 (wOp pMul (wC (.int 2)) (wB qAbs (lC (wOp pSub (wOp pMul (wL 0) (wL 2)) (wL 1)) lN)))) (bC (sR (wOr (wOp pLt (wL 3) (wB qAbs (lC (wL 2) lN))) (wAnd (wOp pEqU (wL 3) (wB qAbs (lC (wL 2) lN))) (wOp pGt (wB qAbs (lC (wOp pMul (wL 0) (wL 2)) lN)) (wB qAbs (lC (wL 1) lN)))))) bN))
noncomputable def V_law_placed : GS := (bC (sS 5 (wCa (.ref 782) (lC (wL 0) lN))) (bC (sTS 3 (wTup (lC (wC (.int 0)) (lC (wC (.int 0)) (lC (wC (.int 0)) lN)))) (gsC (gN 6) (gsC (gN 7) (gsC (gN 8) gs0)))) (bC (sI (tO (tOp pNeU (wB len1 (lC (wL 5) lN)) (wOp pAddU (wB len1 (lC (wL 1) lN)) (wC (.int 1)))) (tO (tOp pNeU (wIdx (wL 5) (wC (.int 0))) (wC (.int 0))) tF)) (bC (sR (wC (.bool false))) bN) bN) (bC (sF 9 (wB rngOf (lC (wB len1 (lC (wL 1) lN)) lN)) (bC (sTS 6 (wIdx (wL 1) (wL 9)) (gsC (gN 10) (gsC (gN 11) (gsC (gN 12) (gsC (gN 13) (gsC (gN 14) (gsC (gN 15) gs0))))))) (bC (sS 6 (wOp pAddU (wL 6) (wL 10))) (bC (sI (tA (tOp pNeU (wL 13) (wTup lN)) (tA (tOp pEqU (wIdx (wL 2) (wC (.int 0))) (wC (.int 1))) (tA (tOp pEqU (wIdx (wL 13) (wC (.int 1))) (wIdx (wL 2) (wC (.int 1)))) tT))) (bC (sS 7 (wOp pAddU (wL 7) (wIdx (wL 13) (wC (.int 0))))) bN) bN) (bC (sI (tA (tOp pNeU (wL 13) (wTup lN)) (tA (tOp pEqU (wIdx (wL 2) (wC (.int 0))) (wC (.int 2))) (tA (tOp pEqU (wIdx (wL 13) (wC (.int 3))) (wIdx (wL 2) (wC (.int 1)))) tT))) (bC (sS 7 (wOp pSub (wL 7) (wIdx (wL 13) (wC (.int 2))))) bN) bN) (bC (sI (tN (tV (wCa (.ref 1094) (lC (wOp pSub (wIdx (wL 5) (wOp pAddU (wL 9) (wC (.int 1)))) (wL 6)) (lC (wOp pMul (wIdx (wL 2) (wC (.int 2))) (wL 7)) (lC (wIdx (wL 2) (wC (.int 3))) lN)))))) (bC (sR (wC (.bool false))) bN) bN) (bC (sI (tOp pNeU (wL 13) (wTup lN)) (bC (sTS 2 (wCa (.ref 768) (lC (wL 0) (lC (wL 8) (lC (wA 21 (wIdx (wA 10 (wL 0)) (wL 9))) lN)))) (gsC (gN 16) (gsC (gN 8) gs0))) (bC (sI (tO (tOp pNeU (wL 16) (wOp pSub (wIdx (wL 5) (wOp pAddU (wL 9) (wC (.int 1)))) (wIdx (wL 5) (wL 9)))) (tO (tOp pNeU (wL 8) (wL 7)) tF)) (bC (sR (wC (.bool false))) bN) bN) bN)) bN) bN))))))) (bC (sI (tOp pEqU (wIdx (wL 2) (wC (.int 0))) (wC (.int 0))) (bC (sR (wOp pEqU (wIdx (wL 5) (wNeg (wC (.int 1)))) (wL 3))) bN) bN) (bC (sR (wOp pEqU (wIdx (wL 5) (wNeg (wC (.int 1)))) (wOp pAddU (wL 3) (wIfE (tOp pNeU (wIdx (wIdx (wL 2) (wC (.int 4))) (wC (.int 0))) (wC (.int 3))) (wL 4) (wOp pAddU (wL 4) (wIdx (wIdx (wL 2) (wC (.int 4))) (wC (.int 1)))))))) bN))))))
noncomputable def V_is_size : GS := (bC (sR (wCa (.ref 101) (lC (wL 0) (lC (wNeg (wC (.int 1073741823))) (lC (wC (.int 1073741823)) lN))))) bN)
noncomputable def V_check_sizes : GS := (bC (sF 1 (wL 0) (bC (sI (tN (tV (wCa (.ref 836) (lC (wL 1) lN)))) bD bN) bN)) bN)
noncomputable def V_check_chars : GS := (bC (sFI (wL 0) (gsC (gN 2) (gsC (gN 3) gs0)) (bC (sI (tO (tN (tV (wCa (.ref 101) (lC (wL 2) (lC (wC (.int 0)) (lC (wC (.int 255)) lN)))))) (tO (tN (tV (wB isiS (lC (wL 3) (lC (wC (.val (.type "tuple"))) lN))))) (tO (tOp pNeU (wB len1 (lC (wL 3) lN)) (wC (.int 6))) tF))) bD bN) (bC (sE (wCa (.ref 843) (lC (wUptoT 6 4 (wL 3)) lN))) (bC (sTW 2 (wTup (lC (wIdx (wL 3) (wC (.int 4))) (lC (wIdx (wL 3) (wC (.int 5))) lN))) (gsC (gN 5) (gsC (gN 4) gs0))) (bC (sI (tN (tV (wCa (.ref 101) (lC (wL 4) (lC (wC (.int 0)) (lC (wC (.int 3)) lN)))))) bD bN) (bC (sI (tOp pEqU (wL 4) (wC (.int 3))) (bC (sE (wCa (.ref 850) (lC (wL 5) (lC (wL 0) lN)))) bN) (bC (sI (tO (tN (tV (wCa (.ref 101) (lC (wL 5) (lC (wC (.int 0)) (lC (wC (.int 255)) lN)))))) (tO (tA (tOp pEqU (wL 4) (wC (.int 1))) (tA (tOp pGe (wL 5) (wL 1)) tT)) tF)) bD bN) bN)) bN)))))) bN)
noncomputable def V_check_larger : GS := (bC (sFK 1 (wL 0) (bC (sTW 2 (wTup (lC (wL 1) (lC (wC (.int 0)) lN))) (gsC (gN 3) (gsC (gN 2) gs0))) (bC (sW (tA (tHas (wL 2) (wL 0)) (tA (tOp pEqU (wIdx (wIdxD (wL 0) (wL 2)) (wC (.int 4))) (wC (.int 2))) tT))) bN))) bN)
noncomputable def V_check_program : GS := (bC (sS 4 (wB len1 (lC (wL 0) lN))) (bC (sFE (lC (wL 0) lN)) bN))
noncomputable def V_left_start : GS := (bC (sI (tOp pEqU (wB len1 (lC (wL 0) lN)) (wC (.int 0))) (bC (sR (wNeg (wC (.int 1)))) bN) bN) (bC (sTS 4 (wIdx (wL 0) (wNeg (wC (.int 1)))) (gsC (gN 1) (gsC (gN 2) (gsC (gN 3) (gsC (gN 4) gs0))))) (bC (sR (wIfE (tOp pEqU (wL 1) (wC (.int 255))) (wOp pAddU (wOp pMul (wC (.int 256)) (wL 3)) (wL 4)) (wNeg (wC (.int 1))))) bN)))
noncomputable def V_Font_init : GS := (bC (sI (tO (tN (tV (wCa (.ref 101) (lC (wL 1) (lC (wC (.int 1)) (lC (wC (.int 255)) lN)))))) (tO (tN (tV (wB isiS (lC (wL 2) (lC (wC (.val (.type "str"))) lN))))) (tO (tOp pEqU (wL 2) (wC (.str (S "")))) (tO (tN (tV (wCa (.ref 101) (lC (wL 3) (lC (wC (.int 1)) (lC (wC (.int 134217727)) lN)))))) tF)))) bD bN) (bC (sI (tO (tN (tV (wCa (.ref 101) (lC (wL 8) (lC (wC (.int 0)) (lC (wC (.int 256)) lN)))))) (tO (tOp pGt (wB len1 (lC (wL 4) lN)) (wC (.int 64))) tF)) bD bN) (bC (sE (wCa (.ref 843) (lC (wL 4) lN))) (bC (sE (wCa (.ref 843) (lC (wL 7) lN))) (bC (sE (wCa (.ref 857) (lC (wL 5) (lC (wB len1 (lC (wL 6) lN)) lN)))) (bC (sE (wCa (.ref 864) (lC (wL 5) lN))) (bC (sE (wCa (.ref 871) (lC (wL 6) (lC (wL 7) (lC (wL 5) (lC (wL 8) lN)))))) (bC (sSA 0 (wL 0) (wL 1)) (bC (sSA 38 (wL 0) (wL 2)) (bC (sSA 28 (wL 0) (wL 3)) (bC (sSA 39 (wL 0) (wL 3)) (bC (sSA 40 (wL 0) (wC (.int 0))) (bC (sSA 41 (wL 0) (wB lstOf (lC (wL 4) lN))) (bC (sSA 37 (wL 0) (wB dctOf (lC (wL 5) lN))) (bC (sSA 42 (wL 0) (wB tupOf (lC (wL 6) lN))) (bC (sSA 43 (wL 0) (wB tupOf (lC (wL 7) lN))) (bC (sSA 44 (wL 0) (wL 8)) (bC (sSA 45 (wL 0) (wCa (.ref 878) (lC (wL 6) lN))) (bC (sSA 46 (wL 0) (wC (.int 45))) (bC (sSA 47 (wL 0) (wNeg (wC (.int 1)))) bN))))))))))))))))))))
noncomputable def V_Font_width : GS := (bC (sR (wIdx (wGetD (wA 37 (wL 0)) (lC (wL 1) (lC (wC nocharV) lN))) (wC (.int 0)))) bN)
noncomputable def V_Font_height : GS := (bC (sR (wIdx (wGetD (wA 37 (wL 0)) (lC (wL 1) (lC (wC nocharV) lN))) (wC (.int 1)))) bN)
noncomputable def V_Font_depth : GS := (bC (sR (wIdx (wGetD (wA 37 (wL 0)) (lC (wL 1) (lC (wC nocharV) lN))) (wC (.int 2)))) bN)
noncomputable def V_font_name : GS := (bC (sS 1 (wOp pSub (wL 0) (wC (.int 1)))) (bC (sS 2 (wIdxS (wC (.str (S "abcdefghjklmnopqrstuvwxyz"))) (wOp pMod (wL 1) (wC (.int 25))))) (bC (sW (tOp pGe (wL 1) (wC (.int 25)))) (bC (sR (wOp pAddU (wC (.str (S "f"))) (wL 2))) bN))))
noncomputable def V_font_of_rows : GS := (bC (sI (tN (tV (wCa (.ref 101) (lC (wL 0) (lC (wC (.int 1)) (lC (wC (.int 255)) lN)))))) bD bN) (bC (sS 6 wDct0) (bC (sF 7 (wL 1) (bC (sI (tO (tN (tCh pLe pLe (wC (.int 4)) (wB len1 (lC (wL 7) lN)) (wC (.int 7)))) (tO (tHas (wIdx (wL 7) (wC (.int 0))) (wL 6)) tF)) bD bN) (bC (sSD (wL 6) (wIdx (wL 7) (wC (.int 0))) (wSliceT 7 1 7 (wOp pAddU (wB tupOf (lC (wL 7) lN)) (wTup (lC (wC (.int 0)) (lC (wC (.int 0)) (lC (wC (.int 0)) lN))))))) bN))) (bC (sR (wCa (.ref 968) (lC (wL 0) (lC (wCa (.ref 979) (lC (wL 0) lN)) (lC (wC (.int 655360)) (lC (wL 2) (lC (wFz (wL 6)) (lC (wL 3) (lC (wL 4) (lC (wL 5) lN)))))))))) bN))))
noncomputable def V_law_H : GS := (bC (sI (tO (tOp pNeU (wTup (lC (wA 12 (wL 23)) (lC (wA 13 (wL 23)) (lC (wA 11 (wL 23)) lN)))) (wTup (lC (wIdx (wL 28) (wC (.int 0))) (lC (wIdx (wL 28) (wC (.int 1))) (lC (wC (.int 0)) lN))))) (tO (tOp pLe (wIdx (wA 14 (wL 23)) (wC (.int 1))) (wC (.int 0))) (tO (tOp pNeU (wOp pMul (wIdx (wA 14 (wL 23)) (wC (.int 0))) (wIdx (wL 28) (wC (.int 3)))) (wOp pMul (wIdx (wL 28) (wC (.int 2))) (wIdx (wA 14 (wL 23)) (wC (.int 1))))) tF))) (bC (sR (wC (.bool false))) bN) bN) (bC (sR (wCa (.ref 1101) (lC (wL 23) (lC (wL 9) (lC (wL 28) (lC (wL 13) (lC (wOp pSub (wL 21) (wL 19)) lN))))))) bN))
noncomputable def V_law_G : GS := (bC (sS 28 (wCa (.ref 1087) (lC (wOp pSub (wL 21) (wL 19)) (lC (wL 14) (lC (wL 15) lN))))) (bC (sI (tO (tOp pNeU (wTup (lC (wA 6 (wL 23)) (lC (wA 7 (wL 23)) (lC (wA 8 (wL 23)) (lC (wA 9 (wL 23)) lN))))) (wL 27)) (tO (tOp pNeU (wL 24) (wIfE (tOp pNeU (wL 9) (wLst lN)) (wIdx (wL 28) (wC (.int 4))) (wTup (lC (wC (.int 0)) (lC (wC (.int 0)) lN))))) tF)) (bC (sR (wC (.bool false))) bN) bN) V_law_H))
noncomputable def V_law_F : GS := (bC (sTW 2 (wTup (lC (wB maxL (lC (wOp pAddU (wLst (lC (wC (.int 0)) lN)) (wComp tT (wIdx (wL 0) (wC (.int 1))) 0 [none] (wL 9))) lN)) (lC (wB maxL (lC (wOp pAddU (wLst (lC (wC (.int 0)) lN)) (wComp tT (wIdx (wL 0) (wC (.int 2))) 0 [none] (wL 9))) lN)) lN))) (gsC (gN 26) (gsC (gN 25) gs0))) (bC (sS 27 (wIfE (tV (wL 3)) (wTup (lC (wC (.int 3)) (lC (wL 25) (lC (wL 21) (lC (wL 18) lN))))) (wTup (lC (wC (.int 2)) (lC (wL 21) (lC (wL 25) (lC (wL 26) lN))))))) V_law_G))
noncomputable def V_law_E : GS := (bC (sI (tO (tOp pGe (wB qMax (lC (wB qAbs (lC (wL 21) lN)) (lC (wB qAbs (lC (wL 20) lN)) lN))) (wOp pPow (wC (.int 2)) (wC (.int 30)))) (tO (tOp pNeU (wCa (.ref 668) (lC (wA 10 (wL 23)) lN)) (wL 11)) (tO (tA (tOp pIsN (wL 7) (wC .none)) (tA (tOp pNeU (wCa (.ref 668) (lC (wFz (wL 7)) lN)) (wL 12)) tT)) tF))) (bC (sR (wC (.bool false))) bN) bN) V_law_F)
noncomputable def V_law_K : GS := (bC (sCS 22 tT (wIdx (wL 0) (wC (.int 0))) 0 [none] (wL 6)) (bC (sTry' 2 (wIfE (tV (wL 3)) (wCa (.ref 819) (lC (wL 22) (lC (wL 4) (lC (wL 20) (lC (wL 16) lN))))) (wCa (.ref 811) (lC (wL 22) (lC (wL 4) (lC (wL 20) (lC (wL 7) lN)))))) (gsC (gN 23) (gsC (gN 24) gs0)) (bC (sR (wAnd (wOp pGe (wB qMax (lC (wB qAbs (lC (wL 21) lN)) (lC (wB qAbs (lC (wL 20) lN)) lN))) (wOp pPow (wC (.int 2)) (wC (.int 30)))) (wOr (wOp pIs (wL 7) (wC .none)) (wOp pEqU (wCa (.ref 668) (lC (wFz (wL 7)) lN)) (wCa (.ref 668) (lC (wLst (lC (wCa (.ref 490) (lC (wC (.int 77)) lN)) lN)) lN)))))) bN)) V_law_E))
noncomputable def V_law_D : GS := (bC (sS 20 (wCa (.ref 1080) (lC (wL 1) (lC (wL 4) (lC (wL 19) (lC (wL 14) (lC (wL 15) lN))))))) (bC (sS 21 (wIfE (tOp pEqU (wL 4) (wC (.int 1))) (wOp pAddU (wL 19) (wL 20)) (wL 20))) V_law_K))
noncomputable def V_law_J : GS := (bC (sS 18 (wIfE (tV (wL 3)) (wB qMin (lC (wL 17) (lC (wL 16) lN))) (wC (.int 0)))) (bC (sS 19 (wOp pSub (wL 13) (wL 18))) V_law_D))
noncomputable def V_law_C : GS := (bC (sS 13 (wB sum1 (lC (wComp tT (wIdx (wL 0) (wC (.int 0))) 0 [none] (wL 9)) lN))) (bC (sCS 14 tT (wB sum1 (lC (wComp (tA (tOp pNeU (wIdx (wL 0) (wC (.int 3))) (wTup lN)) (tA (tOp pEqU (wIdx (wIdx (wL 0) (wC (.int 3))) (wC (.int 1))) (wL 1)) tT)) (wIdx (wIdx (wL 0) (wC (.int 3))) (wC (.int 0))) 0 [none,some 0] (wL 1)) lN)) 0 [none,some 9] (wB rngOf (lC (wC (.int 4)) lN))) (bC (sCS 15 tT (wB sum1 (lC (wComp (tA (tOp pNeU (wIdx (wL 0) (wC (.int 3))) (wTup lN)) (tA (tOp pEqU (wIdx (wIdx (wL 0) (wC (.int 3))) (wC (.int 3))) (wL 1)) tT)) (wIdx (wIdx (wL 0) (wC (.int 3))) (wC (.int 2))) 0 [none,some 0] (wL 1)) lN)) 0 [none,some 9] (wB rngOf (lC (wC (.int 4)) lN))) (bC (sS 16 (wIdx (wLst (lC (wOp pSub (wOp pPow (wC (.int 2)) (wC (.int 30))) (wC (.int 1))) (lC (wC (.int 3)) (lC (wC (.int 0)) lN)))) (wCa (.ref 1007) (lC (wL 1) (lC (wC (.int 3)) lN))))) (bC (sS 17 (wIdx (wOp pAddU (wLst (lC (wC (.int 0)) lN)) (wComp (tV (wIdx (wL 0) (wC (.int 4)))) (wIdx (wL 0) (wC (.int 2))) 0 [none] (wL 9))) (wNeg (wC (.int 1))))) V_law_J)))))
noncomputable def V_law_M : GS := (bC (sS 11 (wCa (.ref 668) (lC (wComp tT (wIdx (wL 0) (wC (.int 0))) 0 [none] (wL 8)) lN))) (bC (sS 12 (wCa (.ref 668) (lC (wOp pAddU (wLst (lC (wCa (.ref 490) (lC (wC (.int 77)) lN)) lN)) (wL 10)) lN))) V_law_C))
noncomputable def V_law_B : GS := (bC (sCS 8 (tO (tOp pIs (wL 1) (wC .none)) (tO (tV (wIdx (wIdx (wL 0) (wC (.int 1))) (wC (.int 4)))) (tO (tOp pEqU (wIdx (wIdx (wL 0) (wC (.int 1))) (wC (.int 5))) (wLst lN)) tF))) (wL 0) 0 [none,some 7] (wL 6)) (bC (sS 9 (wComp tT (wIdx (wL 0) (wC (.int 1))) 0 [none] (wL 8))) (bC (sS 10 (wIfE (tOp pIsN (wL 7) (wC .none)) (wComp2 (wIdx (wIdx (wL 0) (wC (.int 1))) (wC (.int 5))) (wL 1) 0 1 [none,none] (wL 6)) (wLst lN))) V_law_M)))
noncomputable def V_law_N : GS := (bC (sS 7 (wIfE (tO (tV (wL 3)) (tO (tOp pEqU (wCa (.ref 1007) (lC (wL 1) (lC (wC (.int 3)) lN))) (wC (.int 0))) tF)) (wC .none) (wCell (lC (wCa (.ref 490) (lC (wC (.int 77)) lN)) lN)))) V_law_B)
noncomputable def V_law : GS := (bC (sS 1 (wCa (.ref 1000) (lC (wL 0) lN))) (bC (sS 2 (wCa (.ref 989) (lC (wC (.int 1)) (lC (wC lettersV) lN)))) (bC (sTS 3 (wTup (lC (wOp pEqU (wCa (.ref 1007) (lC (wL 1) (lC (wC (.int 2)) lN))) (wC (.int 1))) (lC (wCa (.ref 1007) (lC (wL 1) (lC (wC (.int 2)) lN))) (lC (wIdx (wLst (lC (wC (.int 1)) (lC (wC (.int 4)) lN))) (wCa (.ref 1007) (lC (wL 1) (lC (wC (.int 2)) lN)))) lN)))) (gsC (gN 3) (gsC (gN 4) (gsC (gN 5) gs0)))) (bC (sCS 6 tT (wCa (.ref 1061) (lC (wL 2) (lC (wL 4) (lC (wL 3) (lC (wL 1) lN))))) 0 [none,some 2,some 1,some 5,some 3] (wB rngOf (lC (wOp pAddU (wC (.int 3)) (wCa (.ref 1007) (lC (wL 1) (lC (wC (.int 11)) lN)))) lN))) V_law_N))))
theorem addU {C : Cx} : PA C (binaryOp .Add) pAddU := by
  intro va vb kk hp
  unfold pAddU at hp
  split at hp
  · exact oAdd.up _ _ kk hp
  · exact oAddS.up _ _ kk hp
  · exact aAdd _ _ kk hp
theorem eqU {C : Cx} (hC : C.Ok) : PA C (compareOp .Eq) pEqU := by
  intro va vb kk hp
  unfold pEqU at hp
  split at hp
  · exact oEq.up _ _ kk hp
  · exact oEqB.up _ _ kk hp
  · exact oEqS.up _ _ kk hp
  · exact aEqD hC _ _ kk hp
theorem neU {C : Cx} (hC : C.Ok) : PA C (compareOp .NotEq) pNeU := by
  intro va vb kk hp
  unfold pNeU at hp
  split at hp
  · exact oNe.up _ _ kk hp
  · exact aNeD hC _ _ kk hp
structure Rc where
  l : List Str
  sc : Scope
  md : Nat
  q : Bool
  t : Bool
structure Inv (C : Cx) (G : Gx) (n : Nat) (r : Rc) : Prop where
  c : Ct C G n r.l r.sc
  f : ∀ y,(r.sc.names.lookup y = some .cell ∨ r.sc.names.lookup y = some .free) → (C.env.cells.lookup y).isSome = true ∧ C.env.kindOf y ≠ some .local
  q : r.q = true → G.q = true
  s : r.t = true → C.env.scope = r.sc
  t : r.md = 6 → r.t = true → C.frs = [C.env] ∧ C.env.frame = some C.L
  v : r.md = 3 → 2 ≤ n
noncomputable section
noncomputable abbrev RE (r : Rc) (e : Expr) : Type := {w : GE // ∀ C G n,Inv C G n r → SE C e (w G n)}
noncomputable abbrev RT (r : Rc) (e : Expr) : Type := {w : GT // ∀ C G n,Inv C G n r → ST C e (w G n)}
noncomputable abbrev RL (r : Rc) (es : List Expr) : Type := {w : GL // (∀ C G n,Inv C G n r → SL C es (w G n)) ∧ es.all notStar = true}
noncomputable def gBin : (o : Operator) → Option {p : P2 // ∀ C,PA C (binaryOp o) p}
  | .Add => some ⟨pAddU,fun _ => addU⟩
  | .Sub => some ⟨pSub,fun _ => oSub.up⟩
  | .Mult => some ⟨pMul,fun _ => oMul.up⟩
  | .FloorDiv => some ⟨pDiv,fun _ => oDiv.up⟩
  | .Mod => some ⟨pMod,fun _ => oMod.up⟩
  | .Pow => some ⟨pPow,fun _ => oPow.up⟩
  | _ => none
noncomputable def gCmp : (o : CmpOp) → Option {p : P2 // ∀ C : Cx,C.Ok → PA C (compareOp o) p}
  | .Lt => some ⟨pLt,fun _ _ => oLt.up⟩
  | .Gt => some ⟨pGt,fun _ _ => oGt.up⟩
  | .LtE => some ⟨pLe,fun _ _ => oLe.up⟩
  | .GtE => some ⟨pGe,fun _ _ => oGe.up⟩
  | .Eq => some ⟨pEqU,fun _ h => eqU h⟩
  | .NotEq => some ⟨pNeU,fun _ h => neU h⟩
  | .Is => some ⟨pIs,fun _ _ => oIs.up⟩
  | .IsNot => some ⟨pIsN,fun _ _ => oIsNot.up⟩
  | _ => none
noncomputable def gCh : (o : CmpOp) → Option {p : P2 // ∀ C,PO C (compareOp o) p}
  | .Lt => some ⟨pLt,fun _ => oLt⟩
  | .LtE => some ⟨pLe,fun _ => oLe⟩
  | _ => none
theorem gTl {y : Str} {v : Option Value} (h : gTab.lookup y = some v) (P : Params) : nsIn (K P) mainGlobals y = some v := beq_iff_eq.mp (List.all_eq_true.mp (gTab_ok P) (y,v) (lookup_mem' h))
inductive BK where
  | abs | len | int | tuple | range | sum | max | min | bytes | list | dict | isinstance | enumerate | bool | str
noncomputable def BK.val : BK → Value
  | .abs => .builtin "abs" | .len => .builtin "len" | .int => .type "int" | .tuple => .type "tuple" | .range => .type "range" | .sum => .builtin "sum" | .max => .builtin "max" | .min => .builtin "min"
  | .bytes => .type "bytes" | .list => .type "list" | .dict => .type "dict" | .isinstance => .builtin "isinstance" | .enumerate => .type "enumerate" | .bool => .type "bool" | .str => .type "str"
theorem BK.keep (b : BK) : keeperOf b.val = pure .machine := by cases b <;> rfl
noncomputable def bTab : List (Str × BK) := [(S "abs",.abs),(S "len",.len),(S "int",.int),(S "tuple",.tuple),(S "range",.range),(S "sum",.sum),(S "max",.max),(S "min",.min),(S "bytes",.bytes),(S "list",.list),(S "dict",.dict),(S "isinstance",.isinstance),(S "enumerate",.enumerate),(S "bool",.bool),(S "str",.str)]
theorem bTab_ok : (bTab.all fun p => bootBuiltins p.1 == some p.2.val && !(p.1 == ("__name__" : Str))) = true := by kernel_rfl
theorem bTl {y : Str} {b : BK} (h : bTab.lookup y = some b) : bootBuiltins y = some b.val ∧ y ≠ "__name__" := by
  have := List.all_eq_true.mp bTab_ok (y,b) (lookup_mem' h)
  rw [Bool.and_eq_true,Bool.not_eq_true',beq_iff_eq,beq_eq_false_iff_ne] at this
  exact this
noncomputable def gGi (r : Rc) (y : Str) : Bool := r.sc.names.lookup y == some .globalImplicit && !(y == ("__debug__" : Str))
theorem gGi_ok {r : Rc} {y : Str} (h : gGi r y = true) : r.sc.names.lookup y = some .globalImplicit ∧ (y == ("__debug__" : Str)) = false := by
  unfold gGi at h
  rw [Bool.and_eq_true,beq_iff_eq,Bool.not_eq_true'] at h
  exact h
noncomputable def gB (r : Rc) (y : Str) (p : Pos) : Option {b : BK // ∀ C G n,Inv C G n r → SN C (.Name y p) b.val} :=
  match h : gTab.lookup y with
  | some none => match hb : bTab.lookup y with
    | some b => if hx : gGi r y = true then some ⟨b,fun C G n I => gb I.c (gTl h) ⟨bTl hb,(gGi_ok hx).2⟩ (gGi_ok hx).1⟩ else none
    | none => none
  | _ => none
noncomputable def gFn (r : Rc) (y : Str) (p : Pos) : Option {a : Addr // (∀ C G n,Inv C G n r → SN C (.Name y p) (.ref a)) ∧ ∀ P,keepIn (K P) (.ref a) = true} :=
  match h : gTab.lookup y with
  | some (some (.ref a)) => if hx : gGi r y = true then (if hk : kTab.contains (.ref a) = true then some ⟨a,fun C G n I => gv I.c (gTl h) (gGi_ok hx).1 (gGi_ok hx).2,fun P => List.all_eq_true.mp (kTab_ok P) _ (List.contains_iff_mem.mp hk)⟩ else none) else none
  | _ => none
noncomputable def gGl (r : Rc) (y : Str) (p : Pos) : Option (RE r (.Name y p)) :=
  if hx : gGi r y = true then (match h : gTab.lookup y with
    | some (some (.int i _)) => some ⟨wC (.int i),fun C G n I => gi I.c (gTl h) (gGi_ok hx).1 (gGi_ok hx).2⟩
    | some (some (.str s _)) => some ⟨wC (.str s),fun C G n I => gd I.c (gTl h) (fun _ _ _ => rv_str.mpr ⟨_,rfl⟩) (gGi_ok hx).1 (gGi_ok hx).2⟩
    | some (some (.ref a)) => if e : a = 828 then some ⟨wC nocharV,fun C G n I => gd I.c (gTl (by rw [h,e])) (nochar_ I.c.i) (gGi_ok hx).1 (gGi_ok hx).2⟩ else
      if e : a = 993 then some ⟨wC lettersV,fun C G n I => gd I.c (gTl (by rw [h,e])) (letters_ I.c.i) (gGi_ok hx).1 (gGi_ok hx).2⟩ else
      some ⟨wC (.val (.ref a)),fun C G n I => gv I.c (gTl h) (gGi_ok hx).1 (gGi_ok hx).2⟩
    | _ => none) else none
noncomputable def gName (r : Rc) (y : Str) (p : Pos) : Option (RE r (.Name y p)) :=
  match r.l.idxOf? y with
  | some i => if h : ((r.l[i]? == some y) && !(y == ("__debug__" : Str) || y == ("__classdict__" : Str))) = true then
      some ⟨wL i,fun C G n I => L I.c i (beq_iff_eq.mp (Bool.and_eq_true_iff.mp h).1) (Bool.not_eq_true' _ ▸ (Bool.and_eq_true_iff.mp h).2)⟩ else none
  | none => match gGl r y p with
    | some x => some x
    | none => match gB r y p with
      | some b => some ⟨wC (.val b.1.val),b.2⟩
      | none => none
noncomputable def gConst (r : Rc) (k : Nat) (p : Pos) : (v : Const) → Option (RE r (.Constant v k p))
  | .none => some ⟨wC .none,fun _ _ _ _ => sNone⟩
  | .bool b => some ⟨wC (.bool b),fun _ _ _ _ => sBool⟩
  | .int i => some ⟨wC (.int i),fun _ _ _ _ => sInt⟩
  | .str s => some ⟨wC (.str s),fun _ _ _ _ => sStr⟩
  | .bytes l => some ⟨wC (.bytes l),fun _ _ _ _ => sBytes⟩
  | _ => none
end
noncomputable section
noncomputable def isNm : Expr → Bool
  | .Name .. => true
  | _ => false
noncomputable def nmIs (e : Expr) (s : String) : Bool := match e with
  | .Name y _ => y == S s
  | _ => false
noncomputable def atIs (e : Expr) (s : String) : Bool := match e with
  | .Attribute _ y _ => y == S s
  | _ => false
noncomputable def isSl : Expr → Bool
  | .Slice .. => true
  | _ => false
noncomputable def isSet : Expr → Bool
  | .Set .. => true
  | _ => false
noncomputable def baseOk : Expr → Bool
  | .Name .. => true
  | .Attribute .. => true
  | .Subscript .. => true
  | _ => false
noncomputable def isComp : Expr → Bool
  | .ListComp .. => true
  | .SetComp .. => true
  | .DictComp .. => true
  | _ => false
noncomputable def tvOk : Expr → Bool
  | .Name .. => true
  | .Attribute .. => true
  | .Subscript .. => true
  | .Call .. => true
  | _ => false
theorem a_ev {o : Expr} {x : Str} {p : Pos} {env : Env} (h : baseOk o = true) : eval (.Attribute o x p) env = (do
      let o' ← eval o env
      standAt p.atName
      let r ← holding [o'] (getAttr o' x true)
      letTemporaryGo o o' r
      pure r) := by cases o <;> first | rfl | cases h
theorem a_base {o : Expr} {x : Str} {env : Env} {w : PySem.Sem Value} (h : baseOk o = true) : attributeBase o x env w = w := by cases o <;> first | rfl | cases h
theorem a_tv {e : Expr} {env : Env} (h : tvOk e = true) : isTrue e env (eval e env) = (do let v ← eval e env; standAt e.pos; holding [v] (truthy v)) := by cases e <;> first | rfl | cases h
theorem a_fs {e : Expr} {env : Env} (h : isSet e = false) (x : Value) : foldedSetIterable e env x = pure x := by cases e <;> first | rfl | cases h
theorem a_bm {o : CmpOp} {e : Expr} (h : isSet e = false) : behindInMarks o e = false := by cases e <;> first | rfl | cases h
theorem a_sb {i : Expr} (h : isSl i = false) (o j : Value) : subscripted i false o j = operate [o,j] (getItem o j) := by cases i <;> first | rfl | cases h
theorem a_as {i : Expr} (h : isSl i = false) (ov iv new : Value) : augStore i ov iv new = (do holding [new,ov,iv] (setItem ov iv new); release [new,ov,iv] []; pure .next) := by cases i <;> first | rfl | cases h
theorem a_lt {e : Expr} (h : isNm e = true) (o r : Value) : letTemporaryGo e o r = pure () := by cases e <;> first | rfl | cases h
theorem a_sw {e : Expr} {t : Option Expr} {k : Nat} {env : Env} (h : isComp e = false) : swapsWith e t k env = pure false := by cases e <;> first | rfl | cases h
theorem a_few {e : Expr} {es : List Expr} {env : Env} {pos : Pos} (h1 : notStar e = true) (h2 : es.all notStar = true) (h3 : Nat.blt (es.length + 1) 30 = true) :
    methodCallForm ((e :: es).length + ([] : List Keyword).length) (backTo pos (starEach (e :: es) env)) (backToKw pos (keywordEach [] env)) = true := by
  have a : (backTo pos (starEach (e :: es) env)).any (·.1) = false := sp_ (by rw [List.all_cons,h1,h2]; rfl)
  unfold methodCallForm
  rw [Bool.and_eq_true,Bool.and_eq_true]
  refine ⟨⟨List.all_eq_true.mpr fun x hx => ?_,rfl⟩,decide_eq_true (Nat.blt_eq.mp h3)⟩
  rw [List.any_eq_false] at a
  exact Bool.eq_false_iff.mpr (a x hx) ▸ rfl
theorem gt {C : Cx} {G : Gx} {n : Nat} {l : List Str} {sc : Scope} (c : Ct C G n l sc) : G.T = tb := by rw [← c.e]; exact c.i.t
theorem pT {C : Cx} {G : Gx} {n : Nat} {l : List Str} {sc : Scope} (c : Ct C G n l sc) {p : Tb → Prop} (h : p G.T) : p tb := gt c ▸ h
noncomputable def anIx (x : Str) : Option {k : Nat // Nat.blt k 64 = true ∧ anm k = x} :=
  match (List.range 64).find? fun i => anm i == x with
  | some k => if h : (Nat.blt k 64 && anm k == x) = true then some ⟨k,(Bool.and_eq_true_iff.mp h).1,beq_iff_eq.mp (Bool.and_eq_true_iff.mp h).2⟩ else none
  | none => none
noncomputable def gL {r : Rc} (f : (e : Expr) → Option (RE r e)) : (es : List Expr) → Option (RL r es)
  | [] => some ⟨lN,fun _ _ _ _ => slNil,rfl⟩
  | e :: es => if h : notStar e = true then (f e).bind fun w => (gL f es).bind fun l => some ⟨lC w.1 l.1,fun C G n I => k I.c h (w.2 C G n I) (l.2.1 C G n I),by rw [List.all_cons,h,l.2.2]; rfl⟩ else none
noncomputable def gBo {r : Rc} (f : (e : Expr) → Option (RE r e)) (op : BoolOp) (p : Pos) : (es : List Expr) → Option {w : GE // ∀ C G n,Inv C G n r → SBo C p op es (w G n)}
  | [] => none
  | [e] => (f e).bind fun w => some ⟨w.1,fun C G n I => bo1 (w.2 C G n I)⟩
  | e :: e2 :: l => (f e).bind fun w => (gBo f op p (e2 :: l)).bind fun b => match op,b with
    | .And,b => some ⟨wAnd w.1 b.1,fun C G n I => boAnd I.c.c (w.2 C G n I) (b.2 C G n I)⟩
    | .Or,b => some ⟨wOr w.1 b.1,fun C G n I => boOr I.c.c (w.2 C G n I) (b.2 C G n I)⟩
noncomputable def gTs {r : Rc} (f : (e : Expr) → Option (RT r e)) (op : BoolOp) (p : Pos) : (es : List Expr) → Option (RT r (.BoolOp op es p))
  | [] => match op with
    | .And => some ⟨tT,fun C G n I => tAnd0⟩
    | .Or => some ⟨tF,fun C G n I => tOr0⟩
  | e :: l => (f e).bind fun w => (gTs f op p l).bind fun b => match op,b with
    | .And,b => some ⟨tA w.1 b.1,fun C G n I => tAnd I.c.c (w.2 C G n I) (b.2 C G n I)⟩
    | .Or,b => some ⟨tO w.1 b.1,fun C G n I => tOr I.c.c (w.2 C G n I) (b.2 C G n I)⟩
noncomputable def gIf {r : Rc} (f : (e : Expr) → Option (RT r e)) : (es : List Expr) → Option {w : GT // ∀ C G n,Inv C G n r → STs C es (w G n)}
  | [] => some ⟨tT,fun C G n I => ts0⟩
  | [e] => (f e).bind fun w => some ⟨w.1,fun C G n I => ts1 (w.2 C G n I)⟩
  | _ => none
noncomputable def gBi (r : Rc) (es : List Expr) : (b : BK) → Option {p : List V → List Cell → KE → Prop // ∀ C G n,Inv C G n r → BO C b.val p}
  | .abs => some ⟨qAbs,fun _ _ _ _ => bAbs⟩
  | .len => some ⟨len1,fun _ _ _ _ => bLen⟩
  | .int => some ⟨intOf,fun _ _ _ _ => bInt⟩
  | .tuple => if es.any (atIs · "octets") then (if h : r.q = true then some ⟨tupOfB,fun _ _ _ I => bTupB I.c.c (hqc I.c.e (I.q h))⟩ else none) else some ⟨tupOf,fun _ _ _ _ => bTup⟩
  | .range => some ⟨rngOf,fun _ _ _ _ => bRng⟩
  | .sum => if h : r.q = true then some ⟨sum1,fun _ _ _ I => bSum I.c.c (hqc I.c.e (I.q h))⟩ else none
  | .max => if es.length == 2 then some ⟨qMax,fun _ _ _ I => bMaxX I.c.c⟩ else (if h : r.q = true then some ⟨maxL,fun _ _ _ I => bMaxL I.c.c (hqc I.c.e (I.q h))⟩ else none)
  | .min => if h : r.q = true then some ⟨qMin,fun _ _ _ I => bMin2 I.c.c (hqc I.c.e (I.q h))⟩ else none
  | .bytes => some ⟨bytOf,fun _ _ _ _ => bByt⟩
  | .list => some ⟨lstOf,fun _ _ _ _ => bLst⟩
  | .dict => some ⟨dctOf,fun _ _ _ I => bDct I.c.c⟩
  | .isinstance => if es.any (fun e => nmIs e "str" || nmIs e "tuple") then some ⟨isiS,fun _ _ _ _ => bIsiS⟩ else some ⟨isI,fun _ _ _ _ => bIsi⟩
  | _ => none
noncomputable def frees (sc : Scope) : List Str := (sc.names.filter fun p => p.2 == .free).map (·.1)
noncomputable abbrev rcIn (r : Rc) (xs : List Str) (sc : Scope) : Rc := ⟨xs ++ frees sc,sc,r.md,r.q,false⟩
noncomputable def pmOf (r : Rc) (k : Nat) (sc : Scope) : List (Option Nat) := List.replicate k none ++ (frees sc).map fun y => r.l.idxOf? y
noncomputable def compCk (r : Rc) (scope : Scope) (names' : List Str) (pm : List (Option Nat)) : Bool :=
  scope.kind == .function && (scope.names.map (·.1)).Nodup && names'.Nodup && (scope.names.all fun x => !(x.2 == .free) || (r.sc.names.lookup x.1 == some .cell || r.sc.names.lookup x.1 == some .free)) &&
  ((List.range pm.length).all fun j => match pm[j]? with
    | some (some i) => (match names'[j]?,r.l[i]? with
      | some x,some y => x == y && scope.names.lookup x == some .free && (r.sc.names.lookup x == some .cell || r.sc.names.lookup x == some .free)
      | _,_ => false)
    | _ => true)
theorem compR {C : Cx} {G : Gx} {n : Nat} {r : Rc} {scope : Scope} {names' : List Str} {pm : List (Option Nat)} (I : Inv C G n r) (h : compCk r scope names' pm = true) : CompOk C scope names' pm := by
  unfold compCk at h
  simp only [Bool.and_eq_true,beq_iff_eq,decide_eq_true_eq,List.all_eq_true,Bool.or_eq_true,Bool.not_eq_true',List.mem_range,beq_eq_false_iff_ne] at h
  obtain ⟨⟨⟨⟨h1,h2⟩,h3⟩,h4⟩,h5⟩ := h
  refine ⟨h1,h2,h3,fun x hx e => ?_,fun j i e => ?_⟩
  · rcases h4 x hx with q | q
    · exact absurd e q
    · exact (I.f _ q).1
  · have := h5 j (List.getElem?_eq_some_iff.mp e).1
    rw [e] at this
    dsimp only at this
    split at this
    · rename_i x y hx hy
      simp only [Bool.and_eq_true,beq_iff_eq,Bool.or_eq_true] at this
      obtain ⟨⟨rfl,t2⟩,t3⟩ := this
      exact ⟨x,hx,by rw [I.c.l]; exact hy,t2,(I.f _ t3).2⟩
    · cases this
theorem invIn {C C' : Cx} {G : Gx} {n : Nat} {r : Rc} {scope : Scope} {xs : List Str} {pm : List (Option Nat)} (I : Inv C G n r) (h : compCk r scope (xs ++ frees scope) pm = true) (e : C'.toGx = C.toGx) (en : C'.n = C.n) (hn : C'.names = xs ++ frees scope) (he : C'.env = cEnv C scope C'.L) (hC : C'.Ok) : Inv C' G n (rcIn r xs scope) := by
  refine ⟨ctC I.c e en hn he hC,fun y hy => ?_,I.q,(fun x => nomatch x),(fun _ x => nomatch x),I.v⟩
  have K := compR I h
  have cl : C'.env.cells = cellsFrom (C'.L + 1) scope.names (closL C.env.cells scope.names []) := by rw [he]; rfl
  have hk : C'.env.kindOf y = (cEnv C scope C'.L).scope.names.lookup y := by rw [he]; rfl
  refine ⟨?_,fun q => ?_⟩
  · rw [cl]
    rcases hy with q | q
    · exact cellsFrom_has _ _ _ _ (.inl (lookup_mem' q))
    · refine cellsFrom_has _ _ _ _ (.inr ?_)
      obtain ⟨c,hc⟩ := Option.isSome_iff_exists.mp (K.has _ (lookup_mem' q) rfl)
      rw [closL_lookup C.env.cells hc scope.names [] (.inl (lookup_mem' q))]; rfl
  · rw [hk] at q
    rcases hy with t3 | t3
    · have := relabel_cell (env := C.env) t3
      rw [show (cEnv C scope C'.L).scope.names.lookup y = _ from this] at q; cases q
    · rcases relabel_free (env := C.env) t3 with this | this <;>
        (rw [show (cEnv C scope C'.L).scope.names.lookup y = _ from this] at q; cases q)
end
noncomputable section
noncomputable def slOk (lo : Option Int) (l hi c m : Nat) : Bool :=
  let x := Builtin.Slice.sliceAdjust lo (some (hi : Int)) 1 (m : Int)
  decide (x.1 = (l : Int)) && decide (Builtin.Slice.slicePlaces x.1 x.2 1 = c) && (decide (c ≠ m) && decide (c ≤ 1000))
noncomputable def gSub (r : Rc) (a : Expr) (p : Pos) (wa : RE r a) : (i : Expr) → Option (RE r i) → Option (RE r (.Subscript a i p))
  | .Slice none (some (.Constant (.int (.ofNat h)) k0 p1)) none p2,_ =>
    if r.md == 2 then
      (if e : (isNm a && slOk none 0 h h 6) = true then some ⟨wUptoT 6 h wa.1,fun C G n I => by
        simp only [slOk,Bool.and_eq_true,decide_eq_true_eq] at e
        exact sUptoT I.c.c 6 ⟨e.2.1.1,e.2.1.2⟩ e.2.2 (wa.2 C G n I) (a_lt e.1) (fun _ _ => rfl)⟩ else none)
    else if e : isNm a = true then some ⟨wUpto h wa.1,fun C G n I => sUpto I.c.c (wa.2 C G n I) (a_lt e) (fun _ _ => rfl)⟩ else none
  | .Slice (some (.Constant (.int (.ofNat l)) k1 p1)) (some (.Constant (.int (.ofNat h)) k2 p2)) none p3,_ =>
    if e : slOk (some l) l h (h - l) 7 = true then some ⟨wSliceT 7 l h wa.1,fun C G n I => by
      simp only [slOk,Bool.and_eq_true,decide_eq_true_eq] at e
      exact sSliceT I.c.c 7 ⟨e.1.1,e.1.2⟩ e.2 (wa.2 C G n I) (fun _ _ => rfl)⟩ else none
  | i,some wi => if e : isSl i = false then
      (if nmIs a "LETTERS" || nmIs a "chars" then
        (if e2 : isNm a = true then (if nmIs a "chars" then some ⟨wIdxD wa.1 wi.1,fun C G n I => sIdxD I.c.c (wa.2 C G n I) (wi.2 C G n I) (a_sb e) (a_lt e2)⟩ else some ⟨wIdxS wa.1 wi.1,fun C G n I => sIdxS I.c.c (wa.2 C G n I) (wi.2 C G n I) (a_sb e) (a_lt e2)⟩) else none)
      else some ⟨wIdx wa.1 wi.1,fun C G n I => sIdx I.c.c (wa.2 C G n I) (wi.2 C G n I) (a_sb e)⟩) else none
  | _,_ => none
noncomputable def gCmp1 (r : Rc) (a b : Expr) (o : CmpOp) (p : Pos) (x : Option (RE r a)) (y : Option (RE r b)) : Option (RE r (.Compare a [o] [b] p)) :=
  if h : isSet b = false then (gCmp o).bind fun q => x.bind fun x => y.bind fun y => some ⟨wOp q.1 x.1 y.1,fun C G n I => sCmpA I.c.c (x.2 C G n I) (y.2 C G n I) (q.2 C I.c.c) (a_bm h)⟩ else none
noncomputable def gCmp2 (r : Rc) (a b c : Expr) (o o2 : CmpOp) (p : Pos) (x : Option (RE r a)) (y : Option (RE r b)) (z : Option (RE r c)) : Option (RE r (.Compare a [o,o2] [b,c] p)) :=
  if h : isSet c = false then (gCh o).bind fun q => (gCh o2).bind fun q2 => x.bind fun x => y.bind fun y => z.bind fun z => some ⟨wChain q.1 q2.1 x.1 y.1 z.1,fun C G n I => sChain I.c.c (x.2 C G n I) (y.2 C G n I) (z.2 C G n I) (q.2 C) (q2.2 C) (a_bm h)⟩ else none
noncomputable def hCmp1 (r : Rc) (a b : Expr) (o : CmpOp) (p : Pos) (x : Option (RE r a)) (y : Option (RE r b)) : Option (RT r (.Compare a [o] [b] p)) :=
  if h : isSet b = false then (match o with
    | .In => x.bind fun x => y.bind fun y => some ⟨tHas x.1 y.1,fun C G n I => tIn I.c.c (x.2 C G n I) (y.2 C G n I) (a_bm h)⟩
    | o => (gCmp o).bind fun q => x.bind fun x => y.bind fun y => some ⟨tOp q.1 x.1 y.1,fun C G n I => tCmpA I.c.c (x.2 C G n I) (y.2 C G n I) (q.2 C I.c.c) (a_bm h)⟩) else none
noncomputable def hCmp2 (r : Rc) (a b c : Expr) (o o2 : CmpOp) (p : Pos) (x : Option (RE r a)) (y : Option (RE r b)) (z : Option (RE r c)) : Option (RT r (.Compare a [o,o2] [b,c] p)) :=
  if h : isSet c = false then (gCh o).bind fun q => (gCh o2).bind fun q2 => x.bind fun x => y.bind fun y => z.bind fun z => some ⟨tCh q.1 q2.1 x.1 y.1 z.1,fun C G n I => tChain I.c.c (x.2 C G n I) (y.2 C G n I) (z.2 C G n I) (q.2 C) (q2.2 C) (a_bm h)⟩ else none
noncomputable def toFz (y : Str) (e : Expr) : Bool := (y == S "Font" && nmIs e "chars") || (y == S "described_list" && nmIs e "out")
noncomputable def gFz {r : Rc} (b : Bool) {e : Expr} (w : RE r e) : RE r e := match b with
  | true => ⟨wFz w.1,fun C G n I => sFz (w.2 C G n I)⟩
  | false => w
noncomputable def gCall (r : Rc) (f : (e : Expr) → Option (RE r e)) (y : Str) (p pos : Pos) : (es : List Expr) → Option (RE r (.Call (.Name y p) es [] pos))
  | [] => (gFn r y p).bind fun a => some ⟨wCa (.ref a.1) lN,fun C G n I => ca0 I.c (a.2.1 C G n I) a.2.2⟩
  | e :: es => match gFn r y p with
    | some a => (gL (fun e => (f e).bind fun w => some (gFz (toFz y e) w)) (e :: es)).bind fun l => some ⟨wCa (.ref a.1) l.1,fun C G n I => ca I.c (a.2.1 C G n I) a.2.2 (Bool.and_eq_true_iff.mp l.2.2).1 (Bool.and_eq_true_iff.mp l.2.2).2 (l.2.1 C G n I)⟩
    | none => (gB r y p).bind fun b => (gBi r (e :: es) b.1).bind fun q => (gL f (e :: es)).bind fun l => some ⟨wB q.1 l.1,fun C G n I => bc I.c (b.2 C G n I) b.1.keep (Bool.and_eq_true_iff.mp l.2.2).1 (Bool.and_eq_true_iff.mp l.2.2).2 (l.2.1 C G n I) (q.2 C G n I)⟩
noncomputable def gMeth (r : Rc) (f : (e : Expr) → Option (RE r e)) (o : Expr) (x : Str) (ap pos : Pos) (hb : baseOk o = true) (hl : (ap.endLine == pos.line) = true) (w : RE r o) : (es : List Expr) → Nat.blt es.length 30 = true → Option (RE r (.Call (.Attribute o x ap) es [] pos))
  | [],_ => (anIx x).bind fun k => some ⟨wMe0 k.1 w.1,fun C G n I => pT I.c (p := fun T => SE C _ fun lc cells kk X => w.1 G n lc cells (fun vo c1 => methW T c1 vo k.1 fun f => Sem G n (.ref f) [vo] c1 kk X) X) (me0 I.c k.1 k.2.2 (a_base hb) hl (w.2 C G n I))⟩
  | [e],_ => if hs : notStar e = true then (f e).bind fun u =>
      if h : (x == ("append" : Str)) = true then some ⟨wApp w.1 u.1,fun C G n I => by
        obtain rfl := eq_of_beq h
        exact sAppend I.c.c (a_base hb) (a_few hs rfl rfl) hl (se_ hs) (w.2 C G n I) (u.2 C G n I)⟩
      else if h : (x == ("extend" : Str)) = true then some ⟨wExt w.1 u.1,fun C G n I => by
        obtain rfl := eq_of_beq h
        exact sExtend I.c.c (a_base hb) (a_few hs rfl rfl) hl (se_ hs) (w.2 C G n I) (u.2 C G n I)⟩
      else (anIx x).bind fun k => some ⟨wMe k.1 w.1 (lC u.1 lN),fun C G n I => pT I.c (p := fun T => SE C _ fun lc cells kk X => w.1 G n lc cells (fun vo c1 => methW T c1 vo k.1 fun f => lC u.1 lN G n lc c1 (fun vs c2 => Sem G n (.ref f) (vo :: vs) c2 kk X) X) X) (me I.c k.1 k.2.2 (a_base hb) (a_few hs rfl rfl) hl hs rfl (w.2 C G n I) (Mine.k I.c hs (u.2 C G n I) slNil))⟩ else none
  | e :: e2 :: es,h30 => (gL f (e :: e2 :: es)).bind fun l =>
      match es,l,h30 with
      | [],l,_ => if h : (x == ("get" : Str)) = true then some ⟨wGetD w.1 l.1,fun C G n I => by
          obtain rfl := eq_of_beq h
          have a := Bool.and_eq_true_iff.mp l.2.2
          exact sGetD I.c.c (a_base hb) (a_few a.1 a.2 rfl) hl (se_ a.1) (sp_ a.2) (w.2 C G n I) (l.2.1 C G n I)⟩
        else (anIx x).bind fun k => some ⟨wMe k.1 w.1 l.1,fun C G n I => by
          have a := Bool.and_eq_true_iff.mp l.2.2
          exact pT I.c (p := fun T => SE C _ fun lc cells kk X => w.1 G n lc cells (fun vo c1 => methW T c1 vo k.1 fun f => l.1 G n lc c1 (fun vs c2 => Sem G n (.ref f) (vo :: vs) c2 kk X) X) X) (me I.c k.1 k.2.2 (a_base hb) (a_few a.1 a.2 rfl) hl a.1 a.2 (w.2 C G n I) (l.2.1 C G n I))⟩
      | e3 :: es,l,h30 => (anIx x).bind fun k => some ⟨wMe k.1 w.1 l.1,fun C G n I => by
          have a := Bool.and_eq_true_iff.mp l.2.2
          exact pT I.c (p := fun T => SE C _ fun lc cells kk X => w.1 G n lc cells (fun vo c1 => methW T c1 vo k.1 fun f => l.1 G n lc c1 (fun vs c2 => Sem G n (.ref f) (vo :: vs) c2 kk X) X) X) (me I.c k.1 k.2.2 (a_base hb) (a_few a.1 a.2 h30) hl a.1 a.2 (w.2 C G n I) (l.2.1 C G n I))⟩
noncomputable abbrev RK (r : Rc) (scope : Scope) (x : Str) : Prop := compCk r scope ([x] ++ frees scope) (pmOf r 1 scope) = true ∧ (scope.names.lookup x = some .local ∨ scope.names.lookup x = some .cell)
noncomputable def rk (r : Rc) (scope : Scope) (x : Str) : Option (PLift (RK r scope x)) :=
  if h : (compCk r scope ([x] ++ frees scope) (pmOf r 1 scope) && (scope.names.lookup x == some .local || scope.names.lookup x == some .cell)) = true then some ⟨by
    rw [Bool.and_eq_true,Bool.or_eq_true,beq_iff_eq,beq_iff_eq] at h
    exact h⟩ else none
noncomputable def gComp (r : Rc) (el it : Expr) (x : Str) (px pos : Pos) (ifs : List Expr) (scope : Scope) (i : Option (RE r it)) (t : Option {w : GT // ∀ C G n,Inv C G n (rcIn r [x] scope) → STs C ifs (w G n)}) (e : Option (RE (rcIn r [x] scope) el)) : Option (RE r (.ListComp el [⟨.Name x px,it,ifs,0⟩] scope pos)) :=
  if hs : isSet it = false then (rk r scope x).bind fun K => i.bind fun i => t.bind fun t => e.bind fun e => some ⟨wComp t.1 e.1 0 (pmOf r 1 scope) i.1,fun C G n I =>
    sComp_ I.c.e I.c.c ([x] ++ frees scope) (pmOf r 1 scope) (compR I K.down.1) 0 rfl K.down.2 (a_fs hs) (i.2 C G n I) fun C' e1 n1 l1 h1 o1 => have I' := invIn I K.down.1 e1 n1 l1 h1 o1; ⟨t.2 C' G n I',e.2 C' G n I'⟩⟩ else none
noncomputable def gComp2 (r : Rc) (el it it2 : Expr) (x y : Str) (px py pos : Pos) (scope : Scope) (i : Option (RE r it)) (i2 : Option (RE (rcIn r [x,y] scope) it2)) (e : Option (RE (rcIn r [x,y] scope) el)) : Option (RE r (.ListComp el [⟨.Name x px,it,[],0⟩,⟨.Name y py,it2,[],0⟩] scope pos)) :=
  if hs : (!isSet it && !isSet it2 && compCk r scope ([x,y] ++ frees scope) (pmOf r 2 scope) && (scope.names.lookup x == some .local && scope.names.lookup y == some .local)) = true then i.bind fun i => i2.bind fun i2 => e.bind fun e => some ⟨wComp2 i2.1 e.1 0 1 (pmOf r 2 scope) i.1,fun C G n I => by
    rw [Bool.and_eq_true,Bool.and_eq_true,Bool.and_eq_true,Bool.and_eq_true,Bool.not_eq_true',Bool.not_eq_true',beq_iff_eq,beq_iff_eq] at hs
    obtain ⟨⟨⟨s1,s2⟩,K⟩,s3,s4⟩ := hs
    exact sComp2_ I.c.e I.c.c ([x,y] ++ frees scope) (pmOf r 2 scope) (compR I K) 0 1 rfl s3 rfl s4 (a_fs s1) (i.2 C G n I) fun C' e1 n1 l1 h1 o1 => have I' := invIn I K e1 n1 l1 h1 o1; ⟨i2.2 C' G n I',e.2 C' G n I',a_fs s2⟩⟩ else none
noncomputable def gLst (r : Rc) (es : List Expr) (p : Pos) (l : RL r es) : RE r (.List es p) :=
  match r.md == 1 with
  | true => ⟨wCell l.1,fun C G n I => sCell I.c.c (l.2.1 C G n I)⟩
  | false => ⟨wLst l.1,fun C G n I => sLst (l.2.1 C G n I)⟩
mutual
noncomputable def gE : (f : Nat) → (r : Rc) → (e : Expr) → Option (RE r e)
  | 0,_,_ => none
  | f + 1,r,e => match e with
    | .Constant v k p => gConst r k p v
    | .Name y p => gName r y p
    | .BinOp a op b _ => (gBin op).bind fun q => (gE f r a).bind fun x => (gE f r b).bind fun y => some ⟨wOp q.1 x.1 y.1,fun C G n I => sBinA I.c.c (x.2 C G n I) (y.2 C G n I) (q.2 C)⟩
    | .UnaryOp op a _ => (match op with
      | .USub => (gE f r a).bind fun x => some ⟨wNeg x.1,fun C G n I => sNeg (x.2 C G n I)⟩
      | .Not => (gE f r a).bind fun x => some ⟨wNot x.1,fun C G n I => sNot (x.2 C G n I)⟩
      | _ => none)
    | .Compare a ops bs p => (match ops,bs with
      | [o],[b] => gCmp1 r a b o p (gE f r a) (gE f r b)
      | [o,o2],[b,d] => gCmp2 r a b d o o2 p (gE f r a) (gE f r b) (gE f r d)
      | _,_ => none)
    | .BoolOp op es p => (gBo (gE f r) op p es).bind fun w => some ⟨w.1,fun C G n I => sBool2 (w.2 C G n I)⟩
    | .IfExp t a b _ => (gT f r t).bind fun t => (gE f r a).bind fun x => (gE f r b).bind fun y => some ⟨wIfE t.1 x.1 y.1,fun C G n I => sIfE I.c.c (t.2 C G n I) (x.2 C G n I) (y.2 C G n I)⟩
    | .Tuple es _ _ => (gL (gE f r) es).bind fun l => some ⟨wTup l.1,fun C G n I => sTup (l.2.1 C G n I)⟩
    | .List es p => (gL (gE f r) es).bind fun l => some (gLst r es p l)
    | .Dict ks vs _ => (match ks,vs with
      | [],[] => some ⟨wDct0,fun C G n I => sDct0 I.c.c⟩
      | _,_ => none)
    | .Attribute a x _ => if hb : baseOk a = true then (anIx x).bind fun k => (gE f r a).bind fun w => some ⟨wA k.1 w.1,fun C G n I => pT I.c (p := fun T => SE C _ fun lc cells kk X => w.1 G n lc cells (fun va c1 => attrV T c1 va k.1 fun v => kk v c1) X) (A I.c k.1 k.2.1 k.2.2 (w.2 C G n I) (a_ev hb))⟩ else none
    | .Subscript a i p => (gE f r a).bind fun w => gSub r a p w i (gE f r i)
    | .Call g es kw pos => (match kw,g with
      | [],.Name y p => gCall r (gE f r) y p pos es
      | [],.Attribute o x ap => if h : (baseOk o && (ap.endLine == pos.line) && Nat.blt es.length 30) = true then (gE f r o).bind fun w =>
          gMeth r (gE f r) o x ap pos (Bool.and_eq_true_iff.mp (Bool.and_eq_true_iff.mp h).1).1 (Bool.and_eq_true_iff.mp (Bool.and_eq_true_iff.mp h).1).2 w es (Bool.and_eq_true_iff.mp h).2 else none
      | _,_ => none)
    | .ListComp el gs sc pos => (match gs with
      | [⟨.Name x px,it,ifs,0⟩] => gComp r el it x px pos ifs sc (gE f r it) (gIf (gT f (rcIn r [x] sc)) ifs) (gE f (rcIn r [x] sc) el)
      | [⟨.Name x px,it,[],0⟩,⟨.Name y py,it2,[],0⟩] => gComp2 r el it it2 x y px py pos sc (gE f r it) (gE f (rcIn r [x,y] sc) it2) (gE f (rcIn r [x,y] sc) el)
      | _ => none)
    | _ => none
noncomputable def gT : (f : Nat) → (r : Rc) → (e : Expr) → Option (RT r e)
  | 0,_,_ => none
  | f + 1,r,e => match e with
    | .BoolOp op es p => gTs (gT f r) op p es
    | .UnaryOp op a _ => (match op with
      | .Not => (gT f r a).bind fun x => some ⟨tN x.1,fun C G n I => tNot (x.2 C G n I)⟩
      | _ => none)
    | .Compare a ops bs p => (match ops,bs with
      | [o],[b] => hCmp1 r a b o p (gE f r a) (gE f r b)
      | [o,o2],[b,d] => hCmp2 r a b d o o2 p (gE f r a) (gE f r b) (gE f r d)
      | _,_ => none)
    | e => if h : tvOk e = true then (gE f r e).bind fun w => some ⟨tV w.1,fun C G n I => tVal (a_tv h) (w.2 C G n I)⟩ else none
end
end
noncomputable section
noncomputable abbrev RS (r : Rc) (st : Stmt) : Type := {w : GS // ∀ C G n,Inv C G n r → SSt C st (w G n)}
noncomputable abbrev RSs (r : Rc) (l : List Stmt) : Type := {w : GS // ∀ C G n,Inv C G n r → SSs C l (w G n)}
noncomputable abbrev RW (r : Rc) (t : Expr) : Type := {w : GW // ∀ C G n,Inv C G n r → STg C (assign t C.env) (w G n)}
noncomputable abbrev RWs (r : Rc) (ts : List Expr) : Type := {w : GWs // (∀ C G n,Inv C G n r → STgs C ((assignEach ts C.env).map (·.2)) (w G n)) ∧ ts.all notStar = true}
noncomputable abbrev RBs (r : Rc) (ys : List Str) : Type := {w : GWs // ∀ C G n,Inv C G n r → STgs C (ys.map fun y => bindName C.env y) (w G n)}
theorem forI_eq : @forI = @forW := by funext wb i l lc c k X; unfold forI; rfl
theorem forJ_eq : @forJ = @forDW := by funext tw wb l lc c k X; unfold forJ; rfl
noncomputable def kOk (r : Rc) (y : Str) : Bool := r.sc.names.lookup y == some .local || r.sc.names.lookup y == some .cell
theorem kko {C : Cx} {G : Gx} {n : Nat} {r : Rc} {y : Str} (I : Inv C G n r) (h : kOk r y = true) : KindOk C y := by
  unfold kOk at h
  rw [Bool.or_eq_true,beq_iff_eq,beq_iff_eq] at h
  rcases h with h | h
  · exact .inl (I.c.k h (by decide))
  · exact .inr ⟨I.c.k h (by decide),(I.f _ (.inl h)).1⟩
noncomputable def gI (r : Rc) (y : Str) : Option {i : Nat // r.l[i]? = some y ∧ kOk r y = true} :=
  match r.l.idxOf? y with
  | some i => if h : ((r.l[i]? == some y) && kOk r y) = true then some ⟨i,beq_iff_eq.mp (Bool.and_eq_true_iff.mp h).1,(Bool.and_eq_true_iff.mp h).2⟩ else none
  | none => none
theorem ae_ {t : Expr} {ts : List Expr} {env : Env} (h : notStar t = true) : assignEach (t :: ts) env = (false,assign t env) :: assignEach ts env := by cases t <;> first | rfl | cases h
theorem ae_len {env : Env} : ∀ {ts : List Expr},ts.all notStar = true → (assignEach ts env).length = ts.length ∧ (assignEach ts env).findIdx? (·.1) = none
  | [],_ => ⟨rfl,rfl⟩
  | t :: ts,h => by
    rw [List.all_cons,Bool.and_eq_true] at h
    obtain ⟨a,b⟩ := ae_len (env := env) h.2
    rw [ae_ h.1,List.findIdx?_cons,b]
    exact ⟨congrArg (· + 1) a,rfl⟩
noncomputable def gTg (fu : Nat) (r : Rc) : (t : Expr) → Option (RW r t)
  | .Name y p => (gI r y).bind fun i => some ⟨gN i.1,fun C G n I => tn I.c i.1 i.2.1 (kko I i.2.2)⟩
  | .Attribute o x p => (anIx x).bind fun k => (gE fu r o).bind fun w => some ⟨gA k.1 w.1,fun C G n I => pT I.c (p := fun T => STg C _ fun lc cells v kk X => w.1 G n lc cells (fun vo c2 => setAV T c2 vo k.1 v fun c3 => kk lc c3) X) (tgAttr_ I.c.e I.c.c k.1 (Nat.blt_eq.mp k.2.1) (an_ I.c.i k.2.2) (w.2 C G n I))⟩
  | _ => none
noncomputable def gTgs (fu : Nat) (r : Rc) : (ts : List Expr) → Option (RWs r ts)
  | [] => some ⟨gs0,fun _ _ _ _ => tgNil,rfl⟩
  | t :: l => if h : notStar t = true then (gTg fu r t).bind fun a => (gTgs fu r l).bind fun b => some ⟨gsC a.1 b.1,fun C G n I => by rw [ae_ h]; exact tgCons I.c.c (a.2 C G n I) (b.2.1 C G n I),by rw [List.all_cons,h,b.2.2]; rfl⟩ else none
noncomputable def gBs (r : Rc) : (ys : List Str) → Option (RBs r ys)
  | [] => some ⟨gs0,fun _ _ _ _ => tgNil⟩
  | y :: l => (gI r y).bind fun i => (gBs r l).bind fun b => some ⟨gsC (gN i.1) b.1,fun C G n I => tgCons I.c.c (tgBind I.c.c i.1 (nm I.c.l i.2.1) (kko I i.2.2)) (b.2 C G n I)⟩
theorem a_so {t v : Expr} {k : Nat} {env : Env} (h : isComp v = false) : swapsWithSole [t] v k env = pure false := (a_sw h : swapsWith v (some t) k env = pure false)
noncomputable def isTup : Expr → Bool
  | .Tuple .. => true
  | _ => false
theorem sw_no {ts : List Expr} {k : Nat} {tp : Pos} {v : Expr} {env : Env} (h : isTup v = false) : swappedStores [.Tuple ts k tp] v env = pure none := by cases v <;> first | rfl | cases h
noncomputable def isStar : Expr → Bool
  | .Starred .. => true
  | _ => false
noncomputable def swN (sc : Scope) (ts vs : List Expr) : Option (Option (List Str)) :=
  if (!(ts.length == 2 || ts.length == 3) || vs.length != ts.length) = true then some none else
  if vs.any isStar then some none else
  let line := (ts.head?.map (·.pos.line)).getD 0
  let names := ts.filterMap fun
    | .Name id pos => if sc.names.lookup id == some .local && pos.line == line then some id else none
    | _ => none
  if (names.length != ts.length || names.eraseDups.length != names.length) = true then some none else
  if vs.all (foldedForSure 8) then some none else
  if vs.all (constantsAlone 8) then none else some (some names)
theorem sw_eq {ts vs : List Expr} {k k2 : Nat} {tp vp : Pos} {env : Env} {o : Option (List Str)} (hf : env.scope.kind = .function) (h : swN env.scope ts vs = some o) : swappedStores [.Tuple ts k tp] (.Tuple vs k2 vp) env = pure o := by
  have hb : (env.blockKind != .function) = false := by unfold Env.blockKind; rw [hf]; rfl
  have hs : (fun x => match x with | .Starred .. => true | _ => false) = isStar := by funext x; cases x <;> rfl
  unfold swN at h
  unfold swappedStores
  dsimp only
  rw [hb,Bool.or_false]
  split at h
  · rename_i c; cases h; rw [if_pos c]
  · rename_i c
    rw [if_neg c]
    split at h
    · rename_i c2; cases h; exact if_pos ((congrArg (List.any vs) hs).trans c2)
    · rename_i c2
      refine (if_neg (fun e => c2 ((congrArg (List.any vs) hs.symm).trans e))).trans ?_
      dsimp only at h
      split at h
      · rename_i c3; cases h; exact if_pos c3
      · rename_i c3
        refine (if_neg c3).trans ?_
        split at h
        · rename_i c4; cases h; exact if_pos c4
        · rename_i c4
          refine (if_neg c4).trans ?_
          split at h
          · cases h
          · rename_i c5; cases h; exact if_neg c5
noncomputable def swLine (r : Rc) (y : Str) (p : Pos) (sc : Scope) (vp : Pos) : Bool :=
  r.sc.names.lookup y == some .local && p.line == vp.line && !(sc.names.any fun (n,k) => n == y && (k == .local || k == .cell))
theorem sw_ln {C : Cx} {G : Gx} {n : Nat} {r : Rc} {y : Str} {p vp : Pos} {el : Expr} {gs : List Comprehension} {sc : Scope} {ln : Nat} (I : Inv C G n r) (ht : r.t = true) : swapsWith (.ListComp el gs sc vp) (some (.Name y p)) ln C.env = pure (swLine r y p sc vp) := by
  have hb : (C.env.blockKind == .function) = true := by unfold Env.blockKind; rw [I.c.c.kind]; rfl
  have hk : C.env.kindOf y = r.sc.names.lookup y := by unfold Env.kindOf; rw [I.s ht]
  show (pure (C.env.blockKind == .function && C.env.kindOf y == some .local && p.line == vp.line && !(sc.names.any fun (n,k) => n == y && (k == .local || k == .cell))) : PySem.Sem Bool) = _
  rw [hb,hk]; rfl
theorem Inv.to1 {C : Cx} {G : Gx} {n : Nat} {r : Rc} (I : Inv C G n r) : Inv C G n { r with md := 1 } := ⟨I.c,I.f,I.q,I.s,(fun h => nomatch h),fun h => nomatch h⟩
noncomputable def gV (fu : Nat) (r : Rc) (y : Str) (e : Expr) : Option (RE r e) :=
  if r.md == 6 && y == S "out" then (gE fu { r with md := 1 } e).bind fun w => some ⟨w.1,fun C G n I => w.2 C G n I.to1⟩ else gE fu r e
noncomputable def gCs (fu : Nat) (r : Rc) (y : Str) (p vp pos : Pos) (ht : r.t = true) (i : {i : Nat // r.l[i]? = some y ∧ kOk r y = true}) (el : Expr) (scope : Scope) (hw : swLine r y p scope vp = true) : (gs : List Comprehension) → Option (RS r (.Assign [.Name y p] (.ListComp el gs scope vp) pos))
  | [⟨.Name x px,it,ifs,0⟩] => if hs : isSet it = false then (rk r scope x).bind fun K => (gE fu r it).bind fun w => (gIf (gT fu (rcIn r [x] scope)) ifs).bind fun t => (gE fu (rcIn r [x] scope) el).bind fun e => some ⟨sCS i.1 t.1 e.1 0 (pmOf r 1 scope) w.1,fun C G n I =>
      sCompSet_ I.c.e I.c.c i.1 (nm I.c.l i.2.1) (kko I i.2.2) ([x] ++ frees scope) (pmOf r 1 scope) (compR I K.down.1) 0 rfl K.down.2 (by rw [sw_ln I ht,hw]) (a_fs hs) (w.2 C G n I) fun C' e1 n1 l1 h1 o1 => have I' := invIn I K.down.1 e1 n1 l1 h1 o1; ⟨t.2 C' G n I',e.2 C' G n I'⟩⟩ else none
  | _ => none
noncomputable def gAs (fu : Nat) (r : Rc) (pos : Pos) : (t v : Expr) → Option (RS r (.Assign [t] v pos))
  | .Name y p,.ListComp el gs sc vp => if ht : r.t = true then (gI r y).bind fun i =>
      if hw : swLine r y p sc vp = true then gCs fu r y p vp pos ht i el sc hw gs else (gE fu r (.ListComp el gs sc vp)).bind fun w => some ⟨sS i.1 w.1,fun C G n I => st I.c i.1 i.2.1 (kko I i.2.2) (by rw [sw_ln I ht,eq_false_of_ne_true hw]) (w.2 C G n I)⟩ else none
  | .Name y p,v => if h : isComp v = false then (gI r y).bind fun i => (gV fu r y v).bind fun w => some ⟨sS i.1 w.1,fun C G n I => st I.c i.1 i.2.1 (kko I i.2.2) (a_sw h) (w.2 C G n I)⟩ else none
  | .Attribute o x p,v => if h : isComp v = false then (anIx x).bind fun k => (gE fu r o).bind fun a => (gE fu r v).bind fun b => some ⟨sSA k.1 a.1 b.1,fun C G n I =>
      pT I.c (p := fun T => SSt C _ fun lc cells kk X => b.1 G n lc cells (fun v c1 => a.1 G n lc c1 (fun vo c2 => setAV T c2 vo k.1 v (fun c3 => kk .next lc c3)) X) X) (sSetA_ I.c.e I.c.c k.1 (Nat.blt_eq.mp k.2.1) (an_ I.c.i k.2.2) (a_sw h) (b.2 C G n I) (a.2 C G n I))⟩ else none
  | .Subscript o i p,v => if h : isComp v = false then (gE fu r o).bind fun a => (gE fu r i).bind fun b => (gE fu r v).bind fun c => match r.md == 4 with
      | true => some ⟨sSD a.1 b.1 c.1,fun C G n I => sSetD I.c.c (a_sw h) (c.2 C G n I) (a.2 C G n I) (b.2 C G n I)⟩
      | false => some ⟨sSI a.1 b.1 c.1,fun C G n I => sSetI I.c.c (a_sw h) (c.2 C G n I) (a.2 C G n I) (b.2 C G n I)⟩ else none
  | .Tuple ts k tp,.Tuple vs k2 vp => if hq : (r.q && r.t) = true then (gE fu r (.Tuple vs k2 vp)).bind fun w => match hw : swN r.sc ts vs with
      | some none => (gTgs fu r ts).bind fun t => some ⟨sTS ts.length w.1 t.1,fun C G n I => sTupSet I.c.c (hqc I.c.e (I.q (Bool.and_eq_true_iff.mp hq).1)) ts.length (a_so rfl) (sw_eq I.c.c.kind (by rw [I.s (Bool.and_eq_true_iff.mp hq).2]; exact hw)) (ae_len t.2.2).1 (ae_len t.2.2).2 (w.2 C G n I) (t.2.1 C G n I)⟩
      | some (some ns) => (gBs r ns.reverse).bind fun t => if hn : ns.length = ts.length then some ⟨sTW ts.length w.1 t.1,fun C G n I => sTupSwap I.c.c (hqc I.c.e (I.q (Bool.and_eq_true_iff.mp hq).1)) ns ts.length hn (a_so rfl) (sw_eq I.c.c.kind (by rw [I.s (Bool.and_eq_true_iff.mp hq).2]; exact hw)) (w.2 C G n I) (t.2 C G n I)⟩ else none
      | none => none else none
  | .Tuple ts k tp,v => if hq : (r.q && !isTup v && !isComp v) = true then (gE fu r v).bind fun w => (gTgs fu r ts).bind fun t => some ⟨sTS ts.length w.1 t.1,fun C G n I => by
      rw [Bool.and_eq_true,Bool.and_eq_true,Bool.not_eq_true',Bool.not_eq_true'] at hq
      exact sTupSet I.c.c (hqc I.c.e (I.q hq.1.1)) ts.length (a_so hq.2) (sw_no hq.1.2) (ae_len t.2.2).1 (ae_len t.2.2).2 (w.2 C G n I) (t.2.1 C G n I)⟩ else none
  | _,_ => none
end
noncomputable section
theorem ceq {x y : Str} (h : (x == y) = true) : x = y := eq_of_beq h
noncomputable def gSs {r : Rc} (f : (st : Stmt) → Option (RS r st)) : (l : List Stmt) → Option (RSs r l)
  | [] => some ⟨bN,fun _ _ _ _ => sNil⟩
  | .Raise (some (.Call (.Name y np) [.Constant (.str msg) k p1] [] p2)) none pos :: rest => if r.md == 3 then
      (if h : (r.md == 3 && r.t && (y == S "Overflow" && r.sc.names.lookup (S "Overflow") == some .globalImplicit)) = true then some ⟨sOvf,fun C G n I => by
        rw [Bool.and_eq_true,Bool.and_eq_true,Bool.and_eq_true,beq_iff_eq,beq_iff_eq,beq_iff_eq] at h
        obtain ⟨⟨h1,h2⟩,h3,h4⟩ := h
        subst h3
        exact raiseOvf I.c.c I.c.i (by rw [I.c.m]; exact I.v h1) (I.s h2) h4⟩ else none)
    else some ⟨bD,fun _ _ _ _ => sDead⟩
  | .Raise a b pos :: rest => some ⟨bD,fun _ _ _ _ => sDead⟩
  | st :: l => (f st).bind fun a => (gSs f l).bind fun b => some ⟨bC a.1 b.1,fun C G n I => sSeq I.c.c (a.2 C G n I) (b.2 C G n I)⟩
noncomputable def gFor (fu : Nat) (r : Rc) (b : List Stmt) (ob : Option (RSs r b)) (pos : Pos) : (t it : Expr) → Option (RS r (.For t it b [] pos))
  | .Name y p,it => if hs : isSet it = false then ob.bind fun wb => (gI r y).bind fun i => (gE fu r it).bind fun w =>
      if nmIs it "chars" then (if hq : r.q = true then some ⟨sFK i.1 w.1 wb.1,fun C G n I => by
        have h := sForKeys (pos := pos) (px := p) I.c.c (hqc I.c.e (I.q hq)) i.1 (nm I.c.l i.2.1) (kko I i.2.2) (a_fs hs) (w.2 C G n I) (wb.2 C G n I)
        rw [← forI_eq] at h
        exact h⟩ else none)
      else some ⟨sF i.1 w.1 wb.1,fun C G n I => by
        have h := sFor_ (pos := pos) (px := p) I.c.e I.c.c i.1 (nm I.c.l i.2.1) (kko I i.2.2) (a_fs hs) (w.2 C G n I) (wb.2 C G n I)
        rw [← forI_eq] at h
        exact h⟩ else none
  | .Tuple ts k tp,.Call (.Attribute o x ap) [] [] cp => if h : (x == ("items" : Str) && (baseOk o && (ap.endLine == cp.line)) && (ts.length == 2 && r.q)) = true then ob.bind fun wb => (gE fu r o).bind fun w => (gTgs fu r ts).bind fun t => some ⟨sFI w.1 t.1 wb.1,fun C G n I => by
      rw [Bool.and_eq_true,Bool.and_eq_true,Bool.and_eq_true,Bool.and_eq_true,beq_iff_eq (a := ts.length)] at h
      obtain ⟨⟨h1,h2,h3⟩,h4,h5⟩ := h
      obtain rfl := ceq h1
      have h := sForItems (pos := pos) (tpos := tp) (k₀ := k) I.c.c (hqc I.c.e (I.q h5)) (a_base h2) h3 ((ae_len t.2.2).1.trans h4) (ae_len t.2.2).2 (a_fs rfl) (w.2 C G n I) (t.2.1 C G n I) (wb.2 C G n I)
      rw [← forJ_eq] at h
      exact h⟩ else none
  | t,.Call (.Name y p) [e] [] cp => if h : (notStar e && r.q) = true then (gB r y p).bind fun c => (gE fu r e).bind fun w => match c with
      | ⟨.enumerate,hc⟩ => some ⟨sFE (lC w.1 lN),fun C G n I => sForEnum0 I.c.c (hqc I.c.e (I.q (Bool.and_eq_true_iff.mp h).2)) (hc C G n I) (BK.keep .enumerate) (se_ (Bool.and_eq_true_iff.mp h).1) (k I.c (Bool.and_eq_true_iff.mp h).1 (w.2 C G n I) slNil) (a_fs rfl)⟩
      | _ => none else none
  | _,_ => none
noncomputable def gAug (fu : Nat) (r : Rc) (pos : Pos) (e : Expr) : (t : Expr) → Option (RS r (.AugAssign t .Add e pos))
  | .Attribute o x p => (anIx x).bind fun k => (gE fu r o).bind fun a => (gE fu r e).bind fun b => some ⟨sAA pAdd k.1 a.1 b.1,fun C G n I =>
      pT I.c (p := fun T => SSt C _ fun lc cells kk X => a.1 G n lc cells (fun vo c1 => attrV T c1 vo k.1 (fun old => b.1 G n lc c1 (fun v c2 => pAdd old v (fun nw => setAV T c2 vo k.1 nw (fun c3 => kk .next lc c3))) X)) X) (sAugA_ I.c.e I.c.c k.1 (Nat.blt_eq.mp k.2.1) (an_ I.c.i k.2.2) oiAdd (a.2 C G n I) (b.2 C G n I))⟩
  | .Subscript o i p => if h : isSl i = false then (gE fu r o).bind fun a => (gE fu r i).bind fun b => (gE fu r e).bind fun c => some ⟨sAI pAdd a.1 b.1 c.1,fun C G n I => sAugI I.c.c oiAdd (a_as h) (a.2 C G n I) (b.2 C G n I) (c.2 C G n I)⟩ else none
  | _ => none
noncomputable abbrev rcH (r : Rc) : Rc := { r with md := 5,q := false }
noncomputable def gTry (fu : Nat) (r : Rc) (f : (st : Stmt) → Option (RS (rcH r) st)) (ts : List Expr) (k : Nat) (tp apos np hpos pos : Pos) (v : Expr) (y : Str) (b₀ : Stmt) (suite : List Stmt) :
    Option (RS r (.Try [.Assign [.Tuple ts k tp] v apos] [.ExceptHandler (some (.Name y np)) none (b₀ :: suite) hpos] [] [] pos)) :=
  if h : (r.md == 6 && r.t && (r.q && (y == S "Overflow" && r.sc.names.lookup (S "Overflow") == some .globalImplicit)) && (!isTup v && !isComp v)) = true then (gE fu r v).bind fun w => (gTgs fu r ts).bind fun t => (gSs f (b₀ :: suite)).bind fun b => some ⟨sTry' ts.length w.1 t.1 b.1,fun C G n I => by
    rw [Bool.and_eq_true,Bool.and_eq_true,Bool.and_eq_true,Bool.and_eq_true,Bool.and_eq_true,Bool.and_eq_true,Bool.not_eq_true',Bool.not_eq_true',beq_iff_eq,beq_iff_eq,beq_iff_eq] at h
    obtain ⟨⟨⟨h1,h2⟩,h3,h4,h5⟩,h6,h7⟩ := h
    subst h4
    refine sTry I.c.c I.c.i (hqc I.c.e (I.q h3)) (I.t h1 h2).1 (I.t h1 h2).2 (I.s h2) h5 ts.length (a_so h7) (sw_no h6) (ae_len t.2.2).1 (ae_len t.2.2).2 (w.2 C G n I) (t.2.1 C G n I) fun C2 e1 n1 l1 h1 L1 o1 => ?_
    exact b.2 C2 G.off n ⟨⟨e1.trans (by rw [I.c.e]),n1.trans I.c.m,l1.trans I.c.l,fun h hk => by rw [h1]; exact I.c.k h hk,o1,IsG.to e1 I.c.i.off⟩,(fun y hy => by rw [h1]; exact I.f y hy),(fun h => nomatch h),(fun h => by rw [h1]; exact I.s h),(fun h => nomatch h),(fun h => nomatch h)⟩⟩ else none
noncomputable def gS : (f : Nat) → (r : Rc) → (st : Stmt) → Option (RS r st)
  | 0,_,_ => none
  | f + 1,r,st => match st with
    | .Return (some e) _ => (gE 30 r e).bind fun w => some ⟨sR w.1,fun C G n I => sRet (w.2 C G n I)⟩
    | .If t a b _ => (gT 30 r t).bind fun t => (gSs (gS f r) a).bind fun a => (gSs (gS f r) b).bind fun b => some ⟨sI t.1 a.1 b.1,fun C G n I => sIf I.c.c (t.2 C G n I) (a.2 C G n I) (b.2 C G n I)⟩
    | .Expr e _ => if h : isComp e = false then (gE 30 r e).bind fun w => some ⟨sE w.1,fun C G n I => sDrop (inter I.c.c) (a_sw h) (w.2 C G n I)⟩ else none
    | .While t _ [] _ => (gT 30 r t).bind fun t => some ⟨sW t.1,fun C G n I => sWhile0 I.c.c (t.2 C G n I)⟩
    | .For t it b [] pos => gFor 30 r b (gSs (gS f r) b) pos t it
    | .AugAssign t .Add e pos => gAug 30 r pos e t
    | .Assign [t] v pos => gAs 30 r pos t v
    | .Try [.Assign [.Tuple ts k tp] v apos] [.ExceptHandler (some (.Name y np)) none (b₀ :: suite) hpos] [] [] pos => gTry 30 r (gS f (rcH r)) ts k tp apos np hpos pos v y b₀ suite
    | _ => none
noncomputable abbrev rcK (md : Nat) (q : Bool) (a : Nat) (l : List Str) : Rc := ⟨l,(fdK a).scope,md,q,true⟩
noncomputable def gF (md : Nat) (q : Bool) (a np : Nat) (l : List Str) : Option {w : GS // (fnChkC a np l = true ∧ ((fdK a).scope.names.all fun p => !(p.2 == .free)) = true) ∧ ∀ C G n,Inv C G n (rcK md q a l) → SSs C (bodyK a) (w G n)} :=
  if h : (fnChkC a np l && (fdK a).scope.names.all fun p => !(p.2 == .free)) = true then (gSs (gS 8 (rcK md q a l)) (bodyK a)).bind fun w => some ⟨w.1,Bool.and_eq_true_iff.mp h,w.2⟩ else none
theorem goR {G : Gx} (hG : G.Ok) (I : IsG G) {n md a np : Nat} {q : Bool} {names : List Str} {V : GS} (e : (gF md q a np names).map Subtype.val = some V) (i : Nat) (hi : fnTab[i]? = some a) (hm : md ≠ 6) (hv : md = 3 → 2 ≤ n) (hq : q = true → G.q = true) (dv : List Mine.V) (dvals : List Value) {lc : Lc} {args : List Mine.V} {cells : List Cell} {Q : Mine.V → List Cell → Prop} {X : List Cell → Prop}
    (hdv : ∀ Z r,Zle G.zg Z → RvL G.an G.w.params Z r dv dvals) (hb : BindOk G (fdK a) args.length (names.take np) dvals) (hl : (names.take np).length = args.length + dv.length) (hlc : ((args ++ dv).map some ++ (names.drop (names.take np).length).map fun _ => none) = lc) (h : V G n lc cells (back Q) X) : Sem G (n + 1) (.ref a) args cells Q X := by
  obtain ⟨w,_,rfl⟩ := Option.map_eq_some_iff.mp e
  refine walkFnC hG (fnC_of I (fnAt hi) (fcAt hi) w.2.1.1) dv dvals lc hdv hb hl hlc fun C eG en hn hs hcl hC => ⟨_,w.2.2 C G n ⟨⟨eG,en,hn,fun h _ => kd hs h,hC,IsG.to eG I⟩,fun y hy => ?_,hq,fun _ => hs,fun h => absurd h hm,hv⟩,h⟩
  rcases hy with hy | hy
  · exact ⟨comp_has hcl hy,by unfold Env.kindOf; rw [hs,show (fdK a).scope.names.lookup y = _ from hy]; decide⟩
  · have := List.all_eq_true.mp w.2.1.2 _ (lookup_mem' hy)
    cases this
end
end Mine
end
section
open PySem PySem.W PyProof.Rows
namespace Mine
variable {G : Gx} {n : Nat} {cells : List Cell} {Q : V → List Cell → Prop} {X : List Cell → Prop} {x0 x1 x2 x3 x4 x5 x6 x7 x8 : V}
noncomputable def allV : Nat → (List Value → Prop) → Prop
  | 0,p => p []
  | n + 1,p => ∀ v,allV n fun l => p (v :: l)
theorem allV_ok : ∀ {n : Nat} {p : List Value → Prop},allV n p → ∀ l : List Value,l.length = n → p l
  | 0,_,h,[],_ => h
  | n + 1,_,h,v :: l,e => allV_ok (h v) l (Nat.succ.inj e)
theorem bd (I : IsG G) {a k : Nat} {pn : List Str} {dvals : List Value} (e : allV k fun vs => ∀ P S,peek (K P) S (bindArgs (fdK a) ⟨vs,[]⟩) = some (pn.zip (vs ++ dvals))) : BindOk G (fdK a) k pn dvals := fun s vals X hl => bindK I X (allV_ok e vals hl)
theorem k_check_dimen : (gF 3 false 122 1 [(S "value")]).map Subtype.val = some V_check_dimen := by kernel_rfl
theorem go_check_dimen (hG : G.Ok) (I : IsG G) (h : V_check_dimen G (n + 2) [some x0] cells (back Q) X) : Sem G (n + 2 + 1) (.ref 122) [x0] cells Q X := goR hG I k_check_dimen 0 rfl (by decide) (fun _ => Nat.le_add_left _ _) (fun h => nomatch h) [] [] nodv (bd I fun _ _ _ => by kernel_rfl) rfl rfl h
theorem k_is_whole : (gF 0 false 101 3 [(S "value"),(S "low"),(S "high")]).map Subtype.val = some V_is_whole := by kernel_rfl
theorem go_is_whole (hG : G.Ok) (I : IsG G) (h : V_is_whole G n [some x0,some x1,some x2] cells (back Q) X) : Sem G (n + 1) (.ref 101) [x0,x1,x2] cells Q X := goR hG I k_is_whole 1 rfl (by decide) (fun h => nomatch h) (fun h => nomatch h) [] [] nodv (bd I fun _ _ _ _ _ => by kernel_rfl) rfl rfl h
theorem k_check_whole : (gF 0 false 108 1 [(S "value")]).map Subtype.val = some V_check_whole := by kernel_rfl
theorem go_check_whole (hG : G.Ok) (I : IsG G) (h : V_check_whole G n [some x0] cells (back Q) X) : Sem G (n + 1) (.ref 108) [x0] cells Q X := goR hG I k_check_whole 2 rfl (by decide) (fun h => nomatch h) (fun h => nomatch h) [] [] nodv (bd I fun _ _ _ => by kernel_rfl) rfl rfl h
theorem k_check_number : (gF 0 false 115 1 [(S "value")]).map Subtype.val = some V_check_number := by kernel_rfl
theorem go_check_number (hG : G.Ok) (I : IsG G) (h : V_check_number G n [some x0] cells (back Q) X) : Sem G (n + 1) (.ref 115) [x0] cells Q X := goR hG I k_check_number 3 rfl (by decide) (fun h => nomatch h) (fun h => nomatch h) [] [] nodv (bd I fun _ _ _ => by kernel_rfl) rfl rfl h
theorem k_rounded : (gF 0 false 129 2 [(S "number"),(S "by")]).map Subtype.val = some V_rounded := by kernel_rfl
theorem go_rounded (hG : G.Ok) (I : IsG G) (h : V_rounded G n [some x0,some x1] cells (back Q) X) : Sem G (n + 1) (.ref 129) [x0,x1] cells Q X := goR hG I k_rounded 4 rfl (by decide) (fun h => nomatch h) (fun h => nomatch h) [] [] nodv (bd I fun _ _ _ _ => by kernel_rfl) rfl rfl h
theorem k_badness : (gF 0 false 164 2 [(S "excess"),(S "total"),(S "ratio")]).map Subtype.val = some V_badness := by kernel_rfl
theorem go_badness (hG : G.Ok) (I : IsG G) (h : V_badness G n [some x0,some x1,none] cells (back Q) X) : Sem G (n + 1) (.ref 164) [x0,x1] cells Q X := goR hG I k_badness 5 rfl (by decide) (fun h => nomatch h) (fun h => nomatch h) [] [] nodv (bd I fun _ _ _ _ => by kernel_rfl) rfl rfl h
theorem k_Glue_init : (gF 1 false 193 6 [(S "self"),(S "width"),(S "stretch"),(S "stretch_order"),(S "shrink"),(S "shrink_order")]).map Subtype.val = some V_Glue_init := by kernel_rfl
theorem go_Glue_init (hG : G.Ok) (I : IsG G) (h : V_Glue_init G n [some x0,some x1,some x2,some x3,some x4,some x5] cells (back Q) X) : Sem G (n + 1) (.ref 193) [x0,x1,x2,x3,x4,x5] cells Q X := goR hG I k_Glue_init 6 rfl (by decide) (fun h => nomatch h) (fun h => nomatch h) [] [] nodv (bd I fun _ _ _ _ _ _ _ _ => by kernel_rfl) rfl rfl h
theorem go_Glue_init1 (hG : G.Ok) (I : IsG G) (h : V_Glue_init G n [some x0,some (.int 0),some (.int 0),some (.int 0),some (.int 0),some (.int 0)] cells (back Q) X) : Sem G (n + 1) (.ref 193) [x0] cells Q X := goR hG I k_Glue_init 6 rfl (by decide) (fun h => nomatch h) (fun h => nomatch h) [.int 0,.int 0,.int 0,.int 0,.int 0] [.int 0 431,.int 0 432,.int 0 433,.int 0 434,.int 0 435] (fun _ _ _ => (rvl_cons.mpr ⟨_,_,rfl,rv_int.mpr ⟨_,rfl⟩,(rvl_cons.mpr ⟨_,_,rfl,rv_int.mpr ⟨_,rfl⟩,(rvl_cons.mpr ⟨_,_,rfl,rv_int.mpr ⟨_,rfl⟩,(rvl_cons.mpr ⟨_,_,rfl,rv_int.mpr ⟨_,rfl⟩,(rvl_cons.mpr ⟨_,_,rfl,rv_int.mpr ⟨_,rfl⟩,(rvl_nil.mpr rfl)⟩)⟩)⟩)⟩)⟩)) (bd I fun _ _ _ => by kernel_rfl) rfl rfl h
theorem k_Glue_parts : (gF 0 false 200 1 [(S "self")]).map Subtype.val = some V_Glue_parts := by kernel_rfl
theorem go_Glue_parts (hG : G.Ok) (I : IsG G) (h : V_Glue_parts G n [some x0] cells (back Q) X) : Sem G (n + 1) (.ref 200) [x0] cells Q X := goR hG I k_Glue_parts 7 rfl (by decide) (fun h => nomatch h) (fun h => nomatch h) [] [] nodv (bd I fun _ _ _ => by kernel_rfl) rfl rfl h
theorem k_top_order : (gF 0 false 257 1 [(S "sums"),(S "order")]).map Subtype.val = some V_top_order := by kernel_rfl
theorem go_top_order (hG : G.Ok) (I : IsG G) (h : V_top_order G n [some x0,none] cells (back Q) X) : Sem G (n + 1) (.ref 257) [x0] cells Q X := goR hG I k_top_order 8 rfl (by decide) (fun h => nomatch h) (fun h => nomatch h) [] [] nodv (bd I fun _ _ _ => by kernel_rfl) rfl rfl h
theorem k_Totals_init : (gF 1 false 271 1 [(S "self")]).map Subtype.val = some V_Totals_init := by kernel_rfl
theorem go_Totals_init (hG : G.Ok) (I : IsG G) (h : V_Totals_init G n [some x0] cells (back Q) X) : Sem G (n + 1) (.ref 271) [x0] cells Q X := goR hG I k_Totals_init 9 rfl (by decide) (fun h => nomatch h) (fun h => nomatch h) [] [] nodv (bd I fun _ _ _ => by kernel_rfl) rfl rfl h
theorem k_Totals_add : (gF 0 false 278 2 [(S "self"),(S "glue")]).map Subtype.val = some V_Totals_add := by kernel_rfl
theorem go_Totals_add (hG : G.Ok) (I : IsG G) (h : V_Totals_add G n [some x0,some x1] cells (back Q) X) : Sem G (n + 1) (.ref 278) [x0,x1] cells Q X := goR hG I k_Totals_add 10 rfl (by decide) (fun h => nomatch h) (fun h => nomatch h) [] [] nodv (bd I fun _ _ _ _ => by kernel_rfl) rfl rfl h
theorem k_Totals_widen : (gF 0 false 285 2 [(S "self"),(S "width")]).map Subtype.val = some V_Totals_widen := by kernel_rfl
theorem go_Totals_widen (hG : G.Ok) (I : IsG G) (h : V_Totals_widen G n [some x0,some x1] cells (back Q) X) : Sem G (n + 1) (.ref 285) [x0,x1] cells Q X := goR hG I k_Totals_widen 11 rfl (by decide) (fun h => nomatch h) (fun h => nomatch h) [] [] nodv (bd I fun _ _ _ _ => by kernel_rfl) rfl rfl h
theorem k_Totals_stretch_top : (gF 0 false 292 1 [(S "self")]).map Subtype.val = some V_Totals_stretch_top := by kernel_rfl
theorem go_Totals_stretch_top (hG : G.Ok) (I : IsG G) (h : V_Totals_stretch_top G n [some x0] cells (back Q) X) : Sem G (n + 1) (.ref 292) [x0] cells Q X := goR hG I k_Totals_stretch_top 12 rfl (by decide) (fun h => nomatch h) (fun h => nomatch h) [] [] nodv (bd I fun _ _ _ => by kernel_rfl) rfl rfl h
theorem k_Totals_shrink_top : (gF 0 false 299 1 [(S "self")]).map Subtype.val = some V_Totals_shrink_top := by kernel_rfl
theorem go_Totals_shrink_top (hG : G.Ok) (I : IsG G) (h : V_Totals_shrink_top G n [some x0] cells (back Q) X) : Sem G (n + 1) (.ref 299) [x0] cells Q X := goR hG I k_Totals_shrink_top 13 rfl (by decide) (fun h => nomatch h) (fun h => nomatch h) [] [] nodv (bd I fun _ _ _ => by kernel_rfl) rfl rfl h
theorem k_check_code : (gF 0 false 340 1 [(S "code")]).map Subtype.val = some V_check_code := by kernel_rfl
theorem go_check_code (hG : G.Ok) (I : IsG G) (h : V_check_code G n [some x0] cells (back Q) X) : Sem G (n + 1) (.ref 340) [x0] cells Q X := goR hG I k_check_code 14 rfl (by decide) (fun h => nomatch h) (fun h => nomatch h) [] [] nodv (bd I fun _ _ _ => by kernel_rfl) rfl rfl h
theorem k_check_short : (gF 0 false 347 1 [(S "items"),(S "node")]).map Subtype.val = some V_check_short := by kernel_rfl
theorem go_check_short (hG : G.Ok) (I : IsG G) (h : V_check_short G n [some x0,none] cells (back Q) X) : Sem G (n + 1) (.ref 347) [x0] cells Q X := goR hG I k_check_short 15 rfl (by decide) (fun h => nomatch h) (fun h => nomatch h) [] [] nodv (bd I fun _ _ _ => by kernel_rfl) rfl rfl h
theorem k_Char_init : (gF 1 false 361 3 [(S "self"),(S "font"),(S "code")]).map Subtype.val = some V_Char_init := by kernel_rfl
theorem go_Char_init (hG : G.Ok) (I : IsG G) (h : V_Char_init G n [some x0,some x1,some x2] cells (back Q) X) : Sem G (n + 1) (.ref 361) [x0,x1,x2] cells Q X := goR hG I k_Char_init 16 rfl (by decide) (fun h => nomatch h) (fun h => nomatch h) [] [] nodv (bd I fun _ _ _ _ _ => by kernel_rfl) rfl rfl h
theorem k_Ligature_init : (gF 1 false 381 6 [(S "self"),(S "font"),(S "code"),(S "parts"),(S "left"),(S "right")]).map Subtype.val = some V_Ligature_init := by kernel_rfl
theorem go_Ligature_init4 (hG : G.Ok) (I : IsG G) (h : V_Ligature_init G n [some x0,some x1,some x2,some x3,some (.bool false),some (.bool false)] cells (back Q) X) : Sem G (n + 1) (.ref 381) [x0,x1,x2,x3] cells Q X := goR hG I k_Ligature_init 17 rfl (by decide) (fun h => nomatch h) (fun h => nomatch h) [.bool false,.bool false] [.bool false,.bool false] (fun _ _ _ => (rvl_cons.mpr ⟨_,_,rfl,rv_bool.mpr rfl,(rvl_cons.mpr ⟨_,_,rfl,rv_bool.mpr rfl,(rvl_nil.mpr rfl)⟩)⟩)) (bd I fun _ _ _ _ _ _ => by kernel_rfl) rfl rfl h
theorem k_Box_init : (gF 1 false 402 6 [(S "self"),(S "kind"),(S "width"),(S "height"),(S "depth"),(S "items")]).map Subtype.val = some V_Box_init := by kernel_rfl
theorem go_Box_init (hG : G.Ok) (I : IsG G) (h : V_Box_init G n [some x0,some x1,some x2,some x3,some x4,some x5] cells (back Q) X) : Sem G (n + 1) (.ref 402) [x0,x1,x2,x3,x4,x5] cells Q X := goR hG I k_Box_init 18 rfl (by decide) (fun h => nomatch h) (fun h => nomatch h) [] [] nodv (bd I fun _ _ _ _ _ _ _ _ => by kernel_rfl) rfl rfl h
theorem k_Rule_init : (gF 1 false 423 4 [(S "self"),(S "width"),(S "height"),(S "depth"),(S "size")]).map Subtype.val = some V_Rule_init := by kernel_rfl
theorem go_Rule_init (hG : G.Ok) (I : IsG G) (h : V_Rule_init G n [some x0,some x1,some x2,some x3,none] cells (back Q) X) : Sem G (n + 1) (.ref 423) [x0,x1,x2,x3] cells Q X := goR hG I k_Rule_init 19 rfl (by decide) (fun h => nomatch h) (fun h => nomatch h) [] [] nodv (bd I fun _ _ _ _ _ _ => by kernel_rfl) rfl rfl h
theorem k_Kern_init : (gF 1 false 444 3 [(S "self"),(S "width"),(S "sort")]).map Subtype.val = some V_Kern_init := by kernel_rfl
theorem go_Kern_init (hG : G.Ok) (I : IsG G) (h : V_Kern_init G n [some x0,some x1,some x2] cells (back Q) X) : Sem G (n + 1) (.ref 444) [x0,x1,x2] cells Q X := goR hG I k_Kern_init 20 rfl (by decide) (fun h => nomatch h) (fun h => nomatch h) [] [] nodv (bd I fun _ _ _ _ _ => by kernel_rfl) rfl rfl h
theorem k_Skip_init : (gF 1 false 466 4 [(S "self"),(S "glue"),(S "sort"),(S "leader")]).map Subtype.val = some V_Skip_init := by kernel_rfl
theorem go_Skip_init3 (hG : G.Ok) (I : IsG G) (h : V_Skip_init G n [some x0,some x1,some x2,some (.none)] cells (back Q) X) : Sem G (n + 1) (.ref 466) [x0,x1,x2] cells Q X := goR hG I k_Skip_init 21 rfl (by decide) (fun h => nomatch h) (fun h => nomatch h) [.none] [.none] (fun _ _ _ => (rvl_cons.mpr ⟨_,_,rfl,rv_none.mpr rfl,(rvl_nil.mpr rfl)⟩)) (bd I fun _ _ _ _ _ => by kernel_rfl) rfl rfl h
theorem go_Skip_init (hG : G.Ok) (I : IsG G) (h : V_Skip_init G n [some x0,some x1,some x2,some x3] cells (back Q) X) : Sem G (n + 1) (.ref 466) [x0,x1,x2,x3] cells Q X := goR hG I k_Skip_init 21 rfl (by decide) (fun h => nomatch h) (fun h => nomatch h) [] [] nodv (bd I fun _ _ _ _ _ _ => by kernel_rfl) rfl rfl h
theorem k_Penalty_init : (gF 1 false 487 2 [(S "self"),(S "value")]).map Subtype.val = some V_Penalty_init := by kernel_rfl
theorem go_Penalty_init (hG : G.Ok) (I : IsG G) (h : V_Penalty_init G n [some x0,some x1] cells (back Q) X) : Sem G (n + 1) (.ref 487) [x0,x1] cells Q X := goR hG I k_Penalty_init 22 rfl (by decide) (fun h => nomatch h) (fun h => nomatch h) [] [] nodv (bd I fun _ _ _ _ => by kernel_rfl) rfl rfl h
theorem k_Disc_init : (gF 1 false 508 4 [(S "self"),(S "pre"),(S "post"),(S "middle")]).map Subtype.val = some V_Disc_init := by kernel_rfl
theorem go_Disc_init (hG : G.Ok) (I : IsG G) (h : V_Disc_init G n [some x0,some x1,some x2,some x3] cells (back Q) X) : Sem G (n + 1) (.ref 508) [x0,x1,x2,x3] cells Q X := goR hG I k_Disc_init 23 rfl (by decide) (fun h => nomatch h) (fun h => nomatch h) [] [] nodv (bd I fun _ _ _ _ _ _ => by kernel_rfl) rfl rfl h
theorem k_Mark_init : (gF 1 false 529 2 [(S "self"),(S "tokens")]).map Subtype.val = some V_Mark_init := by kernel_rfl
theorem go_Mark_init (hG : G.Ok) (I : IsG G) (h : V_Mark_init G n [some x0,some x1] cells (back Q) X) : Sem G (n + 1) (.ref 529) [x0,x1] cells Q X := goR hG I k_Mark_init 24 rfl (by decide) (fun h => nomatch h) (fun h => nomatch h) [] [] nodv (bd I fun _ _ _ _ => by kernel_rfl) rfl rfl h
theorem k_Insert_init : (gF 1 false 550 7 [(S "self"),(S "number"),(S "size"),(S "depth"),(S "top"),(S "cost"),(S "items")]).map Subtype.val = some V_Insert_init := by kernel_rfl
theorem go_Insert_init (hG : G.Ok) (I : IsG G) (h : V_Insert_init G n [some x0,some x1,some x2,some x3,some x4,some x5,some x6] cells (back Q) X) : Sem G (n + 1) (.ref 550) [x0,x1,x2,x3,x4,x5,x6] cells Q X := goR hG I k_Insert_init 25 rfl (by decide) (fun h => nomatch h) (fun h => nomatch h) [] [] nodv (bd I fun _ _ _ _ _ _ _ _ _ => by kernel_rfl) rfl rfl h
theorem k_Adjust_init : (gF 1 false 571 2 [(S "self"),(S "items")]).map Subtype.val = some V_Adjust_init := by kernel_rfl
theorem go_Adjust_init (hG : G.Ok) (I : IsG G) (h : V_Adjust_init G n [some x0,some x1] cells (back Q) X) : Sem G (n + 1) (.ref 571) [x0,x1] cells Q X := goR hG I k_Adjust_init 26 rfl (by decide) (fun h => nomatch h) (fun h => nomatch h) [] [] nodv (bd I fun _ _ _ _ => by kernel_rfl) rfl rfl h
theorem k_MathEdge_init : (gF 1 false 592 3 [(S "self"),(S "is_on"),(S "width")]).map Subtype.val = some V_MathEdge_init := by kernel_rfl
theorem go_MathEdge_init (hG : G.Ok) (I : IsG G) (h : V_MathEdge_init G n [some x0,some x1,some x2] cells (back Q) X) : Sem G (n + 1) (.ref 592) [x0,x1,x2] cells Q X := goR hG I k_MathEdge_init 27 rfl (by decide) (fun h => nomatch h) (fun h => nomatch h) [] [] nodv (bd I fun _ _ _ _ _ => by kernel_rfl) rfl rfl h
theorem k_Special_init : (gF 1 false 613 2 [(S "self"),(S "octets"),(S "octet")]).map Subtype.val = some V_Special_init := by kernel_rfl
theorem go_Special_init (hG : G.Ok) (I : IsG G) (h : V_Special_init G n [some x0,some x1,none] cells (back Q) X) : Sem G (n + 1) (.ref 613) [x0,x1] cells Q X := goR hG I k_Special_init 28 rfl (by decide) (fun h => nomatch h) (fun h => nomatch h) [] [] nodv (bd I fun _ _ _ _ => by kernel_rfl) rfl rfl h
theorem k_Unset_init : (gF 1 false 635 8 [(S "self"),(S "width"),(S "height"),(S "depth"),(S "items"),(S "spans"),(S "totals"),(S "is_vertical")]).map Subtype.val = some V_Unset_init := by kernel_rfl
theorem go_Unset_init7 (hG : G.Ok) (I : IsG G) (h : V_Unset_init G n [some x0,some x1,some x2,some x3,some x4,some x5,some x6,some (.bool false)] cells (back Q) X) : Sem G (n + 1) (.ref 635) [x0,x1,x2,x3,x4,x5,x6] cells Q X := goR hG I k_Unset_init 29 rfl (by decide) (fun h => nomatch h) (fun h => nomatch h) [.bool false] [.bool false] (fun _ _ _ => (rvl_cons.mpr ⟨_,_,rfl,rv_bool.mpr rfl,(rvl_nil.mpr rfl)⟩)) (bd I fun _ _ _ _ _ _ _ _ _ => by kernel_rfl) rfl rfl h
theorem k_check_depth : (gF 0 false 649 1 [(S "depth")]).map Subtype.val = some V_check_depth := by kernel_rfl
theorem go_check_depth (hG : G.Ok) (I : IsG G) (h : V_check_depth G n [some x0] cells (back Q) X) : Sem G (n + 1) (.ref 649) [x0] cells Q X := goR hG I k_check_depth 30 rfl (by decide) (fun h => nomatch h) (fun h => nomatch h) [] [] nodv (bd I fun _ _ _ => by kernel_rfl) rfl rfl h
theorem k_described_rest : (gF 0 true 656 2 [(S "node"),(S "depth"),(S "kind"),(S "sums"),(S "sizes")]).map Subtype.val = some V_described_rest := by kernel_rfl
theorem go_described_rest (hG : G.Ok) (I : IsG G) (hq : G.q = true) (h : V_described_rest G n [some x0,some x1,none,none,none] cells (back Q) X) : Sem G (n + 1) (.ref 656) [x0,x1] cells Q X := goR hG I k_described_rest 31 rfl (by decide) (fun h => nomatch h) (fun _ => hq) [] [] nodv (bd I fun _ _ _ _ => by kernel_rfl) rfl rfl h
theorem k_described : (gF 0 false 662 2 [(S "node"),(S "depth"),(S "kind"),(S "sizes")]).map Subtype.val = some V_described := by kernel_rfl
theorem go_described (hG : G.Ok) (I : IsG G) (h : V_described G n [some x0,some x1,none,none] cells (back Q) X) : Sem G (n + 1) (.ref 662) [x0,x1] cells Q X := goR hG I k_described 32 rfl (by decide) (fun h => nomatch h) (fun h => nomatch h) [] [] nodv (bd I fun _ _ _ _ => by kernel_rfl) rfl rfl h
theorem k_described_list : (gF 0 false 668 2 [(S "items"),(S "depth")]).map Subtype.val = some V_described_list := by kernel_rfl
theorem go_described_list1 (hG : G.Ok) (I : IsG G) (h : V_described_list G n [some x0,some (.int 0)] cells (back Q) X) : Sem G (n + 1) (.ref 668) [x0] cells Q X := goR hG I k_described_list 33 rfl (by decide) (fun h => nomatch h) (fun h => nomatch h) [.int 0] [.int 0 1173] (fun _ _ _ => (rvl_cons.mpr ⟨_,_,rfl,rv_int.mpr ⟨_,rfl⟩,(rvl_nil.mpr rfl)⟩)) (bd I fun _ _ _ => by kernel_rfl) rfl rfl h
theorem go_described_list (hG : G.Ok) (I : IsG G) (h : V_described_list G n [some x0,some x1] cells (back Q) X) : Sem G (n + 1) (.ref 668) [x0,x1] cells Q X := goR hG I k_described_list 33 rfl (by decide) (fun h => nomatch h) (fun h => nomatch h) [] [] nodv (bd I fun _ _ _ _ => by kernel_rfl) rfl rfl h
theorem k_width_of : (gF 0 true 673 1 [(S "node"),(S "kind")]).map Subtype.val = some V_width_of := by kernel_rfl
theorem go_width_of (hG : G.Ok) (I : IsG G) (hq : G.q = true) (h : V_width_of G n [some x0,none] cells (back Q) X) : Sem G (n + 1) (.ref 673) [x0] cells Q X := goR hG I k_width_of 34 rfl (by decide) (fun h => nomatch h) (fun _ => hq) [] [] nodv (bd I fun _ _ _ => by kernel_rfl) rfl rfl h
theorem k_height_of : (gF 0 true 678 1 [(S "node"),(S "kind")]).map Subtype.val = some V_height_of := by kernel_rfl
theorem go_height_of (hG : G.Ok) (I : IsG G) (hq : G.q = true) (h : V_height_of G n [some x0,none] cells (back Q) X) : Sem G (n + 1) (.ref 678) [x0] cells Q X := goR hG I k_height_of 35 rfl (by decide) (fun h => nomatch h) (fun _ => hq) [] [] nodv (bd I fun _ _ _ => by kernel_rfl) rfl rfl h
theorem k_depth_of : (gF 0 true 683 1 [(S "node"),(S "kind")]).map Subtype.val = some V_depth_of := by kernel_rfl
theorem go_depth_of (hG : G.Ok) (I : IsG G) (hq : G.q = true) (h : V_depth_of G n [some x0,none] cells (back Q) X) : Sem G (n + 1) (.ref 683) [x0] cells Q X := goR hG I k_depth_of 36 rfl (by decide) (fun h => nomatch h) (fun _ => hq) [] [] nodv (bd I fun _ _ _ => by kernel_rfl) rfl rfl h
theorem k_line_height : (gF 0 false 690 1 [(S "node")]).map Subtype.val = some V_line_height := by kernel_rfl
theorem go_line_height (hG : G.Ok) (I : IsG G) (h : V_line_height G n [some x0] cells (back Q) X) : Sem G (n + 1) (.ref 690) [x0] cells Q X := goR hG I k_line_height 37 rfl (by decide) (fun h => nomatch h) (fun h => nomatch h) [] [] nodv (bd I fun _ _ _ => by kernel_rfl) rfl rfl h
theorem k_line_depth : (gF 0 false 697 1 [(S "node")]).map Subtype.val = some V_line_depth := by kernel_rfl
theorem go_line_depth (hG : G.Ok) (I : IsG G) (h : V_line_depth G n [some x0] cells (back Q) X) : Sem G (n + 1) (.ref 697) [x0] cells Q X := goR hG I k_line_depth 38 rfl (by decide) (fun h => nomatch h) (fun h => nomatch h) [] [] nodv (bd I fun _ _ _ => by kernel_rfl) rfl rfl h
theorem k_natural_line : (gF 0 true 712 1 [(S "items"),(S "totals"),(S "height"),(S "depth"),(S "node")]).map Subtype.val = some V_natural_line := by kernel_rfl
theorem go_natural_line (hG : G.Ok) (I : IsG G) (hq : G.q = true) (h : V_natural_line G n [some x0,none,none,none,none] cells (back Q) X) : Sem G (n + 1) (.ref 712) [x0] cells Q X := goR hG I k_natural_line 39 rfl (by decide) (fun h => nomatch h) (fun _ => hq) [] [] nodv (bd I fun _ _ _ => by kernel_rfl) rfl rfl h
theorem k_across : (gF 0 false 719 1 [(S "node")]).map Subtype.val = some V_across := by kernel_rfl
theorem go_across (hG : G.Ok) (I : IsG G) (h : V_across G n [some x0] cells (back Q) X) : Sem G (n + 1) (.ref 719) [x0] cells Q X := goR hG I k_across 40 rfl (by decide) (fun h => nomatch h) (fun h => nomatch h) [] [] nodv (bd I fun _ _ _ => by kernel_rfl) rfl rfl h
theorem k_check_column : (gF 0 false 726 1 [(S "items"),(S "node")]).map Subtype.val = some V_check_column := by kernel_rfl
theorem go_check_column (hG : G.Ok) (I : IsG G) (h : V_check_column G n [some x0,none] cells (back Q) X) : Sem G (n + 1) (.ref 726) [x0] cells Q X := goR hG I k_check_column 41 rfl (by decide) (fun h => nomatch h) (fun h => nomatch h) [] [] nodv (bd I fun _ _ _ => by kernel_rfl) rfl rfl h
theorem k_natural_column : (gF 0 true 733 1 [(S "items"),(S "totals"),(S "width"),(S "depth"),(S "node")]).map Subtype.val = some V_natural_column := by kernel_rfl
theorem go_natural_column (hG : G.Ok) (I : IsG G) (hq : G.q = true) (h : V_natural_column G n [some x0,none,none,none,none] cells (back Q) X) : Sem G (n + 1) (.ref 733) [x0] cells Q X := goR hG I k_natural_column 42 rfl (by decide) (fun h => nomatch h) (fun _ => hq) [] [] nodv (bd I fun _ _ _ => by kernel_rfl) rfl rfl h
theorem k_quotient : (gF 0 false 740 2 [(S "up"),(S "down")]).map Subtype.val = some V_quotient := by kernel_rfl
theorem go_quotient (hG : G.Ok) (I : IsG G) (h : V_quotient G n [some x0,some x1] cells (back Q) X) : Sem G (n + 1) (.ref 740) [x0,x1] cells Q X := goR hG I k_quotient 43 rfl (by decide) (fun h => nomatch h) (fun h => nomatch h) [] [] nodv (bd I fun _ _ _ _ => by kernel_rfl) rfl rfl h
theorem k_set_glue : (gF 0 false 747 2 [(S "totals"),(S "excess"),(S "order"),(S "total"),(S "report")]).map Subtype.val = some V_set_glue := by kernel_rfl
theorem go_set_glue (hG : G.Ok) (I : IsG G) (h : V_set_glue G n [some x0,some x1,none,none,none] cells (back Q) X) : Sem G (n + 1) (.ref 747) [x0,x1] cells Q X := goR hG I k_set_glue 44 rfl (by decide) (fun h => nomatch h) (fun h => nomatch h) [] [] nodv (bd I fun _ _ _ _ => by kernel_rfl) rfl rfl h
theorem k_flex : (gF 0 false 754 2 [(S "box"),(S "glue")]).map Subtype.val = some V_flex := by kernel_rfl
theorem go_flex (hG : G.Ok) (I : IsG G) (h : V_flex G n [some x0,some x1] cells (back Q) X) : Sem G (n + 1) (.ref 754) [x0,x1] cells Q X := goR hG I k_flex 45 rfl (by decide) (fun h => nomatch h) (fun h => nomatch h) [] [] nodv (bd I fun _ _ _ _ => by kernel_rfl) rfl rfl h
theorem k_set_part : (gF 0 false 761 2 [(S "box"),(S "flexed")]).map Subtype.val = some V_set_part := by kernel_rfl
theorem go_set_part (hG : G.Ok) (I : IsG G) (h : V_set_part G n [some x0,some x1] cells (back Q) X) : Sem G (n + 1) (.ref 761) [x0,x1] cells Q X := goR hG I k_set_part 46 rfl (by decide) (fun h => nomatch h) (fun h => nomatch h) [] [] nodv (bd I fun _ _ _ _ => by kernel_rfl) rfl rfl h
theorem k_glue_size : (gF 0 false 768 3 [(S "box"),(S "so_far"),(S "glue"),(S "flexed")]).map Subtype.val = some V_glue_size := by kernel_rfl
theorem go_glue_size (hG : G.Ok) (I : IsG G) (h : V_glue_size G n [some x0,some x1,some x2,none] cells (back Q) X) : Sem G (n + 1) (.ref 768) [x0,x1,x2] cells Q X := goR hG I k_glue_size 47 rfl (by decide) (fun h => nomatch h) (fun h => nomatch h) [] [] nodv (bd I fun _ _ _ _ _ => by kernel_rfl) rfl rfl h
theorem k_part_size : (gF 0 false 775 2 [(S "box"),(S "node")]).map Subtype.val = some V_part_size := by kernel_rfl
theorem go_part_size (hG : G.Ok) (I : IsG G) (h : V_part_size G n [some x0,some x1] cells (back Q) X) : Sem G (n + 1) (.ref 775) [x0,x1] cells Q X := goR hG I k_part_size 48 rfl (by decide) (fun h => nomatch h) (fun h => nomatch h) [] [] nodv (bd I fun _ _ _ _ => by kernel_rfl) rfl rfl h
theorem k_places : (gF 1 true 782 1 [(S "box"),(S "found"),(S "fixed"),(S "flexed"),(S "node")]).map Subtype.val = some V_places := by kernel_rfl
theorem go_places (hG : G.Ok) (I : IsG G) (hq : G.q = true) (h : V_places G n [some x0,none,none,none,none] cells (back Q) X) : Sem G (n + 1) (.ref 782) [x0] cells Q X := goR hG I k_places 49 rfl (by decide) (fun h => nomatch h) (fun _ => hq) [] [] nodv (bd I fun _ _ _ => by kernel_rfl) rfl rfl h
theorem k_moved : (gF 1 true 789 1 [(S "items"),(S "kept"),(S "out"),(S "node")]).map Subtype.val = some V_moved := by kernel_rfl
theorem go_moved (hG : G.Ok) (I : IsG G) (hq : G.q = true) (h : V_moved G n [some x0,none,none,none] cells (back Q) X) : Sem G (n + 1) (.ref 789) [x0] cells Q X := goR hG I k_moved 50 rfl (by decide) (fun h => nomatch h) (fun _ => hq) [] [] nodv (bd I fun _ _ _ => by kernel_rfl) rfl rfl h
theorem k_goal_size : (gF 0 false 796 3 [(S "own"),(S "mode"),(S "amount")]).map Subtype.val = some V_goal_size := by kernel_rfl
theorem go_goal_size (hG : G.Ok) (I : IsG G) (h : V_goal_size G n [some x0,some x1,some x2] cells (back Q) X) : Sem G (n + 1) (.ref 796) [x0,x1,x2] cells Q X := goR hG I k_goal_size 51 rfl (by decide) (fun h => nomatch h) (fun h => nomatch h) [] [] nodv (bd I fun _ _ _ _ _ => by kernel_rfl) rfl rfl h
theorem k_set_box : (gF 0 true 803 3 [(S "box"),(S "totals"),(S "excess"),(S "report")]).map Subtype.val = some V_set_box := by kernel_rfl
theorem go_set_box (hG : G.Ok) (I : IsG G) (hq : G.q = true) (h : V_set_box G n [some x0,some x1,some x2,none] cells (back Q) X) : Sem G (n + 1) (.ref 803) [x0,x1,x2] cells Q X := goR hG I k_set_box 52 rfl (by decide) (fun h => nomatch h) (fun _ => hq) [] [] nodv (bd I fun _ _ _ _ _ => by kernel_rfl) rfl rfl h
theorem k_hpack : (gF 0 true 811 4 [(S "items"),(S "mode"),(S "amount"),(S "outside"),(S "kept"),(S "out"),(S "totals"),(S "height"),(S "depth"),(S "width"),(S "box")]).map Subtype.val = some V_hpack := by kernel_rfl
theorem go_hpack (hG : G.Ok) (I : IsG G) (hq : G.q = true) (h : V_hpack G n [some x0,some x1,some x2,some x3,none,none,none,none,none,none,none] cells (back Q) X) : Sem G (n + 1) (.ref 811) [x0,x1,x2,x3] cells Q X := goR hG I k_hpack 53 rfl (by decide) (fun h => nomatch h) (fun _ => hq) [] [] nodv (bd I fun _ _ _ _ _ _ => by kernel_rfl) rfl rfl h
theorem k_vpack : (gF 0 true 819 4 [(S "items"),(S "mode"),(S "amount"),(S "most_depth"),(S "totals"),(S "width"),(S "depth"),(S "height"),(S "box")]).map Subtype.val = some V_vpack := by kernel_rfl
theorem go_vpack (hG : G.Ok) (I : IsG G) (hq : G.q = true) (h : V_vpack G n [some x0,some x1,some x2,some x3,none,none,none,none,none] cells (back Q) X) : Sem G (n + 1) (.ref 819) [x0,x1,x2,x3] cells Q X := goR hG I k_vpack 54 rfl (by decide) (fun h => nomatch h) (fun _ => hq) [] [] nodv (bd I fun _ _ _ _ _ _ => by kernel_rfl) rfl rfl h
theorem k_law_heap : (gF 1 false 1000 1 [(S "script"),(S "whole_one"),(S "cell")]).map Subtype.val = some V_law_heap := by kernel_rfl
theorem go_law_heap (hG : G.Ok) (I : IsG G) (h : V_law_heap G n [some x0,none,none] cells (back Q) X) : Sem G (n + 1) (.ref 1000) [x0] cells Q X := goR hG I k_law_heap 55 rfl (by decide) (fun h => nomatch h) (fun h => nomatch h) [] [] nodv (bd I fun _ _ _ => by kernel_rfl) rfl rfl h
theorem k_law_take : (gF 0 false 1007 2 [(S "heap"),(S "many"),(S "digit")]).map Subtype.val = some V_law_take := by kernel_rfl
theorem go_law_take (hG : G.Ok) (I : IsG G) (h : V_law_take G n [some x0,some x1,none] cells (back Q) X) : Sem G (n + 1) (.ref 1007) [x0,x1] cells Q X := goR hG I k_law_take 56 rfl (by decide) (fun h => nomatch h) (fun h => nomatch h) [] [] nodv (bd I fun _ _ _ _ => by kernel_rfl) rfl rfl h
theorem k_law_size : (gF 0 false 1014 1 [(S "heap"),(S "way")]).map Subtype.val = some V_law_size := by kernel_rfl
theorem go_law_size (hG : G.Ok) (I : IsG G) (h : V_law_size G n [some x0,none] cells (back Q) X) : Sem G (n + 1) (.ref 1014) [x0] cells Q X := goR hG I k_law_size 57 rfl (by decide) (fun h => nomatch h) (fun h => nomatch h) [] [] nodv (bd I fun _ _ _ => by kernel_rfl) rfl rfl h
theorem k_law_glue : (gF 0 true 1021 2 [(S "heap"),(S "orders"),(S "width"),(S "more"),(S "less"),(S "first"),(S "second"),(S "rest")]).map Subtype.val = some V_law_glue := by kernel_rfl
theorem go_law_glue (hG : G.Ok) (I : IsG G) (hq : G.q = true) (h : V_law_glue G n [some x0,some x1,none,none,none,none,none,none] cells (back Q) X) : Sem G (n + 1) (.ref 1021) [x0,x1] cells Q X := goR hG I k_law_glue 58 rfl (by decide) (fun h => nomatch h) (fun _ => hq) [] [] nodv (bd I fun _ _ _ _ => by kernel_rfl) rfl rfl h
theorem k_law_shut : (gF 0 false 1028 1 [(S "heap"),(S "made")]).map Subtype.val = some V_law_shut := by kernel_rfl
theorem go_law_shut (hG : G.Ok) (I : IsG G) (h : V_law_shut G n [some x0,none] cells (back Q) X) : Sem G (n + 1) (.ref 1028) [x0] cells Q X := goR hG I k_law_shut 59 rfl (by decide) (fun h => nomatch h) (fun h => nomatch h) [] [] nodv (bd I fun _ _ _ => by kernel_rfl) rfl rfl h
theorem k_law_stands : (gF 0 false 1035 5 [(S "upright"),(S "width"),(S "height"),(S "depth"),(S "shift")]).map Subtype.val = some V_law_stands := by kernel_rfl
theorem go_law_stands (hG : G.Ok) (I : IsG G) (h : V_law_stands G n [some x0,some x1,some x2,some x3,some x4] cells (back Q) X) : Sem G (n + 1) (.ref 1035) [x0,x1,x2,x3,x4] cells Q X := goR hG I k_law_stands 60 rfl (by decide) (fun h => nomatch h) (fun h => nomatch h) [] [] nodv (bd I fun _ _ _ _ _ _ _ => by kernel_rfl) rfl rfl h
theorem k_law_flow : (gF 0 true 1042 4 [(S "heap"),(S "upright"),(S "orders"),(S "way"),(S "flow"),(S "width"),(S "rest"),(S "made"),(S "sizes")]).map Subtype.val = some V_law_flow := by kernel_rfl
theorem go_law_flow (hG : G.Ok) (I : IsG G) (hq : G.q = true) (h : V_law_flow G n [some x0,some x1,some x2,some x3,none,none,none,none,none] cells (back Q) X) : Sem G (n + 1) (.ref 1042) [x0,x1,x2,x3] cells Q X := goR hG I k_law_flow 61 rfl (by decide) (fun h => nomatch h) (fun _ => hq) [] [] nodv (bd I fun _ _ _ _ _ _ => by kernel_rfl) rfl rfl h
theorem k_law_gone : (gF 0 false 1049 2 [(S "heap"),(S "upright"),(S "way"),(S "node"),(S "inner")]).map Subtype.val = some V_law_gone := by kernel_rfl
theorem go_law_gone (hG : G.Ok) (I : IsG G) (h : V_law_gone G n [some x0,some x1,none,none,none] cells (back Q) X) : Sem G (n + 1) (.ref 1049) [x0,x1] cells Q X := goR hG I k_law_gone 62 rfl (by decide) (fun h => nomatch h) (fun h => nomatch h) [] [] nodv (bd I fun _ _ _ _ => by kernel_rfl) rfl rfl h
theorem k_law_letter : (gF 0 true 1056 3 [(S "heap"),(S "font"),(S "way"),(S "code"),(S "width"),(S "height"),(S "depth"),(S "size")]).map Subtype.val = some V_law_letter := by kernel_rfl
theorem go_law_letter (hG : G.Ok) (I : IsG G) (hq : G.q = true) (h : V_law_letter G n [some x0,some x1,some x2,none,none,none,none,none] cells (back Q) X) : Sem G (n + 1) (.ref 1056) [x0,x1,x2] cells Q X := goR hG I k_law_letter 63 rfl (by decide) (fun h => nomatch h) (fun _ => hq) [] [] nodv (bd I fun _ _ _ _ _ => by kernel_rfl) rfl rfl h
theorem k_law_part : (gF 0 true 1061 4 [(S "heap"),(S "upright"),(S "orders"),(S "font"),(S "way"),(S "sizes"),(S "own"),(S "node"),(S "size"),(S "width"),(S "height"),(S "depth"),(S "made")]).map Subtype.val = some V_law_part := by kernel_rfl
theorem go_law_part (hG : G.Ok) (I : IsG G) (hq : G.q = true) (h : V_law_part G n [some x0,some x1,some x2,some x3,none,none,none,none,none,none,none,none,none] cells (back Q) X) : Sem G (n + 1) (.ref 1061) [x0,x1,x2,x3] cells Q X := goR hG I k_law_part 64 rfl (by decide) (fun h => nomatch h) (fun _ => hq) [] [] nodv (bd I fun _ _ _ _ _ _ => by kernel_rfl) rfl rfl h
theorem k_law_top : (gF 0 true 1066 1 [(S "sums")]).map Subtype.val = some V_law_top := by kernel_rfl
theorem go_law_top (hG : G.Ok) (I : IsG G) (hq : G.q = true) (h : V_law_top G n [some x0] cells (back Q) X) : Sem G (n + 1) (.ref 1066) [x0] cells Q X := goR hG I k_law_top 65 rfl (by decide) (fun h => nomatch h) (fun _ => hq) [] [] nodv (bd I fun _ _ _ => by kernel_rfl) rfl rfl h
theorem k_law_bad : (gF 0 false 1073 2 [(S "excess"),(S "total"),(S "ratio")]).map Subtype.val = some V_law_bad := by kernel_rfl
theorem go_law_bad (hG : G.Ok) (I : IsG G) (h : V_law_bad G n [some x0,some x1,none] cells (back Q) X) : Sem G (n + 1) (.ref 1073) [x0,x1] cells Q X := goR hG I k_law_bad 66 rfl (by decide) (fun h => nomatch h) (fun h => nomatch h) [] [] nodv (bd I fun _ _ _ _ => by kernel_rfl) rfl rfl h
theorem k_law_amount : (gF 0 false 1080 5 [(S "heap"),(S "mode"),(S "own"),(S "more"),(S "less"),(S "way"),(S "gap")]).map Subtype.val = some V_law_amount := by kernel_rfl
theorem go_law_amount (hG : G.Ok) (I : IsG G) (h : V_law_amount G n [some x0,some x1,some x2,some x3,some x4,none,none] cells (back Q) X) : Sem G (n + 1) (.ref 1080) [x0,x1,x2,x3,x4] cells Q X := goR hG I k_law_amount 67 rfl (by decide) (fun h => nomatch h) (fun h => nomatch h) [] [] nodv (bd I fun _ _ _ _ _ _ _ => by kernel_rfl) rfl rfl h
theorem k_law_told : (gF 0 false 1087 3 [(S "excess"),(S "more"),(S "less"),(S "sums"),(S "order"),(S "total"),(S "told")]).map Subtype.val = some V_law_told := by kernel_rfl
theorem go_law_told (hG : G.Ok) (I : IsG G) (h : V_law_told G n [some x0,some x1,some x2,none,none,none,none] cells (back Q) X) : Sem G (n + 1) (.ref 1087) [x0,x1,x2] cells Q X := goR hG I k_law_told 68 rfl (by decide) (fun h => nomatch h) (fun h => nomatch h) [] [] nodv (bd I fun _ _ _ _ _ => by kernel_rfl) rfl rfl h
theorem k_law_near : (gF 0 false 1094 3 [(S "place"),(S "up"),(S "down"),(S "far")]).map Subtype.val = some V_law_near := by kernel_rfl
theorem go_law_near (hG : G.Ok) (I : IsG G) (h : V_law_near G n [some x0,some x1,some x2,none] cells (back Q) X) : Sem G (n + 1) (.ref 1094) [x0,x1,x2] cells Q X := goR hG I k_law_near 69 rfl (by decide) (fun h => nomatch h) (fun h => nomatch h) [] [] nodv (bd I fun _ _ _ _ _ => by kernel_rfl) rfl rfl h
theorem k_law_placed : (gF 0 true 1101 5 [(S "found"),(S "rows"),(S "told"),(S "length"),(S "excess"),(S "begins"),(S "fixed"),(S "flexed"),(S "so_far"),(S "at"),(S "size"),(S "up"),(S "down"),(S "rest"),(S "seen"),(S "out"),(S "own")]).map Subtype.val = some V_law_placed := by kernel_rfl
theorem go_law_placed (hG : G.Ok) (I : IsG G) (hq : G.q = true) (h : V_law_placed G n [some x0,some x1,some x2,some x3,some x4,none,none,none,none,none,none,none,none,none,none,none,none] cells (back Q) X) : Sem G (n + 1) (.ref 1101) [x0,x1,x2,x3,x4] cells Q X := goR hG I k_law_placed 70 rfl (by decide) (fun h => nomatch h) (fun _ => hq) [] [] nodv (bd I fun _ _ _ _ _ _ _ => by kernel_rfl) rfl rfl h
theorem k_is_size : (gF 0 false 836 1 [(S "value")]).map Subtype.val = some V_is_size := by kernel_rfl
theorem go_is_size (hG : G.Ok) (I : IsG G) (h : V_is_size G n [some x0] cells (back Q) X) : Sem G (n + 1) (.ref 836) [x0] cells Q X := goR hG I k_is_size 71 rfl (by decide) (fun h => nomatch h) (fun h => nomatch h) [] [] nodv (bd I fun _ _ _ => by kernel_rfl) rfl rfl h
theorem k_check_sizes : (gF 0 false 843 1 [(S "sizes"),(S "size")]).map Subtype.val = some V_check_sizes := by kernel_rfl
theorem go_check_sizes (hG : G.Ok) (I : IsG G) (h : V_check_sizes G n [some x0,none] cells (back Q) X) : Sem G (n + 1) (.ref 843) [x0] cells Q X := goR hG I k_check_sizes 72 rfl (by decide) (fun h => nomatch h) (fun h => nomatch h) [] [] nodv (bd I fun _ _ _ => by kernel_rfl) rfl rfl h
theorem k_check_chars : (gF 2 true 857 2 [(S "chars"),(S "many"),(S "code"),(S "row"),(S "sort"),(S "rest")]).map Subtype.val = some V_check_chars := by kernel_rfl
theorem go_check_chars (hG : G.Ok) (I : IsG G) (hq : G.q = true) (h : V_check_chars G n [some x0,some x1,none,none,none,none] cells (back Q) X) : Sem G (n + 1) (.ref 857) [x0,x1] cells Q X := goR hG I k_check_chars 73 rfl (by decide) (fun h => nomatch h) (fun _ => hq) [] [] nodv (bd I fun _ _ _ _ => by kernel_rfl) rfl rfl h
theorem k_check_larger : (gF 0 true 864 1 [(S "chars"),(S "code"),(S "far"),(S "turns")]).map Subtype.val = some V_check_larger := by kernel_rfl
theorem go_check_larger (hG : G.Ok) (I : IsG G) (hq : G.q = true) (h : V_check_larger G n [some x0,none,none,none] cells (back Q) X) : Sem G (n + 1) (.ref 864) [x0] cells Q X := goR hG I k_check_larger 74 rfl (by decide) (fun h => nomatch h) (fun _ => hq) [] [] nodv (bd I fun _ _ _ => by kernel_rfl) rfl rfl h
theorem k_check_program : (gF 0 true 871 4 [(S "program"),(S "kerns"),(S "chars"),(S "boundary"),(S "many"),(S "place"),(S "row"),(S "octet"),(S "skip"),(S "following"),(S "op"),(S "rest")]).map Subtype.val = some V_check_program := by kernel_rfl
theorem go_check_program (hG : G.Ok) (I : IsG G) (hq : G.q = true) (h : V_check_program G n [some x0,some x1,some x2,some x3,none,none,none,none,none,none,none,none] cells (back Q) X) : Sem G (n + 1) (.ref 871) [x0,x1,x2,x3] cells Q X := goR hG I k_check_program 75 rfl (by decide) (fun h => nomatch h) (fun _ => hq) [] [] nodv (bd I fun _ _ _ _ _ _ => by kernel_rfl) rfl rfl h
theorem k_left_start : (gF 0 true 878 1 [(S "program"),(S "skip"),(S "following"),(S "op"),(S "rest")]).map Subtype.val = some V_left_start := by kernel_rfl
theorem go_left_start (hG : G.Ok) (I : IsG G) (hq : G.q = true) (h : V_left_start G n [some x0,none,none,none,none] cells (back Q) X) : Sem G (n + 1) (.ref 878) [x0] cells Q X := goR hG I k_left_start 76 rfl (by decide) (fun h => nomatch h) (fun _ => hq) [] [] nodv (bd I fun _ _ _ => by kernel_rfl) rfl rfl h
theorem k_Font_init : (gF 0 false 895 9 [(S "self"),(S "number"),(S "name"),(S "size"),(S "params"),(S "chars"),(S "program"),(S "kerns"),(S "boundary")]).map Subtype.val = some V_Font_init := by kernel_rfl
theorem go_Font_init (hG : G.Ok) (I : IsG G) (h : V_Font_init G n [some x0,some x1,some x2,some x3,some x4,some x5,some x6,some x7,some x8] cells (back Q) X) : Sem G (n + 1) (.ref 895) [x0,x1,x2,x3,x4,x5,x6,x7,x8] cells Q X := goR hG I k_Font_init 77 rfl (by decide) (fun h => nomatch h) (fun h => nomatch h) [] [] nodv (bd I fun _ _ _ _ _ _ _ _ _ _ _ => by kernel_rfl) rfl rfl h
theorem k_Font_width : (gF 0 false 909 2 [(S "self"),(S "code")]).map Subtype.val = some V_Font_width := by kernel_rfl
theorem go_Font_width (hG : G.Ok) (I : IsG G) (h : V_Font_width G n [some x0,some x1] cells (back Q) X) : Sem G (n + 1) (.ref 909) [x0,x1] cells Q X := goR hG I k_Font_width 78 rfl (by decide) (fun h => nomatch h) (fun h => nomatch h) [] [] nodv (bd I fun _ _ _ _ => by kernel_rfl) rfl rfl h
theorem k_Font_height : (gF 0 false 916 2 [(S "self"),(S "code")]).map Subtype.val = some V_Font_height := by kernel_rfl
theorem go_Font_height (hG : G.Ok) (I : IsG G) (h : V_Font_height G n [some x0,some x1] cells (back Q) X) : Sem G (n + 1) (.ref 916) [x0,x1] cells Q X := goR hG I k_Font_height 79 rfl (by decide) (fun h => nomatch h) (fun h => nomatch h) [] [] nodv (bd I fun _ _ _ _ => by kernel_rfl) rfl rfl h
theorem k_Font_depth : (gF 0 false 923 2 [(S "self"),(S "code")]).map Subtype.val = some V_Font_depth := by kernel_rfl
theorem go_Font_depth (hG : G.Ok) (I : IsG G) (h : V_Font_depth G n [some x0,some x1] cells (back Q) X) : Sem G (n + 1) (.ref 923) [x0,x1] cells Q X := goR hG I k_Font_depth 80 rfl (by decide) (fun h => nomatch h) (fun h => nomatch h) [] [] nodv (bd I fun _ _ _ _ => by kernel_rfl) rfl rfl h
theorem k_font_name : (gF 0 false 979 1 [(S "number"),(S "left"),(S "found")]).map Subtype.val = some V_font_name := by kernel_rfl
theorem go_font_name (hG : G.Ok) (I : IsG G) (h : V_font_name G n [some x0,none,none] cells (back Q) X) : Sem G (n + 1) (.ref 979) [x0] cells Q X := goR hG I k_font_name 81 rfl (by decide) (fun h => nomatch h) (fun h => nomatch h) [] [] nodv (bd I fun _ _ _ => by kernel_rfl) rfl rfl h
theorem k_font_of_rows : (gF 4 false 989 6 [(S "number"),(S "rows"),(S "params"),(S "program"),(S "kerns"),(S "boundary"),(S "chars"),(S "row")]).map Subtype.val = some V_font_of_rows := by kernel_rfl
theorem go_font_of_rows2 (hG : G.Ok) (I : IsG G) (h : V_font_of_rows G n [some x0,some x1,some (paramsV),some (.tup []),some (.tup []),some (.int 256),none,none] cells (back Q) X) : Sem G (n + 1) (.ref 989) [x0,x1] cells Q X := goR hG I k_font_of_rows 82 rfl (by decide) (fun h => nomatch h) (fun h => nomatch h) [paramsV,.tup [],.tup [],.int 256] [.ref 829,.ref 980,.ref 981,.int 256 1392] (fun _ _ hz => (rvl_cons.mpr ⟨_,_,rfl,(I.sp _ _ hz),(rvl_cons.mpr ⟨_,_,rfl,(I.e0 _ _ hz),(rvl_cons.mpr ⟨_,_,rfl,(I.e1 _ _ hz),(rvl_cons.mpr ⟨_,_,rfl,rv_int.mpr ⟨_,rfl⟩,(rvl_nil.mpr rfl)⟩)⟩)⟩)⟩)) (bd I fun _ _ _ _ => by kernel_rfl) rfl rfl h
end Mine
end
section
open PySem PySem.W PyProof.Rows
namespace Mine
variable {G : Gx} {cells : List Cell} {Q : V → List Cell → Prop} {X : List Cell → Prop}
theorem br {p : Prop} {d : Decidable p} {A B : Prop} (h1 : p → A) (h2 : ¬p → B) : brW (decide p) A B := by
  cases h : decide p
  · exact h2 (of_decide_eq_false h)
  · exact h1 (of_decide_eq_true h)
theorem brn {p : Prop} {d : Decidable p} {A B : Prop} (h1 : ¬p → A) (h2 : p → B) : brW (!decide p) A B := by
  cases h : decide p
  · exact h1 (of_decide_eq_false h)
  · exact h2 (of_decide_eq_true h)
theorem brT {p : Prop} {d : Decidable p} {A B : Prop} (h : p) (k : A) : brW (decide p) A B := br (fun _ => k) fun n => absurd h n
theorem brF {p : Prop} {d : Decidable p} {A B : Prop} (h : ¬p) (k : B) : brW (decide p) A B := br (fun n => absurd n h) fun _ => k
theorem brnF {p : Prop} {d : Decidable p} {A B : Prop} (h : p) (k : B) : brW (!decide p) A B := brn (fun n => absurd h n) fun _ => k
theorem okI {c : Bool} {A : Prop} (h : c = true) (k : A) : okW c A := by subst h; exact k
theorem okL {a b : Nat} {A : Prop} (h : a ≤ b) (k : A) : okW (Nat.ble a b) A := okI (Nat.ble_eq.mpr h) k
theorem setA {c ka : Nat} {fs : List (Nat × V)} {v : V} {kk : List Cell → Prop} (h : (tb.own c ka && Nat.ble fs.length 100) = true) (k : kk (cells ++ [.inst c (putF ka v fs)])) : setAV tb (cells ++ [.inst c fs]) (.cell cells.length) ka v kk := by
  show (match (cells ++ [Cell.inst c fs])[cells.length]? with | some (.inst c' fs') => okW (tb.own c' ka && Nat.ble fs'.length 100) (kk ((cells ++ [Cell.inst c fs]).set cells.length (.inst c' (putF ka v fs')))) | _ => False)
  rw [getApp0]
  exact okI h (by rw [setApp0]; exact k)
noncomputable def kNew (Q : V → List Cell → Prop) (cells : List Cell) (v : V) (c' : List Cell) : Prop := v = .none ∧ ∃ c fs,c' = cells ++ [.inst c fs] ∧ ncF fs ∧ Q (.inst c fs) cells
theorem hset {c : List Cell} {h : Nat} {x y : Cell} (hx : c[h]? = some y) : (c.set h x)[h]? = some x := List.getElem?_set_self (List.getElem?_eq_some_iff.mp hx).1
theorem hsl {c : List Cell} {h : Nat} {x : Cell} (hx : h < c.length) : (c.set h x)[h]? = some x := List.getElem?_set_self hx
theorem hlt {c : List Cell} {h : Nat} {y : Cell} (hx : c[h]? = some y) : h < c.length := (List.getElem?_eq_some_iff.mp hx).1
section
variable {m : Nat} {l : List V} {j : Int} {v : V} {c ka : Nat} {fs : List (Nat × V)}
theorem idxC {kk : V → Prop} (hc : cells[m]? = some (.lst l)) (k : seqIx l j kk) : idxW cells (.cell m) (.int j) kk := by
  show (match cells[m]? with | some (.lst l) => seqIx l j kk | _ => False)
  rw [hc]; exact k
theorem seqI {kk : V → Prop} (h : -(2 ^ 63) ≤ j ∧ j < 2 ^ 63) (e : ixOf l j = some v) (k : kk v) : seqIx l j kk := by
  unfold seqIx; simp only [e]; exact okI (inR_iff.mpr h) k
theorem setIC {kk : List Cell → Prop} (hc : cells[m]? = some (.lst l)) (h : 0 ≤ j ∧ j < l.length ∧ j < 2 ^ 63) (k : kk (cells.set m (.lst (l.set j.toNat v)))) : setIV cells (.cell m) (.int j) v kk := by
  show (match cells[m]? with | some (.lst l) => (0 ≤ j ∧ j < l.length ∧ j < 2 ^ 63) ∧ kk (cells.set m (.lst (l.set j.toNat v))) | _ => False)
  rw [hc]; exact ⟨h,k⟩
theorem getIC {kk : V → Prop} (hc : cells[m]? = some (.lst l)) (h : 0 ≤ j ∧ j < 2 ^ 63) (e : l[j.toNat]? = some v) (k : kk v) : getIV cells (.cell m) (.int j) kk := by
  show (match cells[m]? with | some (.lst l) => (0 ≤ j ∧ j < 2 ^ 63) ∧ ∃ v,l[j.toNat]? = some v ∧ kk v | _ => False)
  rw [hc]; exact ⟨h,v,e,k⟩
theorem attrC {kk : V → Prop} (hc : cells[m]? = some (.inst c fs)) (k : attrW tb c fs ka kk) : attrV tb cells (.cell m) ka kk := by
  show (match cells[m]? with | some (.inst c fs) => attrW tb c fs ka kk | _ => False)
  rw [hc]; exact k
theorem setAC {kk : List Cell → Prop} (hc : cells[m]? = some (.inst c fs)) (h : (tb.own c ka && Nat.ble fs.length 100) = true) (k : kk (cells.set m (.inst c (putF ka v fs)))) : setAV tb cells (.cell m) ka v kk := by
  show (match cells[m]? with | some (.inst c fs) => okW (tb.own c ka && Nat.ble fs.length 100) (kk (cells.set m (.inst c (putF ka v fs)))) | _ => False)
  rw [hc]; exact okI h k
theorem appC {kk : List Cell → Prop} (hc : cells[m]? = some (.lst l)) (h : l.length ≤ 16000000) (k : kk (cells.set m (.lst (l ++ [v])))) : appW cells (.cell m) v kk := by
  show (match cells[m]? with | some (.lst l) => l.length ≤ 16000000 ∧ kk (cells.set m (.lst (l ++ [v]))) | _ => False)
  rw [hc]; exact ⟨h,k⟩
theorem extC {l2 : List V} {kk : List Cell → Prop} (hc : cells[m]? = some (.lst l)) (h : l.length + l2.length ≤ 16000000) (k : kk (cells.set m (.lst (l ++ l2)))) : extW cells (.cell m) (.lst l2) kk := by
  show (match cells[m]? with | some (.lst l) => l.length + l2.length ≤ 16000000 ∧ kk (cells.set m (.lst (l ++ l2))) | _ => False)
  rw [hc]; exact ⟨h,k⟩
theorem methC {kk : Addr → Prop} (hc : cells[m]? = some (.inst c fs)) (k : methO tb c fs ka kk) : methW tb cells (.cell m) ka kk := by
  show (match cells[m]? with | some (.inst c fs) => methO tb c fs ka kk | _ => False)
  rw [hc]; exact k
theorem lstC {kk : Nat → List V → Prop} (hc : cells[m]? = some (.lst l)) (k : kk m l) : lstV cells (.cell m) kk := by
  show (match cells[m]? with | some (.lst l) => kk m l | _ => False)
  rw [hc]; exact k
end
section
variable {p q : Prop} {d : Decidable p} {d' : Decidable q} {u : Bool} {A B : Prop}
theorem brB (h1 : u = true → A) (h2 : u = false → B) : brW u A B := by
  cases u
  · exact h2 rfl
  · exact h1 rfl
theorem brOr (h1 : p ∨ q → A) (h2 : ¬p → ¬q → B) : brW (decide p) A (brW (decide q) A B) := br (fun h => h1 (.inl h)) fun h => br (fun h' => h1 (.inr h')) fun h' => h2 h h'
theorem brAnd (h1 : p → q → A) (h2 : ¬(p ∧ q) → B) : brW (decide p) (brW (decide q) A B) B := br (fun h => br (fun h' => h1 h h') fun h' => h2 fun x => h' x.2) fun h => h2 fun x => h x.1
theorem brOrU (h1 : p ∨ u = true → A) (h2 : ¬p → u = false → B) : brW (decide p) A (brW u A B) := br (fun h => h1 (.inl h)) fun h => brB (fun h' => h1 (.inr h')) fun h' => h2 h h'
theorem brOrA (h1 : p ∨ (q ∧ u = true) → A) (h2 : ¬p → (q → u = false) → B) : brW (decide p) A (brW (decide q) (brW u A B) B) :=
  br (fun h => h1 (.inl h)) fun h => br (fun h' => brB (fun e => h1 (.inr ⟨h',e⟩)) fun e => h2 h fun _ => e) fun h' => h2 h fun e => absurd e h'
theorem brUOr (h1 : u = false → A) (h2 : B) : brW (!u) (brW (decide p) A (brW (decide q) A B)) B := by
  cases u
  · exact brOr (fun _ => h1 rfl) fun _ _ => h2
  · exact h2
end
theorem c_is_whole (hG : G.Ok) (I : IsG G) {n : Nat} {v lo hi : Int} (h : Q (.bool (decide (lo ≤ v) && decide (v ≤ hi))) cells) : Sem G (n + 1) (.ref 101) [.int v,.int lo,.int hi] cells Q X := by
  refine go_is_whole hG I (.inl ⟨_,rfl,.inr ⟨_,rfl,?_⟩⟩)
  refine br (fun h1 => ?_) (fun h1 => ?_)
  · rw [decide_eq_true h1] at h; exact h
  · rw [decide_eq_false h1] at h; exact h
theorem c_check_whole (hG : G.Ok) (I : IsG G) {n : Nat} {v : Int} (h : Q (.int v) cells) : Sem G (n + 1) (.ref 108) [.int v] cells Q X := go_check_whole hG I (.inl ⟨_,rfl,.inr ⟨_,rfl,h⟩⟩)
theorem c_check_dimen (hG : G.Ok) (I : IsG G) {n : Nat} {v : Int} (h : -1073741823 ≤ v → v ≤ 1073741823 → Q (.int v) cells) (hx : v < -1073741823 ∨ 1073741823 < v → X cells) : Sem G (n + 3) (.ref 122) [.int v] cells Q X := by
  refine go_check_dimen (n := n) hG I ?_
  refine c_check_whole hG I ?_
  refine br (fun h1 => brn (fun h2 => hx (.inr (Int.not_le.mp h2))) (h h1)) (fun h1 => hx (.inl (Int.not_le.mp h1)))
theorem c_check_number (hG : G.Ok) (I : IsG G) {n : Nat} {v : Int} (h1 : -2147483647 ≤ v) (h2 : v ≤ 2147483647) (h : Q (.int v) cells) : Sem G (n + 2) (.ref 115) [.int v] cells Q X := by
  refine go_check_number hG I ?_
  refine c_check_whole hG I ?_
  exact brT h1 (brnF h2 h)
theorem mulS {i j : Int} (h1 : -(2 ^ 64) < i) (h2 : i < 2 ^ 64) : IntMulOk i j := .of_left (intBits_le_64 h1 h2)
theorem mulS' {i j : Int} (h1 : -(2 ^ 64) < j) (h2 : j < 2 ^ 64) : IntMulOk i j := .of_right (intBits_le_64 h1 h2)
theorem mul2 {j : Int} : IntMulOk 2 j := mulS (by decide) (by decide)
theorem divS {i j : Int} (h1 : -(2 ^ 64) < j) (h2 : j < 2 ^ 64) : Builtin.divisionGoesByPylong i j = false := by
  unfold Builtin.divisionGoesByPylong
  dsimp only
  have : ¬ ((if (j == 0) = true then 0 else j.natAbs.log2 / 30 + 1) > 300) := by
    split
    · omega
    · have : j.natAbs.log2 < 64 := (Nat.log2_lt (by rename_i h; simpa using h)).mpr (by omega)
      lia
  rw [decide_eq_false this]; rfl
noncomputable def rnd (a b : Int) : Int := if a < 0 then -((b - 2 * a).fdiv (2 * b)) else (2 * a + b).fdiv (2 * b)
theorem c_rounded (hG : G.Ok) (I : IsG G) {n : Nat} {a b : Int} (hb : 0 < b) (hb2 : b < 2 ^ 60) (h : Q (.int (rnd a b)) cells) : Sem G (n + 1) (.ref 129) [.int a,.int b] cells Q X := by
  refine go_rounded hG I ?_
  have d : (2 * b ≠ 0 ∧ ∀ i,Builtin.divisionGoesByPylong i (2 * b) = false) := ⟨by omega,fun i => divS (by omega) (by omega)⟩
  unfold rnd at h
  refine brF (Int.not_le.mpr hb) (br (fun h2 => ?_) (fun h2 => ?_))
  · rw [if_pos h2] at h; exact ⟨mul2,mul2,⟨d.1,d.2 _⟩,h⟩
  · rw [if_neg h2] at h; exact ⟨mul2,mul2,⟨d.1,d.2 _⟩,h⟩
noncomputable def mkTab : List (Nat × Nat) := [(246,193),(309,271),(364,361),(384,381),(405,402),(426,423),(447,444),(469,466),(490,487),(511,508),(532,529),(553,550),(574,571),(595,592),(616,613),(638,635),(968,895)]
theorem mkTab_ok (P : Params) : (mkTab.all fun p => makesIn (K P) p.1 && (findIn (K P) (.ref p.1) "__init__" == some (some (.ref p.2))) && (typeIn (K P) (.ref p.2) == some (.type "function"))) = true := by kernel_rfl
theorem c_make (hG : G.Ok) (I : IsG G) {n : Nat} {args : List V} (c fI : Nat) (hm : (mkTab.contains (c,fI)) = true) (h : Sem G n (.ref fI) (.cell cells.length :: args) (cells ++ [.inst c []]) (fun v c' => match v with | .none => Q (.cell cells.length) c' | _ => False) X) : Sem G (n + 1) (.ref c) args cells Q X := by
  have := List.all_eq_true.mp (mkTab_ok G.w.params) (c,fI) (by simpa using hm)
  simp only [Bool.and_eq_true,beq_iff_eq] at this
  exact sem_make hG (by rw [I.k]; exact this.1.1) (by rw [I.k]; exact this.1.2) (by rw [I.k]; exact this.2) h
theorem c_new (hG : G.Ok) (I : IsG G) {n : Nat} {args : List V} (c fI : Nat) (hm : (mkTab.contains (c,fI)) = true) (h : Sem G n (.ref fI) (.cell cells.length :: args) (cells ++ [.inst c []]) (kNew Q cells) X) : Sem G (n + 1) (.ref c) args cells Q X := by
  refine sem_drop (c_make hG I c fI hm (h.mono (fun v c' k => ?_) fun _ x => x))
  obtain ⟨rfl,c,fs,rfl,hn,hQ⟩ := k
  have e : fz cells.length (cells ++ [Cell.inst c fs]) 6 (.cell cells.length) = .inst c fs := by
    rw [fz_cell0]
    exact congrArg (V.inst c) (fz_ncF 5 hn)
  show (nc (fz _ _ _ _) ∧ _) ∧ Q (fz _ _ _ _) _
  rw [e,kept_take]
  exact ⟨⟨hn,Kept.refl.app⟩,hQ⟩
noncomputable def glueV (w s so h ho : Int) : V := .inst 246 [(7,.int w),(15,.int s),(16,.int so),(17,.int h),(18,.int ho)]
noncomputable def Dim (v : Int) : Prop := -1073741823 ≤ v ∧ v ≤ 1073741823
theorem dim0 : Dim 0 := by unfold Dim; lia
theorem c_dim (hG : G.Ok) (I : IsG G) {n : Nat} {v : Int} (hd : Dim v) (h : Q (.int v) cells) : Sem G (n + 3) (.ref 122) [.int v] cells Q X :=
  c_check_dimen hG I (fun _ _ => h) fun e => by unfold Dim at hd; omega
theorem c_whole (hG : G.Ok) (I : IsG G) {n : Nat} {v lo hi : Int} (h1 : lo ≤ v ∧ v ≤ hi) (h : Q (.bool true) cells) : Sem G (n + 1) (.ref 101) [.int v,.int lo,.int hi] cells Q X :=
  c_is_whole hG I (by rw [decide_eq_true h1.1,decide_eq_true h1.2]; exact h)
theorem c_Glue (hG : G.Ok) (I : IsG G) {n : Nat} {w s so h ho : Int} (hw : Dim w) (hs : Dim s) (hh : Dim h) (h1 : 0 ≤ so ∧ so ≤ 3) (h2 : 0 ≤ ho ∧ ho ≤ 3) (hQ : Q (glueV w s (if s = 0 then 0 else so) h (if h = 0 then 0 else ho)) cells) :
    Sem G (n + 5) (.ref 246) [.int w,.int s,.int so,.int h,.int ho] cells Q X := by
  have hQ : ∀ a b,(if s = 0 then 0 else so) = a → (if h = 0 then 0 else ho) = b → Q (glueV w s a h b) cells := by rintro _ _ rfl rfl; exact hQ
  refine c_new hG I 246 193 (by decide) (go_Glue_init hG I ?_)
  refine c_whole hG I h1 (c_whole hG I h2 (c_dim hG I hw ?_))
  ((conv => whnf); refine setA rfl ?_)
  refine c_dim hG I hs ?_
  ((conv => whnf); refine setA rfl ?_)
  have end_ : ∀ a b,(if s = 0 then 0 else so) = a → (if h = 0 then 0 else ho) = b → kNew Q cells .none (cells ++ [.inst 246 [(7,.int w),(15,.int s),(16,.int a),(17,.int h),(18,.int b)]]) := fun a b ea eb =>
    ⟨rfl,_,_,rfl,⟨trivial,trivial,trivial,trivial,trivial,trivial⟩,hQ a b ea eb⟩
  refine brn (fun e1 => ?_) (fun e1 => ?_) <;> ((conv => whnf); refine setA rfl ?_) <;> refine c_dim hG I hh ?_ <;> ((conv => whnf); refine setA rfl ?_) <;> refine brn (fun e2 => ?_) (fun e2 => ?_) <;> ((conv => whnf); refine setA rfl ?_) <;>
    exact end_ _ _ (by first | exact if_pos e1 | exact if_neg e1) (by first | exact if_pos e2 | exact if_neg e2)
theorem c_Glue0 (hG : G.Ok) (I : IsG G) {n : Nat} (hQ : Q (glueV 0 0 0 0 0) cells) : Sem G (n + 5) (.ref 246) [] cells Q X := by
  refine c_new hG I 246 193 (by decide) (go_Glue_init1 hG I ?_)
  refine c_whole hG I (by decide) (c_whole hG I (by decide) (c_dim hG I dim0 ?_))
  ((conv => whnf); refine setA rfl ?_)
  refine c_dim hG I dim0 ?_
  ((conv => whnf); refine setA rfl ?_)
  ((conv => whnf); refine setA rfl ?_)
  refine c_dim hG I dim0 ?_
  ((conv => whnf); refine setA rfl ?_)
  ((conv => whnf); refine setA rfl ?_)
  exact ⟨rfl,_,_,rfl,⟨trivial,trivial,trivial,trivial,trivial,trivial⟩,hQ⟩
theorem c_code (hG : G.Ok) (I : IsG G) {n : Nat} {v : Int} (hv : 0 ≤ v ∧ v ≤ 255) (h : Q (.int v) cells) : Sem G (n + 2) (.ref 340) [.int v] cells Q X :=
  go_check_code hG I (c_whole hG I hv h)
noncomputable def charV (f : V) (c : Int) : V := .inst 364 [(2,f),(1,.int c)]
theorem c_Char (hG : G.Ok) (I : IsG G) {n : Nat} {f : V} {v : Int} (hf : nc f) (hv : 0 ≤ v ∧ v ≤ 255) (hQ : Q (charV f v) cells) : Sem G (n + 4) (.ref 364) [f,.int v] cells Q X := by
  refine c_new hG I 364 361 (by decide) (go_Char_init hG I ?_)
  ((conv => whnf); refine setA rfl ?_)
  refine c_code hG I hv ?_
  ((conv => whnf); refine setA rfl ?_)
  exact ⟨rfl,_,_,rfl,⟨hf,trivial,trivial⟩,hQ⟩
noncomputable def ligV (f : V) (c : Int) : V := .inst 384 [(2,f),(1,.int c),(3,.tup [.int 97,.int 98]),(4,.bool false),(5,.bool false)]
theorem c_Ligature (hG : G.Ok) (I : IsG G) {n : Nat} {f : V} {v : Int} (hf : nc f) (hv : 0 ≤ v ∧ v ≤ 255) (hQ : Q (ligV f v) cells) : Sem G (n + 4) (.ref 384) [f,.int v,.tup [.int 97,.int 98]] cells Q X := by
  refine c_new hG I 384 381 (by decide) (go_Ligature_init4 hG I ?_)
  ((conv => whnf); refine setA rfl ?_)
  refine c_code hG I hv ?_
  ((conv => whnf); refine setA rfl ?_)
  refine c_code hG I (by decide) ?_
  refine c_code hG I (by decide) ?_
  ((conv => whnf); refine setA rfl ?_)
  ((conv => whnf); refine setA rfl ?_)
  ((conv => whnf); refine setA rfl ?_)
  exact ⟨rfl,_,_,rfl,⟨hf,trivial,⟨trivial,trivial,trivial⟩,trivial,trivial,trivial⟩,hQ⟩
noncomputable def boxV (k w h d : Int) (items : V) (sh sg od a b : Int) : List (Nat × V) := [(6,.int k),(7,.int w),(8,.int h),(9,.int d),(10,items),(11,.int sh),(12,.int sg),(13,.int od),(14,.tup [.int a,.int b])]
theorem c_Box (hG : G.Ok) (I : IsG G) {n : Nat} {k w h d : Int} {items : V} (hk : 2 ≤ k ∧ k ≤ 3) (hw : Dim w) (hh : Dim h) (hd : Dim d) (hQ : Q (.cell cells.length) (cells ++ [.inst 405 (boxV k w h d items 0 0 0 0 1)])) : Sem G (n + 5) (.ref 405) [.int k,.int w,.int h,.int d,items] cells Q X := by
  refine c_make hG I 405 402 (by decide) (go_Box_init hG I ?_)
  refine c_whole hG I hk ?_
  ((conv => whnf); refine setA rfl ?_)
  refine c_dim hG I hw ?_
  ((conv => whnf); refine setA rfl ?_)
  refine c_dim hG I hh ?_
  ((conv => whnf); refine setA rfl ?_)
  refine c_dim hG I hd ?_
  ((conv => whnf); refine setA rfl ?_)
  ((conv => whnf); refine setA rfl ?_)
  ((conv => whnf); refine setA rfl ?_)
  ((conv => whnf); refine setA rfl ?_)
  ((conv => whnf); refine setA rfl ?_)
  ((conv => whnf); refine setA rfl ?_)
  exact hQ
noncomputable def optV : Option Int → V
  | none => .none
  | some i => .int i
noncomputable def ODim (o : Option Int) : Prop := ∀ i,o = some i → Dim i
noncomputable def ruleV (w h d : Option Int) : V := .inst 426 [(7,optV w),(8,optV h),(9,optV d)]
noncomputable def kernV (w sort : Int) : V := .inst 447 [(7,.int w),(20,.int sort)]
theorem c_Kern (hG : G.Ok) (I : IsG G) {n : Nat} {w k : Int} (hw : Dim w) (hk : 0 ≤ k ∧ k ≤ 3) (hQ : Q (kernV w k) cells) : Sem G (n + 5) (.ref 447) [.int w,.int k] cells Q X := by
  refine c_new hG I 447 444 (by decide) (go_Kern_init hG I ?_)
  refine c_whole hG I hk (c_dim hG I hw ?_)
  ((conv => whnf); refine setA rfl ?_)
  ((conv => whnf); refine setA rfl ?_)
  exact ⟨rfl,_,_,rfl,⟨trivial,trivial,trivial⟩,hQ⟩
noncomputable def penV (v : Int) : V := .inst 490 [(23,.int v)]
theorem c_Penalty (hG : G.Ok) (I : IsG G) {n : Nat} {v : Int} (h1 : -2147483647 ≤ v) (h2 : v ≤ 2147483647) (hQ : Q (penV v) cells) : Sem G (n + 4) (.ref 490) [.int v] cells Q X := by
  refine c_new hG I 490 487 (by decide) (go_Penalty_init hG I ?_)
  refine c_check_number hG I h1 h2 ?_
  ((conv => whnf); refine setA rfl ?_)
  exact ⟨rfl,_,_,rfl,⟨trivial,trivial⟩,hQ⟩
theorem c_odim (hG : G.Ok) (I : IsG G) {n : Nat} {lc : Lc} {o : Option Int} (h : ODim o) {l : List V} {k : KS} (hl : lc.length = 5) (hk : forI ((bC (sI (tOp pIsN (wL 4) (wC .none)) (bC (sE (wCa (.ref 122) (lC (wL 4) lN))) bN) bN) bN) G (n + 3)) 4 l (lc.set 4 (some (optV o))) cells k no_) :
    forI ((bC (sI (tOp pIsN (wL 4) (wC .none)) (bC (sE (wCa (.ref 122) (lC (wL 4) lN))) bN) bN) bN) G (n + 3)) 4 (optV o :: l) lc cells k no_ := by
  have e : (lc.set 4 (some (optV o)))[4]? = some (some (optV o)) := List.getElem?_set_self (by omega)
  refine forC ?_
  show match (lc.set 4 (some (optV o)))[4]? with | some (some v) => _ | _ => False
  rw [e]
  cases o with
  | none => exact hk
  | some i =>
    conv => whnf
    rw [e]
    exact c_dim hG I (h i rfl) hk
theorem c_Rule (hG : G.Ok) (I : IsG G) {n : Nat} {w h d : Option Int} (hw : ODim w) (hh : ODim h) (hd : ODim d) (hQ : Q (ruleV w h d) cells) : Sem G (n + 5) (.ref 426) [optV w,optV h,optV d] cells Q X := by
  refine c_new hG I 426 423 (by decide) (go_Rule_init hG I ?_)
  refine c_odim hG I hw (by rfl) (c_odim hG I hh (by rfl) (c_odim hG I hd (by rfl) (forN ?_)))
  ((conv => whnf); refine setA rfl ?_)
  ((conv => whnf); refine setA rfl ?_)
  ((conv => whnf); refine setA rfl ?_)
  have n : ∀ o,nc (optV o) := fun o => by cases o <;> trivial
  exact ⟨rfl,_,_,rfl,⟨n _,n _,n _,trivial⟩,hQ⟩
noncomputable def skipV (g : V) (sort : Int) (leader : V) : V := .inst 469 [(21,g),(20,.int sort),(22,leader)]
theorem c_Skip (hG : G.Ok) (I : IsG G) {n : Nat} {g : V} (hg : nc g) (hQ : Q (skipV g 0 .none) cells) : Sem G (n + 4) (.ref 469) [g,.int 0] cells Q X := by
  refine c_new hG I 469 466 (by decide) (go_Skip_init3 hG I ?_)
  refine c_whole hG I (by decide) ?_
  ((conv => whnf); refine setA rfl ?_)
  ((conv => whnf); refine setA rfl ?_)
  ((conv => whnf); refine setA rfl ?_)
  exact ⟨rfl,_,_,rfl,⟨hg,trivial,trivial,trivial⟩,hQ⟩
theorem c_SkipL (hG : G.Ok) (I : IsG G) {n : Nat} {g : V} {sort k w h d sh : Int} (hg : nc g) (hs : 1 ≤ sort ∧ sort ≤ 3) (hk : 2 ≤ k ∧ k ≤ 3) (hQ : Q (skipV g sort (.inst 405 (boxV k w h d (.lst []) sh 0 0 0 1))) cells) :
    Sem G (n + 4) (.ref 469) [g,.int sort,.inst 405 (boxV k w h d (.lst []) sh 0 0 0 1)] cells Q X := by
  refine c_new hG I 469 466 (by decide) (go_Skip_init hG I ?_)
  refine c_whole hG I ⟨by omega,by omega⟩ (brT hs.1 ?_)
  conv => whnf
  rw [decide_eq_true hs.2]
  refine brT hk.1 (brnF (show k ≤ 4 by omega) ?_)
  ((conv => whnf); refine setA rfl ?_)
  ((conv => whnf); refine setA rfl ?_)
  ((conv => whnf); refine setA rfl ?_)
  exact ⟨rfl,_,_,rfl,⟨hg,trivial,⟨trivial,trivial,trivial,trivial,trivial,trivial,trivial,trivial,⟨trivial,trivial,trivial⟩,trivial⟩,trivial⟩,hQ⟩
noncomputable def discV (f : V) (c s : Int) : V := .inst 511 [(24,.lst [charV f 98]),(25,.lst []),(26,.lst [charV f c,kernV s 0])]
theorem c_Disc (hG : G.Ok) (I : IsG G) {n : Nat} {f : V} {c s : Int} (hf : nc f) (hQ : Q (discV f c s) cells) : Sem G (n + 4) (.ref 511) [.lst [charV f 98],.lst [],.lst [charV f c,kernV s 0]] cells Q X := by
  refine c_new hG I 511 508 (by decide) (go_Disc_init hG I ?_)
  refine go_check_short hG I (forC (forN ?_))
  ((conv => whnf); refine setA rfl ?_)
  refine go_check_short hG I (forN ?_)
  ((conv => whnf); refine setA rfl ?_)
  refine go_check_short hG I (forC (forC (forN ?_)))
  ((conv => whnf); refine setA rfl ?_)
  exact ⟨rfl,_,_,rfl,⟨⟨⟨hf,trivial,trivial⟩,trivial⟩,trivial,⟨⟨hf,trivial,trivial⟩,⟨trivial,trivial,trivial⟩,trivial⟩,trivial⟩,hQ⟩
noncomputable def markV (t : Int) : V := .inst 532 [(27,.tup [.tup [.int 11,.int t]])]
theorem c_Mark (hG : G.Ok) (I : IsG G) {n : Nat} {t : Int} (hQ : Q (markV t) cells) : Sem G (n + 4) (.ref 532) [.tup [.tup [.int 11,.int t]]] cells Q X := by
  refine c_new hG I 532 529 (by decide) (go_Mark_init hG I ?_)
  ((conv => whnf); refine setA rfl ?_)
  exact ⟨rfl,_,_,rfl,⟨⟨⟨trivial,trivial,trivial⟩,trivial⟩,trivial⟩,hQ⟩
noncomputable def insV (num cost : Int) : V := .inst 553 [(0,.int num),(28,.int 7),(9,.int 0),(29,glueV 0 0 0 0 0),(30,.int cost),(10,.lst [kernV 5 1])]
theorem c_Insert (hG : G.Ok) (I : IsG G) {n : Nat} {num cost : Int} (h1 : 0 ≤ num ∧ num ≤ 254) (h2 : 0 ≤ cost ∧ cost ≤ 10) (hQ : Q (insV num cost) cells) : Sem G (n + 5) (.ref 553) [.int num,.int 7,.int 0,glueV 0 0 0 0 0,.int cost,.lst [kernV 5 1]] cells Q X := by
  refine c_new hG I 553 550 (by decide) (go_Insert_init hG I ?_)
  refine c_whole hG I h1 ?_
  ((conv => whnf); refine setA rfl ?_)
  refine c_dim hG I (by unfold Dim; lia) ?_
  ((conv => whnf); refine setA rfl ?_)
  refine c_dim hG I dim0 ?_
  ((conv => whnf); refine setA rfl ?_)
  ((conv => whnf); refine setA rfl ?_)
  refine c_check_number hG I (by omega) (by omega) ?_
  ((conv => whnf); refine setA rfl ?_)
  ((conv => whnf); refine setA rfl ?_)
  exact ⟨rfl,_,_,rfl,⟨trivial,trivial,trivial,⟨trivial,trivial,trivial,trivial,trivial,trivial⟩,trivial,⟨⟨trivial,trivial,trivial⟩,trivial⟩,trivial⟩,hQ⟩
noncomputable def adjV (items : V) : V := .inst 574 [(10,items)]
theorem c_Adjust (hG : G.Ok) (I : IsG G) {n : Nat} {items : V} (hi : nc items) (hQ : Q (adjV items) cells) : Sem G (n + 4) (.ref 574) [items] cells Q X := by
  refine c_new hG I 574 571 (by decide) (go_Adjust_init hG I ?_)
  ((conv => whnf); refine setA rfl ?_)
  exact ⟨rfl,_,_,rfl,⟨hi,trivial⟩,hQ⟩
noncomputable def mathV (w : Int) : V := .inst 595 [(31,.bool true),(7,.int w)]
theorem c_Math (hG : G.Ok) (I : IsG G) {n : Nat} {w : Int} (hw : Dim w) (hQ : Q (mathV w) cells) : Sem G (n + 5) (.ref 595) [.bool true,.int w] cells Q X := by
  refine c_new hG I 595 592 (by decide) (go_MathEdge_init hG I ?_)
  ((conv => whnf); refine setA rfl ?_)
  refine c_dim hG I hw ?_
  ((conv => whnf); refine setA rfl ?_)
  exact ⟨rfl,_,_,rfl,⟨trivial,trivial,trivial⟩,hQ⟩
noncomputable def specV : V := .inst 616 [(32,.bytes [103,108])]
theorem c_Special (hG : G.Ok) (I : IsG G) (hq : G.q = true) {n : Nat} (hQ : Q specV cells) : Sem G (n + 4) (.ref 616) [.bytes [103,108]] cells Q X := by
  refine c_new hG I 616 613 (by decide) (go_Special_init hG I ?_)
  refine ⟨hq,forC (c_whole hG I (by decide) (forC (c_whole hG I (by decide) (forN ?_))))⟩
  ((conv => whnf); refine setA rfl ?_)
  exact ⟨rfl,_,_,rfl,⟨trivial,trivial⟩,hQ⟩
theorem c_Totals (hG : G.Ok) (I : IsG G) {n : Nat} (hQ : Q (.cell cells.length) (cells ++ [.inst 309 [(19,.int 0),(15,.cell (cells.length + 1)),(17,.cell (cells.length + 2))],.lst [.int 0,.int 0,.int 0,.int 0],.lst [.int 0,.int 0,.int 0,.int 0]])) : Sem G (n + 4) (.ref 309) [] cells Q X := by
  refine c_make hG I 309 271 (by decide) (go_Totals_init hG I ?_)
  ((conv => whnf); refine setA rfl ?_)
  conv => whnf
  simp only [List.append_assoc,List.cons_append,List.nil_append,getApp,getApp0,setApp,setApp0,lenApp,List.length_cons,List.length_nil,Nat.zero_add,List.getElem?_cons_zero,List.getElem?_cons_succ,List.set_cons_zero,List.set_cons_succ]
  conv => whnf
  simp only [List.append_assoc,List.cons_append,List.nil_append,getApp,getApp0,setApp,setApp0,lenApp,List.length_cons,List.length_nil,Nat.zero_add,List.getElem?_cons_zero,List.getElem?_cons_succ,List.set_cons_zero,List.set_cons_succ]
  exact hQ
noncomputable def totV (w : Int) (st sh : List V) : V := .inst 309 [(19,.int w),(15,.lst st),(17,.lst sh)]
noncomputable abbrev z4 : List V := [.int 0,.int 0,.int 0,.int 0]
theorem c_TotalsZ (hG : G.Ok) (I : IsG G) {n : Nat} (hQ : Q (totV 0 z4 z4) cells) : Sem G (n + 4) (.ref 309) [] cells Q X := by
  refine sem_drop (c_Totals hG I ?_)
  rw [fz_cell0]
  show (nc (.inst 309 [(19,.int 0),(15,fz _ _ _ _),(17,fz _ _ _ _)]) ∧ _) ∧ Q (.inst 309 [(19,.int 0),(15,fz _ _ _ _),(17,fz _ _ _ _)]) _
  rw [fz_cellj,fz_cellj,kept_take]
  exact ⟨⟨⟨trivial,⟨trivial,trivial,trivial,trivial,trivial⟩,⟨trivial,trivial,trivial,trivial,trivial⟩,trivial⟩,Kept.refl.app⟩,hQ⟩
noncomputable def unsV (w h d : Int) : V := .inst 638 [(7,.int w),(8,.int h),(9,.int d),(10,.lst []),(33,.int 1),(34,totV 0 z4 z4),(35,.bool false)]
theorem c_Unset (hG : G.Ok) (I : IsG G) {n : Nat} {w h d : Int} (hw : Dim w) (hh : Dim h) (hd : Dim d) (hQ : Q (unsV w h d) cells) : Sem G (n + 5) (.ref 638) [.int w,.int h,.int d,.lst [],.int 1,totV 0 z4 z4] cells Q X := by
  refine c_new hG I 638 635 (by decide) (go_Unset_init7 hG I ?_)
  refine c_whole hG I (by decide) (c_dim hG I hw ?_)
  ((conv => whnf); refine setA rfl ?_)
  refine c_dim hG I hh ?_
  ((conv => whnf); refine setA rfl ?_)
  refine c_dim hG I hd ?_
  ((conv => whnf); refine setA rfl ?_)
  ((conv => whnf); refine setA rfl ?_)
  ((conv => whnf); refine setA rfl ?_)
  ((conv => whnf); refine setA rfl ?_)
  ((conv => whnf); refine setA rfl ?_)
  exact ⟨rfl,_,_,rfl,⟨trivial,trivial,trivial,trivial,trivial,⟨trivial,⟨trivial,trivial,trivial,trivial,trivial⟩,⟨trivial,trivial,trivial,trivial,trivial⟩,trivial⟩,trivial,trivial⟩,hQ⟩
theorem fmR {a m : Int} (hm : 0 < m) : 0 ≤ a.fmod m ∧ a.fmod m < m := ⟨Int.fmod_nonneg_of_pos a hm,Int.fmod_lt_of_pos a hm⟩
noncomputable def Bud (b : Int) (k : Nat) : Prop := 0 ≤ b ∧ b + k ≤ 1000000
noncomputable def Up (b : Int) (k : Nat) (b' : Int) : Prop := b ≤ b' ∧ b' ≤ b + k
theorem Bud.st {b b' : Int} {j k : Nat} (h : Bud b (k + j)) (u : Up b j b') : Bud b' k := by unfold Bud Up at *; omega
theorem Bud.le {b : Int} {j k : Nat} (h : Bud b k) (e : j ≤ k) : Bud b j := by unfold Bud at *; omega
theorem Up.t {b b' b'' : Int} {j k : Nat} (u : Up b j b') (v : Up b' k b'') : Up b (j + k) b'' := by unfold Up at *; omega
theorem Up.le {b b' : Int} {j k : Nat} (u : Up b j b') (e : j ≤ k) : Up b k b' := by unfold Up at *; omega
theorem Up.z {b : Int} {k : Nat} : Up b k b := by unfold Up; omega
theorem Up.one {b : Int} : Up b 1 (b + 1) := by unfold Up; omega
noncomputable abbrev HPc (a b : Int) : Cell := .lst [.int a,.int b]
theorem c_take (hG : G.Ok) (I : IsG G) {n : Nat} {h : Nat} {a b many : Int} (hh : cells[h]? = some (HPc a b)) (hb : Bud b 1) (hm : 0 < many ∧ many ≤ 1000000) (hQ : ∀ d a' b',0 ≤ d → d < many → Up b 1 b' → Q (.int d) (cells.set h (HPc a' b'))) :
    Sem G (n + 1) (.ref 1007) [.cell h,.int many] cells Q X := by
  have m0 : many ≠ 0 := by omega
  have m1 : -(2 ^ 64) < b + 1 ∧ b + 1 < 2 ^ 64 := by unfold Bud at hb; omega
  refine go_law_take hG I (idxC hh (setIC hh ⟨by decide,(by decide : (1 : Int) < 2),by decide⟩ (idxC (hset hh) ?_)))
  refine br (fun h1 => ?_) (fun h1 => ?_)
  · refine idxC (hset hh) (And.intro (mulS (by decide) (by decide)) (idxC (hset hh) (And.intro (mulS' m1.1 m1.2) (idxC (hset hh) (And.intro (mulS (by decide) (by decide)) (And.intro (by decide) (And.intro m0 ?_)))))))
    exact hQ _ _ _ (fmR hm.1).1 (fmR hm.1).2 .one
  · refine idxC (hset hh) (And.intro m0 (idxC (hset hh) (And.intro ⟨m0,divS (by omega) (by omega)⟩ (setIC (hset hh) ⟨by decide,(by decide : (0 : Int) < 2),by decide⟩ ?_))))
    have := hQ (a.fmod many) (a.fdiv many) _ (fmR hm.1).1 (fmR hm.1).2 .one
    conv => whnf
    rw [List.set_set]
    exact this
theorem c_takeS (hG : G.Ok) (I : IsG G) {n : Nat} {h : Nat} {a b many : Int} (hh : h < cells.length) (hb : Bud b 1) (hm : 0 < many ∧ many ≤ 1000000) (hQ : ∀ d a' b',0 ≤ d → d < many → Up b 1 b' → Q (.int d) (cells.set h (HPc a' b'))) :
    Sem G (n + 1) (.ref 1007) [.cell h,.int many] (cells.set h (HPc a b)) Q X :=
  c_take hG I (hsl hh) hb hm fun d a' b' h1 h2 h3 => by rw [List.set_set]; exact hQ d a' b' h1 h2 h3
noncomputable def Sz (s : Int) : Prop := -12 ≤ s ∧ s ≤ 8388607
theorem c_size (hG : G.Ok) (I : IsG G) {n : Nat} {h : Nat} {a b : Int} (hh : cells[h]? = some (HPc a b)) (hb : Bud b 3) (hQ : ∀ d a' b',Sz d → Up b 3 b' → Q (.int d) (cells.set h (HPc a' b'))) :
    Sem G (n + 2) (.ref 1014) [.cell h] cells Q X := by
  refine go_law_size hG I (c_take hG I hh (hb.le (by decide)) (by decide) fun d a1 b1 h1 h2 u1 => ?_)
  have hb1 : Bud b1 2 := hb.st u1
  refine br (fun e => hQ _ _ _ (by unfold Sz; decide) (u1.le (by decide))) fun e => br (fun e2 => ?_) fun e2 => br (fun e3 => ?_) fun e3 => ?_
  · exact c_takeS hG I (hlt hh) (hb1.le (by decide)) (by decide) fun d2 a2 b2 h3 h4 u2 => hQ _ _ _ (by unfold Sz; omega) ((u1.t u2).le (by decide))
  · exact c_takeS hG I (hlt hh) (hb1.le (by decide)) (by decide) fun d2 a2 b2 h3 h4 u2 => ⟨mulS (by decide) (by decide),c_takeS hG I (hlt hh) (hb1.st u2) (by decide) fun d3 a3 b3 h5 h6 u3 => hQ _ _ _ (by unfold Sz; lia) ((u1.t u2).t u3)⟩
  · exact c_takeS hG I (hlt hh) (hb1.le (by decide)) (by decide) fun d2 a2 b2 h3 h4 u2 => hQ _ _ _ (by unfold Sz; omega) ((u1.t u2).le (by decide))
theorem c_sizeS (hG : G.Ok) (I : IsG G) {n : Nat} {h : Nat} {a b : Int} (hh : h < cells.length) (hb : Bud b 3) (hQ : ∀ d a' b',Sz d → Up b 3 b' → Q (.int d) (cells.set h (HPc a' b'))) :
    Sem G (n + 2) (.ref 1014) [.cell h] (cells.set h (HPc a b)) Q X :=
  c_size hG I (hsl hh) hb fun d a' b' h1 h2 => by rw [List.set_set]; exact hQ d a' b' h1 h2
theorem Sz.dim {s : Int} (h : Sz s) : Dim s := by unfold Sz at h; unfold Dim; omega
noncomputable def restV (m f l s : Int) : V := .tup [.int m,.int f,.int l,.int s]
noncomputable def GOk (w s so l lo : Int) : Prop := Sz w ∧ Sz s ∧ Sz l ∧ (0 ≤ so ∧ so ≤ 3) ∧ (0 ≤ lo ∧ lo ≤ 3) ∧ (s = 0 → so = 0) ∧ (l = 0 → lo = 0)
theorem c_glue (hG : G.Ok) (I : IsG G) (hq : G.q = true) {n : Nat} {h : Nat} {a b orders : Int} (hh : cells[h]? = some (HPc a b)) (hb : Bud b 11) (ho : 1 ≤ orders ∧ orders ≤ 4)
    (hQ : ∀ w s so l lo a' b',GOk w s so l lo → Up b 11 b' → Q (.tup [glueV w s so l lo,.int w,restV s so l lo]) (cells.set h (HPc a' b'))) :
    Sem G (n + 6) (.ref 1021) [.cell h,.int orders] cells Q X := by
  have hl := hlt hh
  refine go_law_glue hG I hq ?_
  refine c_size hG I hh (hb.le (by decide)) fun w a1 b1 hw u1 => ?_
  have hb1 : Bud b1 8 := hb.st u1
  refine c_sizeS hG I hl (hb1.le (by decide)) fun s a2 b2 hs u2 => ?_
  have hb2 : Bud b2 5 := hb1.st u2
  refine c_sizeS hG I hl (hb2.le (by decide)) fun l a3 b3 hsl u3 => ?_
  have hb3 : Bud b3 2 := hb2.st u3
  have o4 : 0 < orders ∧ orders ≤ 1000000 := by omega
  refine c_takeS hG I hl (hb3.le (by decide)) o4 fun so a4 b4 h1 h2 u4 => c_takeS hG I hl (hb3.st u4) o4 fun lo a5 b5 h3 h4 u5 => ?_
  have r : (0 ≤ so ∧ so ≤ 3) ∧ (0 ≤ lo ∧ lo ≤ 3) := by omega
  have sw : ∀ {s so : Int},0 ≤ so ∧ so ≤ 3 → 0 ≤ (if s = 0 then 0 else so) ∧ (if s = 0 then 0 else so) ≤ 3 := fun {s so} h => by
    split
    · decide
    · exact h
  have go : ∀ so' lo',(if s = 0 then 0 else so) = so' → (if l = 0 then 0 else lo) = lo' → Sem G (n + 5) (.ref 246) [.int w,.int s,.int so,.int l,.int lo] (cells.set h (HPc a5 b5)) (fun v c1 => Q (.tup [v,.int w,restV s so' l lo']) c1) X := by
    rintro _ _ rfl rfl
    exact c_Glue hG I hw.dim hs.dim hsl.dim r.1 r.2 (hQ w s _ l _ _ _ ⟨hw,hs,hsl,sw r.1,sw r.2,fun e => if_pos e,fun e => if_pos e⟩ ((((u1.t u2).t u3).t u4).t u5))
  exact brn (fun e1 => brn (fun e2 => go _ _ (if_neg e1) (if_neg e2)) fun e2 => go _ _ (if_neg e1) (if_pos e2)) fun e1 => brn (fun e2 => go _ _ (if_pos e1) (if_neg e2)) fun e2 => go _ _ (if_pos e1) (if_pos e2)
noncomputable abbrev shutFs (k w h d sh : Int) : List (Nat × V) := boxV k w h d (.lst []) sh 0 0 0 1
noncomputable abbrev shutV (k w h d sh : Int) : V := .inst 405 (shutFs k w h d sh)
noncomputable def BOk (k w h d sh : Int) : Prop := (2 ≤ k ∧ k ≤ 3) ∧ Sz w ∧ Sz h ∧ Sz d ∧ Sz sh
theorem c_shut (hG : G.Ok) (I : IsG G) {n : Nat} {h : Nat} {a b : Int} (hh : cells[h]? = some (HPc a b)) (hb : Bud b 13)
    (hQ : ∀ k w ht d sh a' b',BOk k w ht d sh → Up b 13 b' → Q (shutV k w ht d sh) (cells.set h (HPc a' b'))) :
    Sem G (n + 6) (.ref 1028) [.cell h] cells Q X := by
  have hl := hlt hh
  refine sem_drop (go_law_shut hG I ?_)
  refine c_take hG I hh (hb.le (by decide)) (by decide) fun k a1 b1 h1 h2 u1 => ?_
  have hb1 : Bud b1 12 := hb.st u1
  refine c_sizeS hG I hl (hb1.le (by decide)) fun w a2 b2 hw u2 => ?_
  have hb2 : Bud b2 9 := hb1.st u2
  refine c_sizeS hG I hl (hb2.le (by decide)) fun ht a3 b3 hht u3 => ?_
  have hb3 : Bud b3 6 := hb2.st u3
  refine c_sizeS hG I hl (hb3.le (by decide)) fun d a4 b4 hd u4 => ?_
  have hb4 : Bud b4 3 := hb3.st u4
  have k2 : 2 ≤ 2 + k ∧ 2 + k ≤ 3 := by lia
  refine c_Box hG I k2 hw.dim hht.dim hd.dim ?_
  have e1 : ∀ x,(cells.set h x).length = cells.length := fun _ => List.length_set
  have at2 : (cells.set h (HPc a4 b4) ++ [Cell.inst 405 (boxV (2 + k) w ht d (.lst []) 0 0 0 0 1)])[h]? = some (HPc a4 b4) := by
    rw [List.getElem?_append_left (by rw [e1]; exact hl)]; exact hset hh
  refine c_size hG I at2 hb4 fun sh a5 b5 hsh u5 => ?_
  have fin := hQ (2 + k) w ht d sh a5 b5 ⟨k2,hw,hht,hd,hsh⟩ ((((u1.t u2).t u3).t u4).t u5)
  rw [List.set_append_left _ _ (by rw [e1]; exact hl),List.set_set,e1 (HPc a4 b4),← e1 (HPc a5 b5)]
  refine setA rfl ?_
  have e : fz (cells.set h (HPc a5 b5)).length (cells.set h (HPc a5 b5) ++ [Cell.inst 405 (boxV (2 + k) w ht d (.lst []) sh 0 0 0 1)]) 6 (.cell (cells.set h (HPc a5 b5)).length) = shutV (2 + k) w ht d sh := by
    rw [fz_cell0]
    rfl
  show (nc (fz _ (cells.set h (HPc a5 b5) ++ [Cell.inst 405 (boxV (2 + k) w ht d (.lst []) sh 0 0 0 1)]) _ _) ∧ _) ∧ Q (fz _ (cells.set h (HPc a5 b5) ++ [Cell.inst 405 (boxV (2 + k) w ht d (.lst []) sh 0 0 0 1)]) _ _) (List.take _ (cells.set h (HPc a5 b5) ++ [Cell.inst 405 (boxV (2 + k) w ht d (.lst []) sh 0 0 0 1)]))
  rw [e,kept_take]
  refine ⟨⟨?_,Kept.app (Kept.set .refl ⟨trivial,trivial,trivial⟩)⟩,fin⟩
  exact ⟨trivial,trivial,trivial,trivial,trivial,trivial,trivial,trivial,⟨trivial,trivial,trivial⟩,trivial⟩
inductive Nd where
  | chr (c w h d : Int) | lig (c w h d : Int) | box (k w h d sh : Int) | rul (w h d : Option Int) | ker (w s : Int) | glu (w s so l lo : Int) | lea (w s so l lo sort k bw bh bd bs : Int) | pen (v : Int) | dis (c w h d s : Int) | mar (t : Int) | ins (n c : Int) | adj (p : Int) | mat (w : Int) | spe | uns (w h d : Int)
noncomputable def Nd.v (f : V) : Nd → V
  | chr c _ _ _ => charV f c | lig c _ _ _ => ligV f c | box k w h d sh => shutV k w h d sh | rul w h d => ruleV w h d | ker w s => kernV w s | glu w s so l lo => skipV (glueV w s so l lo) 0 .none
  | lea w s so l lo sort k bw bh bd bs => skipV (glueV w s so l lo) sort (shutV k bw bh bd bs) | pen v => penV v | dis c _ _ _ s => discV f c s | mar t => markV t | ins n c => insV n c | adj p => adjV (.lst [penV p,kernV 9 1]) | mat w => mathV w | spe => specV | uns w h d => unsV w h d
noncomputable def Nd.out (f : V) : Nd → List V
  | mar t => [markV t] | ins n c => [insV n c] | adj p => [penV p,kernV 9 1] | _ => []
noncomputable def ow (o : Option Int) : Int := o.getD 0
noncomputable def Nd.size (up : Bool) : Nd → Int
  | chr _ w _ _ => w | lig _ w _ _ => w | dis _ w _ _ s => w + s | box _ w h d _ => if up then h + d else w | rul w h d => if up then ow h + ow d else ow w | ker w _ => w | mat w => w | uns w h d => if up then h + d else w | glu w _ _ _ _ => w | lea w _ _ _ _ _ _ _ _ _ _ => w | _ => 0
noncomputable def Nd.high (up : Bool) : Nd → Int
  | chr _ _ h _ => h | lig _ _ h _ => h | dis _ _ h _ _ => h | box _ w h _ sh => if up then w + sh else h - sh | rul w h _ => if up then ow w else ow h | uns w h _ => if up then w else h | lea _ _ _ _ _ _ _ bw bh _ _ => if up then bw else bh | _ => 0
noncomputable def Nd.deep (up : Bool) : Nd → Int
  | chr _ _ _ d => d | lig _ _ _ d => d | dis _ _ _ d _ => d | box _ _ _ d sh => if up then d else d + sh | rul _ _ d => ow d | uns _ _ d => d | lea _ _ _ _ _ _ _ _ _ bd _ => if up then 0 else bd | _ => 0
noncomputable def Nd.rest : Nd → Option (Int × Int × Int × Int)
  | glu _ s so l lo => some (s,so,l,lo) | lea _ s so l lo _ _ _ _ _ _ => some (s,so,l,lo) | _ => none
noncomputable def Nd.seen : Nd → Bool
  | pen _ => false | spe => false | mar _ => false | ins _ _ => false | adj _ => false | _ => true
noncomputable def Let (c w h d : Int) : Prop := (c = 97 ∧ w = 5 ∧ h = 7 ∧ d = 2) ∨ (c = 98 ∧ w = 11 ∧ h = 3 ∧ d = 0) ∨ (c = 99 ∧ w = 4 ∧ h = 1 ∧ d = 9)
noncomputable def OSz (o : Option Int) : Prop := ∀ i,o = some i → Sz i
noncomputable def Nd.Ok (up : Bool) : Nd → Prop
  | chr c w h d => up = false ∧ Let c w h d | lig c w h d => up = false ∧ Let c w h d | dis c w h d s => up = false ∧ Let c w h d ∧ Sz s | box k w h d sh => (2 ≤ k ∧ k ≤ 3) ∧ Sz w ∧ Sz h ∧ Sz d ∧ Sz sh
  | rul w h d => OSz w ∧ OSz h ∧ OSz d | ker w s => Sz w ∧ 0 ≤ s ∧ s ≤ 2 | glu w s so l lo => GOk w s so l lo | lea w s so l lo sort k bw bh bd bs => GOk w s so l lo ∧ (1 ≤ sort ∧ sort ≤ 3) ∧ (2 ≤ k ∧ k ≤ 3) ∧ Sz bw ∧ Sz bh ∧ Sz bd ∧ Sz bs
  | pen v => Sz v | mar _ => True | ins n c => (0 ≤ n ∧ n ≤ 254) ∧ 0 ≤ c ∧ c ≤ 8 | adj p => up = false ∧ 0 ≤ p ∧ p ≤ 50 | mat w => up = false ∧ Sz w | spe => True | uns w h d => Sz w ∧ Sz h ∧ Sz d
noncomputable def restO : Option (Int × Int × Int × Int) → V
  | none => .tup [] | some (s,so,l,lo) => restV s so l lo
noncomputable def rowT (size high deep : Int) (rest : V) (seen : Bool) (out : List V) : V := .tup [.int size,.int high,.int deep,rest,.bool seen,.lst out]
noncomputable def Nd.row (f : V) (up : Bool) (x : Nd) : V := rowT (x.size up) (x.high up) (x.deep up) (restO x.rest) x.seen (x.out f)
noncomputable def Nd.part (f : V) (up : Bool) (x : Nd) : V := .tup [x.v f,x.row f up]
theorem c_stands (hG : G.Ok) (I : IsG G) {n : Nat} {up : Bool} {w h d sh : Int} (hQ : Q (if up then rowT (h + d) (w + sh) d (.tup []) true [] else rowT w (h - sh) (d + sh) (.tup []) true []) cells) :
    Sem G (n + 1) (.ref 1035) [.bool up,.int w,.int h,.int d,.int sh] cells Q X := by
  refine go_law_stands hG I ?_
  cases up with
  | true => exact hQ
  | false => exact hQ
theorem c_letter (hG : G.Ok) (I : IsG G) (hq : G.q = true) {n : Nat} {h : Nat} {a b way : Int} {f : V} (hf : nc f) (hh : cells[h]? = some (HPc a b)) (hb : Bud b 4)
    (hQ : ∀ x a' b',Nd.Ok false x → Up b 4 b' → Q (x.part f false) (cells.set h (HPc a' b'))) :
    Sem G (n + 6) (.ref 1056) [.cell h,f,.int way] cells Q X := by
  refine go_law_letter hG I hq ?_
  refine c_take hG I hh (hb.le (by decide)) (by decide) fun d a1 b1 h1 h2 u1 => ?_
  have key : ∃ c w ht dp,Let c w ht dp ∧ (0 ≤ c ∧ c ≤ 255) ∧ ixOf [V.tup [.int 97,.int 5,.int 7,.int 2],.tup [.int 98,.int 11,.int 3,.int 0],.tup [.int 99,.int 4,.int 1,.int 9]] d = some (.tup [.int c,.int w,.int ht,.int dp]) := by
    have : d = 0 ∨ d = 1 ∨ d = 2 := by lia
    rcases this with rfl | rfl | rfl
    · exact ⟨97,5,7,2,.inl ⟨rfl,rfl,rfl,rfl⟩,by decide,rfl⟩
    · exact ⟨98,11,3,0,.inr (.inl ⟨rfl,rfl,rfl,rfl⟩),by decide,rfl⟩
    · exact ⟨99,4,1,9,.inr (.inr ⟨rfl,rfl,rfl,rfl⟩),by decide,rfl⟩
  obtain ⟨c,w,ht,dp,hl,hc,key⟩ := key
  refine seqI (by omega) key ?_
  refine br (fun h3 => ?_) fun h3 => br (fun h4 => ?_) fun h4 => ?_
  · exact c_Char hG I hf hc (hQ (.chr c w ht dp) _ _ ⟨rfl,hl⟩ (u1.le (by decide)))
  · exact c_Ligature hG I hf hc (hQ (.lig c w ht dp) _ _ ⟨rfl,hl⟩ (u1.le (by decide)))
  · exact c_sizeS hG I (hlt hh) (hb.st u1) fun s a2 b2 hs u2 => c_Char hG I hf (by decide) (c_Char hG I hf hc (c_Kern hG I hs.dim (by decide) (c_Disc hG I hf (hQ (.dis c w ht dp s) _ _ ⟨rfl,hl,hs⟩ (u1.t u2)))))
theorem c_flow (hG : G.Ok) (I : IsG G) (hq : G.q = true) {n : Nat} {h : Nat} {a b way orders : Int} {up : Bool} {f : V} (hw : 3 ≤ way ∧ way ≤ 9) (ho : 1 ≤ orders ∧ orders ≤ 4) (hh : cells[h]? = some (HPc a b)) (hb : Bud b 24)
    (hQ : ∀ x a' b',Nd.Ok up x → Up b 24 b' → Q (x.part f up) (cells.set h (HPc a' b'))) :
    Sem G (n + 7) (.ref 1042) [.cell h,.bool up,.int orders,.int way] cells Q X := by
  refine go_law_flow hG I hq ?_
  refine c_glue hG I hq hh (hb.le (by decide)) ho fun w s so l lo a1 b1 g1 u1 => ?_
  have nf : nc (glueV w s so l lo) := ⟨trivial,trivial,trivial,trivial,trivial,trivial⟩
  refine br (fun e => ?_) fun e => ?_
  · exact c_Skip hG I nf (hQ (.glu w s so l lo) _ _ g1 (u1.le (by decide)))
  · refine c_shut hG I (hset hh) (hb.st u1) fun k bw bh bd bs a2 b2 g2 u2 => ?_
    have w3 : 1 ≤ way - 6 ∧ way - 6 ≤ 3 := by omega
    have fin := hQ (.lea w s so l lo (way - 6) k bw bh bd bs) a2 _ ⟨g1,w3,g2⟩ (u1.t u2)
    rw [List.set_set]
    cases up with
    | true => exact c_SkipL hG I nf w3 g2.1 fin
    | false => exact c_SkipL hG I nf w3 g2.1 fin
theorem c_gone (hG : G.Ok) (I : IsG G) {n : Nat} {h : Nat} {a b : Int} {up : Bool} {f : V} (hh : cells[h]? = some (HPc a b)) (hb : Bud b 3)
    (hQ : ∀ x a' b',Nd.Ok up x → Up b 3 b' → Q (x.part f up) (cells.set h (HPc a' b'))) :
    Sem G (n + 6) (.ref 1049) [.cell h,.bool up] cells Q X := by
  have hl := hlt hh
  refine go_law_gone hG I (c_take hG I hh (hb.le (by decide)) (by decide) fun way a1 b1 h1 h2 u1 => ?_)
  have hb1 : Bud b1 2 := hb.st u1
  refine br (fun e => ?_) fun e => ?_
  · exact c_takeS hG I hl (hb1.le (by decide)) (by decide) fun t a2 b2 h3 h4 u2 => c_Mark hG I (hQ (.mar (97 + t)) _ _ trivial ((u1.t u2).le (by decide)))
  · refine brOrU (fun e => ?_) fun e1 e2 => ?_
    · refine c_takeS hG I hl (hb1.le (by decide)) (by decide) fun num a2 b2 h3 h4 u2 => c_Glue0 hG I (c_takeS hG I hl (hb1.st u2) (by decide) fun cost a3 b3 h5 h6 u3 => ?_)
      have r : (0 ≤ num ∧ num ≤ 254) ∧ 0 ≤ cost ∧ cost ≤ 8 := by omega
      exact c_Kern hG I (by unfold Dim; lia) (by decide) (c_Insert hG I r.1 ⟨r.2.1,by omega⟩ (hQ (.ins num cost) _ _ r ((u1.t u2).t u3)))
    · refine c_takeS hG I hl (hb1.le (by decide)) (by decide) fun p a2 b2 h3 h4 u2 => ?_
      have r : 0 ≤ p ∧ p ≤ 50 := by omega
      exact c_Penalty hG I (by omega) (by omega) (c_Kern hG I (by unfold Dim; lia) (by decide) (c_Adjust hG I ⟨⟨trivial,trivial⟩,⟨trivial,trivial,trivial⟩,trivial⟩ (hQ (.adj p) _ _ ⟨e2,r⟩ ((u1.t u2).le (by decide)))))
theorem ow_rul {f : V} {up : Bool} {w h d : Option Int} : (if up then rowT (ow h + ow d) (ow w + 0) (ow d) (.tup []) true [] else rowT (ow w) (ow h - 0) (ow d + 0) (.tup []) true []) = Nd.row f up (.rul w h d) := by
  cases up with
  | true => rw [Int.add_zero]; rfl
  | false => rw [Int.sub_zero]; exact congrArg (fun x => rowT _ _ x _ _ _) (Int.add_zero _)
theorem uns_row {f : V} {up : Bool} {w h d : Int} : (if up then rowT (h + d) (w + 0) d (.tup []) true [] else rowT w (h - 0) (d + 0) (.tup []) true []) = Nd.row f up (.uns w h d) := by
  cases up with
  | true => rw [Int.add_zero]; rfl
  | false => rw [Int.sub_zero]; exact congrArg (fun x => rowT _ _ x _ _ _) (Int.add_zero _)
theorem box_row {f : V} {up : Bool} {k w h d sh : Int} : (if up then rowT (h + d) (w + sh) d (.tup []) true [] else rowT w (h - sh) (d + sh) (.tup []) true []) = Nd.row f up (.box k w h d sh) := by
  cases up <;> rfl
theorem OSz.dim {o : Option Int} (h : OSz o) : ODim o := fun i e => (h i e).dim
noncomputable abbrev drawE : GE := wIfE (tOp pEqU (wCa (.ref 1007) (lC (wL 1) (lC (wC (.int 3)) lN))) (wC (.int 0))) (wC .none) (wCa (.ref 1014) (lC (wL 1) lN))
noncomputable abbrev ownE : GE := wIfE (tOp pIs (wL 0) (wC .none)) (wC (.int 0)) (wL 0)
theorem c_draw (hG : G.Ok) (I : IsG G) {n : Nat} {h : Nat} {a b : Int} (hl : h < cells.length) (hb : Bud b 4) {v : V} {kk : KE} (hQ : ∀ o a' b',OSz o → Up b 4 b' → kk (optV o) (cells.set h (HPc a' b'))) :
    drawE G (n + 2) [some v,some (.cell h)] (cells.set h (HPc a b)) kk X :=
  c_takeS hG I hl (hb.le (by decide)) (by decide) fun d a1 b1 h1 h2 u1 => br (fun _ => hQ none _ _ (fun i e => by cases e) (u1.le (by decide)))
    fun _ => c_sizeS hG I hl (hb.st u1) fun s a2 b2 hs u2 => hQ (some s) _ _ (fun i e => by cases e; exact hs) (u1.t u2)
theorem c_own {n : Nat} {o : Option Int} {kk : KE} (h : kk (.int (ow o)) cells) : ownE G n [some (optV o)] cells kk X := by
  cases o <;> exact h
theorem c_part (hG : G.Ok) (I : IsG G) (hq : G.q = true) {n : Nat} {h : Nat} {a b orders : Int} {up : Bool} {f : V} (hf : nc f) (ho : 1 ≤ orders ∧ orders ≤ 4) (hh : cells[h]? = some (HPc a b)) (hb : Bud b 30)
    (hQ : ∀ x a' b',Nd.Ok up x → Up b 30 b' → Q (x.part f up) (cells.set h (HPc a' b'))) :
    Sem G (n + 8) (.ref 1061) [.cell h,.bool up,.int orders,f] cells Q X := by
  have hl := hlt hh
  refine go_law_part hG I hq (c_take hG I hh (hb.le (by decide)) (by decide) fun way a1 b1 h1 h2 u1 => ?_)
  have hh1 := hset (x := HPc a1 b1) hh
  have hb1 : Bud b1 29 := hb.st u1
  have fin : ∀ {k : Nat} (x : Nd) (a' b' : Int),Nd.Ok up x → Up b1 k b' → 1 + k ≤ 30 → Q (x.part f up) ((cells.set h (HPc a1 b1)).set h (HPc a' b')) := fun x a' b' k1 k2 k3 => by rw [List.set_set]; exact hQ x _ _ k1 ((u1.t k2).le k3)
  refine brAnd (fun e1 e2 => ?_) fun e => ?_
  · exact c_flow hG I hq ⟨e1,e2⟩ ho hh1 (hb1.le (by decide)) fun x a' b' k1 k2 => fin x _ _ k1 k2 (by decide)
  clear e
  refine br (fun e => ?_) fun e => ?_
  · refine And.intro (by decide) (And.intro ⟨hq,by decide⟩ ?_)
    refine c_draw hG I hl (hb1.le (by decide)) fun o1 a2 b2 d1 u2 => c_draw hG I hl ((hb1.st u2).le (by decide)) fun o2 a3 b3 d2 u3 => c_draw hG I hl (((hb1.st u2).st u3).le (by decide)) fun o3 a4 b4 d3 u4 => ?_
    refine c_own (c_own (c_own (c_Rule hG I d1.dim d2.dim d3.dim (c_stands hG I ?_))))
    rw [ow_rul (f := f)]
    exact hQ (.rul o1 o2 o3) _ _ ⟨d1,d2,d3⟩ ((((u1.t u2).t u3).t u4).le (by decide))
  clear e
  refine brOrA (fun e => ?_) fun n12 n13 => ?_
  · refine c_takeS hG I hl (hb1.le (by decide)) (by decide) fun d a2 b2 h3 h4 u2 => br (fun _ => ?_) fun _ => ?_
    · refine c_sizeS hG I hl (hb1.le (by decide) |>.st u2) fun s a3 b3 hs u3 => ?_
      exact c_Penalty hG I (by unfold Sz at hs; omega) (by unfold Sz at hs; omega) (hQ (.pen s) _ _ hs (((u1.t u2).t u3).le (by decide)))
    · exact c_Special hG I hq (hQ .spe _ _ trivial ((u1.t u2).le (by decide)))
  refine brOr (fun _ => ?_) fun _ _ => ?_
  · refine c_sizeS hG I hl (hb1.le (by decide)) fun s a2 b2 hs u2 => br (fun e => ?_) fun e => ?_
    · exact c_Math hG I hs.dim (hQ (.mat s) _ _ ⟨n13 e,hs⟩ ((u1.t u2).le (by decide)))
    · exact c_takeS hG I hl ((hb1.st u2).le (by decide)) (by decide) fun k a3 b3 h3 h4 u3 => c_Kern hG I hs.dim ⟨h3,by omega⟩ (hQ (.ker s k) _ _ ⟨hs,h3,by omega⟩ (((u1.t u2).t u3).le (by decide)))
  refine br (fun _ => ?_) fun _ => br (fun _ => ?_) fun _ => ?_
  · exact c_gone hG I (f := f) hh1 (hb1.le (by decide)) fun x a' b' k1 k2 => fin x _ _ k1 k2 (by decide)
  · refine c_sizeS hG I hl (hb1.le (by decide)) fun w a2 b2 hw u2 => c_sizeS hG I hl ((hb1.st u2).le (by decide)) fun ht a3 b3 hht u3 => c_sizeS hG I hl (((hb1.st u2).st u3).le (by decide)) fun d a4 b4 hd u4 => ?_
    refine c_TotalsZ hG I (c_Unset hG I hw.dim hht.dim hd.dim (c_stands hG I ?_))
    rw [uns_row (f := f)]
    exact hQ (.uns w ht d) _ _ ⟨hw,hht,hd⟩ ((((u1.t u2).t u3).t u4).le (by decide))
  refine brUOr (fun e => ?_) ?_
  · subst e
    exact c_letter hG I hq hf hh1 (hb1.le (by decide)) fun x a' b' k1 k2 => fin x _ _ k1 k2 (by decide)
  · refine c_shut hG I hh1 (hb1.le (by decide)) fun k w ht d sh a2 b2 g u2 => c_stands hG I ?_
    rw [box_row (f := f) (k := k)]
    exact fin (.box k w ht d sh) _ _ g u2 (by decide)
theorem forI_st3 {σ α τ : Type} {wb : WS} {i : Nat} {k : KS} {X : KC} (vals : σ → List α → List V) (val : σ → α → V) (lcOf : σ → τ → Lc) (cOf : σ → List Cell) (nxt : σ → α → σ) (P : List α → σ → Prop) (h0 : ∀ s,vals s [] = []) (h1 : ∀ s x l,vals s (x :: l) = val s x :: vals (nxt s x) l)
    (step : ∀ x rs s y (kk : KS),P (x :: rs) s → (P rs (nxt s x) → ∀ y,kk .next (lcOf (nxt s x) y) (cOf (nxt s x))) → wb ((lcOf s y).set i (some (val s x))) (cOf s) kk X)
    (fin : ∀ s y,P [] s → k .next (lcOf s y) (cOf s)) : ∀ (l : List α) (s : σ) (y : τ),P l s → forI wb i (vals s l) (lcOf s y) (cOf s) k X
  | [],s,y,h => h0 s ▸ forN (fin s y h)
  | x :: l,s,y,h => h1 s x l ▸ forC (step x l s y _ h fun h' y => forI_st3 vals val lcOf cOf nxt P h0 h1 step fin l _ y h')
theorem forI_st {σ α : Type} {wb : WS} {i : Nat} {k : KS} {X : KC} (val : α → V) (lcOf : σ → Option V → Lc) (cOf : σ → List Cell) (nxt : σ → α → σ) (P : List α → σ → Prop)
    (step : ∀ x rs s y (kk : KS),P (x :: rs) s → (P rs (nxt s x) → kk .next (lcOf (nxt s x) (some (val x))) (cOf (nxt s x))) → wb ((lcOf s y).set i (some (val x))) (cOf s) kk X)
    (fin : ∀ s y,P [] s → k .next (lcOf s y) (cOf s)) (l : List α) (s : σ) (y : Option V) (h : P l s) : forI wb i (l.map val) (lcOf s y) (cOf s) k X :=
  forI_st3 (fun _ l => l.map val) (fun _ => val) lcOf cOf nxt P (fun _ => rfl) (fun _ _ _ => rfl) (fun x rs s y kk p hk => step x rs s y kk p fun p => hk p _) fin l s y h
theorem c_heap (hG : G.Ok) (I : IsG G) {n : Nat} {ns : List Int} (hl : ns.length ≤ 1000) (hQ : ∀ a,Q (.cell cells.length) (cells ++ [HPc a 0])) : Sem G (n + 1) (.ref 1000) [.lst (ns.map .int)] cells Q X := by
  refine go_law_heap hG I (okL (by rw [List.length_map]; lia) ?_)
  rw [← List.map_take]
  exact forI_st V.int (fun (w : Int) y => [some (.lst (ns.map .int)),some (.int w),y]) (fun _ => cells) (fun w m => w * 1000003 + (if m < 0 then -m else m).fmod (10 ^ Int.toNat 30) * 2 + (if decide (m < 0) = true then 1 else 0)) (fun _ _ => True)
    (fun m rs w y kk _ hk => ⟨mulS' (by decide) (by decide),by decide,by decide,mulS' (by decide) (by decide),hk trivial⟩) (fun w y _ => hQ w) _ 0 none trivial
structure FontOk (G : Gx) (f : V) : Prop where
  form : ∃ fs,f = .inst 968 fs ∧ fs.lookup 0 = some (.int 1) ∧ fs.lookup 7 = none ∧ fs.lookup 8 = none ∧ fs.lookup 9 = none
  nc : nc f
  w : ∀ {n : Nat} {cells : List Cell} {c w h d : Int} {Q : V → List Cell → Prop} {X : List Cell → Prop},Let c w h d → Q (.int w) cells → Sem G (n + 1) (.ref 909) [f,.int c] cells Q X
  h : ∀ {n : Nat} {cells : List Cell} {c w h d : Int} {Q : V → List Cell → Prop} {X : List Cell → Prop},Let c w h d → Q (.int h) cells → Sem G (n + 1) (.ref 916) [f,.int c] cells Q X
  d : ∀ {n : Nat} {cells : List Cell} {c w h d : Int} {Q : V → List Cell → Prop} {X : List Cell → Prop},Let c w h d → Q (.int d) cells → Sem G (n + 1) (.ref 923) [f,.int c] cells Q X
noncomputable def Nd.wd : Nd → Int
  | chr _ w _ _ => w | lig _ w _ _ => w | dis _ w _ _ s => w + s | box _ w _ _ _ => w | rul w _ _ => ow w | ker w _ => w | mat w => w | uns w _ _ => w | glu w _ _ _ _ => w | lea w _ _ _ _ _ _ _ _ _ _ => w | _ => 0
theorem two3 {k : Int} (h : 2 ≤ k ∧ k ≤ 3) : k = 2 ∨ k = 3 := by lia
theorem c_width (hG : G.Ok) (I : IsG G) (hq : G.q = true) {n : Nat} {f : V} (hf : FontOk G f) {up : Bool} {x : Nd} (hx : x.Ok up) (hQ : Q (.int x.wd) cells) : Sem G (n + 3) (.ref 673) [x.v f] cells Q X := by
  obtain ⟨fs,rfl,f0,f7,f8,f9⟩ := hf.form
  have chr : ∀ {n : Nat} {cells : List Cell} {c w h d : Int} {Q : V → List Cell → Prop} {X : List Cell → Prop},Let c w h d → Q (.int w) cells → Sem G (n + 2) (.ref 673) [charV (.inst 968 fs) c] cells Q X := by
    intro n cells c w h d Q X hl hQ
    refine go_width_of hG I hq ?_
    conv => whnf
    rw [f7]
    exact hf.w hl hQ
  cases x
  case chr c w h d => exact chr hx.2 hQ
  case lig c w h d =>
    refine go_width_of hG I hq ?_
    conv => whnf
    rw [f7]
    exact hf.w hx.2 hQ
  case box k w h d sh => rcases two3 hx.1 with rfl | rfl <;> exact go_width_of hG I hq hQ
  case rul w h d => cases w <;> exact go_width_of hG I hq hQ
  case dis c w h d s => exact go_width_of hG I hq (chr hx.2.1 (go_width_of hG I hq ⟨[w,s],rfl,by rw [show [w,s].sum = w + s by simp]; exact hQ⟩))
  all_goals exact go_width_of hG I hq hQ
noncomputable def Nd.ht : Nd → Int
  | chr _ _ h d => h | lig _ _ h d => h | dis _ _ h d _ => h | box _ _ h d _ => h | rul _ h d => ow h | uns _ h d => h | lea _ _ _ _ _ _ _ _ bh bd _ => bh | _ => 0
theorem max3 {h : Int} {kk : KE} (h0 : 0 ≤ h) (hQ : kk (.int h) cells) : maxL [.lst [.int 0,.int h,.int 0]] cells kk := by
  refine ⟨[0,h,0],rfl,Nat.succ_pos _,fun M hM hle => ?_⟩
  have h1 : M = h := Int.le_antisymm ?_ (hle h (.tail _ (.head _)))
  · rw [h1]; exact hQ
  · cases hM with
    | head => exact h0
    | tail _ hM =>
      cases hM with
      | head => exact Int.le_refl _
      | tail _ hM =>
        cases hM with
        | head => exact h0
        | tail _ hM => cases hM
theorem Let.h0 {c w h d : Int} (l : Let c w h d) : 0 ≤ h ∧ 0 ≤ d := by unfold Let at l; lia
theorem c_ht (hG : G.Ok) (I : IsG G) (hq : G.q = true) {n : Nat} {f : V} (hf : FontOk G f) {up : Bool} {x : Nd} (hx : x.Ok up) (hQ : Q (.int x.ht) cells) : Sem G (n + 4) (.ref 678) [x.v f] cells Q X := by
  obtain ⟨fs,rfl,f0,f7,f8,f9⟩ := hf.form
  have chr : ∀ {n : Nat} {cells : List Cell} {c w h d : Int} {Q : V → List Cell → Prop} {X : List Cell → Prop},Let c w h d → Q (.int h) cells → Sem G (n + 2) (.ref 678) [charV (.inst 968 fs) c] cells Q X := by
    intro n cells c w h d Q X hl hQ
    refine go_height_of hG I hq ?_
    conv => whnf
    rw [f8]
    exact hf.h hl hQ
  have bx : ∀ {n : Nat} {cells : List Cell} {k w h d sh : Int} {Q : V → List Cell → Prop} {X : List Cell → Prop},(2 ≤ k ∧ k ≤ 3) → Q (.int h) cells → Sem G (n + 1) (.ref 678) [shutV k w h d sh] cells Q X := by
    intro n cells k w h d sh Q X hk hQ
    rcases two3 hk with rfl | rfl <;> exact go_height_of hG I hq hQ
  cases x
  case chr c w h d => exact chr hx.2 hQ
  case lig c w h d =>
    refine go_height_of hG I hq ?_
    conv => whnf
    rw [f8]
    exact hf.h hx.2 hQ
  case box k w h d sh => exact bx hx.1 hQ
  case lea w s so l lo sort k bw bh bd bs => exact go_height_of hG I hq (bx hx.2.2.1 hQ)
  case rul w h d => cases h <;> exact go_height_of hG I hq hQ
  case dis c w h d s => exact go_height_of hG I hq (go_line_height hG I (chr hx.2.1 (go_line_height hG I (go_height_of hG I hq (max3 hx.2.1.h0.1 hQ)))))
  all_goals exact go_height_of hG I hq hQ
theorem c_lht (hG : G.Ok) (I : IsG G) (hq : G.q = true) {n : Nat} {f : V} (hf : FontOk G f) {up : Bool} {x : Nd} (hx : x.Ok up) (hQ : Q (.int (x.high false)) cells) : Sem G (n + 5) (.ref 690) [x.v f] cells Q X := by
  cases x
  case box k w h d sh => rcases two3 hx.1 with rfl | rfl <;> exact go_line_height hG I hQ
  all_goals exact go_line_height hG I (c_ht hG I hq hf hx hQ)
noncomputable def Nd.dp : Nd → Int
  | chr _ _ h d => d | lig _ _ h d => d | dis _ _ h d _ => d | box _ _ h d _ => d | rul _ h d => ow d | uns _ h d => d | lea _ _ _ _ _ _ _ _ bh bd _ => bd | _ => 0
theorem c_dp (hG : G.Ok) (I : IsG G) (hq : G.q = true) {n : Nat} {f : V} (hf : FontOk G f) {up : Bool} {x : Nd} (hx : x.Ok up) (hQ : Q (.int x.dp) cells) : Sem G (n + 4) (.ref 683) [x.v f] cells Q X := by
  obtain ⟨fs,rfl,f0,f7,f8,f9⟩ := hf.form
  have chr : ∀ {n : Nat} {cells : List Cell} {c w h d : Int} {Q : V → List Cell → Prop} {X : List Cell → Prop},Let c w h d → Q (.int d) cells → Sem G (n + 2) (.ref 683) [charV (.inst 968 fs) c] cells Q X := by
    intro n cells c w h d Q X hl hQ
    refine go_depth_of hG I hq ?_
    conv => whnf
    rw [f9]
    exact hf.d hl hQ
  have bx : ∀ {n : Nat} {cells : List Cell} {k w h d sh : Int} {Q : V → List Cell → Prop} {X : List Cell → Prop},(2 ≤ k ∧ k ≤ 3) → Q (.int d) cells → Sem G (n + 1) (.ref 683) [shutV k w h d sh] cells Q X := by
    intro n cells k w h d sh Q X hk hQ
    rcases two3 hk with rfl | rfl <;> exact go_depth_of hG I hq hQ
  cases x
  case chr c w h d => exact chr hx.2 hQ
  case lig c w h d =>
    refine go_depth_of hG I hq ?_
    conv => whnf
    rw [f9]
    exact hf.d hx.2 hQ
  case box k w h d sh => exact bx hx.1 hQ
  case lea w s so l lo sort k bw bh bd bs => exact go_depth_of hG I hq (bx hx.2.2.1 hQ)
  case rul w h d => cases d <;> exact go_depth_of hG I hq hQ
  case dis c w h d s => exact go_depth_of hG I hq (go_line_depth hG I (chr hx.2.1 (go_line_depth hG I (go_depth_of hG I hq (max3 hx.2.1.h0.2 hQ)))))
  all_goals exact go_depth_of hG I hq hQ
theorem c_ldp (hG : G.Ok) (I : IsG G) (hq : G.q = true) {n : Nat} {f : V} (hf : FontOk G f) {up : Bool} {x : Nd} (hx : x.Ok up) (hQ : Q (.int (x.deep false)) cells) : Sem G (n + 5) (.ref 697) [x.v f] cells Q X := by
  cases x
  case box k w h d sh => rcases two3 hx.1 with rfl | rfl <;> exact go_line_depth hG I hQ
  all_goals exact go_line_depth hG I (c_dp hG I hq hf hx hQ)
noncomputable def Nd.kd : Nd → Int
  | chr _ _ _ _ => 0 | lig _ _ _ _ => 1 | box k _ _ _ _ => k | rul _ _ _ => 4 | ker _ _ => 5 | glu _ _ _ _ _ => 6 | lea _ _ _ _ _ _ _ _ _ _ _ => 6 | pen _ => 7 | dis _ _ _ _ _ => 8 | mar _ => 9 | ins _ _ => 10 | adj _ => 11 | mat _ => 12 | spe => 13 | uns _ _ _ => 14
theorem at_kind {x : Nd} {f : V} {c : List Cell} {kk : V → Prop} (h : kk (.int x.kd)) : attrV tb c (x.v f) 6 kk := by
  cases x <;> exact h
theorem kd_box {x : Nd} {up : Bool} (hx : x.Ok up) (hk : x.kd = 6) : (∃ w s so l lo,x = .glu w s so l lo) ∨ ∃ w s so l lo sort k bw bh bd bs,x = .lea w s so l lo sort k bw bh bd bs := by
  cases x
  case glu => exact .inl ⟨_,_,_,_,_,rfl⟩
  case lea => exact .inr ⟨_,_,_,_,_,_,_,_,_,_,_,rfl⟩
  case box k w h d sh =>
    have e : k = 6 := hk
    have := hx.1.2
    rw [e] at this
    exact absurd this (by decide)
  all_goals exact absurd hk (of_decide_eq_false rfl)
theorem at_glue {x : Nd} {f : V} {up : Bool} (hx : x.Ok up) (hk : x.kd = 6) : ∃ w s so l lo,x.wd = w ∧ x.rest = some (s,so,l,lo) ∧ GOk w s so l lo ∧ ∀ c kk,kk (glueV w s so l lo) → attrV tb c (x.v f) 21 kk := by
  rcases kd_box hx hk with ⟨w,s,so,l,lo,rfl⟩ | ⟨w,s,so,l,lo,_,_,_,_,_,_,rfl⟩
  · exact ⟨w,s,so,l,lo,rfl,rfl,hx,fun c kk h => h⟩
  · exact ⟨w,s,so,l,lo,rfl,rfl,hx.1,fun c kk h => h⟩
noncomputable def totC (L : Nat) (n : Int) : Cell := .inst 309 [(19,.int n),(15,.cell (L + 1)),(17,.cell (L + 2))]
noncomputable def tot3 (c0 : List Cell) (n : Int) (st sh : List Int) : List Cell := c0 ++ [totC c0.length n,.lst (st.map .int),.lst (sh.map .int)]
section
variable {c0 : List Cell} {m m' j v : Int} {st sh st' sh' : List Int}
theorem tat0 : (tot3 c0 m st sh)[c0.length]? = some (totC c0.length m) := getApp0
theorem tat1 : (tot3 c0 m st sh)[c0.length + 1]? = some (.lst (st.map .int)) := getApp
theorem tat2 : (tot3 c0 m st sh)[c0.length + 2]? = some (.lst (sh.map .int)) := getApp
theorem tst0 {kk : List Cell → Prop} (k : kk (tot3 c0 m' st sh)) : setAV tb (tot3 c0 m st sh) (.cell c0.length) 19 (.int m') kk :=
  setAC tat0 rfl (by rw [show (tot3 c0 m st sh).set c0.length (.inst 309 (putF 19 (.int m') [(19,.int m),(15,.cell (c0.length + 1)),(17,.cell (c0.length + 2))])) = tot3 c0 m' st sh from setApp0]; exact k)
theorem tst1 {kk : List Cell → Prop} (h : 0 ≤ j ∧ j < st.length ∧ j < 2 ^ 63) (k : kk (tot3 c0 m (st.set j.toNat v) sh)) : setIV (tot3 c0 m st sh) (.cell (c0.length + 1)) (.int j) (.int v) kk :=
  setIC tat1 (by rw [List.length_map]; exact h) (by rw [← List.map_set,show (tot3 c0 m st sh).set (c0.length + 1) (.lst ((st.set j.toNat v).map .int)) = tot3 c0 m (st.set j.toNat v) sh from setApp]; exact k)
theorem tst2 {kk : List Cell → Prop} (h : 0 ≤ j ∧ j < sh.length ∧ j < 2 ^ 63) (k : kk (tot3 c0 m st (sh.set j.toNat v))) : setIV (tot3 c0 m st sh) (.cell (c0.length + 2)) (.int j) (.int v) kk :=
  setIC tat2 (by rw [List.length_map]; exact h) (by rw [← List.map_set,show (tot3 c0 m st sh).set (c0.length + 2) (.lst ((sh.set j.toNat v).map .int)) = tot3 c0 m st (sh.set j.toNat v) from setApp]; exact k)
theorem getI {a : Nat} {ns : List Int} {kk : V → Prop} (hc : cells[a]? = some (.lst (ns.map .int))) (h : 0 ≤ j ∧ j < ns.length ∧ j < 2 ^ 63) (k : kk (.int (ns.getD j.toNat 0))) : getIV cells (.cell a) (.int j) kk :=
  getIC hc ⟨h.1,h.2.2⟩ (by
    have : j.toNat < ns.length := by omega
    rw [List.getElem?_map,List.getD_eq_getElem?_getD,List.getElem?_eq_getElem this]; rfl) k
theorem ncL_ints : ∀ ns : List Int,ncL (ns.map .int)
  | [] => trivial
  | _ :: r => ⟨trivial,ncL_ints r⟩
theorem nc_tot : nc (totV m (st.map V.int) (sh.map V.int)) := ⟨trivial,ncL_ints st,ncL_ints sh,trivial⟩
theorem fz_tot : fz c0.length (tot3 c0 m st sh) 5 (.cell c0.length) = totV m (st.map .int) (sh.map .int) := by
  unfold tot3
  rw [fz_cell0]
  show V.inst 309 [(19,.int m),(15,fz _ _ 4 _),(17,fz _ _ 4 _)] = _
  rw [fz_cellj,fz_cellj]
  show V.inst 309 [(19,.int m),(15,.lst ((st.map V.int).map _)),(17,.lst ((sh.map V.int).map _))] = _
  rw [fz_ncL 3 (ncL_ints st),fz_ncL 3 (ncL_ints sh)]
  rfl
end
theorem c_widen (hG : G.Ok) (I : IsG G) {n : Nat} {c0 : List Cell} {m w : Int} {st sh : List Int} (hQ : Q .none (tot3 c0 (m + w) st sh)) : Sem G (n + 1) (.ref 285) [.cell c0.length,.int w] (tot3 c0 m st sh) Q X :=
  go_Totals_widen hG I (attrC tat0 (tst0 hQ))
theorem c_add (hG : G.Ok) (I : IsG G) {n : Nat} {c0 : List Cell} {m w s so l lo : Int} {st sh : List Int} (h1 : st.length = 4) (h2 : sh.length = 4) (ho : 0 ≤ so ∧ so ≤ 3) (hlo : 0 ≤ lo ∧ lo ≤ 3)
    (hQ : Q .none (tot3 c0 (m + w) (st.set so.toNat (st.getD so.toNat 0 + s)) (sh.set lo.toNat (sh.getD lo.toNat 0 + l)))) : Sem G (n + 1) (.ref 278) [.cell c0.length,glueV w s so l lo] (tot3 c0 m st sh) Q X := by
  have k : ∀ {j : Int} {l : List Int},l.length = 4 → 0 ≤ j ∧ j ≤ 3 → 0 ≤ j ∧ j < l.length ∧ j < 2 ^ 63 := fun h1 h2 => by omega
  exact go_Totals_add hG I (attrC tat0 (tst0 (attrC tat0 (getI tat1 (k h1 ho) (tst1 (k h1 ho) (attrC tat0 (getI tat2 (k h2 hlo) (tst2 (k h2 hlo) hQ))))))))
structure Ac where
  n : Int
  st : List Int
  sh : List Int
  h : Int
  d : Int
noncomputable def glueAdd (x : Nd) (st : List Int) : List Int := match x.rest with
  | some (s,so,_,_) => st.set so.toNat (st.getD so.toNat 0 + s)
  | none => st
noncomputable def glueSub (x : Nd) (sh : List Int) : List Int := match x.rest with
  | some (_,_,l,lo) => sh.set lo.toNat (sh.getD lo.toNat 0 + l)
  | none => sh
theorem glueAdd_len {x : Nd} {st : List Int} (h : st.length = 4) : (glueAdd x st).length = 4 := by
  unfold glueAdd; split <;> first | exact h | rw [List.length_set]; exact h
theorem glueSub_len {x : Nd} {st : List Int} (h : st.length = 4) : (glueSub x st).length = 4 := by
  unfold glueSub; split <;> first | exact h | rw [List.length_set]; exact h
noncomputable def mx (i j : Int) : Int := if i < j then j else i
noncomputable def Ac.step (a : Ac) (x : Nd) : Ac := ⟨a.n + x.wd,glueAdd x a.st,glueSub x a.sh,mx a.h (x.high false),mx a.d (x.deep false)⟩
noncomputable def ac0 : Ac := ⟨0,[0,0,0,0],[0,0,0,0],0,0⟩
theorem kd_rest {x : Nd} {up : Bool} (hx : x.Ok up) (hk : ¬x.kd = 6) : x.rest = none := by
  cases x <;> first | rfl | exact absurd rfl hk
structure TInv (up : Bool) (z : Ac) (rs : List Nd) (a : Ac) : Prop where
  e : rs.foldl Ac.step a = z
  ok : ∀ x ∈ rs,x.Ok up
  l1 : a.st.length = 4
  l2 : a.sh.length = 4
theorem c_natline (hG : G.Ok) (I : IsG G) (hq : G.q = true) {n : Nat} {f : V} (hf : FontOk G f) {up : Bool} {xs : List Nd} (hx : ∀ x ∈ xs,x.Ok up)
    (hQ : let a := xs.foldl Ac.step ac0; Q (.tup [totV a.n (a.st.map .int) (a.sh.map .int),.int a.h,.int a.d]) cells) : Sem G (n + 6) (.ref 712) [.lst (xs.map (Nd.v f))] cells Q X := by
  refine sem_drop (go_natural_line hG I hq (c_Totals hG I ?_))
  refine forI_st (Nd.v f) (fun a y => [some (.lst (xs.map (Nd.v f))),some (.cell cells.length),some (.int a.h),some (.int a.d),y]) (fun a => tot3 cells a.n a.st a.sh) Ac.step (TInv up _) ?_ ?_ xs ac0 none ⟨rfl,hx,rfl,rfl⟩
  · intro x rs a y kk P hk
    have hxo := P.ok x (.head _)
    have done : kk .next [some (.lst (xs.map (Nd.v f))),some (.cell cells.length),some (.int (mx a.h (x.high false))),some (.int (mx a.d (x.deep false))),some (x.v f)] (tot3 cells (a.n + x.wd) (glueAdd x a.st) (glueSub x a.sh)) :=
      hk ⟨P.e,fun z hz => P.ok z (.tail _ hz),glueAdd_len P.l1,glueSub_len P.l2⟩
    refine at_kind (br (fun e => ?_) fun e => ?_)
    · obtain ⟨w,s,so,lz,lo,g1,g2,g3,g4⟩ := at_glue (f := f) hxo e
      unfold glueAdd glueSub at done
      rw [g1,g2] at done
      exact methC tat0 (g4 _ _ (c_add hG I P.l1 P.l2 g3.2.2.2.1 g3.2.2.2.2.1 (c_lht hG I hq hf hxo (c_ldp hG I hq hf hxo done))))
    · unfold glueAdd glueSub at done
      rw [kd_rest hxo e] at done
      exact methC tat0 (c_width hG I hq hf hxo (c_widen hG I (c_lht hG I hq hf hxo (c_ldp hG I hq hf hxo done))))
  · intro a y P
    rw [← P.e] at hQ
    show (nc (.tup [fz _ _ _ _,.int a.h,.int a.d]) ∧ _) ∧ Q (.tup [fz _ _ _ _,.int a.h,.int a.d]) _
    rw [fz_tot]
    exact ⟨⟨⟨nc_tot,trivial,trivial,trivial⟩,Kept.refl.app⟩,by unfold tot3; rw [kept_take]; exact hQ⟩
theorem c_across (hG : G.Ok) (I : IsG G) (hq : G.q = true) {n : Nat} {f : V} (hf : FontOk G f) {x : Nd} (hx : x.Ok true) (hQ : Q (.int (x.high true)) cells) : Sem G (n + 4) (.ref 719) [x.v f] cells Q X := by
  cases x
  case box k w h d sh => rcases two3 hx.1 with rfl | rfl <;> exact go_across hG I hQ
  case chr c w h d => exact nomatch hx.1
  case lig c w h d => exact nomatch hx.1
  case dis c w h d s => exact nomatch hx.1
  case mat w => exact nomatch hx.1
  case adj p => exact nomatch hx.1
  case lea w s so l lo sort k bw bh bd bs => exact go_across hG I (c_width hG I hq hf (x := .box k bw bh bd bs) (up := true) ⟨hx.2.2.1,hx.2.2.2⟩ hQ)
  case glu w s so l lo => exact go_across hG I hQ
  case ker w s => exact go_across hG I hQ
  all_goals exact go_across hG I (c_width hG I hq hf hx hQ)
theorem kd_col {x : Nd} (hx : x.Ok true) : ¬x.kd = 0 ∧ ¬x.kd = 1 ∧ ¬x.kd = 8 ∧ ¬x.kd = 12 := by
  cases x
  case box k w h d sh => rcases two3 hx.1 with rfl | rfl <;> exact ⟨of_decide_eq_false rfl,of_decide_eq_false rfl,of_decide_eq_false rfl,of_decide_eq_false rfl⟩
  all_goals first | exact ⟨of_decide_eq_false rfl,of_decide_eq_false rfl,of_decide_eq_false rfl,of_decide_eq_false rfl⟩ | exact nomatch hx.1
theorem c_checkcol (hG : G.Ok) (I : IsG G) {n : Nat} {f : V} {xs : List Nd} (hx : ∀ x ∈ xs,x.Ok true) (hQ : Q .none cells) : Sem G (n + 1) (.ref 726) [.lst (xs.map (Nd.v f))] cells Q X := by
  refine go_check_column hG I (forI_st (Nd.v f) (fun (_ : Unit) y => [some (.lst (xs.map (Nd.v f))),y]) (fun _ => cells) (fun s _ => s) (fun rs _ => ∀ x ∈ rs,x.Ok true) (fun x rs s y kk hrs hk => ?_) (fun _ _ _ => hQ) xs () none hx)
  have h := kd_col (hrs x (.head _))
  exact at_kind (brF h.1 (at_kind (brF h.2.1 (at_kind (brF h.2.2.1 (at_kind (brF h.2.2.2 (hk fun z hz => hrs z (.tail _ hz)))))))))
noncomputable abbrev solid (k : Int) : Prop := k = 2 ∨ k = 3 ∨ k = 4 ∨ k = 14
structure Cc where
  n : Int
  st : List Int
  sh : List Int
  w : Int
  d : Int
noncomputable def Cc.step (a : Cc) (x : Nd) : Cc := ⟨if x.kd = 6 then a.n + a.d + x.wd else if x.kd = 5 then a.n + (a.d + x.wd) else if solid x.kd then a.n + (a.d + x.ht) else a.n,glueAdd x a.st,glueSub x a.sh,mx a.w (x.high true),if x.kd = 6 then 0 else if x.kd = 5 then 0 else if solid x.kd then x.dp else a.d⟩
noncomputable def cc0 : Cc := ⟨0,[0,0,0,0],[0,0,0,0],0,0⟩
theorem at_ker {x : Nd} {f : V} {up : Bool} (hx : x.Ok up) (hk : x.kd = 5) {c : List Cell} {kk : V → Prop} (h : kk (.int x.wd)) : attrV tb c (x.v f) 7 kk := by
  cases x
  case ker w s => exact h
  case box k w h d sh =>
    have e : k = 5 := hk
    have := hx.1.2
    rw [e] at this
    exact absurd this (by decide)
  all_goals exact absurd hk (of_decide_eq_false rfl)
theorem solidT {x : Nd} {f : V} {c : List Cell} {A B : Prop} {K3 K4 K14 : V → Prop} (hA : solid x.kd → A) (hB : ¬solid x.kd → B) (e3 : K3 (.int x.kd) = brW (decide (x.kd = 3)) A (attrV tb c (x.v f) 6 K4))
    (e4 : K4 (.int x.kd) = brW (decide (x.kd = 4)) A (attrV tb c (x.v f) 6 K14)) (e14 : K14 (.int x.kd) = brW (decide (x.kd = 14)) A B) : brW (decide (x.kd = 2)) A (attrV tb c (x.v f) 6 K3) :=
  br (fun h => hA (.inl h)) fun n2 => at_kind (e3 ▸ br (fun h => hA (.inr (.inl h))) fun n3 => at_kind (e4 ▸ br (fun h => hA (.inr (.inr (.inl h)))) fun n4 => at_kind (e14 ▸ br (fun h => hA (.inr (.inr (.inr h)))) fun n14 => hB fun s => s.elim n2 fun s => s.elim n3 fun s => s.elim n4 n14)))
structure CInv (z : Cc) (rs : List Nd) (a : Cc) : Prop where
  e : rs.foldl Cc.step a = z
  ok : ∀ x ∈ rs,x.Ok true
  l1 : a.st.length = 4
  l2 : a.sh.length = 4
theorem c_natcol (hG : G.Ok) (I : IsG G) (hq : G.q = true) {n : Nat} {f : V} (hf : FontOk G f) {xs : List Nd} (hx : ∀ x ∈ xs,x.Ok true)
    (hQ : let a := xs.foldl Cc.step cc0; Q (.tup [.cell cells.length,.int a.w,.int a.d]) (tot3 cells a.n a.st a.sh)) : Sem G (n + 6) (.ref 733) [.lst (xs.map (Nd.v f))] cells Q X := by
  refine go_natural_column hG I hq (c_checkcol hG I hx (c_Totals hG I ?_))
  refine forI_st (Nd.v f) (fun a y => [some (.lst (xs.map (Nd.v f))),some (.cell cells.length),some (.int a.w),some (.int a.d),y]) (fun a => tot3 cells a.n a.st a.sh) Cc.step (CInv _) ?_ ?_ xs cc0 none ⟨rfl,hx,rfl,rfl⟩
  · intro x rs a y kk P hk
    have hxo := P.ok x (.head _)
    have done : kk .next [some (.lst (xs.map (Nd.v f))),some (.cell cells.length),some (.int (mx a.w (x.high true))),some (.int (a.step x).d),some (x.v f)] (tot3 cells (a.step x).n (glueAdd x a.st) (glueSub x a.sh)) :=
      hk ⟨P.e,fun z hz => P.ok z (.tail _ hz),glueAdd_len P.l1,glueSub_len P.l2⟩
    unfold Cc.step glueAdd glueSub at done
    dsimp only at done
    refine c_across hG I hq hf hxo (at_kind (br (fun e6 => ?_) fun n6 => ?_))
    · obtain ⟨w,s,so,lz,lo,g1,g2,g3,g4⟩ := at_glue (f := f) hxo e6
      rw [g1,g2,if_pos e6,if_pos e6] at done
      exact methC tat0 (c_widen hG I (methC tat0 (g4 _ _ (c_add hG I P.l1 P.l2 g3.2.2.2.1 g3.2.2.2.2.1 done))))
    · rw [kd_rest hxo n6,if_neg n6,if_neg n6] at done
      refine at_kind (br (fun e5 => ?_) fun n5 => ?_)
      · rw [if_pos e5,if_pos e5] at done
        exact methC tat0 (at_ker hxo e5 (c_widen hG I done))
      · rw [if_neg n5,if_neg n5] at done
        refine at_kind (solidT (fun s => ?_) (fun s => ?_) rfl rfl rfl)
        · rw [if_pos s,if_pos s] at done
          exact methC tat0 (c_ht hG I hq hf hxo (c_widen hG I (c_dp hG I hq hf hxo done)))
        · rw [if_neg s,if_neg s] at done
          exact done
  · intro a y P
    rw [← P.e] at hQ
    exact hQ
noncomputable def badR (e t : Int) : Int := if e ≤ 7230584 then (e * 297).fdiv t else if 1663497 ≤ t then e.fdiv (t.fdiv 297) else e
noncomputable def badF (e t : Int) : Int := if e = 0 then 0 else if t ≤ 0 then 10000 else if 1290 < badR e t then 10000 else (badR e t * badR e t * badR e t + 131072).fdiv 262144
theorem fdn {e t : Int} (he : 0 ≤ e) (ht : 0 ≤ t) : 0 ≤ e.fdiv t := by rw [Int.fdiv_eq_ediv_of_nonneg _ ht]; exact Int.ediv_nonneg he ht
theorem c_badness (hG : G.Ok) (I : IsG G) {n : Nat} {e t : Int} (he : 0 ≤ e) (he2 : e < 2 ^ 60) (ht : t < 2 ^ 60) (hQ : Q (.int (badF e t)) cells) : Sem G (n + 1) (.ref 164) [.int e,.int t] cells Q X := by
  refine go_badness hG I (brF (by omega) (br (fun h => ?_) fun h1 => br (fun h => ?_) fun h2 => ?_))
  · unfold badF at hQ; rw [if_pos h] at hQ; exact hQ
  · unfold badF at hQ; rw [if_neg h1,if_pos h] at hQ; exact hQ
  have fin : ∀ r,0 ≤ r → badR e t = r → ∀ {lc : Lc},(bC (sI (tOp pGt (wL 2) (wC (.int 1290))) (bC (sR (wC (.int 10000))) bN) bN) (bC (sR (wOp pDiv (wOp pAddU (wOp pMul (wOp pMul (wL 2) (wL 2)) (wL 2)) (wC (.int 131072))) (wC (.int 262144)))) bN)) G n [some (.int e),some (.int t),some (.int r)] cells (back Q) X := by
    rintro r h0 rfl _
    unfold badF at hQ
    rw [if_neg h1,if_neg h2] at hQ
    refine br (fun h => ?_) fun h => ?_
    · rw [if_pos h] at hQ; exact hQ
    · rw [if_neg h] at hQ; exact ⟨mulS (by omega) (by omega),mulS' (by omega) (by omega),⟨by decide,divS (by decide) (by decide)⟩,hQ⟩
  have t0 : t ≠ 0 := by omega
  refine br (fun h3 => ?_) fun h3 => br (fun h4 => ?_) fun h4 => ?_
  · exact ⟨mulS' (by decide) (by decide),⟨t0,divS (by omega) (by omega)⟩,fin _ (fdn (by lia) (by omega)) (if_pos h3) (lc := [])⟩
  · refine ⟨⟨by decide,divS (by decide) (by decide)⟩,?_⟩
    have e1 : t.fdiv 297 = t / 297 := Int.fdiv_eq_ediv_of_nonneg _ (by decide)
    have b : t / 297 ≠ 0 ∧ -(2 ^ 64) < t / 297 ∧ t / 297 < 2 ^ 64 := by omega
    rw [← e1] at b
    exact And.intro ⟨b.1,divS b.2.1 b.2.2⟩ (fin _ (fdn he (by rw [e1]; grind)) ((if_neg h3).trans (if_pos h4)) (lc := []))
  · exact fin _ he ((if_neg h3).trans (if_neg h4)) (lc := [])
theorem c_quotient (hG : G.Ok) (I : IsG G) {n : Nat} {u d : Int} (hQ : Q (.tup [.int (if 0 < d then u else -u),.int (if 0 < d then d else -d)]) cells) : Sem G (n + 1) (.ref 740) [.int u,.int d] cells Q X := by
  refine go_quotient hG I (br (fun h => ?_) fun h => ?_)
  · rw [if_pos h,if_pos h] at hQ; exact hQ
  · rw [if_neg h,if_neg h] at hQ; exact hQ
noncomputable def topF (l : List Int) : Int := if l.getD 3 0 ≠ 0 then 3 else if l.getD 2 0 ≠ 0 then 2 else if l.getD 1 0 ≠ 0 then 1 else 0
noncomputable def Reads4 (cells : List Cell) (L : V) (l : List Int) : Prop := notVal L = true ∧ ∀ (j : Int) kk,0 ≤ j → j ≤ 3 → kk (.int (l.getD j.toNat 0)) → idxW cells L (.int j) kk
theorem c_top (hG : G.Ok) (I : IsG G) {n : Nat} {L : V} {l : List Int} (hL : Reads4 cells L l) (hQ : Q (.int (topF l)) cells) : Sem G (n + 1) (.ref 257) [L] cells Q X := by
  unfold topF at hQ
  refine go_top_order hG I (forC (hL.2 3 _ (by decide) (by decide) (brn (fun (h3 : ¬l.getD 3 0 = 0) => ?_) fun (h3 : l.getD 3 0 = 0) => forC (hL.2 2 _ (by decide) (by decide) (brn (fun (h2 : ¬l.getD 2 0 = 0) => ?_) fun (h2 : l.getD 2 0 = 0) => forC (hL.2 1 _ (by decide) (by decide) (brn (fun (h1 : ¬l.getD 1 0 = 0) => ?_) fun (h1 : l.getD 1 0 = 0) => forN ?_)))))))
  · rw [if_pos h3] at hQ; exact hQ
  · rw [if_neg (fun q => q h3),if_pos h2] at hQ; exact hQ
  · rw [if_neg (fun q => q h3),if_neg (fun q => q h2),if_pos h1] at hQ; exact hQ
  · rw [if_neg (fun q => q h3),if_neg (fun q => q h2),if_neg (fun q => q h1)] at hQ; exact hQ
structure TotIs (cells : List Cell) (tt : V) (st sh : List Int) : Prop where
  top1 : ∀ kk,kk 292 → methW tb cells tt 50 kk
  top2 : ∀ kk,kk 299 → methW tb cells tt 51 kk
  s1 : ∃ L,(∀ kk,kk L → attrV tb cells tt 15 kk) ∧ Reads4 cells L st
  s2 : ∃ L,(∀ kk,kk L → attrV tb cells tt 17 kk) ∧ Reads4 cells L sh
theorem seq_ints {l : List Int} {j : Int} (h : l.length = 4) (h0 : 0 ≤ j) (h3 : j ≤ 3) {kk : V → Prop} (hk : kk (.int (l.getD j.toNat 0))) : seqIx (l.map .int) j kk := by
  refine seqI (by omega) ?_ hk
  unfold ixOf
  rw [if_neg (Int.not_lt.mpr h0)]
  have : j.toNat < l.length := by omega
  rw [List.getElem?_map,List.getD_eq_getElem?_getD,List.getElem?_eq_getElem this]; rfl
theorem reads_lst {l : List Int} (h : l.length = 4) : Reads4 cells (.lst (l.map .int)) l := ⟨rfl,fun j kk h0 h3 hk => seq_ints h h0 h3 hk⟩
theorem reads_cell {l : List Int} {k : Nat} (hc : cells[k]? = some (.lst (l.map .int))) (h : l.length = 4) : Reads4 cells (.cell k) l := ⟨rfl,fun j kk h0 h3 hk => idxC hc (seq_ints h h0 h3 hk)⟩
theorem tot_inst {n : Int} {st sh : List Int} (h1 : st.length = 4) (h2 : sh.length = 4) : TotIs cells (totV n (st.map .int) (sh.map .int)) st sh :=
  ⟨fun kk h => h,fun kk h => h,⟨_,fun kk h => h,reads_lst h1⟩,⟨_,fun kk h => h,reads_lst h2⟩⟩
theorem tot_cell {c0 l : List Cell} {n : Int} {st sh : List Int} (h1 : st.length = 4) (h2 : sh.length = 4) : TotIs (tot3 c0 n st sh ++ l) (.cell c0.length) st sh := by
  have e0 : (tot3 c0 n st sh ++ l)[c0.length]? = some (totC c0.length n) := by unfold tot3; rw [List.append_assoc,getApp0]; rfl
  have e1 : (tot3 c0 n st sh ++ l)[c0.length + 1]? = some (.lst (st.map .int)) := by unfold tot3; rw [List.append_assoc,getApp]; rfl
  have e2 : (tot3 c0 n st sh ++ l)[c0.length + 2]? = some (.lst (sh.map .int)) := by unfold tot3; rw [List.append_assoc,getApp]; rfl
  exact ⟨fun kk h => methC e0 h,fun kk h => methC e0 h,⟨.cell (c0.length + 1),fun kk h => attrC e0 h,reads_cell e1 h1⟩,⟨.cell (c0.length + 2),fun kk h => attrC e0 h,reads_cell e2 h2⟩⟩
theorem c_top1 (hG : G.Ok) (I : IsG G) {n : Nat} {tt : V} {st sh : List Int} (ht : TotIs cells tt st sh) (hQ : Q (.int (topF st)) cells) : Sem G (n + 2) (.ref 292) [tt] cells Q X :=
  let ⟨_,h1,h2⟩ := ht.s1
  go_Totals_stretch_top hG I (h1 _ (c_top hG I h2 hQ))
theorem c_top2 (hG : G.Ok) (I : IsG G) {n : Nat} {tt : V} {st sh : List Int} (ht : TotIs cells tt st sh) (hQ : Q (.int (topF sh)) cells) : Sem G (n + 2) (.ref 299) [tt] cells Q X :=
  let ⟨_,h1,h2⟩ := ht.s2
  go_Totals_shrink_top hG I (h1 _ (c_top hG I h2 hQ))
structure SG where
  sign : Int
  order : Int
  a : Int
  b : Int
  r0 : Int
  r1 : Int
noncomputable def SG.v (g : SG) : V := .tup [.int g.sign,.int g.order,.tup [.int g.a,.int g.b],.tup [.int g.r0,.int g.r1]]
noncomputable def setG (st sh : List Int) (e : Int) : SG :=
  if e = 0 then ⟨0,0,0,1,0,0⟩ else
  let l := if 0 < e then st else sh
  let o := topF l
  let t := l.getD o.toNat 0
  let ae := if e < 0 then -e else e
  let rep := if o = 0 then (if e < 0 ∧ t < -e then (3,-e - t) else (if 0 < e then 1 else 2,badF ae t)) else (0,0)
  if t = 0 then ⟨0,0,0,1,rep.1,rep.2⟩ else if rep.1 = 3 then ⟨2,o,1,1,rep.1,rep.2⟩
  else ⟨if 0 < e then 1 else 2,o,if 0 < t then ae else -ae,if 0 < t then t else -t,rep.1,rep.2⟩
theorem topF_lt (l : List Int) : 0 ≤ topF l ∧ topF l ≤ 3 := by
  unfold topF
  split
  · decide
  split
  · decide
  split <;> decide
theorem ifI {p : Prop} {d : Decidable p} {i j : Int} {n : Nat} {lc : Lc} {k : KE} (h : k (.int (if p then i else j)) cells) : brW (decide p) (wC (.int i) G n lc cells k X) (wC (.int j) G n lc cells k X) :=
  br (fun e => by rw [if_pos e] at h; exact h) fun e => by rw [if_neg e] at h; exact h
noncomputable abbrev sgEnd : GS := bC (sI (tOp pEqU (wL 3) (wC (.int 0))) (bC (sR (wTup (lC (wC (.int 0)) (lC (wC (.int 0)) (lC (wTup (lC (wC (.int 0)) (lC (wC (.int 1)) lN))) (lC (wL 4) lN)))))) bN) bN) (bC (sI (tOp pEqU (wIdx (wL 4) (wC (.int 0))) (wC (.int 3))) (bC (sR (wTup (lC (wC (.int 2)) (lC (wL 2) (lC (wTup (lC (wC (.int 1)) (lC (wC (.int 1)) lN))) (lC (wL 4) lN)))))) bN) bN) (bC (sR (wTup (lC (wIfE (tOp pGt (wL 1) (wC (.int 0))) (wC (.int 1)) (wC (.int 2))) (lC (wL 2) (lC (wCa (.ref 740) (lC (wB qAbs (lC (wL 1) lN)) (lC (wL 3) lN))) (lC (wL 4) lN)))))) bN))
noncomputable def sgF (e o t : Int) (r : Int × Int) : SG := if t = 0 then ⟨0,0,0,1,r.1,r.2⟩ else if r.1 = 3 then ⟨2,o,1,1,r.1,r.2⟩
  else ⟨if 0 < e then 1 else 2,o,if 0 < t then (if e < 0 then -e else e) else -(if e < 0 then -e else e),if 0 < t then t else -t,r.1,r.2⟩
theorem c_sgEnd (hG : G.Ok) (I : IsG G) {n : Nat} {tt : V} {e o t r0 r1 : Int} (hQ : Q (sgF e o t (r0,r1)).v cells) : sgEnd G (n + 1) [some tt,some (.int e),some (.int o),some (.int t),some (.tup [.int r0,.int r1])] cells (back Q) X := by
  unfold sgF at hQ
  refine br (fun h => ?_) fun h => br (fun h' => ?_) fun h' => ifI (c_quotient hG I ?_)
  · rw [if_pos h] at hQ; exact hQ
  · rw [if_neg h,if_pos h'] at hQ; exact hQ
  · rw [if_neg h,if_neg h'] at hQ; exact hQ
theorem setG_ne {st sh : List Int} {e : Int} (h : ¬e = 0) : setG st sh e = sgF e (topF (if 0 < e then st else sh)) ((if 0 < e then st else sh).getD (topF (if 0 < e then st else sh)).toNat 0)
    (if topF (if 0 < e then st else sh) = 0 then (if e < 0 ∧ (if 0 < e then st else sh).getD (topF (if 0 < e then st else sh)).toNat 0 < -e then (3,-e - (if 0 < e then st else sh).getD (topF (if 0 < e then st else sh)).toNat 0) else (if 0 < e then 1 else 2,badF (if e < 0 then -e else e) ((if 0 < e then st else sh).getD (topF (if 0 < e then st else sh)).toNat 0))) else (0,0)) := by
  unfold setG
  rw [if_neg h]
  rfl
theorem c_setg (hG : G.Ok) (I : IsG G) {n : Nat} {tt : V} {st sh : List Int} {e : Int} (ht : TotIs cells tt st sh) (he : -(2 ^ 50) < e ∧ e < 2 ^ 50) (h1 : ∀ j,st.getD j 0 < 2 ^ 50) (h2 : ∀ j,sh.getD j 0 < 2 ^ 50) (hQ : Q (setG st sh e).v cells) : Sem G (n + 3) (.ref 747) [tt,.int e] cells Q X := by
  refine go_set_glue hG I (br (fun e0 => ?_) fun e0 => ?_)
  · subst e0; exact hQ
  rw [setG_ne e0] at hQ
  generalize hl : (if 0 < e then st else sh) = l at hQ
  have to := topF_lt l
  have p1 : ∀ {lc : Lc} {k : KE},k (.int (topF l)) cells → brW (decide (0 < e)) (wMe0 50 (wL 0) G (n + 2) (some tt :: lc) cells k X) (wMe0 51 (wL 0) G (n + 2) (some tt :: lc) cells k X) := fun hk =>
    br (fun p => by rw [if_pos p] at hl; subst hl; exact ht.top1 _ (c_top1 hG I ht hk)) fun p => by rw [if_neg p] at hl; subst hl; exact ht.top2 _ (c_top2 hG I ht hk)
  have p2 : ∀ {o : Int} {v : V} {lc : Lc} {k : KE},0 ≤ o ∧ o ≤ 3 → k (.int (l.getD o.toNat 0)) cells → brW (decide (0 < e)) (wIdx (wA 15 (wL 0)) (wL 2) G (n + 2) (some tt :: some v :: some (.int o) :: lc) cells k X) (wIdx (wA 17 (wL 0)) (wL 2) G (n + 2) (some tt :: some v :: some (.int o) :: lc) cells k X) := fun ho hk =>
    br (fun p => by
      rw [if_pos p] at hl; subst hl
      obtain ⟨L,g1,g2⟩ := ht.s1
      exact g1 _ (g2.2 _ _ ho.1 ho.2 hk)) fun p => by
      rw [if_neg p] at hl; subst hl
      obtain ⟨L,g1,g2⟩ := ht.s2
      exact g1 _ (g2.2 _ _ ho.1 ho.2 hk)
  have bt : ∀ j,l.getD j 0 < 2 ^ 50 := by subst hl; split <;> assumption
  refine p1 ?_
  generalize topF l = o at hQ to
  refine p2 to ?_
  have bt := bt o.toNat
  generalize l.getD o.toNat 0 = t at hQ bt
  refine br (fun ho => ifI (c_badness hG I (by split <;> omega) (by split <;> omega) (by omega) (brT ho (br (fun en => br (fun et => ?_) fun et => ?_) fun en => ?_)))) fun ho => brF ho ?_
  · rw [if_pos ho,if_pos ⟨en,et⟩] at hQ; exact c_sgEnd hG I hQ
  · rw [if_pos ho,if_neg (fun x => et x.2)] at hQ; exact c_sgEnd hG I hQ
  · rw [if_pos ho,if_neg (fun x => en x.1)] at hQ; exact c_sgEnd hG I hQ
  · rw [if_neg ho] at hQ; exact c_sgEnd hG I hQ
noncomputable def goalF (mode amount own : Int) : Int := if mode = 0 then amount else own + amount
theorem c_goal (hG : G.Ok) (I : IsG G) {n : Nat} {own mode amount : Int} (hm : mode = 0 ∨ mode = 1) (hQ : Dim amount → Q (.int (goalF mode amount own)) cells) (hX : ¬Dim amount → X cells) : Sem G (n + 4) (.ref 796) [.int own,.int mode,.int amount] cells Q X := by
  have nx : amount < -1073741823 ∨ 1073741823 < amount → X cells := fun h => hX (by unfold Dim; omega)
  rcases hm with rfl | rfl <;> exact go_goal_size hG I (c_check_dimen hG I (fun h1 h2 => hQ ⟨h1,h2⟩) nx)
noncomputable abbrev boxI (k w h d : Int) (items : V) (sg od a b : Int) : V := .inst 405 (boxV k w h d items 0 sg od a b)
noncomputable def flexG (sg od s so l lo : Int) : Int := if sg = 1 ∧ so = od then s else if sg = 2 ∧ lo = od then -l else 0
theorem c_flex (hG : G.Ok) (I : IsG G) {n : Nat} {k w h d sg od a b gw s so l lo : Int} {items : V} (hQ : Q (.int (flexG sg od s so l lo)) cells) : Sem G (n + 1) (.ref 754) [boxI k w h d items sg od a b,glueV gw s so l lo] cells Q X := by
  unfold flexG at hQ
  refine go_flex hG I (brAnd (fun e1 e2 => ?_) fun n1 => brAnd (fun e1 e2 => ?_) fun n2 => ?_)
  · rw [if_pos ⟨e1,e2⟩] at hQ; exact hQ
  · rw [if_neg n1,if_pos ⟨e1,e2⟩] at hQ; exact hQ
  · rw [if_neg n1,if_neg n2] at hQ; exact hQ
theorem c_setpart (hG : G.Ok) (I : IsG G) {n : Nat} {k w h d sg od a b z : Int} {items : V} (ha : -(2 ^ 60) < a ∧ a < 2 ^ 60) (hb : 0 < b ∧ b < 2 ^ 60) (hQ : Q (.int (rnd (a * z) b)) cells) : Sem G (n + 2) (.ref 761) [boxI k w h d items sg od a b,.int z] cells Q X :=
  go_set_part hG I ⟨mulS (by omega) (by omega),c_rounded hG I hb.1 hb.2 hQ⟩
theorem c_gluesize (hG : G.Ok) (I : IsG G) {n : Nat} {k w h d sg od a b z gw s so l lo : Int} {items : V} (ha : -(2 ^ 60) < a ∧ a < 2 ^ 60) (hb : 0 < b ∧ b < 2 ^ 60)
    (hQ : let z' := z + flexG sg od s so l lo; Q (.tup [.int (gw + rnd (a * z') b - rnd (a * z) b),.int z']) cells) : Sem G (n + 3) (.ref 768) [boxI k w h d items sg od a b,.int z,glueV gw s so l lo] cells Q X :=
  go_glue_size hG I (c_flex hG I (c_setpart hG I ha hb (c_setpart hG I ha hb hQ)))
theorem c_partsize (hG : G.Ok) (I : IsG G) (hq : G.q = true) {n : Nat} {f : V} (hf : FontOk G f) {up : Bool} {x : Nd} (hx : x.Ok up) {k w h d sg od a b : Int} {items : V} (hk : k = if up then 3 else 2)
    (hQ : Q (.int (if up then (if x.kd = 5 then x.wd else x.ht + x.dp) else x.wd)) cells) : Sem G (n + 5) (.ref 775) [boxI k w h d items sg od a b,x.v f] cells Q X := by
  subst hk
  cases up with
  | false => exact go_part_size hG I (c_width hG I hq hf hx hQ)
  | true =>
    refine go_part_size hG I (at_kind (br (fun e => at_ker hx e ?_) fun e => c_ht hG I hq hf hx (c_dp hG I hq hf hx ?_)))
    · rw [if_pos e] at hQ; exact hQ
    · rw [if_neg e] at hQ; exact hQ
noncomputable def flexOf (sg od : Int) (x : Nd) : Int := match x.rest with
  | some (s,so,l,lo) => flexG sg od s so l lo
  | none => 0
noncomputable def pz (up : Bool) (x : Nd) : Int := if x.kd = 6 then x.wd else if up then (if x.kd = 5 then x.wd else x.ht + x.dp) else x.wd
noncomputable def placesL (a b sg od : Int) (up : Bool) : Int → Int → List Nd → List Int
  | _,_,[] => []
  | fx,fl,x :: r => (fx + pz up x + rnd (a * (fl + flexOf sg od x)) b) :: placesL a b sg od up (fx + pz up x) (fl + flexOf sg od x) r
theorem placesL_len {a b sg od : Int} {up : Bool} : ∀ (r : List Nd) (fx fl : Int),(placesL a b sg od up fx fl r).length = r.length
  | [],_,_ => rfl
  | _ :: r,_,_ => congrArg (· + 1) (placesL_len r _ _)
theorem brJ {p : Prop} {d : Decidable p} {A B : Prop} (ha : p → B → A) (h : B) : brW (decide p) A B := br (fun e => ha e h) fun _ => h
theorem appN {l : List V} {v : V} {kk : List Cell → Prop} (h : l.length ≤ 16000000) (k : kk (cells ++ [.lst (l ++ [v])])) : appW (cells ++ [.lst l]) (.cell cells.length) v kk := lstC getApp0 ⟨h,by rw [setApp0]; exact k⟩
structure Ps where
  fx : Int
  fl : Int
  ps : List Int
structure PInv (up : Bool) (a b sg od : Int) (z : List Int) (rs : List Nd) (s : Ps) : Prop where
  e : s.ps ++ placesL a b sg od up s.fx s.fl rs = z
  ok : ∀ x ∈ rs,x.Ok up
theorem c_places (hG : G.Ok) (I : IsG G) (hq : G.q = true) {n : Nat} {f : V} (hf : FontOk G f) {up : Bool} {xs : List Nd} (hl : xs.length ≤ 1000) (hx : ∀ x ∈ xs,x.Ok up) {k w h d sg od a b : Int} (hk : k = if up then 3 else 2) (ha : -(2 ^ 60) < a ∧ a < 2 ^ 60) (hb : 0 < b ∧ b < 2 ^ 60)
    (hQ : Q (.lst ((0 :: placesL a b sg od up 0 0 xs).map .int)) cells) : Sem G (n + 6) (.ref 782) [boxI k w h d (.lst (xs.map (Nd.v f))) sg od a b] cells Q X := by
  have hu : k = 3 → up = true := fun e => by cases up with
    | true => rfl
    | false => rw [hk] at e; exact absurd e (by decide)
  refine sem_drop (go_places hG I hq (brJ (fun e b => c_checkcol hG I (fun x h => hu e ▸ hx x h) b) ?_))
  refine forI_st (Nd.v f) (fun s y => [some (boxI k w h d (.lst (xs.map (Nd.v f))) sg od a b),some (.cell cells.length),some (.int s.fx),some (.int s.fl),y]) (fun s => cells ++ [.lst (s.ps.map .int)])
    (fun s x => ⟨s.fx + pz up x,s.fl + flexOf sg od x,s.ps ++ [s.fx + pz up x + rnd (a * (s.fl + flexOf sg od x)) b]⟩) (PInv up a b sg od (0 :: placesL a b sg od up 0 0 xs)) ?_ ?_ xs ⟨0,0,[0]⟩ none ⟨rfl,hx⟩
  · intro x rs s y kk P hk'
    have hxo := P.ok x (.head _)
    have psl : (s.ps.map V.int).length ≤ 16000000 := by
      have := congrArg List.length P.e
      rw [List.length_append,placesL_len,List.length_cons,List.length_cons,placesL_len] at this
      rw [List.length_map]
      lia
    have done := hk' ⟨by rw [List.append_assoc]; exact P.e,fun z hz => P.ok z (.tail _ hz)⟩
    unfold pz flexOf at done
    rw [List.map_append] at done
    refine at_kind (br (fun e6 => ?_) fun n6 => ?_)
    · obtain ⟨gw,s,so,lz,lo,g1,g2,g3,g4⟩ := at_glue (f := f) hxo e6
      rw [if_pos e6,g1,g2] at done
      exact g4 _ _ (g4 _ _ (c_flex hG I (And.intro (lstC getApp0 trivial) (c_setpart hG I ha hb (appN psl done)))))
    · rw [if_neg n6,kd_rest hxo n6] at done
      dsimp only at done
      rw [Int.add_zero] at done
      exact c_partsize hG I hq hf hxo hk (And.intro (lstC getApp0 trivial) (c_setpart hG I ha hb (appN psl done)))
  · intro s y P
    have e := P.e
    rw [show placesL a b sg od up s.fx s.fl [] = [] from rfl,List.append_nil] at e
    show (nc (fz _ _ _ _) ∧ _) ∧ Q (fz _ _ _ _) _
    rw [fz_cell0,kept_take]
    show (nc (.lst (List.map _ (List.map V.int _))) ∧ _) ∧ Q (.lst (List.map _ (List.map V.int _))) _
    rw [fz_ncL 5 (ncL_ints _),e]
    exact ⟨⟨ncL_ints _,Kept.refl.app⟩,hQ⟩
noncomputable def isOut : Nd → Bool
  | .mar _ => true | .ins _ _ => true | .adj _ => true | _ => false
theorem kd_out {x : Nd} {up : Bool} (hx : x.Ok up) : (∃ p,x = .adj p) ∨ ((x.kd ≠ 11 ∧ (x.kd = 9 ∨ x.kd = 10)) ∧ isOut x = true ∧ ∀ f,x.out f = [x.v f]) ∨ ((x.kd ≠ 11 ∧ x.kd ≠ 9 ∧ x.kd ≠ 10) ∧ isOut x = false ∧ ∀ f,x.out f = []) := by
  cases x
  case box k w h d sh => rcases two3 hx.1 with rfl | rfl <;> exact .inr (.inr ⟨⟨of_decide_eq_false rfl,of_decide_eq_false rfl,of_decide_eq_false rfl⟩,rfl,fun _ => rfl⟩)
  case adj p => exact .inl ⟨p,rfl⟩
  case mar => exact .inr (.inl ⟨⟨of_decide_eq_false rfl,.inl rfl⟩,rfl,fun _ => rfl⟩)
  case ins => exact .inr (.inl ⟨⟨of_decide_eq_false rfl,.inr rfl⟩,rfl,fun _ => rfl⟩)
  all_goals exact .inr (.inr ⟨⟨of_decide_eq_false rfl,of_decide_eq_false rfl,of_decide_eq_false rfl⟩,rfl,fun _ => rfl⟩)
theorem out2 (f : V) (x : Nd) : (x.out f).length ≤ 2 := by cases x <;> first | exact Nat.le_refl _ | exact Nat.zero_le _ | exact Nat.le_succ _
theorem flat_len {f : V} : ∀ (xs : List Nd),(xs.flatMap (Nd.out f)).length ≤ 2 * xs.length
  | [] => Nat.le_refl _
  | x :: r => by
    have := flat_len (f := f) r
    have h2 := out2 f x
    rw [List.flatMap_cons,List.length_append,List.length_cons]
    lia
theorem ncL_app : ∀ {l r : List V},ncL l → ncL r → ncL (l ++ r)
  | [],_,_,h => h
  | _ :: _,_,h,h' => ⟨h.1,ncL_app h.2 h'⟩
theorem nc_optV (o : Option Int) : nc (optV o) := by cases o <;> trivial
theorem nc_out {f : V} (hf : nc f) : ∀ x : Nd,nc (x.v f) ∧ ncL (x.out f) := by
  have g : ∀ w s so l lo,nc (glueV w s so l lo) := fun _ _ _ _ _ => ⟨trivial,trivial,trivial,trivial,trivial,trivial⟩
  have b : ∀ k w h d sh,nc (shutV k w h d sh) := fun _ _ _ _ _ => ⟨trivial,trivial,trivial,trivial,trivial,trivial,trivial,trivial,⟨trivial,trivial,trivial⟩,trivial⟩
  have p : ∀ v,nc (penV v) := fun _ => ⟨trivial,trivial⟩
  have k : ∀ w s,nc (kernV w s) := fun _ _ => ⟨trivial,trivial,trivial⟩
  have c : ∀ c,nc (charV f c) := fun _ => ⟨hf,trivial,trivial⟩
  have z : ncL z4 := ⟨trivial,trivial,trivial,trivial,trivial⟩
  intro x
  cases x
  case chr => exact ⟨c _,trivial⟩
  case lig => exact ⟨⟨hf,trivial,⟨trivial,trivial,trivial⟩,trivial,trivial,trivial⟩,trivial⟩
  case box => exact ⟨b _ _ _ _ _,trivial⟩
  case rul => exact ⟨⟨nc_optV _,nc_optV _,nc_optV _,trivial⟩,trivial⟩
  case ker => exact ⟨k _ _,trivial⟩
  case glu => exact ⟨⟨g _ _ _ _ _,trivial,trivial,trivial⟩,trivial⟩
  case lea => exact ⟨⟨g _ _ _ _ _,trivial,b _ _ _ _ _,trivial⟩,trivial⟩
  case pen => exact ⟨p _,trivial⟩
  case dis => exact ⟨⟨⟨c _,trivial⟩,trivial,⟨c _,k _ _,trivial⟩,trivial⟩,trivial⟩
  case mar => exact ⟨⟨⟨⟨trivial,trivial,trivial⟩,trivial⟩,trivial⟩,⟨⟨⟨trivial,trivial,trivial⟩,trivial⟩,trivial⟩,trivial⟩
  case ins => exact ⟨⟨trivial,trivial,trivial,g _ _ _ _ _,trivial,⟨k _ _,trivial⟩,trivial⟩,⟨trivial,trivial,trivial,g _ _ _ _ _,trivial,⟨k _ _,trivial⟩,trivial⟩,trivial⟩
  case adj => exact ⟨⟨⟨p _,k _ _,trivial⟩,trivial⟩,p _,k _ _,trivial⟩
  case mat => exact ⟨⟨trivial,trivial,trivial⟩,trivial⟩
  case spe => exact ⟨⟨trivial,trivial⟩,trivial⟩
  case uns => exact ⟨⟨trivial,trivial,trivial,trivial,trivial,⟨trivial,z,z,trivial⟩,trivial,trivial⟩,trivial⟩
noncomputable abbrev two (cells : List Cell) (a b : List V) : List Cell := cells ++ [.lst a,.lst b]
section
variable {a b l : List V} {v : V} {kk : List Cell → Prop}
theorem app0 (h : a.length ≤ 16000000) (k : kk (two cells (a ++ [v]) b)) : appW (two cells a b) (.cell cells.length) v kk := appC getApp0 h (by rw [setApp0]; exact k)
theorem app1 (h : b.length ≤ 16000000) (k : kk (two cells a (b ++ [v]))) : appW (two cells a b) (.cell (cells.length + 1)) v kk := appC getApp h (by rw [setApp]; exact k)
theorem ext1 (h : b.length + l.length ≤ 16000000) (k : kk (two cells a (b ++ l))) : extW (two cells a b) (.cell (cells.length + 1)) (.lst l) kk := extC getApp h (by rw [setApp]; exact k)
end
theorem brK {x : Nd} {f : V} {c : List Cell} {i j : Int} {A B : Prop} {K : V → Prop} (e : x.kd = i ∨ x.kd = j) (eK : K (.int x.kd) = brW (decide (x.kd = j)) A B) (h : A) : brW (decide (x.kd = i)) A (attrV tb c (x.v f) 6 K) :=
  br (fun _ => h) fun n => at_kind (eK ▸ brT (e.resolve_left n) h)
noncomputable def keepF (x : Nd) : Bool := !isOut x
structure MInv (f : V) (up : Bool) (xs : List Nd) (rs : List Nd) (s : List Nd × List V) : Prop where
  ks : s.1 ++ rs.filter keepF = xs.filter keepF
  os : s.2 ++ rs.flatMap (Nd.out f) = xs.flatMap (Nd.out f)
  ok : ∀ x ∈ rs,x.Ok up
theorem c_moved (hG : G.Ok) (I : IsG G) (hq : G.q = true) {n : Nat} {f : V} (hf : nc f) {up : Bool} {xs : List Nd} (hl : xs.length ≤ 1000) (hx : ∀ x ∈ xs,x.Ok up)
    (hQ : Q (.tup [.lst ((xs.filter keepF).map (Nd.v f)),.lst (xs.flatMap (Nd.out f))]) cells) : Sem G (n + 2) (.ref 789) [.lst (xs.map (Nd.v f))] cells Q X := by
  refine sem_drop (go_moved hG I hq ?_)
  conv => whnf
  rw [lenApp,List.append_assoc]
  refine forI_st (Nd.v f) (fun s y => [some (.lst (xs.map (Nd.v f))),some (.cell cells.length),some (.cell (cells.length + 1)),y]) (fun s => two cells (s.1.map (Nd.v f)) s.2)
    (fun s x => (s.1 ++ (if isOut x then [] else [x]),s.2 ++ x.out f)) (MInv f up xs) ?_ ?_ xs ([],[]) none ⟨rfl,rfl,hx⟩
  · intro x rs s y kk P hk
    have kl : (s.1.map (Nd.v f)).length ≤ 16000000 := by
      have := congrArg List.length P.ks
      have := List.length_filter_le keepF xs
      rw [List.length_append] at *
      rw [List.length_map]
      omega
    have ol : s.2.length ≤ 2000 := by
      have e1 := congrArg List.length P.os
      have e2 := flat_len (f := f) xs
      rw [List.length_append] at e1
      lia
    have done := fun (e : (if isOut x then [] else [x]) ++ rs.filter keepF = (x :: rs).filter keepF) => hk ⟨by rw [List.append_assoc,e]; exact P.ks,by rw [List.append_assoc]; exact P.os,fun z hz => P.ok z (.tail _ hz)⟩
    rcases kd_out (P.ok x (.head _)) with ⟨p,rfl⟩ | ⟨⟨n11,e⟩,o1,o2⟩ | ⟨⟨n11,n9,n10⟩,o1,o2⟩
    · have done := done rfl
      rw [show (if isOut (.adj p) = true then [] else [Nd.adj p]) = [] from rfl,List.append_nil] at done
      exact And.intro (lstC getApp trivial) (ext1 (Nat.le_trans (Nat.add_le_add_right ol 2) (by decide)) done)
    · have done := done (by rw [o1,List.filter_cons_of_neg (by unfold keepF; rw [o1]; decide)]; rfl)
      rw [o2 f,if_pos o1,List.append_nil] at done
      have k := And.intro (lstC (kk := any2) (getApp (c := cells) (l := [.lst (s.1.map (Nd.v f)),.lst s.2]) (j := 1)) trivial) (app1 (cells := cells) (a := s.1.map (Nd.v f)) (v := x.v f) (Nat.le_trans ol (by decide)) done)
      refine at_kind (brF n11 (at_kind (brK e rfl k)))
    · have done := done (by rw [List.filter_cons_of_pos (by unfold keepF; rw [o1]; rfl),if_neg (by rw [o1]; decide)]; rfl)
      rw [o2 f,if_neg (by rw [o1]; decide),List.append_nil,List.map_append] at done
      exact at_kind (brF n11 (at_kind (brF n9 (at_kind (brF n10 (And.intro (lstC getApp0 trivial) (app0 kl done)))))))
  · intro s y P
    have hks := P.ks
    have hos := P.os
    rw [List.filter_nil,List.append_nil] at hks
    rw [List.flatMap_nil,List.append_nil] at hos
    have hm : ∀ l : List Nd,ncL (l.map (Nd.v f)) := fun l => by
      induction l with
      | nil => trivial
      | cons x r ih => exact ⟨(nc_out hf x).1,ih⟩
    have ho : ∀ l : List Nd,ncL (l.flatMap (Nd.out f)) := fun l => by
      induction l with
      | nil => trivial
      | cons x r ih => rw [List.flatMap_cons]; exact ncL_app (nc_out hf x).2 ih
    show (nc (.tup [fz _ _ _ _,fz _ _ _ _]) ∧ _) ∧ Q (.tup [fz _ _ _ _,fz _ _ _ _]) _
    rw [fz_cell0,fz_cellj,kept_take]
    show (nc (.tup [.lst (List.map _ (List.map _ s.1)),.lst (List.map _ s.2)]) ∧ _) ∧ Q (.tup [.lst (List.map _ (List.map _ s.1)),.lst (List.map _ s.2)]) _
    rw [hks,hos,fz_ncL _ (hm _),fz_ncL _ (ho _)]
    exact ⟨⟨⟨hm _,ho _,trivial⟩,Kept.refl.app⟩,hQ⟩
theorem c_BoxX (hG : G.Ok) (I : IsG G) {n : Nat} {k w h d : Int} {items : V} (hk : 2 ≤ k ∧ k ≤ 3) (hd : Dim d) (hQ : Dim w → Dim h → Q (.cell cells.length) (cells ++ [.inst 405 (boxV k w h d items 0 0 0 0 1)])) (hX : ¬(Dim w ∧ Dim h) → ∀ l,X (cells ++ l)) : Sem G (n + 5) (.ref 405) [.int k,.int w,.int h,.int d,items] cells Q X := by
  have nd : ∀ {v : Int},v < -1073741823 ∨ 1073741823 < v → ¬Dim v := fun h q => by unfold Dim at q; omega
  refine c_make hG I 405 402 (by decide) (go_Box_init hG I ?_)
  refine c_whole hG I hk ?_
  ((conv => whnf); refine setA rfl ?_)
  refine c_check_dimen hG I (fun a1 a2 => ?_) fun e => hX (fun q => nd e q.1) _
  ((conv => whnf); refine setA rfl ?_)
  refine c_check_dimen hG I (fun a3 a4 => ?_) fun e => hX (fun q => nd e q.2) _
  ((conv => whnf); refine setA rfl ?_)
  refine c_dim hG I hd ?_
  ((conv => whnf); refine setA rfl ?_)
  ((conv => whnf); refine setA rfl ?_)
  ((conv => whnf); refine setA rfl ?_)
  ((conv => whnf); refine setA rfl ?_)
  ((conv => whnf); refine setA rfl ?_)
  ((conv => whnf); refine setA rfl ?_)
  exact hQ ⟨a1,a2⟩ ⟨a3,a4⟩
theorem c_setbox (hG : G.Ok) (I : IsG G) (hq : G.q = true) {n : Nat} {j : Nat} {k w h d e : Int} {its : List V} {tt : V} {st sh : List Int} (hj : cells[j]? = some (.inst 405 (boxV k w h d (.lst its) 0 0 0 0 1))) (ht : TotIs cells tt st sh) (he : -(2 ^ 50) < e ∧ e < 2 ^ 50) (h1 : ∀ j,st.getD j 0 < 2 ^ 50) (h2 : ∀ j,sh.getD j 0 < 2 ^ 50)
    (hQ : ∀ g,setG st sh e = g → Q (.tup [.int (if its = [] then 0 else g.r0),.int (if its = [] then 0 else g.r1)]) (cells.set j (.inst 405 (boxV k w h d (.lst its) 0 g.sign g.order g.a g.b)))) : Sem G (n + 4) (.ref 803) [.cell j,tt,.int e] cells Q X := by
  refine go_set_box hG I hq (c_setg hG I ht he h1 h2 ?_)
  generalize setG st sh e = g at hQ ⊢
  have hQ := hQ g rfl
  have k1 := hset (x := .inst 405 (boxV k w h d (.lst its) 0 g.sign 0 0 1)) hj
  have k2 := hset (x := .inst 405 (boxV k w h d (.lst its) 0 g.sign g.order 0 1)) k1
  have k3 := hset (x := .inst 405 (boxV k w h d (.lst its) 0 g.sign g.order g.a g.b)) k2
  refine setAC hj rfl (setAC k1 rfl (setAC k2 rfl (attrC k3 ?_)))
  refine And.intro (fun e => ?_) fun e => ?_
  · rw [if_pos e,if_pos e] at hQ
    conv => whnf
    rw [List.set_set,List.set_set]
    exact hQ
  · rw [if_neg e,if_neg e] at hQ
    conv => whnf
    rw [List.set_set,List.set_set]
    exact hQ
noncomputable def Sm (i : Int) : Prop := -24 ≤ i ∧ i ≤ 16777215
theorem Sz.sm {a : Int} (h : Sz a) : Sm a := by unfold Sz at h; unfold Sm; omega
theorem sm_add {a b : Int} (h : Sz a) (h' : Sz b) : Sm (a + b) := by unfold Sz at *; unfold Sm; omega
theorem ub_sub {a b : Int} (h : Sz a) (h' : Sz b) : a - b ≤ 16777215 := by unfold Sz at *; omega
theorem sz0 : Sz 0 := by unfold Sz; decide
theorem sm0 : Sm 0 := sz0.sm
theorem ow_le {o : Option Int} (h : OSz o) : Sz (ow o) := by
  cases o with
  | none => exact sz0
  | some i => exact h i rfl
theorem Let.sz {c w h d : Int} (l : Let c w h d) : Sz w ∧ Sz h ∧ Sz d := by
  rcases l with ⟨_,rfl,rfl,rfl⟩ | ⟨_,rfl,rfl,rfl⟩ | ⟨_,rfl,rfl,rfl⟩ <;> exact ⟨by unfold Sz; decide,by unfold Sz; decide,by unfold Sz; decide⟩
theorem bu {P : Bool → Prop} (t : P true) (f : P false) (u : Bool) : P u := by cases u <;> assumption
theorem small {x : Nd} {up : Bool} (hx : x.Ok up) : Sm x.wd ∧ Sm x.ht ∧ Sm x.dp ∧ (∀ u,x.high u ≤ 16777215 ∧ x.deep u ≤ 16777215) ∧ (∀ s so l lo,x.rest = some (s,so,l,lo) → Sz s ∧ Sz l ∧ (0 ≤ so ∧ so ≤ 3) ∧ (0 ≤ lo ∧ lo ≤ 3)) := by
  have u0 := sm0.2
  cases x
  case rul w h d =>
    have a := (ow_le hx.1).sm
    have b := (ow_le hx.2.1).sm
    have c := (ow_le hx.2.2).sm
    exact ⟨a,b,c,bu ⟨a.2,c.2⟩ ⟨b.2,c.2⟩,fun _ _ _ _ h => nomatch h⟩
  case chr c w h d =>
    have l := hx.2.sz
    exact ⟨l.1.sm,l.2.1.sm,l.2.2.sm,fun u => ⟨l.2.1.sm.2,l.2.2.sm.2⟩,fun _ _ _ _ h => nomatch h⟩
  case lig c w h d =>
    have l := hx.2.sz
    exact ⟨l.1.sm,l.2.1.sm,l.2.2.sm,fun u => ⟨l.2.1.sm.2,l.2.2.sm.2⟩,fun _ _ _ _ h => nomatch h⟩
  case dis c w h d s =>
    have l := hx.2.1.sz
    exact ⟨sm_add l.1 hx.2.2,l.2.1.sm,l.2.2.sm,fun u => ⟨l.2.1.sm.2,l.2.2.sm.2⟩,fun _ _ _ _ h => nomatch h⟩
  case box k w h d sh =>
    have l := hx.2
    exact ⟨l.1.sm,l.2.1.sm,l.2.2.1.sm,bu ⟨(sm_add l.1 l.2.2.2).2,l.2.2.1.sm.2⟩ ⟨ub_sub l.2.1 l.2.2.2,(sm_add l.2.2.1 l.2.2.2).2⟩,fun _ _ _ _ h => nomatch h⟩
  case ker w s => exact ⟨hx.1.sm,sm0,sm0,fun u => ⟨u0,u0⟩,fun _ _ _ _ h => nomatch h⟩
  case mat w => exact ⟨hx.2.sm,sm0,sm0,fun u => ⟨u0,u0⟩,fun _ _ _ _ h => nomatch h⟩
  case uns w h d => exact ⟨hx.1.sm,hx.2.1.sm,hx.2.2.sm,bu ⟨hx.1.sm.2,hx.2.2.sm.2⟩ ⟨hx.2.1.sm.2,hx.2.2.sm.2⟩,fun _ _ _ _ h => nomatch h⟩
  case glu w s so l lo => exact ⟨hx.1.sm,sm0,sm0,fun u => ⟨u0,u0⟩,fun _ _ _ _ h => by cases h; exact ⟨hx.2.1,hx.2.2.1,hx.2.2.2.1,hx.2.2.2.2.1⟩⟩
  case lea w s so l lo sort k bw bh bd bs =>
    have b := hx.2.2.2
    exact ⟨hx.1.1.sm,b.2.1.sm,b.2.2.1.sm,bu ⟨b.1.sm.2,u0⟩ ⟨b.2.1.sm.2,b.2.2.1.sm.2⟩,fun _ _ _ _ h => by cases h; exact ⟨hx.1.2.1,hx.1.2.2.1,hx.1.2.2.2.1,hx.1.2.2.2.2.1⟩⟩
  all_goals exact ⟨sm0,sm0,sm0,fun u => ⟨u0,u0⟩,fun _ _ _ _ h => nomatch h⟩
noncomputable def LB (k : Int) (l : List Int) : Prop := ∀ j,-(k * 16777216) ≤ l.getD j 0 ∧ l.getD j 0 ≤ k * 16777216
theorem LB.set {k : Int} {l : List Int} {i : Nat} {s : Int} (h : LB k l) (hs : Sz s) : LB (k + 1) (l.set i (l.getD i 0 + s)) := by
  intro j
  have hj := h j
  have hi := h i
  unfold Sz at hs
  rw [List.getD_eq_getElem?_getD,List.getElem?_set]
  split
  · split
    · rw [Option.getD_some]; omega
    · rw [Option.getD_none]; omega
  · rw [← List.getD_eq_getElem?_getD]; omega
theorem LB.mono {k : Int} {l : List Int} (h : LB k l) : LB (k + 1) l := fun j => by have := h j; lia
theorem lb_glue {x : Nd} {up : Bool} (hx : x.Ok up) {k : Int} {st sh : List Int} (h1 : LB k st) (h2 : LB k sh) : LB (k + 1) (glueAdd x st) ∧ LB (k + 1) (glueSub x sh) := by
  have hs := (small hx).2.2.2.2
  unfold glueAdd glueSub
  cases e : x.rest with
  | none => exact ⟨h1.mono,h2.mono⟩
  | some q => obtain ⟨s,so,l,lo⟩ := q; have := hs _ _ _ _ e; exact ⟨h1.set this.1,h2.set this.2.1⟩
theorem mx_le {i j : Int} (h : 0 ≤ i ∧ i ≤ 16777215) (h2 : j ≤ 16777215) : 0 ≤ mx i j ∧ mx i j ≤ 16777215 := by unfold mx; split <;> omega
structure Ac.B (k : Int) (a : Ac) : Prop where
  n : -(k * 16777216) ≤ a.n ∧ a.n ≤ k * 16777216
  st : LB k a.st
  sh : LB k a.sh
  h : 0 ≤ a.h ∧ a.h ≤ 16777215
  d : 0 ≤ a.d ∧ a.d ≤ 16777215
theorem fold_B {α : Type} {B : Int → α → Prop} {step : α → Nd → α} {up : Bool} (hs : ∀ k a x,x.Ok up → B k a → B (k + 1) (step a x)) : ∀ (xs : List Nd) (a : α) (k : Int),B k a → (∀ x ∈ xs,x.Ok up) → B (k + xs.length) (xs.foldl step a)
  | [],a,k,h,_ => by rw [List.length_nil]; exact (Int.add_zero k).symm ▸ h
  | x :: r,a,k,h,hx => by
    have := fold_B hs r _ _ (hs k a x (hx x (.head _)) h) fun z hz => hx z (.tail _ hz)
    rw [Int.add_assoc,Int.add_comm 1] at this
    exact this
theorem lb0 : LB 0 [0,0,0,0] := fun j => by
  have : [0,0,0,0].getD j (0 : Int) = 0 := by rcases j with _ | _ | _ | _ | j <;> rfl
  rw [this]; decide
theorem Ac.B0 {up : Bool} {xs : List Nd} (hx : ∀ x ∈ xs,x.Ok up) : Ac.B xs.length (xs.foldl Ac.step ac0) := by
  have := fold_B (B := Ac.B) (step := Ac.step) (up := up) (fun k a x hx h => by
    have hs := small hx
    have hg := lb_glue hx h.st h.sh
    refine ⟨?_,hg.1,hg.2,mx_le h.h (hs.2.2.2.1 false).1,mx_le h.d (hs.2.2.2.1 false).2⟩
    have := h.n
    have := hs.1
    unfold Sm at this
    show -((k + 1) * 16777216) ≤ a.n + x.wd ∧ a.n + x.wd ≤ (k + 1) * 16777216
    omega) xs ac0 0 ⟨by decide,lb0,lb0,by decide,by decide⟩ hx
  rw [Int.zero_add] at this
  exact this
structure Cc.B (k : Int) (a : Cc) : Prop where
  n : -(k * 67108864) ≤ a.n ∧ a.n ≤ k * 67108864
  st : LB k a.st
  sh : LB k a.sh
  w : 0 ≤ a.w ∧ a.w ≤ 16777215
  d : -24 ≤ a.d ∧ a.d ≤ 16777215
theorem Cc.B0 {up : Bool} {xs : List Nd} (hx : ∀ x ∈ xs,x.Ok up) : Cc.B xs.length (xs.foldl Cc.step cc0) := by
  have := fold_B (B := Cc.B) (step := Cc.step) (up := up) (fun k a x hx h => by
    have hs := small hx
    have hg := lb_glue hx h.st h.sh
    have add : ∀ z,-24 ≤ z ∧ z ≤ 16777215 → -((k + 1) * 67108864) ≤ a.n + (a.d + z) ∧ a.n + (a.d + z) ≤ (k + 1) * 67108864 := fun z hz => by
      have := h.n
      have := h.d
      omega
    refine ⟨?_,hg.1,hg.2,mx_le h.w (hs.2.2.2.1 true).1,?_⟩
    · show -((k + 1) * 67108864) ≤ (if x.kd = 6 then a.n + a.d + x.wd else if x.kd = 5 then a.n + (a.d + x.wd) else if solid x.kd then a.n + (a.d + x.ht) else a.n) ∧ (if x.kd = 6 then a.n + a.d + x.wd else if x.kd = 5 then a.n + (a.d + x.wd) else if solid x.kd then a.n + (a.d + x.ht) else a.n) ≤ (k + 1) * 67108864
      split
      · rw [Int.add_assoc]; exact add _ hs.1
      split
      · exact add _ hs.1
      split
      · exact add _ hs.2.1
      · have := h.n
        lia
    · show -24 ≤ (if x.kd = 6 then 0 else if x.kd = 5 then 0 else if solid x.kd then x.dp else a.d) ∧ (if x.kd = 6 then 0 else if x.kd = 5 then 0 else if solid x.kd then x.dp else a.d) ≤ 16777215
      split
      · decide
      split
      · decide
      split
      · exact hs.2.2.1
      · exact h.d) xs cc0 0 ⟨by decide,lb0,lb0,by decide,by decide⟩ hx
  rw [Int.zero_add] at this
  exact this
theorem ac_len : ∀ (xs : List Nd) (a : Ac),a.st.length = 4 → a.sh.length = 4 → (xs.foldl Ac.step a).st.length = 4 ∧ (xs.foldl Ac.step a).sh.length = 4
  | [],_,h,h' => ⟨h,h'⟩
  | _ :: r,a,h,h' => ac_len r (a.step _) (glueAdd_len h) (glueSub_len h')
theorem cc_len : ∀ (xs : List Nd) (a : Cc),a.st.length = 4 → a.sh.length = 4 → (xs.foldl Cc.step a).st.length = 4 ∧ (xs.foldl Cc.step a).sh.length = 4
  | [],_,h,h' => ⟨h,h'⟩
  | _ :: r,a,h,h' => cc_len r (a.step _) (glueAdd_len h) (glueSub_len h')
theorem ncL_nd {f : V} (hf : nc f) : ∀ l : List Nd,ncL (l.map (Nd.v f))
  | [] => trivial
  | x :: r => ⟨(nc_out hf x).1,ncL_nd hf r⟩
theorem ncL_outs {f : V} (hf : nc f) : ∀ l : List Nd,ncL (l.flatMap (Nd.out f))
  | [] => trivial
  | x :: r => by rw [List.flatMap_cons]; exact ncL_app (nc_out hf x).2 (ncL_outs hf r)
theorem ifN {f : V} {xs : List Nd} {r : Int} : (if xs.map (Nd.v f) = [] then 0 else r) = if xs = [] then 0 else r := by cases xs <;> rfl
theorem endB {n0 j : Nat} {c0 c' c1 : List Cell} {l : List V} {k w h d sg od a b r0 r1 : Int} (h1 : c'[j]? = some (.inst 405 (boxV k w h d (.lst l) 0 sg od a b))) (h2 : ¬j < n0) (hk : Kept c0 c') (ht : c'.take n0 = c1) (hl : ncL l) (hQ : Q (.tup [boxI k w h d (.lst l) sg od a b,.tup [.int r0,.int r1]]) c1) :
    (nc (fz n0 c' 6 (.tup [.cell j,.tup [.int r0,.int r1]])) ∧ Kept c0 c') ∧ Q (fz n0 c' 6 (.tup [.cell j,.tup [.int r0,.int r1]])) (c'.take n0) := by
  have hn : ncF (boxV k w h d (.lst l) 0 sg od a b) := ⟨trivial,trivial,trivial,trivial,hl,trivial,trivial,trivial,⟨trivial,trivial,trivial⟩,trivial⟩
  have e : fz n0 c' 5 (.cell j) = boxI k w h d (.lst l) sg od a b := by
    rw [fz,if_neg h2,h1]
    exact congrArg (V.inst 405) (fz_ncF 4 hn)
  show (nc (.tup [fz _ _ _ _,.tup [.int r0,.int r1]]) ∧ _) ∧ Q (.tup [fz _ _ _ _,.tup [.int r0,.int r1]]) _
  rw [e,ht]
  exact ⟨⟨⟨hn,⟨trivial,trivial,trivial⟩,trivial⟩,hk⟩,hQ⟩
theorem LB.lt {k : Int} {l : List Int} (h : LB k l) (hk : k ≤ 1000) (j : Nat) : l.getD j 0 < 2 ^ 50 := by have := h j; omega
theorem nd_dim {v : Int} (h : 0 ≤ v ∧ v ≤ 16777215) : Dim v := by unfold Dim; omega
theorem ex_ok {w n k : Int} (hw : Dim w) (hn : -(k * 67108864 + 2000000000) ≤ n ∧ n ≤ k * 67108864 + 2000000000) (hk : k ≤ 1000) : -(2 ^ 50) < w - n ∧ w - n < 2 ^ 50 := by unfold Dim at hw; omega
theorem wide_n {n k : Int} (hk : 0 ≤ k) (h : -(k * 16777216) ≤ n ∧ n ≤ k * 16777216) : -(k * 67108864 + 2000000000) ≤ n ∧ n ≤ k * 67108864 + 2000000000 := by lia
theorem c_hpack0 (hG : G.Ok) (I : IsG G) (hq : G.q = true) {n : Nat} {f : V} (hf : FontOk G f) {up : Bool} {xs : List Nd} (hl : xs.length ≤ 1000) (hx : ∀ x ∈ xs,x.Ok up) {mode amount : Int} (hm : mode = 0 ∨ mode = 1)
    (hQ : let a := xs.foldl Ac.step ac0; let w := goalF mode amount a.n; let g := setG a.st a.sh (w - a.n); Dim amount → Dim w → Q (.tup [boxI 2 w a.h a.d (.lst (xs.map (Nd.v f))) g.sign g.order g.a g.b,.tup [.int (if xs = [] then 0 else g.r0),.int (if xs = [] then 0 else g.r1)]]) cells)
    (hX : ¬(Dim amount ∧ Dim (goalF mode amount (xs.foldl Ac.step ac0).n)) → ∀ l,X (cells ++ l)) : Sem G (n + 7) (.ref 811) [.lst (xs.map (Nd.v f)),.int mode,.int amount,.none] cells Q X := by
  refine sem_drop (go_hpack hG I hq (c_natline hG I hq hf hx ?_))
  have hB := Ac.B0 hx
  have hL := ac_len xs ac0 rfl rfl
  have kl : (xs.length : Int) ≤ 1000 := by omega
  generalize xs.foldl Ac.step ac0 = a at *
  refine c_goal hG I hm (fun hda => c_BoxX hG I (by decide) (nd_dim hB.d) (fun hdw _ => c_setbox hG I hq getApp0 (tot_inst hL.1 hL.2) (ex_ok hdw (wide_n (Int.natCast_nonneg _) hB.n) kl) (hB.st.lt kl) (hB.sh.lt kl) fun g hg => ?_) fun h => hX fun q => h ⟨q.2,nd_dim hB.h⟩) fun h => List.append_nil cells ▸ hX (fun q => h q.1) []
  have hQ := hQ hda hdw
  rw [hg] at hQ
  rw [ifN,ifN,setApp0]
  exact endB getApp0 (Nat.lt_irrefl _) Kept.refl.app kept_take (ncL_nd hf.nc _) hQ
theorem c_hpack1 (hG : G.Ok) (I : IsG G) (hq : G.q = true) {n : Nat} {f : V} (hf : FontOk G f) {up : Bool} {xs : List Nd} (hl : xs.length ≤ 1000) (hx : ∀ x ∈ xs,x.Ok up) {mode amount : Int} (hm : mode = 0 ∨ mode = 1) {o : Nat} {ol : List V} (ho : cells[o]? = some (.lst ol)) (hol : ol.length ≤ 1000) (hon : ncL ol)
    (hQ : let ks := xs.filter keepF; let a := ks.foldl Ac.step ac0; let w := goalF mode amount a.n; let g := setG a.st a.sh (w - a.n); Dim amount → Dim w → Q (.tup [boxI 2 w a.h a.d (.lst (ks.map (Nd.v f))) g.sign g.order g.a g.b,.tup [.int (if ks = [] then 0 else g.r0),.int (if ks = [] then 0 else g.r1)]]) (cells.set o (.lst (ol ++ xs.flatMap (Nd.out f)))))
    (hX : ¬(Dim amount ∧ Dim (goalF mode amount ((xs.filter keepF).foldl Ac.step ac0).n)) → ∀ l,X (cells ++ l)) : Sem G (n + 7) (.ref 811) [.lst (xs.map (Nd.v f)),.int mode,.int amount,.cell o] cells Q X := by
  dsimp only at hQ
  have hoL := hlt ho
  refine sem_drop (go_hpack hG I hq (c_moved hG I hq hf.nc hl hx ?_))
  have hks : ∀ x ∈ xs.filter keepF,x.Ok up := fun x h => hx x (List.mem_filter.mp h).1
  have kl : ((xs.filter keepF).length : Int) ≤ 1000 := by have := List.length_filter_le keepF xs; lia
  generalize xs.filter keepF = ks at *
  refine c_natline hG I hq hf hks ?_
  have hB := Ac.B0 hks
  have hL := ac_len ks ac0 rfl rfl
  generalize ks.foldl Ac.step ac0 = a at *
  refine c_goal hG I hm (fun hda => c_BoxX hG I (by decide) (nd_dim hB.d) (fun hdw _ => ?_) fun h => hX fun q => h ⟨q.2,nd_dim hB.h⟩) fun h => List.append_nil cells ▸ hX (fun q => h q.1) []
  have hQ := hQ hda hdw
  have fl := flat_len (f := f) xs
  have oe : ∀ b : Cell,(cells ++ [b])[o]? = some (.lst ol) := fun b => by rw [List.getElem?_append_left hoL]; exact ho
  have os : ∀ b x : Cell,(cells ++ [b]).set o x = cells.set o x ++ [b] := fun b x => List.set_append_left _ _ hoL
  refine And.intro (lstC (oe _) trivial) ?_
  refine extC (oe _) (by lia) ?_
  rw [os]
  have el : (cells.set o (.lst (ol ++ xs.flatMap (Nd.out f)))).length = cells.length := List.length_set
  have hk : Kept cells (cells.set o (.lst (ol ++ xs.flatMap (Nd.out f)))) := Kept.refl.set (ncL_app hon (ncL_outs hf.nc _))
  generalize cells.set o (.lst (ol ++ xs.flatMap (Nd.out f))) = cs at *
  rw [← el]
  refine c_setbox hG I hq getApp0 (tot_inst hL.1 hL.2) (ex_ok hdw (wide_n (Int.natCast_nonneg _) hB.n) kl) (hB.st.lt kl) (hB.sh.lt kl) fun g hg => ?_
  rw [hg] at hQ
  rw [ifN,ifN,setApp0]
  exact endB getApp0 (Nat.lt_irrefl _) hk.app kept_take (ncL_nd hf.nc _) hQ
theorem tot_at {c0 l : List Cell} {n : Int} {st sh : List Int} : (tot3 c0 n st sh ++ l)[c0.length]? = some (totC c0.length n) := by unfold tot3; rw [List.append_assoc,getApp0]; rfl
noncomputable abbrev vpEnd : GS := bC (sS 7 (wCa (.ref 796) (lC (wA 19 (wL 4)) (lC (wL 1) (lC (wL 2) lN))))) (bC (sS 8 (wCa (.ref 405) (lC (wC (.int 3)) (lC (wL 5) (lC (wL 7) (lC (wL 6) (lC (wL 0) lN))))))) (bC (sR (wTup (lC (wL 8) (lC (wCa (.ref 803) (lC (wL 8) (lC (wL 4) (lC (wOp pSub (wL 7) (wA 19 (wL 4))) lN)))) lN)))) bN))
theorem c_vpEnd (hG : G.Ok) (I : IsG G) (hq : G.q = true) {n : Nat} {f : V} (hfn : nc f) {xs : List Nd} (hl : (xs.length : Int) ≤ 1000) {mode amount most : Int} (hm : mode = 0 ∨ mode = 1) {aw d nt : Int} {st sh : List Int} (l1 : st.length = 4) (l2 : sh.length = 4) (hw : 0 ≤ aw ∧ aw ≤ 16777215) (hd : Dim d)
    (hnt : -(xs.length * 67108864 + 2000000000) ≤ nt ∧ nt ≤ xs.length * 67108864 + 2000000000) (h1 : ∀ j,st.getD j 0 < 2 ^ 50) (h2 : ∀ j,sh.getD j 0 < 2 ^ 50)
    (hQ : let w := goalF mode amount nt; let g := setG st sh (w - nt); Dim amount → Dim w → Q (.tup [boxI 3 aw w d (.lst (xs.map (Nd.v f))) g.sign g.order g.a g.b,.tup [.int (if xs = [] then 0 else g.r0),.int (if xs = [] then 0 else g.r1)]]) cells)
    (hX : ¬(Dim amount ∧ Dim (goalF mode amount nt)) → ∀ l,X (cells ++ l)) :
    vpEnd G (n + 6) [some (.lst (xs.map (Nd.v f))),some (.int mode),some (.int amount),some (.int most),some (.cell cells.length),some (.int aw),some (.int d),none,none] (tot3 cells nt st sh) (back fun v c' => (nc (fz cells.length c' 6 v) ∧ Kept cells c') ∧ Q (fz cells.length c' 6 v) (c'.take cells.length)) X := by
  refine attrC tat0 (c_goal hG I hm (fun hda => c_BoxX hG I (by decide) hd (fun _ hdw => attrC tot_at (c_setbox hG I hq getApp0 (tot_cell l1 l2) (ex_ok hdw hnt hl) h1 h2 fun g hg => ?_)) fun h l => ?_) fun h => hX (fun q => h q.1) _)
  · have hQ := hQ hda hdw
    rw [hg] at hQ
    rw [ifN,ifN,setApp0]
    refine endB getApp0 ?_ ?_ ?_ (ncL_nd hfn _) hQ
    · unfold tot3; rw [List.length_append]; exact Nat.not_lt.mpr (Nat.le_add_right _ _)
    · unfold tot3; rw [List.append_assoc]; exact Kept.refl.app
    · unfold tot3; rw [List.append_assoc,kept_take]
  · have := hX (fun q => h ⟨nd_dim hw,q.2⟩) ([totC cells.length nt,.lst (st.map .int),.lst (sh.map .int)] ++ l)
    rw [← List.append_assoc] at this
    exact this
theorem c_vpack (hG : G.Ok) (I : IsG G) (hq : G.q = true) {n : Nat} {f : V} (hf : FontOk G f) {xs : List Nd} (hl : xs.length ≤ 1000) (hx : ∀ x ∈ xs,x.Ok true) {mode amount most : Int} (hm : mode = 0 ∨ mode = 1) (hmo : 0 ≤ most ∧ most ≤ 1073741823)
    (hQ : let a := xs.foldl Cc.step cc0; let d := if most < a.d then most else a.d; let nt := if most < a.d then a.n + (a.d - most) else a.n; let w := goalF mode amount nt; let g := setG a.st a.sh (w - nt); Dim amount → Dim w → Q (.tup [boxI 3 a.w w d (.lst (xs.map (Nd.v f))) g.sign g.order g.a g.b,.tup [.int (if xs = [] then 0 else g.r0),.int (if xs = [] then 0 else g.r1)]]) cells)
    (hX : let a := xs.foldl Cc.step cc0; let nt := if most < a.d then a.n + (a.d - most) else a.n; ¬(Dim amount ∧ Dim (goalF mode amount nt)) → ∀ l,X (cells ++ l)) : Sem G (n + 7) (.ref 819) [.lst (xs.map (Nd.v f)),.int mode,.int amount,.int most] cells Q X := by
  dsimp only at hQ hX
  refine sem_drop (go_vpack hG I hq (c_dim hG I (by unfold Dim; omega) (c_natcol hG I hq hf hx ?_)))
  have hB := Cc.B0 hx
  have hL := cc_len xs cc0 rfl rfl
  have kl : (xs.length : Int) ≤ 1000 := by omega
  generalize xs.foldl Cc.step cc0 = a at *
  have hn := hB.n
  have hd := hB.d
  refine br (fun h => methC tat0 (c_widen hG I ?_)) fun h => ?_
  · rw [if_pos h,if_pos h] at hQ
    rw [if_pos h] at hX
    exact c_vpEnd hG I hq hf.nc kl hm hL.1 hL.2 hB.w (by unfold Dim; omega) (by omega) (hB.st.lt kl) (hB.sh.lt kl) hQ hX
  · rw [if_neg h,if_neg h] at hQ
    rw [if_neg h] at hX
    exact c_vpEnd hG I hq hf.nc kl hm hL.1 hL.2 hB.w (by unfold Dim; omega) (by lia) (hB.st.lt kl) (hB.sh.lt kl) hQ hX
theorem compG {α : Type} {wt : WT} {we : WE} {rest : Lc} {k : List V → Lc → List Cell → Prop} (v D : α → V) (p : α → Bool) : ∀ (xs : List α) (y : Option V) (acc : List V),(∀ a ∈ xs,∀ kk : KT,kk (p a) cells → wt (some (v a) :: rest) cells kk no_) → (∀ a ∈ xs,p a = true → ∀ kk : KE,kk (D a) cells → we (some (v a) :: rest) cells kk no_) →
    acc.length + xs.length ≤ 16000000 → (∀ y,k (acc ++ (xs.filter p).map D) (y :: rest) cells) → compW wt we 0 (xs.map v) (y :: rest) cells acc k
  | [],y,acc,_,_,_,hk => by have := hk y; rw [List.filter_nil,List.map_nil,List.append_nil] at this; exact this
  | x :: r,y,acc,ht,he,hl,hk => by
    rw [List.length_cons] at hl
    refine ht x (.head _) _ ?_
    have go := fun acc (hl : acc.length + r.length ≤ 16000000) => compG (k := k) v D p r (some (v x)) acc (fun i hi => ht i (.tail _ hi)) (fun i hi => he i (.tail _ hi)) hl
    cases h : p x with
    | true =>
      refine he x (.head _) h _ (okL (by omega) (go _ (by rw [List.length_append,List.length_singleton]; omega) fun y => ?_))
      have := hk y
      rw [List.filter_cons_of_pos h] at this
      rw [List.append_assoc]; exact this
    | false =>
      refine go _ (by omega) fun y => ?_
      have := hk y
      rw [List.filter_cons_of_neg (by rw [h]; decide)] at this
      exact this
theorem compA {α : Type} {n : Nat} {we : WE} {rest : Lc} {k : List V → Lc → List Cell → Prop} (v D : α → V) (xs : List α) (y : Option V) (hw : ∀ a ∈ xs,∀ kk : KE,kk (D a) cells → we (some (v a) :: rest) cells kk no_) (hl : xs.length ≤ 16000000) (h : ∀ y,k (xs.map D) (y :: rest) cells) :
    compW (tT G n) we 0 (xs.map v) (y :: rest) cells [] k :=
  compG v D (fun _ => true) xs y [] (fun _ _ _ x => x) (fun a ha _ => hw a ha) (by rw [List.length_nil,Nat.zero_add]; exact hl) fun y => by
    rw [List.filter_eq_self.mpr fun _ _ => rfl]; exact h y
theorem c_dlist1 (hG : G.Ok) (I : IsG G) {n : Nat} {α : Type} {v D : α → V} {xs : List α} (hl : xs.length ≤ 1000) (h : ∀ a ∈ xs,∀ kk : KE,kk (D a) cells → Sem G n (.ref 662) [v a,.int 0] cells kk no_)
    (hQ : Q (.tup (xs.map D)) cells) : Sem G (n + 1) (.ref 668) [.lst (xs.map v)] cells Q X :=
  go_described_list1 hG I (compA v D xs none (fun a ha kk hk => h a ha kk hk) (by omega) fun _ => okL (by rw [List.length_map]; omega) hQ)
theorem c_depth (hG : G.Ok) (I : IsG G) {n : Nat} {d : Int} (hd : d ≤ 60) (hQ : Q .none cells) : Sem G (n + 1) (.ref 649) [.int d] cells Q X :=
  go_check_depth hG I (brF (Int.not_lt.mpr hd) hQ)
theorem c_parts (hG : G.Ok) (I : IsG G) {n : Nat} {w s so l lo : Int} (hQ : Q (.tup [.int w,.int s,.int so,.int l,.int lo]) cells) : Sem G (n + 1) (.ref 200) [glueV w s so l lo] cells Q X := go_Glue_parts hG I hQ
theorem c_dpen (hG : G.Ok) (I : IsG G) {n : Nat} {d v : Int} (hd : d ≤ 60) (hQ : Q (.tup [.int 7,.int v]) cells) : Sem G (n + 2) (.ref 662) [penV v,.int d] cells Q X := go_described hG I (c_depth hG I hd hQ)
theorem c_dker (hG : G.Ok) (I : IsG G) {n : Nat} {d w s : Int} (hd : d ≤ 60) (hQ : Q (.tup [.int 5,.int w,.int s]) cells) : Sem G (n + 2) (.ref 662) [kernV w s,.int d] cells Q X := go_described hG I (c_depth hG I hd hQ)
theorem c_dchr (hG : G.Ok) (I : IsG G) {n : Nat} {f : V} {d c : Int} (hf : FontOk G f) (hd : d ≤ 60) (hQ : Q (.tup [.int 0,.int 1,.int c]) cells) : Sem G (n + 2) (.ref 662) [charV f c,.int d] cells Q X := by
  obtain ⟨fs,rfl,f0,f7,f8,f9⟩ := hf.form
  refine go_described hG I (c_depth hG I hd ?_)
  conv => whnf
  rw [f0]
  exact hQ
theorem c_dlist0 (hG : G.Ok) (I : IsG G) {n : Nat} {d : Int} (hQ : Q (.tup []) cells) : Sem G (n + 1) (.ref 668) [.lst [],.int d] cells Q X := go_described_list hG I hQ
theorem c_dbox (hG : G.Ok) (I : IsG G) {n : Nat} {d k w h dp sh : Int} (hk : 2 ≤ k ∧ k ≤ 3) (hd : d ≤ 60) (hQ : Q (.tup [.int k,.int w,.int h,.int dp,.int sh,.int 0,.int 0,.tup [.int 0,.int 1],.tup []]) cells) : Sem G (n + 2) (.ref 662) [shutV k w h dp sh,.int d] cells Q X := by
  rcases two3 hk with rfl | rfl <;> exact go_described hG I (c_depth hG I hd (c_dlist0 hG I hQ))
noncomputable def dGlue (w s so l lo : Int) : V := .tup [.int w,.int s,.int so,.int l,.int lo]
noncomputable def dBox (k w h d sh : Int) : V := .tup [.int k,.int w,.int h,.int d,.int sh,.int 0,.int 0,.tup [.int 0,.int 1],.tup []]
noncomputable def dOpt : Option Int → V
  | none => .tup []
  | some i => .tup [.int i]
noncomputable def Nd.desc : Nd → V
  | chr c _ _ _ => .tup [.int 0,.int 1,.int c] | lig c _ _ _ => .tup [.int 1,.int 1,.int c,.tup [.int 97,.int 98],.int 0,.int 0] | box k w h d sh => dBox k w h d sh | rul w h d => .tup [.int 4,dOpt w,dOpt h,dOpt d] | ker w s => .tup [.int 5,.int w,.int s]
  | glu w s so l lo => .tup [.int 6,dGlue w s so l lo,.int 0,.tup []] | lea w s so l lo sort k bw bh bd bs => .tup [.int 6,dGlue w s so l lo,.int sort,dBox k bw bh bd bs] | pen v => .tup [.int 7,.int v]
  | dis c _ _ _ s => .tup [.int 8,.tup [.tup [.int 0,.int 1,.int 98]],.tup [],.tup [.tup [.int 0,.int 1,.int c],.tup [.int 5,.int s,.int 0]]]
  | mar t => .tup [.int 9,.tup [.tup [.int 11,.int t]]] | ins n c => .tup [.int 10,.int n,.int 7,.int 0,dGlue 0 0 0 0 0,.int c,.tup [.tup [.int 5,.int 5,.int 1]]] | adj p => .tup [.int 11,.tup [.tup [.int 7,.int p],.tup [.int 5,.int 9,.int 1]]]
  | mat w => .tup [.int 12,.int 1,.int w] | spe => .tup [.int 13,.tup [.int 103,.int 108]] | uns w h d => .tup [.int 14,.int w,.int h,.int d,.int 1,.int 0,.int 0,.tup [.int 0,.int 0,.int 0,.int 0],.tup [.int 0,.int 0,.int 0,.int 0],.tup []]
theorem c_desc (hG : G.Ok) (I : IsG G) (hq : G.q = true) {n : Nat} {f : V} (hf : FontOk G f) {up : Bool} {x : Nd} (hx : x.Ok up) {d : Int} (hd : d ≤ 57) (hQ : Q x.desc cells) : Sem G (n + 5) (.ref 662) [x.v f,.int d] cells Q X := by
  have d60 : d ≤ 60 := by omega
  have d61 : d + 1 ≤ 60 := by omega
  obtain ⟨fs,hfs,f0,f7,f8,f9⟩ := hf.form
  cases x
  case chr c w h dp => exact c_dchr hG I hf d60 hQ
  case pen v => exact c_dpen hG I d60 hQ
  case ker w s => exact c_dker hG I d60 hQ
  case box k w h dp sh => exact c_dbox hG I hx.1 d60 hQ
  case lig c w h dp =>
    subst hfs
    refine go_described hG I (c_depth hG I d60 ?_)
    conv => whnf
    rw [f0]
    exact hQ
  case rul w h dp => cases w <;> cases h <;> cases dp <;> exact go_described hG I (c_depth hG I d60 hQ)
  case glu w s so l lo => exact go_described hG I (c_depth hG I d60 (c_parts hG I hQ))
  case lea w s so l lo sort k bw bh bd bs => exact go_described hG I (c_depth hG I d60 (c_parts hG I (c_dbox hG I hx.2.2.1 d61 hQ)))
  case mar t => exact go_described hG I (c_depth hG I d60 hQ)
  case mat w => exact go_described hG I (c_depth hG I d60 hQ)
  case spe => exact go_described hG I (c_depth hG I d60 (go_described_rest hG I hq (And.intro (by decide) hQ)))
  case uns w h dp => exact go_described hG I (c_depth hG I d60 (go_described_rest hG I hq (c_dlist0 hG I hQ)))
  case dis c w h dp sz => exact go_described hG I (c_depth hG I d60 (go_described_rest hG I hq (go_described_list hG I (c_dchr hG I hf d61 (c_dlist0 hG I (go_described_list hG I (c_dchr hG I hf d61 (c_dker hG I d61 hQ))))))))
  case ins num c => exact go_described hG I (c_depth hG I d60 (go_described_rest hG I hq (c_parts hG I (go_described_list hG I (c_dker hG I d61 hQ)))))
  case adj p => exact go_described hG I (c_depth hG I d60 (go_described_rest hG I hq (go_described_list hG I (c_dpen hG I d61 (c_dker hG I d61 hQ)))))
theorem topF_ub {l : List Int} {i : Int} (hi : i = 0 ∨ i = 1 ∨ i = 2 ∨ i = 3) (h : l.getD i.toNat 0 ≠ 0) : i ≤ topF l := by
  unfold topF
  rcases hi with rfl | rfl | rfl | rfl
  · exact (topF_lt l).1
  · rw [if_pos (show l.getD 1 0 ≠ 0 from h)]
    split
    · decide
    split <;> decide
  · rw [if_pos (show l.getD 2 0 ≠ 0 from h)]
    split <;> decide
  · rw [if_pos (show l.getD 3 0 ≠ 0 from h)]; decide
theorem topF_mem (l : List Int) : topF l ∈ 0 :: ([0,1,2,3] : List Int).filter fun i => !decide (l.getD i.toNat 0 = 0) := by
  have m : ∀ i : Int,i ∈ ([0,1,2,3] : List Int) → l.getD i.toNat 0 ≠ 0 → i ∈ 0 :: ([0,1,2,3] : List Int).filter fun i => !decide (l.getD i.toNat 0 = 0) := fun i hi h =>
    .tail _ (List.mem_filter.mpr ⟨hi,by rw [decide_eq_false h]; rfl⟩)
  unfold topF
  split
  · exact m 3 (by decide) ‹_›
  split
  · exact m 2 (by decide) ‹_›
  split
  · exact m 1 (by decide) ‹_›
  · exact .head _
theorem c_ltop (hG : G.Ok) (I : IsG G) (hq : G.q = true) {n : Nat} {l : List Int} (hl : l.length = 4) (hQ : Q (.int (topF l)) cells) : Sem G (n + 1) (.ref 1066) [.lst (l.map .int)] cells Q X := by
  have four : ∀ {i : Int},i ∈ ([0,1,2,3] : List Int) → i = 0 ∨ i = 1 ∨ i = 2 ∨ i = 3 := fun h => by
    rw [List.mem_cons,List.mem_cons,List.mem_cons,List.mem_singleton] at h; exact h
  refine go_law_top hG I hq (And.intro (by decide) (And.intro ⟨hq,by decide⟩ ?_))
  refine compG V.int V.int (fun i => !decide (l.getD i.toNat 0 = 0)) [0,1,2,3] none [] (fun i hi kk hk => ?_) (fun i _ _ kk hk => hk) (by decide) fun _ => ?_
  · have h := four hi
    exact seq_ints hl (by lia) (by omega) hk
  · have hlen := List.length_filter_le (fun i : Int => !decide (l.getD i.toNat 0 = 0)) [0,1,2,3]
    rw [show ([0,1,2,3] : List Int).length = 4 from rfl] at hlen
    refine okL (by rw [List.nil_append,List.length_map,List.length_singleton]; lia) ⟨0 :: (([0,1,2,3] : List Int).filter fun i => !decide (l.getD i.toNat 0 = 0)),rfl,Nat.succ_pos _,fun M hM hub => ?_⟩
    have : M = topF l := Int.le_antisymm (by
      cases hM with
      | head => exact (topF_lt l).1
      | tail _ hM =>
        have := List.mem_filter.mp hM
        exact topF_ub (four this.1) (by have h := this.2; rw [Bool.not_eq_true',decide_eq_false_iff_not] at h; exact h)) (hub _ (topF_mem l))
    rw [this]; exact hQ
noncomputable abbrev lbEnd : GS := bC (sR (wIfE (tOp pGt (wL 2) (wC (.int 1290))) (wC (.int 10000)) (wOp pDiv (wOp pAddU (wOp pMul (wC (.int 2)) (wOp pPow (wL 2) (wC (.int 3)))) (wOp pPow (wC (.int 2)) (wC (.int 18)))) (wOp pPow (wC (.int 2)) (wC (.int 19)))))) bN
theorem c_lbad (hG : G.Ok) (I : IsG G) {n : Nat} {e t : Int} (he : 0 < e ∧ e < 2 ^ 60) (ht : t < 2 ^ 60) (hQ : Q (.int (badF e t)) cells) : Sem G (n + 1) (.ref 1073) [.int e,.int t] cells Q X := by
  have n0 : ¬e = 0 := by omega
  have e0 : 0 ≤ e := by omega
  refine go_law_bad hG I (br (fun h => ?_) fun h1 => ?_)
  · unfold badF at hQ; rw [if_neg n0,if_pos h] at hQ; exact hQ
  have fin : ∀ {lc : Lc} r,0 ≤ r → badR e t = r → lbEnd G n (some (.int e) :: some (.int t) :: some (.int r) :: lc) cells (back Q) X := by
    rintro _ r h0 rfl
    unfold badF at hQ
    rw [if_neg n0,if_neg h1] at hQ
    refine br (fun h => ?_) fun h => And.intro ⟨by decide,by decide,by omega⟩ (And.intro mul2 (And.intro (by decide) (And.intro (by decide) (And.intro ⟨by decide,divS (by decide) (by decide)⟩ ?_))))
    · rw [if_pos h] at hQ; exact hQ
    · rw [if_neg h] at hQ
      have e3 : ∀ x : Int,x ^ 3 = x * x * x := fun x => by
        rw [show (3 : Nat) = 2 + 1 from rfl,Int.pow_succ,show (2 : Nat) = 1 + 1 from rfl,Int.pow_succ,show (1 : Nat) = 0 + 1 from rfl,Int.pow_succ,Int.pow_zero,Int.one_mul]
      have e4 : ∀ x : Int,(2 * x + 262144).fdiv 524288 = (x + 131072).fdiv 262144 := fun x => by
        rw [Int.fdiv_eq_ediv_of_nonneg _ (by decide),Int.fdiv_eq_ediv_of_nonneg _ (by decide)]; lia
      rw [← e3,← e4] at hQ
      exact hQ
  have t0 : t ≠ 0 := by omega
  refine And.intro (mulS (by decide) (by decide)) (And.intro ⟨t0,divS (by omega) (by omega)⟩ (br (fun h3 => br (fun h4 => ?_) fun h4 => ?_) fun h3 => ?_))
  · have e1 : t.fdiv 297 = t / 297 := Int.fdiv_eq_ediv_of_nonneg _ (by decide)
    have b : t / 297 ≠ 0 ∧ -(2 ^ 64) < t / 297 ∧ t / 297 < 2 ^ 64 := by omega
    rw [← e1] at b
    exact And.intro ⟨by decide,divS (by decide) (by decide)⟩ (And.intro ⟨b.1,divS b.2.1 b.2.2⟩ (fin (lc := []) _ (fdn e0 (by rw [e1]; lia)) ((if_neg (Int.not_le.mpr h3)).trans (if_pos h4))))
  · exact fin (lc := []) _ e0 ((if_neg (Int.not_le.mpr h3)).trans (if_neg h4))
  · exact fin (lc := []) _ (fdn (by lia) (by omega)) ((if_pos (Int.not_lt.mp h3)).trans (by rw [Int.mul_comm]))
noncomputable def absI (i : Int) : Int := if i < 0 then -i else i
noncomputable def nearF (p u d : Int) : Bool := decide (2 * absI (p * d - u) < absI d) || (decide (2 * absI (p * d - u) = absI d) && decide (absI u < absI (p * d)))
theorem c_lnear (hG : G.Ok) (I : IsG G) {n : Nat} {p u d : Int} (hd : -(2 ^ 64) < d ∧ d < 2 ^ 64) (hQ : Q (.bool (nearF p u d)) cells) : Sem G (n + 1) (.ref 1094) [.int p,.int u,.int d] cells Q X := by
  have m1 : IntMulOk p d := mulS' hd.1 hd.2
  unfold nearF at hQ
  refine go_law_near hG I (And.intro m1 (And.intro mul2 (br (fun h => ?_) fun h => br (fun h2 => And.intro m1 ?_) fun h2 => ?_)))
  · rw [decide_eq_true (show 2 * absI (p * d - u) < absI d from h)] at hQ; exact hQ
  · rw [decide_eq_false (show ¬2 * absI (p * d - u) < absI d from h),decide_eq_true (show 2 * absI (p * d - u) = absI d from h2)] at hQ; exact hQ
  · rw [decide_eq_false (show ¬2 * absI (p * d - u) < absI d from h),decide_eq_false (show ¬2 * absI (p * d - u) = absI d from h2)] at hQ; exact hQ
noncomputable def toldG (st sh : List Int) (e : Int) : SG :=
  let l := if 0 < e then st else sh
  let o := topF l
  let t := l.getD o.toNat 0
  let rep := if o = 0 then (if 0 < e then (1,badF e t) else if e < 0 then (if t < -e then (3,-e - t) else (2,badF (-e) t)) else (0,0)) else (0,0)
  if e = 0 then ⟨0,0,0,1,rep.1,rep.2⟩ else if t = 0 then ⟨0,0,0,1,rep.1,rep.2⟩ else if rep.1 = 3 then ⟨2,0,1,1,rep.1,rep.2⟩
  else ⟨if 0 < e then 1 else 2,o,if e < 0 then -e else e,t,rep.1,rep.2⟩
noncomputable def SG.told (g : SG) : V := .tup [.int g.sign,.int g.order,.int g.a,.int g.b,.tup [.int g.r0,.int g.r1]]
noncomputable def tdF (e o t : Int) (r : Int × Int) : SG := if e = 0 then ⟨0,0,0,1,r.1,r.2⟩ else if t = 0 then ⟨0,0,0,1,r.1,r.2⟩ else if r.1 = 3 then ⟨2,0,1,1,r.1,r.2⟩
  else ⟨if 0 < e then 1 else 2,o,if e < 0 then -e else e,t,r.1,r.2⟩
noncomputable abbrev tdEnd : GS := bC (sI (tO (tOp pEqU (wL 0) (wC (.int 0))) (tO (tOp pEqU (wL 5) (wC (.int 0))) tF)) (bC (sR (wTup (lC (wC (.int 0)) (lC (wC (.int 0)) (lC (wC (.int 0)) (lC (wC (.int 1)) (lC (wL 6) lN))))))) bN) bN) (bC (sI (tOp pEqU (wIdx (wL 6) (wC (.int 0))) (wC (.int 3))) (bC (sR (wTup (lC (wC (.int 2)) (lC (wC (.int 0)) (lC (wC (.int 1)) (lC (wC (.int 1)) (lC (wL 6) lN))))))) bN) bN) (bC (sR (wTup (lC (wIfE (tOp pGt (wL 0) (wC (.int 0))) (wC (.int 1)) (wC (.int 2))) (lC (wL 4) (lC (wB qAbs (lC (wL 0) lN)) (lC (wL 5) (lC (wL 6) lN))))))) bN))
theorem c_tdEnd {n : Nat} {v1 v2 v3 : V} {e o t r0 r1 : Int} (hQ : Q (tdF e o t (r0,r1)).told cells) : tdEnd G n [some (.int e),some v1,some v2,some v3,some (.int o),some (.int t),some (.tup [.int r0,.int r1])] cells (back Q) X := by
  unfold tdF at hQ
  refine brOr (fun h => ?_) fun h h' => br (fun h3 => ?_) fun h3 => ifI ?_
  · by_cases h0 : e = 0
    · rw [if_pos h0] at hQ; exact hQ
    · rw [if_neg h0,if_pos (h.resolve_left h0)] at hQ; exact hQ
  · rw [if_neg h,if_neg h',if_pos h3] at hQ; exact hQ
  · rw [if_neg h,if_neg h',if_neg h3] at hQ; exact hQ
theorem c_ltold (hG : G.Ok) (I : IsG G) (hq : G.q = true) {n : Nat} {more less : List Int} {e : Int} (l1 : more.length = 4) (l2 : less.length = 4) (he : -(2 ^ 50) < e ∧ e < 2 ^ 50) (h1 : ∀ j,more.getD j 0 < 2 ^ 50) (h2 : ∀ j,less.getD j 0 < 2 ^ 50) (hQ : Q (toldG more less e).told cells) : Sem G (n + 2) (.ref 1087) [.int e,.lst (more.map .int),.lst (less.map .int)] cells Q X := by
  have td : toldG more less e = tdF e (topF (if 0 < e then more else less)) ((if 0 < e then more else less).getD (topF (if 0 < e then more else less)).toNat 0)
    (if topF (if 0 < e then more else less) = 0 then (if 0 < e then (1,badF e ((if 0 < e then more else less).getD (topF (if 0 < e then more else less)).toNat 0)) else if e < 0 then (if (if 0 < e then more else less).getD (topF (if 0 < e then more else less)).toNat 0 < -e then (3,-e - (if 0 < e then more else less).getD (topF (if 0 < e then more else less)).toNat 0) else (2,badF (-e) ((if 0 < e then more else less).getD (topF (if 0 < e then more else less)).toNat 0))) else (0,0)) else (0,0)) := rfl
  rw [td] at hQ
  have pick : ∀ {lc : Lc} {k : KE},k (.lst ((if 0 < e then more else less).map .int)) cells → brW (decide (0 < e)) (wL 1 G (n + 1) (some (.int e) :: some (.lst (more.map .int)) :: some (.lst (less.map .int)) :: lc) cells k X) (wL 2 G (n + 1) (some (.int e) :: some (.lst (more.map .int)) :: some (.lst (less.map .int)) :: lc) cells k X) := fun h =>
    br (fun p => by rw [if_pos p] at h; exact h) fun p => by rw [if_neg p] at h; exact h
  refine go_law_told hG I (pick ?_)
  have hl : (if 0 < e then more else less).length = 4 := by split <;> assumption
  have bt : ∀ j,(if 0 < e then more else less).getD j 0 < 2 ^ 50 := by split <;> assumption
  generalize (if 0 < e then more else less) = l at *
  have to := topF_lt l
  refine c_ltop hG I hq hl ?_
  generalize topF l = o at *
  refine seq_ints hl to.1 to.2 ?_
  have bt := bt o.toNat
  generalize l.getD o.toNat 0 = t at *
  refine brAnd (fun ho hp => ?_) fun n1 => brAnd (fun ho hp => br (fun ht => ?_) fun ht => ?_) fun n2 => ?_
  · refine c_lbad hG I ⟨hp,by omega⟩ (by omega) ?_
    rw [if_pos ho,if_pos hp] at hQ
    exact c_tdEnd hQ
  · rw [if_pos ho,if_neg (fun x => n1 ⟨ho,x⟩),if_pos hp,if_pos ht] at hQ
    exact c_tdEnd hQ
  · refine c_lbad hG I ⟨by omega,by omega⟩ (by omega) ?_
    rw [if_pos ho,if_neg (fun x => n1 ⟨ho,x⟩),if_pos hp,if_neg ht] at hQ
    exact c_tdEnd hQ
  · refine c_tdEnd (r0 := 0) (r1 := 0) ?_
    by_cases ho : o = 0
    · rw [if_pos ho,if_neg (fun x => n1 ⟨ho,x⟩),if_neg (fun x => n2 ⟨ho,x⟩)] at hQ; exact hQ
    · rw [if_neg ho] at hQ; exact hQ
theorem c_lamount (hG : G.Ok) (I : IsG G) {n : Nat} {h : Nat} {a b mode own m0 m1 m2 m3 k0 k1 k2 k3 : Int} (hh : cells[h]? = some (HPc a b)) (hb : Bud b 20) (ho : -(2 ^ 40) < own ∧ own < 2 ^ 40) (hm0 : -(2 ^ 40) < m0 ∧ m0 < 2 ^ 40) (hk0 : -(2 ^ 40) < k0 ∧ k0 < 2 ^ 40)
    (hQ : ∀ v a' b',-(2 ^ 45) < v ∧ v < 2 ^ 45 → Q (.int v) (cells.set h (HPc a' b'))) : Sem G (n + 3) (.ref 1080) [.cell h,.int mode,.int own,.lst ([m0,m1,m2,m3].map .int),.lst ([k0,k1,k2,k3].map .int)] cells Q X := by
  have hl := hlt hh
  refine go_law_amount hG I (c_take hG I hh (hb.le (by decide)) (by decide) fun way a1 b1 w1 w2 u1 => ?_)
  have hb1 : Bud b1 19 := hb.st u1
  refine br (fun e9 => ?_) fun n9 => ?_
  · refine c_takeS hG I hl (hb1.le (by decide)) (by decide) fun t2 a2 b2 p2 q2 u2 => And.intro mul2 (And.intro (by decide) (c_takeS hG I hl ((hb1.st u2).le (by decide)) (by decide) fun t3 a3 b3 p3 q3 _ => ?_))
    have : t2 = 0 ∨ t2 = 1 := by lia
    rcases this with rfl | rfl
    · exact And.intro (mulS (by decide) (by decide)) (hQ _ _ _ (by rw [show (1 - 2 * (0 : Int)) = 1 by decide,Int.one_mul,show (2 : Int) ^ Int.toNat 30 = 1073741824 from rfl]; omega))
    · exact And.intro (mulS (by decide) (by decide)) (hQ _ _ _ (by rw [show (1 - 2 * (1 : Int)) = -1 by decide,Int.neg_mul,Int.one_mul,show (2 : Int) ^ Int.toNat 30 = 1073741824 from rfl]; omega))
  · refine c_takeS hG I hl (hb1.le (by decide)) (by decide) fun t2 a2 b2 p2 q2 u2 => c_takeS hG I hl ((hb1.st u2).le (by decide)) (by decide) fun t3 a3 b3 p3 q3 u3 => c_takeS hG I hl (((hb1.st u2).st u3).le (by decide)) (by decide) fun t4 a4 b4 p4 q4 u4 => c_sizeS hG I hl ((((hb1.st u2).st u3).st u4).le (by decide)) fun d a5 b5 hd u5 => ?_
    have hb5 : Bud b5 1 := ((((hb1.st u2).st u3).st u4).st u5).le (by decide)
    have key : ∃ v,ixOf [V.int 0,.int (1 + t2),.int (-1 - t3),.int (-k0),.int (-k0 - 1 - t4),.int m0,.int d,.int 0,.int 0] way = some (.int v) ∧ (-(2 ^ 42) < v ∧ v < 2 ^ 42) ∧ (way ≤ 6 ∨ way = 7 ∨ way = 8) := by
      unfold Sz at hd
      obtain ⟨w,rfl⟩ := Int.eq_ofNat_of_zero_le w1
      have h9 : w < 10 := by omega
      rcases w with _ | _ | _ | _ | _ | _ | _ | _ | _ | _ | w
      · exact ⟨0,rfl,by decide,.inl (by decide)⟩
      · exact ⟨_,rfl,by omega,.inl (by decide)⟩
      · exact ⟨_,rfl,by omega,.inl (by decide)⟩
      · exact ⟨_,rfl,by omega,.inl (by decide)⟩
      · exact ⟨_,rfl,by omega,.inl (by decide)⟩
      · exact ⟨_,rfl,by omega,.inl (by decide)⟩
      · exact ⟨_,rfl,by omega,.inl (by decide)⟩
      · exact ⟨0,rfl,by decide,.inr (.inl rfl)⟩
      · exact ⟨0,rfl,by decide,.inr (.inr rfl)⟩
      · exact absurd rfl n9
      · exact absurd h9 (Nat.not_lt.mpr (Nat.le_add_left 10 w))
    obtain ⟨v,key,hv,h78⟩ := key
    refine seqI (by omega) key (br (fun h6 => ?_) fun h6 => br (fun _ => hQ _ _ _ (by omega)) fun _ => hQ _ _ _ (by omega))
    refine And.intro mul2 (And.intro (mulS' (by decide) (by decide)) (c_takeS hG I hl hb5 (by decide) fun t6 a6 b6 p6 q6 _ => ?_))
    rcases h78.resolve_left (Int.not_le.mpr h6) with rfl | rfl
    · exact And.intro (mulS (by decide) (by decide)) (br (fun _ => hQ _ _ _ (by omega)) fun _ => hQ _ _ _ (by omega))
    · exact And.intro (mulS (by decide) (by decide)) (br (fun _ => hQ _ _ _ (by omega)) fun _ => hQ _ _ _ (by omega))
theorem seqN {l : List V} {i : Nat} {v : V} {kk : V → Prop} (hi : i < 2 ^ 60) (h : l[i]? = some v) (hk : kk v) : seqIx l i kk := by
  refine seqI (by omega) ?_ hk
  unfold ixOf
  rw [if_neg (Int.not_lt.mpr (Int.natCast_nonneg i))]
  exact h
theorem dOk0 : datOk (.tup []) ∧ datOk (.tup []) := ⟨⟨rfl,by decide⟩,⟨rfl,by decide⟩⟩
theorem dOkR {s so l lo : Int} : datOk (restV s so l lo) ∧ datOk (.tup []) := ⟨⟨rfl,by show (dat (restV s so l lo)).depth ≤ 64; simp [restV,dat,datL,PyData.depth,PyData.depthAll]⟩,⟨rfl,by decide⟩⟩
theorem size_pz {x : Nd} {up : Bool} (hx : x.Ok up) : x.size up = pz up x := by
  cases x
  case box k w h d sh => rcases two3 hx.1 with rfl | rfl <;> cases up <;> rfl
  case mat w => obtain rfl := hx.1; rfl
  case chr => obtain rfl := hx.1; rfl
  case lig => obtain rfl := hx.1; rfl
  case dis => obtain rfl := hx.1; rfl
  all_goals cases up <;> rfl
theorem kd6 {x : Nd} {q : Int × Int × Int × Int} (h : x.rest = some q) : x.kd = 6 := by
  cases x <;> first | rfl | cases h
noncomputable abbrev plEnd : GS := bC (sI (tN (tV (wCa (.ref 1094) (lC (wOp pSub (wIdx (wL 5) (wOp pAddU (wL 9) (wC (.int 1)))) (wL 6)) (lC (wOp pMul (wIdx (wL 2) (wC (.int 2))) (wL 7)) (lC (wIdx (wL 2) (wC (.int 3))) lN)))))) (bC (sR (wC (.bool false))) bN) bN) (bC (sI (tOp pNeU (wL 13) (wTup lN)) (bC (sTS 2 (wCa (.ref 768) (lC (wL 0) (lC (wL 8) (lC (wA 21 (wIdx (wA 10 (wL 0)) (wL 9))) lN)))) (gsC (gN 16) (gsC (gN 8) gs0))) (bC (sI (tO (tOp pNeU (wL 16) (wOp pSub (wIdx (wL 5) (wOp pAddU (wL 9) (wC (.int 1)))) (wIdx (wL 5) (wL 9)))) (tO (tOp pNeU (wL 8) (wL 7)) tF)) (bC (sR (wC (.bool false))) bN) bN) bN)) bN) bN)
structure Pd where
  i : Nat
  fx : Int
  fl : Int
structure PdI (xs : List Nd) (P : List Int) (up : Bool) (a b sg od zx zl : Int) (rs : List Nd) (s : Pd) : Prop where
  xs : xs.drop s.i = rs
  ps : P.drop s.i = (s.fx + rnd (a * s.fl) b) :: placesL a b sg od up s.fx s.fl rs
  ok : ∀ x ∈ rs,x.Ok up
  s1 : rs.foldl (fun s x => s + pz up x) s.fx = zx
  s2 : rs.foldl (fun s x => s + flexOf sg od x) s.fl = zl
theorem drop_get {α : Type} {l r : List α} {i : Nat} {x : α} (h : l.drop i = x :: r) : l[i]? = some x := by
  have := List.getElem?_drop (xs := l) (i := i) (j := 0)
  rw [h] at this
  exact this.symm
theorem drop_suc {α : Type} {l r : List α} {i : Nat} {x : α} (h : l.drop i = x :: r) : l.drop (i + 1) = r := by rw [← List.drop_drop,h]; rfl
theorem flex_eq {sg od s so l lo fl z : Int} (h : (sg = 1 ∧ so = od ∧ z = fl + s) ∨ (¬(sg = 1 ∧ so = od) ∧ (sg = 2 ∧ lo = od) ∧ z = fl - l) ∨ (¬(sg = 1 ∧ so = od) ∧ ¬(sg = 2 ∧ lo = od) ∧ z = fl)) : z = fl + flexG sg od s so l lo := by
  unfold flexG
  rcases h with ⟨h1,h2,rfl⟩ | ⟨h1,h2,rfl⟩ | ⟨h1,h2,rfl⟩
  · rw [if_pos ⟨h1,h2⟩]
  · rw [if_neg h1,if_pos h2]; rfl
  · rw [if_neg h1,if_neg h2,Int.add_zero]
theorem c_placed (hG : G.Ok) (I : IsG G) (hq : G.q = true) {n : Nat} {f : V} (hf : FontOk G f) {up : Bool} {xs : List Nd} (hl : xs.length ≤ 1000) (hx : ∀ x ∈ xs,x.Ok up) {k w h d sg od a b : Int} {g : SG} {len e : Int} (hk : k = if up then 3 else 2) (ha : -(2 ^ 60) < a ∧ a < 2 ^ 60) (hb : 0 < b ∧ b < 2 ^ 60)
    (hsg : g.sign = sg) (hod : g.order = od) (hga : -(2 ^ 64) < g.a ∧ g.a < 2 ^ 64) (hgb : -(2 ^ 64) < g.b ∧ g.b < 2 ^ 64) (hnear : ∀ z,nearF (rnd (a * z) b) (g.a * z) g.b = true)
    (hlast : xs.foldl (fun s x => s + pz up x) 0 + rnd (a * xs.foldl (fun s x => s + flexOf sg od x) 0) b = len + (if g.sign = 0 then 0 else if g.r0 = 3 then e + g.r1 else e))
    (hQ : Q (.bool true) cells) : Sem G (n + 7) (.ref 1101) [boxI k w h d (.lst (xs.map (Nd.v f))) sg od a b,.lst (xs.map (Nd.row f up)),g.told,.int len,.int e] cells Q X := by
  refine go_law_placed hG I hq (c_places hG I hq hf hl hx hk ha hb ?_)
  have hP : (0 :: placesL a b sg od up 0 0 xs).length = xs.length + 1 := by rw [List.length_cons,placesL_len]
  have near : ∀ z fx,nearF (fx + rnd (a * z) b - fx) (g.a * z) g.b = true := fun z fx => by rw [Int.add_comm,Int.add_sub_cancel]; exact hnear z
  refine And.intro (by rw [List.length_map,hP]; omega) (And.intro (by rw [List.length_map]; omega) (brnF (by rw [List.length_map,List.length_map,hP]; rfl) (And.intro (by rw [List.length_map]; omega) (And.intro (Int.natCast_nonneg _) (And.intro ⟨hq,by rw [List.length_map]; lia⟩ ?_)))))
  have r0 : rnd (a * 0) b = 0 := by
    unfold rnd
    rw [Int.mul_zero,if_neg (by decide),Int.fdiv_eq_ediv_of_nonneg _ (by omega)]
    exact Int.ediv_eq_zero_of_lt (by omega) (by omega)
  have ini : PdI xs (0 :: placesL a b sg od up 0 0 xs) up a b sg od (xs.foldl (fun s x => s + pz up x) 0) (xs.foldl (fun s x => s + flexOf sg od x) 0) xs ⟨0,0,0⟩ := ⟨rfl,by show 0 :: _ = (0 + rnd (a * 0) b) :: _; rw [r0]; rfl,hx,rfl,rfl⟩
  generalize (0 :: placesL a b sg od up 0 0 xs) = P at *
  generalize xs.foldl (fun s x => s + pz up x) 0 = zx at *
  generalize xs.foldl (fun s x => s + flexOf sg od x) 0 = zl at *
  have hr : rngL ((xs.map (Nd.row f up)).length : Int).toNat = (List.range' 0 xs.length).map (fun j : Nat => V.int j) := by rw [List.length_map]; unfold rngL; rw [List.range_eq_range']; rfl
  rw [hr]
  refine forI_st3 (fun s rs => (List.range' s.i rs.length).map (fun j : Nat => V.int j)) (fun s _ => .int s.i)
    (fun s (y : Option V × Option V × Option V × Option V × Option V × Option V × Option V × Option V) => [some (boxI k w h d (.lst (xs.map (Nd.v f))) sg od a b),some (.lst (xs.map (Nd.row f up))),some g.told,some (.int len),some (.int e),some (.lst (P.map .int)),some (.int s.fx),some (.int s.fl),some (.int s.fl),y.1,y.2.1,y.2.2.1,y.2.2.2.1,y.2.2.2.2.1,y.2.2.2.2.2.1,y.2.2.2.2.2.2.1,y.2.2.2.2.2.2.2])
    (fun _ => cells) (fun s x => ⟨s.i + 1,s.fx + pz up x,s.fl + flexOf sg od x⟩) (PdI xs P up a b sg od zx zl) (fun _ => rfl) (fun _ _ _ => rfl) ?_ ?_ xs ⟨0,0,0⟩ (none,none,none,none,none,none,none,none) ini
  · rintro x rs ⟨i,fx,fl⟩ y kk S hk'
    have hxo := S.ok x (.head _)
    have hxi := drop_get S.xs
    have hil : i < 2 ^ 60 := Nat.lt_of_lt_of_le (List.getElem?_eq_some_iff.mp hxi).1 (by lia)
    have hil1 : i + 1 < 2 ^ 60 := Nat.lt_of_lt_of_le (Nat.succ_lt_succ (List.getElem?_eq_some_iff.mp hxi).1) (by lia)
    have hps' := drop_suc S.ps
    have hp0 : (P.map V.int)[i]? = some (.int (fx + rnd (a * fl) b)) := by rw [List.getElem?_map,drop_get S.ps]; rfl
    have hp1 : (P.map V.int)[i + 1]? = some (.int (fx + pz up x + rnd (a * (fl + flexOf sg od x)) b)) := by rw [List.getElem?_map,drop_get hps']; rfl
    have done := hk' ⟨drop_suc S.xs,hps',fun z hz => S.ok z (.tail _ hz),S.s1,S.s2⟩
    have hrow : (xs.map (Nd.row f up))[i]? = some (x.row f up) := by rw [List.getElem?_map,hxi]; rfl
    unfold Nd.row at hrow
    rw [size_pz hxo] at hrow
    cases hre : x.rest with
    | none =>
      have hfl : flexOf sg od x = 0 := by unfold flexOf; rw [hre]
      rw [hfl,Int.add_zero] at hp1 done
      rw [hre] at hrow
      refine seqN hil hrow (And.intro dOk0 (And.intro dOk0 (seqN (i := i + 1) hil1 hp1 (And.intro (mulS hga.1 hga.2) (c_lnear hG I hgb ?_)))))
      rw [near]
      exact And.intro dOk0 (done ⟨_,_,_,_,_,_,_,_⟩)
    | some q =>
      obtain ⟨s,so,lz,lo⟩ := q
      have hk6 := kd6 hre
      obtain ⟨gw,s',so',lz',lo',g1,g2,g3,g4⟩ := at_glue (f := f) hxo hk6
      rw [hre] at g2
      cases g2
      have hfx : flexOf sg od x = flexG sg od s so lz lo := by unfold flexOf; rw [hre]
      have hpz : pz up x = gw := by unfold pz; rw [if_pos hk6,g1]
      rw [hre] at hrow
      rw [hfx] at hp1 done
      subst hsg hod
      have fin : ∀ z,z = fl + flexG g.sign g.order s so lz lo → plEnd G (n + 6) [some (boxI k w h d (.lst (xs.map (Nd.v f))) g.sign g.order a b),some (.lst (xs.map (Nd.row f up))),some g.told,some (.int len),some (.int e),some (.lst (P.map .int)),some (.int (fx + pz up x)),some (.int z),some (.int fl),some (.int i),some (.int (pz up x)),some (.int (x.high up)),some (.int (x.deep up)),some (restV s so lz lo),some (.bool x.seen),some (.lst (x.out f)),y.2.2.2.2.2.2.2] cells kk no_ := by
        rintro z rfl
        refine seqN (i := i + 1) hil1 hp1 (And.intro (mulS hga.1 hga.2) (c_lnear hG I hgb ?_))
        rw [near]
        refine And.intro dOkR (seqN hil (v := x.v f) (by rw [List.getElem?_map,hxi]; rfl) (g4 _ _ (c_gluesize hG I ha hb (seqN (i := i + 1) hil1 hp1 (seqN hil hp0 (brnF ?_ (brnF rfl ?_)))))))
        · rw [hpz]; lia
        · exact done ⟨_,_,_,_,_,_,_,_⟩
      refine seqN hil hrow (And.intro dOkR (brAnd (fun s1 o1 => And.intro dOkR ?_) fun n1 => And.intro dOkR (brAnd (fun s2 o2 => ?_) fun n2 => ?_)))
      · refine brF (by rw [s1]; decide) (fin _ (flex_eq (.inl ⟨s1,o1,rfl⟩)))
      · exact fin _ (flex_eq (.inr (.inl ⟨n1,⟨s2,o2⟩,rfl⟩)))
      · exact fin _ (flex_eq (.inr (.inr ⟨n1,n2,rfl⟩)))
  · rintro ⟨i,fx,fl⟩ y S
    have hs1 : fx = zx := S.s1
    have hs2 : fl = zl := S.s2
    subst hs1 hs2
    have hi : i + 1 = P.length := by
      have := congrArg List.length S.ps
      rw [List.length_drop,List.length_cons,placesL_len,List.length_nil] at this
      dsimp only at this
      omega
    have last : ∀ kk : V → Prop,kk (.int (fx + rnd (a * fl) b)) → seqIx (P.map .int) (-1) kk := fun kk h => by
      refine seqI (by decide) ?_ h
      unfold ixOf
      rw [if_pos (by decide),if_pos (by rw [List.length_map]; lia),List.length_map,show ((-1 : Int) + (P.length : Int)).toNat = i by omega,List.getElem?_map,drop_get S.ps]; rfl
    refine br (fun e0 => last _ ?_) fun n0 => last _ (brn (fun n3 => ?_) fun e3 => ?_)
    · rw [if_pos e0,Int.add_zero] at hlast
      show Q (.bool (decide (fx + rnd (a * fl) b = len))) cells
      rw [decide_eq_true hlast]; exact hQ
    · rw [if_neg n0,if_neg n3] at hlast
      show Q (.bool (decide (fx + rnd (a * fl) b = len + e))) cells
      rw [decide_eq_true hlast]; exact hQ
    · rw [if_neg n0,if_pos e3] at hlast
      show Q (.bool (decide (fx + rnd (a * fl) b = len + (e + g.r1)))) cells
      rw [decide_eq_true hlast]; exact hQ
theorem c_issize (hG : G.Ok) (I : IsG G) {n : Nat} {v : Int} (hv : -1073741823 ≤ v ∧ v ≤ 1073741823) (hQ : Q (.bool true) cells) : Sem G (n + 2) (.ref 836) [.int v] cells Q X := go_is_size hG I (c_whole hG I hv hQ)
theorem c_sizes (hG : G.Ok) (I : IsG G) {n : Nat} {ns : List Int} (hv : ∀ v ∈ ns,-1073741823 ≤ v ∧ v ≤ 1073741823) (hQ : Q .none cells) : Sem G (n + 3) (.ref 843) [.tup (ns.map .int)] cells Q X :=
  go_check_sizes hG I (forI_st V.int (fun (_ : Unit) y => [some (.tup (ns.map .int)),y]) (fun _ => cells) (fun s _ => s) (fun rs _ => ∀ v ∈ rs,-1073741823 ≤ v ∧ v ≤ 1073741823)
    (fun x rs s y kk hrs hk => c_issize hG I (hrs x (.head _)) (hk fun z hz => hrs z (.tail _ hz))) (fun _ _ _ => hQ) ns () none hv)
theorem c_fontname (hG : G.Ok) (I : IsG G) {n : Nat} (hQ : Q (.str (S "fa")) cells) : Sem G (n + 1) (.ref 979) [.int 1] cells Q X := by
  have e : Str.ofString "f" ++ { cps := #[97] } = S "fa" := by decide
  rw [← e] at hQ
  exact go_font_name hG I (And.intro (by decide) (And.intro (by decide) (Exists.intro 97 (And.intro (by decide) (And.intro rfl (And.intro (by decide) hQ))))))
theorem c_leftstart (hG : G.Ok) (I : IsG G) (hq : G.q = true) {n : Nat} (hQ : Q (.int (-1)) cells) : Sem G (n + 1) (.ref 878) [.tup []] cells Q X := go_left_start hG I hq (And.intro (by decide) hQ)
theorem c_program (hG : G.Ok) (I : IsG G) (hq : G.q = true) {n : Nat} {v : V} {b : Int} (hQ : Q .none cells) : Sem G (n + 1) (.ref 871) [.tup [],.tup [],v,.int b] cells Q X := go_check_program hG I hq (And.intro (by decide) hQ)
noncomputable def rowV (a b c : Int) : V := .tup [.int a,.int b,.int c,.int 0,.int 0,.int 0]
noncomputable def chL : List (Int × V) := [(97,rowV 5 7 2),(98,rowV 11 3 0),(99,rowV 4 1 9)]
theorem c_larger (hG : G.Ok) (I : IsG G) (hq : G.q = true) {n : Nat} (hQ : Q .none cells) : Sem G (n + 1) (.ref 864) [.dct chL] cells Q X :=
  go_check_larger hG I hq (forC (Exists.intro _ (And.intro rfl (And.intro rfl (forC (Exists.intro _ (And.intro rfl (And.intro rfl (forC (Exists.intro _ (And.intro rfl (And.intro rfl (forN hQ)))))))))))))
theorem c_chars (hG : G.Ok) (I : IsG G) (hq : G.q = true) {n : Nat} (hQ : Q .none cells) : Sem G (n + 4) (.ref 857) [.dct chL,.int 0] cells Q X := by
  refine go_check_chars hG I hq ?_
  have loop : ∀ (l : List (Int × V)) (y : Option V × Option V × Option V × Option V),(∀ p ∈ l,(0 ≤ p.1 ∧ p.1 ≤ 255) ∧ ∃ a b d,(∀ v ∈ [a,b,d,0],-1073741823 ≤ v ∧ v ≤ 1073741823) ∧ p.2 = rowV a b d) →
      ∀ {tw : TWs} {wb : WS} {k : KS},(∀ i a b d (y : Option V × Option V × Option V × Option V) (kk : KS),(0 ≤ i ∧ i ≤ 255) → (∀ v ∈ [a,b,d,0],-1073741823 ≤ v ∧ v ≤ 1073741823) → (∀ y : Option V × Option V × Option V × Option V,kk .next [some (.dct chL),some (.int 0),y.1,y.2.1,y.2.2.1,y.2.2.2] cells) → tw [some (.dct chL),some (.int 0),y.1,y.2.1,y.2.2.1,y.2.2.2] cells [.int i,rowV a b d] (fun lc1 c1 => wb lc1 c1 kk no_) no_) →
      (∀ lc,k .next lc cells) → forJ tw wb l [some (.dct chL),some (.int 0),y.1,y.2.1,y.2.2.1,y.2.2.2] cells k no_ := by
    intro l
    induction l with
    | nil => intro y _ tw wb k _ hk; exact forJN (hk _)
    | cons p l ih =>
      intro y hl tw wb k step hk
      obtain ⟨i,v⟩ := p
      obtain ⟨hi,a,b,d,hv,e⟩ := hl (i,v) (.head _)
      have e : v = rowV a b d := e
      subst e
      exact forJC fun kk hkk => step i a b d y kk hi hv fun y => hkk _ _ (ih y (fun p hp => hl p (.tail _ hp)) step hk)
  refine loop chL (none,none,none,none) ?_ (fun i a b d y kk hi hv hk => ?_) fun _ => hQ
  · intro p hp
    rcases hp with _ | ⟨_,_ | ⟨_,_ | ⟨_,hp⟩⟩⟩
    · exact ⟨by decide,5,7,2,by decide,rfl⟩
    · exact ⟨by decide,11,3,0,by decide,rfl⟩
    · exact ⟨by decide,4,1,9,by decide,rfl⟩
    · cases hp
  · exact c_whole hG I hi (And.intro (.inr ⟨_,rfl⟩) (And.intro (show 6 < 2 ^ 62 by decide) (c_sizes hG I (ns := [a,b,d,0]) hv (c_whole hG I (by decide) (c_whole hG I (by decide) (hk (_,_,_,_)))))))
noncomputable def fontFs : List (Nat × V) := [(0,.int 1),(38,.str (S "fa")),(28,.int 655360),(39,.int 655360),(40,.int 0),(41,.lst [.int 0,.int 196608,.int 98304,.int 65536,.int 262144,.int 655360,.int 65536]),(37,.dct chL),(42,.tup []),(43,.tup []),(44,.int 256),(45,.int (-1)),(46,.int 45),(47,.int (-1))]
noncomputable def fontV : V := .inst 968 fontFs
theorem row_nc {a b c : Int} : nc (rowV a b c) := ⟨trivial,trivial,trivial,trivial,trivial,trivial,trivial⟩
theorem font_nc : ncF fontFs := ⟨trivial,trivial,trivial,trivial,trivial,⟨trivial,trivial,trivial,trivial,trivial,trivial,trivial,trivial⟩,⟨row_nc,row_nc,row_nc,trivial⟩,trivial,trivial,trivial,trivial,trivial,trivial,trivial⟩
theorem c_Font (hG : G.Ok) (I : IsG G) (hq : G.q = true) {n : Nat} (hQ : Q fontV cells) : Sem G (n + 7) (.ref 968) [.int 1,.str (S "fa"),.int 655360,paramsV,.dct chL,.tup [],.tup [],.int 256] cells Q X := by
  refine c_new hG I 968 895 (by decide) (go_Font_init hG I (c_whole hG I (by decide) (And.intro (.inl ⟨_,rfl⟩) ?_)))
  have e0 : ((S "fa") == S "") = false := by decide
  refine c_whole hG I (by decide) (c_whole hG I (by decide) (And.intro (by decide) ?_))
  refine c_sizes hG I (ns := [0,196608,98304,65536,262144,655360,65536]) (by decide) (c_sizes hG I (ns := []) (by decide) (And.intro (by decide) (c_chars hG I hq (c_larger hG I hq (c_program hG I hq ?_)))))
  ((conv => whnf); refine setA rfl ?_)
  ((conv => whnf); refine setA rfl ?_)
  ((conv => whnf); refine setA rfl ?_)
  ((conv => whnf); refine setA rfl ?_)
  ((conv => whnf); refine setA rfl ?_)
  ((conv => whnf); refine setA rfl ?_)
  conv => whnf
  refine And.intro (by decide) ?_
  ((conv => whnf); refine setA rfl ?_)
  ((conv => whnf); refine setA rfl ?_)
  ((conv => whnf); refine setA rfl ?_)
  ((conv => whnf); refine setA rfl ?_)
  refine c_leftstart hG I hq ?_
  ((conv => whnf); refine setA rfl ?_)
  ((conv => whnf); refine setA rfl ?_)
  ((conv => whnf); refine setA rfl ?_)
  exact ⟨rfl,_,_,rfl,font_nc,hQ⟩
theorem c_fwidth (hG : G.Ok) (I : IsG G) {n : Nat} {c w h d : Int} (hl : Let c w h d) (hQ : Q (.int w) cells) : Sem G (n + 1) (.ref 909) [fontV,.int c] cells Q X := by
  rcases hl with ⟨rfl,rfl,rfl,rfl⟩ | ⟨rfl,rfl,rfl,rfl⟩ | ⟨rfl,rfl,rfl,rfl⟩ <;> exact go_Font_width hG I (And.intro trivial hQ)
theorem c_fheight (hG : G.Ok) (I : IsG G) {n : Nat} {c w h d : Int} (hl : Let c w h d) (hQ : Q (.int h) cells) : Sem G (n + 1) (.ref 916) [fontV,.int c] cells Q X := by
  rcases hl with ⟨rfl,rfl,rfl,rfl⟩ | ⟨rfl,rfl,rfl,rfl⟩ | ⟨rfl,rfl,rfl,rfl⟩ <;> exact go_Font_height hG I (And.intro trivial hQ)
theorem c_fdepth (hG : G.Ok) (I : IsG G) {n : Nat} {c w h d : Int} (hl : Let c w h d) (hQ : Q (.int d) cells) : Sem G (n + 1) (.ref 923) [fontV,.int c] cells Q X := by
  rcases hl with ⟨rfl,rfl,rfl,rfl⟩ | ⟨rfl,rfl,rfl,rfl⟩ | ⟨rfl,rfl,rfl,rfl⟩ <;> exact go_Font_depth hG I (And.intro trivial hQ)
theorem fontOk (hG : G.Ok) (I : IsG G) : FontOk G fontV := ⟨⟨fontFs,rfl,rfl,rfl,rfl,rfl⟩,font_nc,fun hl hQ => c_fwidth hG I hl hQ,fun hl hQ => c_fheight hG I hl hQ,fun hl hQ => c_fdepth hG I hl hQ⟩
theorem dctC {l : List (Int × V)} {m : Nat} {kk : List (Int × V) → Prop} (hc : cells[m]? = some (.dct l)) (k : kk l) : dctW cells (.cell m) kk := by
  show (match cells[m]? with | some (.dct l) => kk l | _ => False)
  rw [hc]; exact k
theorem setDN {l : List (Int × V)} {j : Int} {v : V} {kk : List Cell → Prop} (h : l.length ≤ 1000) (k : kk (cells ++ [.dct (dput l j v)])) : setDW (cells ++ [.dct l]) (.cell cells.length) (.int j) v kk := by
  show (match (cells ++ [Cell.dct l])[cells.length]? with | some (.dct l') => l'.length ≤ 1000 ∧ kk ((cells ++ [Cell.dct l]).set cells.length (.dct (dput l' j v))) | _ => False)
  rw [getApp0]; exact ⟨h,by rw [setApp0]; exact k⟩
theorem fzN {l : List (Int × V)} {kk : KE} (k : kk (.dct l) (cells ++ [.dead])) : fzW (cells ++ [.dct l]) (.cell cells.length) kk := by
  show (match (cells ++ [Cell.dct l])[cells.length]? with | some (.lst l') => kk (.lst l') ((cells ++ [Cell.dct l]).set cells.length .dead) | some (.dct l') => kk (.dct l') ((cells ++ [Cell.dct l]).set cells.length .dead) | _ => False)
  rw [getApp0,setApp0]; exact k
theorem c_font (hG : G.Ok) (I : IsG G) {n : Nat} (hq : G.q = true) (hQ : Q fontV cells) : Sem G (n + 9) (.ref 989) [.int 1,lettersV] cells Q X := by
  refine sem_drop (go_font_of_rows2 hG I (c_whole hG I (by decide) ?_))
  refine forC (And.intro (by decide) (dctC getApp0 ?_))
  refine setDN (by decide) ?_
  refine forC (And.intro (by decide) (dctC getApp0 ?_))
  refine setDN (by decide) ?_
  refine forC (And.intro (by decide) (dctC getApp0 ?_))
  refine setDN (by decide) (forN ?_)
  refine c_fontname hG I ?_
  refine fzN (c_Font hG I hq ?_)
  show (nc (fz _ _ 6 fontV) ∧ _) ∧ Q (fz _ _ 6 fontV) _
  rw [fz_nc 6 (show nc fontV from font_nc),kept_take]
  exact ⟨⟨font_nc,Kept.refl.app⟩,hQ⟩
end Mine
end
section
open PySem PySem.W PyProof.Rows
namespace Mine
theorem absI_nn (i : Int) : (0 ≤ i → absI i = i) ∧ (i ≤ 0 → absI i = -i) := by
  unfold absI; constructor <;> intro h <;> split <;> omega
theorem near_iff {p u d : Int} : nearF p u d = true ↔ 2 * absI (p * d - u) < absI d ∨ (2 * absI (p * d - u) = absI d ∧ absI u < absI (p * d)) := by
  simp only [nearF,Bool.or_eq_true,Bool.and_eq_true,decide_eq_true_eq]
theorem absI_neg (i : Int) : absI (-i) = absI i := by unfold absI; split <;> split <;> omega
theorem absI_lt {x b : Int} (h1 : -b < 2 * x) (h2 : 2 * x < b) : 2 * absI x < b := by
  unfold absI
  split
  · rw [Int.mul_neg]; exact Int.neg_lt_of_neg_lt h1
  · exact h2
theorem near_core {w a b : Int} (hb : 0 < b) (h : (-b < 2 * (w - a) ∧ 2 * (w - a) < b) ∨ (2 * (w - a) = b ∧ 0 ≤ a) ∨ (2 * (w - a) = -b ∧ a < 0)) : 2 * absI (w - a) < absI b ∨ (2 * absI (w - a) = absI b ∧ absI a < absI w) := by
  have eb : absI b = b := (absI_nn b).1 (Int.le_of_lt hb)
  rw [eb]
  rcases h with h | ⟨h,ha⟩ | ⟨h,ha⟩
  · exact .inl (absI_lt h.1 h.2)
  · have hw : a < w := by clear eb; omega
    rw [(absI_nn (w - a)).1 (Int.sub_nonneg.mpr (Int.le_of_lt hw)),(absI_nn a).1 ha,(absI_nn w).1 (Int.le_trans ha (Int.le_of_lt hw))]
    exact .inr ⟨h,hw⟩
  · have hw : w < a := by clear eb; omega
    rw [(absI_nn (w - a)).2 (Int.sub_nonpos_of_le (Int.le_of_lt hw)),(absI_nn a).2 (Int.le_of_lt ha),(absI_nn w).2 (Int.le_trans (Int.le_of_lt hw) (Int.le_of_lt ha)),Int.mul_neg,h]
    exact .inr ⟨Int.neg_neg b,Int.neg_lt_neg hw⟩
theorem near_r {w a b r : Int} (hb : 0 < b) (r0 : 0 ≤ r) (r1 : r < 2 * b) : (2 * (w - a) = b - r → 0 ≤ a → (-b < 2 * (w - a) ∧ 2 * (w - a) < b) ∨ (2 * (w - a) = b ∧ 0 ≤ a) ∨ (2 * (w - a) = -b ∧ a < 0)) ∧ (2 * (w - a) = r - b → a < 0 → (-b < 2 * (w - a) ∧ 2 * (w - a) < b) ∨ (2 * (w - a) = b ∧ 0 ≤ a) ∨ (2 * (w - a) = -b ∧ a < 0)) := by
  constructor <;> intro e ha <;> rw [e] <;> by_cases c : r = 0
  · exact .inr (.inl ⟨by rw [c]; exact Int.sub_zero b,ha⟩)
  · exact .inl (by clear e ha; omega)
  · exact .inr (.inr ⟨by rw [c]; exact Int.zero_sub b,ha⟩)
  · exact .inl (by clear e ha; omega)
theorem rnd_near {a b : Int} (hb : 0 < b) : nearF (rnd a b) a b = true := by
  rw [near_iff]
  unfold rnd
  have hb2 : 0 ≤ 2 * b := by omega
  split
  · rename_i h
    rw [Int.fdiv_eq_ediv_of_nonneg _ hb2]
    have e := Int.mul_ediv_add_emod (b - 2 * a) (2 * b)
    have r0 := Int.emod_nonneg (b - 2 * a) (show 2 * b ≠ 0 by clear e; omega)
    have r1 := Int.emod_lt_of_pos (b - 2 * a) (show 0 < 2 * b by clear e r0; omega)
    refine near_core hb ((near_r hb r0 r1).2 ?_ h)
    rw [Int.neg_mul,Int.mul_comm _ b]
    rw [Int.mul_assoc] at e
    clear r0 r1 h hb2 hb
    omega
  · rename_i h
    rw [Int.fdiv_eq_ediv_of_nonneg _ hb2]
    have e := Int.mul_ediv_add_emod (2 * a + b) (2 * b)
    have r0 := Int.emod_nonneg (2 * a + b) (show 2 * b ≠ 0 by clear e; omega)
    have r1 := Int.emod_lt_of_pos (2 * a + b) (show 0 < 2 * b by clear e r0; omega)
    refine near_core hb ((near_r hb r0 r1).1 ?_ (Int.not_lt.mp h))
    rw [Int.mul_comm _ b]
    rw [Int.mul_assoc] at e
    clear r0 r1 h hb2 hb
    lia
theorem near_flip {p u d : Int} (h : nearF p u d = true) : nearF p (-u) (-d) = true := by
  rw [near_iff] at h ⊢
  rw [show p * -d - -u = -(p * d - u) by rw [Int.mul_neg]; lia,show p * -d = -(p * d) from Int.mul_neg _ _,absI_neg,absI_neg,absI_neg,absI_neg]
  exact h
theorem rnd_exact {b z : Int} (hb : 0 < b) : rnd (z * b) b = z := by
  unfold rnd
  have hb2 : 0 ≤ 2 * b := by omega
  split
  · rw [Int.fdiv_eq_ediv_of_nonneg _ hb2,show b - 2 * (z * b) = b + (2 * b) * (-z) by rw [Int.mul_neg,Int.mul_assoc,Int.mul_comm b z]; lia,Int.add_mul_ediv_left _ _ (by omega),Int.ediv_eq_zero_of_lt (by omega) (by omega)]
    lia
  · rw [Int.fdiv_eq_ediv_of_nonneg _ hb2,show 2 * (z * b) + b = b + (2 * b) * z by rw [Int.mul_assoc,Int.mul_comm b z]; lia,Int.add_mul_ediv_left _ _ (by omega),Int.ediv_eq_zero_of_lt (by omega) (by omega)]
    lia
structure AgreeR (t g : SG) (st sh : List Int) (e : Int) : Prop where
  sign : t.sign = g.sign
  order : t.order = g.order
  r0 : t.r0 = g.r0
  r1 : t.r1 = g.r1
  b : 0 < g.b
  ab : g.a * t.b = t.a * g.b
  near : ∀ z,nearF (rnd (g.a * z) g.b) (t.a * z) t.b = true
  last : rnd (g.a * (if g.sign = 1 then st.getD g.order.toNat 0 else if g.sign = 2 then -sh.getD g.order.toNat 0 else 0)) g.b = if g.sign = 0 then 0 else if g.r0 = 3 then e + g.r1 else e
noncomputable abbrev Agree (st sh : List Int) (e : Int) : Prop := AgreeR (toldG st sh e) (setG st sh e) st sh e
theorem near01 (z : Int) : nearF (rnd (0 * z) 1) (0 * z) 1 = true := rnd_near (by decide)
theorem agree0 {st sh : List Int} {e a b : Int} : AgreeR ⟨0,0,0,1,a,b⟩ ⟨0,0,0,1,a,b⟩ st sh e := ⟨rfl,rfl,rfl,rfl,(by decide : (0 : Int) < 1),rfl,fun z => near01 z,by show rnd (0 * _) 1 = 0; rw [Int.zero_mul]; rfl⟩
theorem agree (st sh : List Int) (e : Int) : Agree st sh e := by
  by_cases he : e = 0
  · subst he
    have s : setG st sh 0 = ⟨0,0,0,1,0,0⟩ := by simp [setG]
    have t : toldG st sh 0 = ⟨0,0,0,1,0,0⟩ := by simp [toldG]
    show AgreeR _ _ st sh 0
    rw [s,t]
    exact agree0
  · obtain ⟨l,hl⟩ : ∃ l,l = if 0 < e then st else sh := ⟨_,rfl⟩
    obtain ⟨o,ho⟩ : ∃ o,o = topF l := ⟨_,rfl⟩
    obtain ⟨t,ht⟩ : ∃ t,t = l.getD o.toNat 0 := ⟨_,rfl⟩
    obtain ⟨ae,hae⟩ : ∃ ae,ae = if e < 0 then -e else e := ⟨_,rfl⟩
    have aep : 0 < ae := by rw [hae]; split <;> lia
    obtain ⟨rep,hr⟩ : ∃ rep : Int × Int,rep = if o = 0 then (if e < 0 ∧ t < -e then (3,-e - t) else (if 0 < e then 1 else 2,badF ae t)) else (0,0) := ⟨_,rfl⟩
    have s : setG st sh e = if t = 0 then ⟨0,0,0,1,rep.1,rep.2⟩ else if rep.1 = 3 then ⟨2,o,1,1,rep.1,rep.2⟩ else ⟨if 0 < e then 1 else 2,o,if 0 < t then ae else -ae,if 0 < t then t else -t,rep.1,rep.2⟩ := by
      unfold setG
      rw [if_neg he]
      dsimp only
      rw [← hl,← ho,← ht,← hae,← hr]
    have hr2 : (if o = 0 then (if 0 < e then (1,badF e t) else if e < 0 then (if t < -e then (3,-e - t) else (2,badF (-e) t)) else (0,0)) else (0,0)) = rep := by
      rw [hr]
      split
      · by_cases c : 0 < e
        · have n : ¬e < 0 := by omega
          rw [if_pos c,if_neg (fun q => n q.1),if_pos c,hae,if_neg n]
        · have p : e < 0 := by lia
          rw [if_neg c,if_pos p]
          by_cases d : t < -e
          · rw [if_pos d,if_pos ⟨p,d⟩]
          · rw [if_neg d,if_neg (fun q => d q.2),if_neg c,hae,if_pos p]
      · rfl
    have u : toldG st sh e = if t = 0 then ⟨0,0,0,1,rep.1,rep.2⟩ else if rep.1 = 3 then ⟨2,0,1,1,rep.1,rep.2⟩ else ⟨if 0 < e then 1 else 2,o,ae,t,rep.1,rep.2⟩ := by
      unfold toldG
      dsimp only
      rw [← hl,← ho,← ht,← hae,hr2,if_neg he]
    have three : rep.1 = 3 → o = 0 ∧ e < 0 ∧ rep.2 = -e - t := by
      intro q
      rw [hr] at q ⊢
      split at q
      · rename_i z
        rw [if_pos z]
        split at q
        · rename_i y; rw [if_pos y]; exact ⟨z,y.1,rfl⟩
        · split at q <;> cases q
      · cases q
    by_cases h0 : t = 0
    · rw [if_pos h0] at s u
      show AgreeR _ _ st sh e
      rw [s,u]
      exact agree0
    · rw [if_neg h0] at s u
      by_cases h3 : rep.1 = 3
      · obtain ⟨o0,en,e2⟩ := three h3
        rw [if_pos h3] at s u
        have hls : l = sh := by rw [hl,if_neg (by omega)]
        show AgreeR _ _ st sh e
        rw [s,u]
        refine ⟨rfl,o0.symm,rfl,rfl,(by decide : (0 : Int) < 1),rfl,fun z => rnd_near (by decide : (0 : Int) < 1),?_⟩
        dsimp only
        rw [if_neg (by decide),if_pos rfl,if_neg (by decide),if_pos h3,e2,← hls,← ht]
        have := rnd_exact (b := 1) (z := 1 * -t) (by decide)
        rw [Int.mul_one] at this
        rw [this,Int.one_mul]
        clear this s u hr hr2 three hae aep ht hl ho hls
        lia
      · rw [if_neg h3] at s u
        have sg : ∀ x : Int,(if (if 0 < e then (1 : Int) else 2) = 1 then st.getD o.toNat 0 else if (if 0 < e then (1 : Int) else 2) = 2 then -sh.getD o.toNat 0 else 0) = (if 0 < e then t else -t) := fun _ => by
          rw [ht,hl]
          by_cases c : 0 < e
          · rw [if_pos c,if_pos rfl,if_pos c,if_pos c]
          · rw [if_neg c,if_neg (by decide),if_pos rfl,if_neg c,if_neg c]
        have s0 : ¬(if 0 < e then (1 : Int) else 2) = 0 := by split <;> decide
        have ex : ∀ {x : Int},x = ae → (if 0 < e then x else -x) = e := fun h => by
          rw [h,hae]
          clear s u hr hr2 three aep ht hl ho sg s0
          split
          · rw [if_neg (by omega)]
          · rw [if_pos (by lia)]; exact Int.neg_neg e
        have pl : ∀ {a b : Int},(if 0 < e then a * b else -(a * b)) = a * (if 0 < e then b else -b) := fun {a b} => by
          split
          · rfl
          · exact (Int.mul_neg a b).symm
        show AgreeR _ _ st sh e
        rw [s,u]
        by_cases hp : 0 < t
        · rw [if_pos hp,if_pos hp]
          refine ⟨rfl,rfl,rfl,rfl,hp,rfl,fun z => rnd_near hp,?_⟩
          dsimp only
          rw [sg 0,if_neg s0,if_neg h3,show ae * (if 0 < e then t else -t) = (if 0 < e then ae else -ae) * t by split <;> first | rfl | rw [Int.mul_neg,Int.neg_mul],rnd_exact hp]
          exact ex rfl
        · have hn : 0 < -t := by clear s u hr hr2 three hae aep ht hl ho sg s0; omega
          rw [if_neg hp,if_neg hp]
          refine ⟨rfl,rfl,rfl,rfl,hn,(Int.neg_mul _ _).trans (Int.mul_neg _ _).symm,fun z => ?_,?_⟩
          · have := near_flip (rnd_near (a := -ae * z) hn)
            rw [Int.neg_neg,Int.neg_mul,Int.neg_neg] at this
            dsimp only
            rw [Int.neg_mul]; exact this
          · dsimp only
            rw [sg 0,if_neg s0,if_neg h3,show -ae * (if 0 < e then t else -t) = (if 0 < e then ae else -ae) * -t by split <;> first | rw [Int.neg_mul,Int.mul_neg] | rfl,rnd_exact hn]
            exact ex rfl
structure BndG (st sh : List Int) (e M : Int) : Prop where
  a1 : -M < (setG st sh e).a ∧ (setG st sh e).a < M
  b1 : -M < (setG st sh e).b ∧ (setG st sh e).b < M
  o1 : 0 ≤ (setG st sh e).order ∧ (setG st sh e).order ≤ 3
  a2 : -M < (toldG st sh e).a ∧ (toldG st sh e).a < M
  b2 : -M < (toldG st sh e).b ∧ (toldG st sh e).b < M
theorem ite_in {M x y : Int} {c : Prop} {d : Decidable c} (hx : -M < x ∧ x < M) (hy : -M < y ∧ y < M) : -M < (if c then x else y) ∧ (if c then x else y) < M := by
  split
  · exact hx
  · exact hy
theorem neg_in {M x : Int} (h : -M < x ∧ x < M) : -M < -x ∧ -x < M := ⟨Int.neg_lt_neg h.2,Int.neg_lt_of_neg_lt h.1⟩
structure OkS (M : Int) (g : SG) : Prop where
  a : -M < g.a ∧ g.a < M
  b : -M < g.b ∧ g.b < M
  o : 0 ≤ g.order ∧ g.order ≤ 3
theorem ite_ok {M : Int} {x y : SG} {c : Prop} {d : Decidable c} (hx : OkS M x) (hy : OkS M y) : OkS M (if c then x else y) := by
  split
  · exact hx
  · exact hy
theorem bnd_g {st sh : List Int} {e M : Int} (hM : 1 < M) (he : -M < e ∧ e < M) (h1 : ∀ j,-M < st.getD j 0 ∧ st.getD j 0 < M) (h2 : ∀ j,-M < sh.getD j 0 ∧ sh.getD j 0 < M) : BndG st sh e M := by
  have ht : ∀ o : Int,-M < (if 0 < e then st else sh).getD o.toNat 0 ∧ (if 0 < e then st else sh).getD o.toNat 0 < M := fun o => by
    split
    · exact h1 _
    · exact h2 _
  have ho := topF_lt (if 0 < e then st else sh)
  have ht := ht (topF (if 0 < e then st else sh))
  have i1 : -M < (1 : Int) ∧ 1 < M := ⟨by clear he h1 h2 ho ht; omega,hM⟩
  have i0 : -M < (0 : Int) ∧ 0 < M := ⟨by clear he h1 h2 ho ht; omega,by clear he h1 h2 ho ht; omega⟩
  have o0 : 0 ≤ (0 : Int) ∧ (0 : Int) ≤ 3 := by decide
  have ea : -M < (if e < 0 then -e else e) ∧ (if e < 0 then -e else e) < M := ite_in (neg_in he) he
  have s : OkS M (setG st sh e) := ite_ok ⟨i0,i1,o0⟩ (ite_ok ⟨i0,i1,o0⟩ (ite_ok ⟨i1,i1,ho⟩ ⟨ite_in ea (neg_in ea),ite_in ht (neg_in ht),ho⟩))
  have t : OkS M (toldG st sh e) := ite_ok ⟨i0,i1,o0⟩ (ite_ok ⟨i0,i1,o0⟩ (ite_ok ⟨i1,i1,o0⟩ ⟨ea,ht,ho⟩))
  exact ⟨s.a,s.b,s.o,t.a,t.b⟩
noncomputable def mo (o : Int) (x : Nd) : Option Int := match x.rest with
  | some (s,so,_,_) => if so = o then some s else none
  | none => none
noncomputable def le (o : Int) (x : Nd) : Option Int := match x.rest with
  | some (_,_,l,lo) => if lo = o then some l else none
  | none => none
noncomputable def sumO (f : Nd → Option Int) (xs : List Nd) : Int := ((xs.filter fun x => (f x).isSome).map fun x => (f x).getD 0).sum
theorem sumO_nil {f : Nd → Option Int} : sumO f [] = 0 := rfl
theorem sumO_cons {f : Nd → Option Int} {x : Nd} {r : List Nd} : sumO f (x :: r) = (f x).getD 0 + sumO f r := by
  unfold sumO
  rw [List.filter_cons]
  cases h : f x with
  | none => simp [h]
  | some v => simp [h]
noncomputable def sums (f : Int → Nd → Option Int) (ks : List Nd) : List Int := [sumO (f 0) ks,sumO (f 1) ks,sumO (f 2) ks,sumO (f 3) ks]
theorem add_fold {up : Bool} : ∀ (ks : List Nd) (a b c d : Int),(∀ x ∈ ks,x.Ok up) → ks.foldl (fun l x => glueAdd x l) [a,b,c,d] = [a + sumO (mo 0) ks,b + sumO (mo 1) ks,c + sumO (mo 2) ks,d + sumO (mo 3) ks]
  | [],a,b,c,d,_ => by simp [sumO_nil]
  | x :: r,a,b,c,d,h => by
    have hx := (small (h x (.head _))).2.2.2.2
    rw [List.foldl_cons]
    simp only [sumO_cons]
    cases hr : x.rest with
    | none =>
      rw [show glueAdd x [a,b,c,d] = [a,b,c,d] by unfold glueAdd; rw [hr],add_fold r _ _ _ _ fun y hy => h y (.tail _ hy)]
      simp [mo,hr]
    | some q =>
      obtain ⟨s,so,l,lo⟩ := q
      obtain ⟨_,_,h0,_⟩ := hx s so l lo hr
      have : so = 0 ∨ so = 1 ∨ so = 2 ∨ so = 3 := by lia
      rcases this with rfl | rfl | rfl | rfl
      · rw [show glueAdd x [a,b,c,d] = [a + s,b,c,d] by unfold glueAdd; rw [hr]; rfl,add_fold r _ _ _ _ fun y hy => h y (.tail _ hy)]
        simp [mo,hr,Int.add_assoc]
      · rw [show glueAdd x [a,b,c,d] = [a,b + s,c,d] by unfold glueAdd; rw [hr]; rfl,add_fold r _ _ _ _ fun y hy => h y (.tail _ hy)]
        simp [mo,hr,Int.add_assoc]
      · rw [show glueAdd x [a,b,c,d] = [a,b,c + s,d] by unfold glueAdd; rw [hr]; rfl,add_fold r _ _ _ _ fun y hy => h y (.tail _ hy)]
        simp [mo,hr,Int.add_assoc]
      · rw [show glueAdd x [a,b,c,d] = [a,b,c,d + s] by unfold glueAdd; rw [hr]; rfl,add_fold r _ _ _ _ fun y hy => h y (.tail _ hy)]
        simp [mo,hr,Int.add_assoc]
theorem sub_fold {up : Bool} : ∀ (ks : List Nd) (a b c d : Int),(∀ x ∈ ks,x.Ok up) → ks.foldl (fun l x => glueSub x l) [a,b,c,d] = [a + sumO (le 0) ks,b + sumO (le 1) ks,c + sumO (le 2) ks,d + sumO (le 3) ks]
  | [],a,b,c,d,_ => by simp [sumO_nil]
  | x :: r,a,b,c,d,h => by
    have hx := (small (h x (.head _))).2.2.2.2
    rw [List.foldl_cons]
    simp only [sumO_cons]
    cases hr : x.rest with
    | none =>
      rw [show glueSub x [a,b,c,d] = [a,b,c,d] by unfold glueSub; rw [hr],sub_fold r _ _ _ _ fun y hy => h y (.tail _ hy)]
      simp [le,hr]
    | some q =>
      obtain ⟨s,so,l,lo⟩ := q
      obtain ⟨_,_,_,h0⟩ := hx s so l lo hr
      have : lo = 0 ∨ lo = 1 ∨ lo = 2 ∨ lo = 3 := by lia
      rcases this with rfl | rfl | rfl | rfl
      · rw [show glueSub x [a,b,c,d] = [a + l,b,c,d] by unfold glueSub; rw [hr]; rfl,sub_fold r _ _ _ _ fun y hy => h y (.tail _ hy)]
        simp [le,hr,Int.add_assoc]
      · rw [show glueSub x [a,b,c,d] = [a,b + l,c,d] by unfold glueSub; rw [hr]; rfl,sub_fold r _ _ _ _ fun y hy => h y (.tail _ hy)]
        simp [le,hr,Int.add_assoc]
      · rw [show glueSub x [a,b,c,d] = [a,b,c + l,d] by unfold glueSub; rw [hr]; rfl,sub_fold r _ _ _ _ fun y hy => h y (.tail _ hy)]
        simp [le,hr,Int.add_assoc]
      · rw [show glueSub x [a,b,c,d] = [a,b,c,d + l] by unfold glueSub; rw [hr]; rfl,sub_fold r _ _ _ _ fun y hy => h y (.tail _ hy)]
        simp [le,hr,Int.add_assoc]
noncomputable def sumI (f : Nd → Int) (ks : List Nd) : Int := (ks.map f).sum
noncomputable def maxI (f : Nd → Int) (ks : List Nd) : Int := (ks.map f).foldl mx 0
noncomputable def lastF : Int → List Int → Int
  | a,[] => a
  | _,b :: l => lastF b l
noncomputable def lastD (ks : List Nd) : Int := lastF 0 ((ks.filter Nd.seen).map (Nd.deep true))
theorem ac_parts : ∀ (ks : List Nd) (a : Ac),(ks.foldl Ac.step a).st = ks.foldl (fun l x => glueAdd x l) a.st ∧ (ks.foldl Ac.step a).sh = ks.foldl (fun l x => glueSub x l) a.sh ∧ (ks.foldl Ac.step a).h = (ks.map (Nd.high false)).foldl mx a.h ∧ (ks.foldl Ac.step a).d = (ks.map (Nd.deep false)).foldl mx a.d
  | [],_ => ⟨rfl,rfl,rfl,rfl⟩
  | x :: r,a => ac_parts r (a.step x)
theorem ac_n : ∀ (ks : List Nd) (a : Ac),(∀ x ∈ ks,x.Ok false) → (ks.foldl Ac.step a).n = a.n + sumI (Nd.size false) ks
  | [],a,_ => by simp [sumI]
  | x :: r,a,h => by
    rw [List.foldl_cons,ac_n r _ fun y hy => h y (.tail _ hy)]
    have e : x.size false = x.wd := by rw [size_pz (h x (.head _))]; simp [pz]
    simp only [sumI,List.map_cons,List.sum_cons,e,Ac.step]
    lia
theorem cc_parts : ∀ (ks : List Nd) (a : Cc),(ks.foldl Cc.step a).st = ks.foldl (fun l x => glueAdd x l) a.st ∧ (ks.foldl Cc.step a).sh = ks.foldl (fun l x => glueSub x l) a.sh ∧ (ks.foldl Cc.step a).w = (ks.map (Nd.high true)).foldl mx a.w
  | [],_ => ⟨rfl,rfl,rfl⟩
  | x :: r,a => cc_parts r (a.step x)
theorem cc_l {n m h d : Int} : n + (m + h) + d = n + m + (h + d) := by lia
theorem cc_k {n m h : Int} : n + (m + h) + 0 = n + m + h := by lia
theorem cc_step {x : Nd} (hx : x.Ok true) (a : Cc) : (a.step x).n + (a.step x).d = a.n + a.d + x.size true ∧ (a.step x).d = if x.seen then x.deep true else a.d := by
  cases x
  case chr => exact nomatch hx.1
  case lig => exact nomatch hx.1
  case dis => exact nomatch hx.1
  case adj => exact nomatch hx.1
  case mat => exact nomatch hx.1
  case box => rcases two3 hx.1 with rfl | rfl <;> exact ⟨cc_l,rfl⟩
  case rul => exact ⟨cc_l,rfl⟩
  case uns => exact ⟨cc_l,rfl⟩
  case ker => exact ⟨cc_k,rfl⟩
  case glu => exact ⟨Int.add_zero _,rfl⟩
  case lea => exact ⟨Int.add_zero _,rfl⟩
  all_goals exact ⟨(Int.add_zero _).symm,rfl⟩
theorem cc_n : ∀ (ks : List Nd) (a : Cc),(∀ x ∈ ks,x.Ok true) → (ks.foldl Cc.step a).n + (ks.foldl Cc.step a).d = a.n + a.d + sumI (Nd.size true) ks ∧ (ks.foldl Cc.step a).d = lastF a.d ((ks.filter Nd.seen).map (Nd.deep true))
  | [],a,_ => by simp [sumI,lastF]
  | x :: r,a,h => by
    obtain ⟨h1,h2⟩ := cc_n r (a.step x) fun y hy => h y (.tail _ hy)
    obtain ⟨s1,s2⟩ := cc_step (h x (.head _)) a
    rw [List.foldl_cons]
    refine ⟨?_,?_⟩
    · rw [h1,s1]; simp only [sumI,List.map_cons,List.sum_cons]; lia
    · rw [h2,s2,List.filter_cons]
      cases hs : x.seen <;> simp [lastF]
theorem ac_all {ks : List Nd} (h : ∀ x ∈ ks,x.Ok false) : (ks.foldl Ac.step ac0).n = sumI (Nd.size false) ks ∧ (ks.foldl Ac.step ac0).st = sums mo ks ∧ (ks.foldl Ac.step ac0).sh = sums le ks ∧ (ks.foldl Ac.step ac0).h = maxI (Nd.high false) ks ∧ (ks.foldl Ac.step ac0).d = maxI (Nd.deep false) ks := by
  obtain ⟨p1,p2,p3,p4⟩ := ac_parts ks ac0
  refine ⟨?_,?_,?_,p3,p4⟩
  · rw [ac_n ks ac0 h]; exact Int.zero_add _
  · rw [p1]; show ks.foldl _ [0,0,0,0] = _; rw [add_fold ks _ _ _ _ h]; simp [sums]
  · rw [p2]; show ks.foldl _ [0,0,0,0] = _; rw [sub_fold ks _ _ _ _ h]; simp [sums]
theorem cc_all {ks : List Nd} (h : ∀ x ∈ ks,x.Ok true) : (ks.foldl Cc.step cc0).n + (ks.foldl Cc.step cc0).d = sumI (Nd.size true) ks ∧ (ks.foldl Cc.step cc0).st = sums mo ks ∧ (ks.foldl Cc.step cc0).sh = sums le ks ∧ (ks.foldl Cc.step cc0).w = maxI (Nd.high true) ks ∧ (ks.foldl Cc.step cc0).d = lastD ks := by
  obtain ⟨p1,p2,p3⟩ := cc_parts ks cc0
  obtain ⟨n1,n2⟩ := cc_n ks cc0 h
  refine ⟨?_,?_,?_,p3,n2⟩
  · rw [n1]; show (0 : Int) + 0 + _ = _; lia
  · rw [p1]; show ks.foldl _ [0,0,0,0] = _; rw [add_fold ks _ _ _ _ h]; simp [sums]
  · rw [p2]; show ks.foldl _ [0,0,0,0] = _; rw [sub_fold ks _ _ _ _ h]; simp [sums]
theorem flex_sum {up : Bool} {sg od : Int} (ho : 0 ≤ od ∧ od ≤ 3) : ∀ (ks : List Nd) (z : Int),(∀ x ∈ ks,x.Ok up) → ks.foldl (fun s x => s + flexOf sg od x) z = z + (if sg = 1 then (sums mo ks).getD od.toNat 0 else if sg = 2 then -(sums le ks).getD od.toNat 0 else 0) := by
  have key : ∀ (ks : List Nd) (z : Int),ks.foldl (fun s x => s + flexOf sg od x) z = z + (if sg = 1 then sumO (mo od) ks else if sg = 2 then -sumO (le od) ks else 0) := by
    intro ks
    induction ks with
    | nil => intro z; simp [sumO_nil]
    | cons x r ih =>
      intro z
      rw [List.foldl_cons,ih]
      simp only [sumO_cons]
      unfold flexOf flexG mo le
      cases hr : x.rest with
      | none => simp
      | some q =>
        obtain ⟨s,so,l,lo⟩ := q
        dsimp only
        by_cases h1 : sg = 1
        · subst h1
          by_cases h : so = od <;> simp [h] <;> lia
        · by_cases h2 : sg = 2
          · subst h2
            by_cases h : lo = od <;> simp [h] <;> lia
          · simp [h1,h2]
  intro ks z _
  rw [key]
  have : od = 0 ∨ od = 1 ∨ od = 2 ∨ od = 3 := by lia
  rcases this with rfl | rfl | rfl | rfl <;> rfl
theorem size_sum {up : Bool} : ∀ (ks : List Nd) (z : Int),(∀ x ∈ ks,x.Ok up) → ks.foldl (fun s x => s + pz up x) z = z + sumI (Nd.size up) ks
  | [],z,_ => by simp [sumI]
  | x :: r,z,h => by
    rw [List.foldl_cons,size_sum r _ fun y hy => h y (.tail _ hy),← size_pz (h x (.head _))]
    simp only [sumI,List.map_cons,List.sum_cons]; lia
theorem mx_max : ∀ (l : List Int) (a : Int),a ≤ l.foldl mx a ∧ (∀ x ∈ l,x ≤ l.foldl mx a) ∧ (l.foldl mx a = a ∨ l.foldl mx a ∈ l)
  | [],a => ⟨Int.le_refl _,(fun x hx => nomatch hx),.inl rfl⟩
  | b :: l,a => by
    obtain ⟨h1,h2,h3⟩ := mx_max l (mx a b)
    have ha : a ≤ mx a b ∧ b ≤ mx a b ∧ (mx a b = a ∨ mx a b = b) := by unfold mx; split <;> lia
    rw [List.foldl_cons]
    refine ⟨by omega,fun x hx => ?_,?_⟩
    · rcases List.mem_cons.mp hx with rfl | hx
      · omega
      · exact h2 x hx
    · rcases h3 with h3 | h3
      · rcases ha.2.2 with q | q
        · exact .inl (h3.trans q)
        · exact .inr (by rw [h3,q]; exact .head _)
      · exact .inr (.tail _ h3)
theorem mx_unique {l : List Int} {M : Int} (h1 : M ∈ 0 :: l) (h2 : ∀ a ∈ 0 :: l,a ≤ M) : M = l.foldl mx 0 := by
  obtain ⟨a,b,c⟩ := mx_max l 0
  have h3 := h2 0 (.head _)
  have u : l.foldl mx 0 ≤ M := by
    rcases c with c | c
    · omega
    · exact h2 _ (.tail _ c)
  have d : M ≤ l.foldl mx 0 := by
    rcases List.mem_cons.mp h1 with rfl | h
    · omega
    · exact b M h
  lia
theorem last_ix : ∀ (l : List Int) (a : Int),((a :: l).map V.int)[(-1 + (((a :: l).map V.int).length : Int)).toNat]? = some (.int (lastF a l)) := by
  have key : ∀ (l : List Int) (a : Int),((a :: l).map V.int)[l.length]? = some (.int (lastF a l)) := by
    intro l
    induction l with
    | nil => intro a; rfl
    | cons b l ih => intro a; rw [List.map_cons,List.length_cons,List.getElem?_cons_succ]; exact ih b
  intro l a
  rw [List.length_map,List.length_cons,show (-1 + ((l.length + 1 : Nat) : Int)).toNat = l.length by lia]
  exact key l a
theorem mo_some {x : Nd} {o s so l lo : Int} (h : x.rest = some (s,so,l,lo)) : mo o x = if so = o then some s else none := by unfold mo; rw [h]
theorem mo_none {x : Nd} {o : Int} (h : x.rest = none) : mo o x = none := by unfold mo; rw [h]
theorem le_some {x : Nd} {o s so l lo : Int} (h : x.rest = some (s,so,l,lo)) : le o x = if lo = o then some l else none := by unfold le; rw [h]
theorem le_none {x : Nd} {o : Int} (h : x.rest = none) : le o x = none := by unfold le; rw [h]
structure Bnd (up : Bool) (ks : List Nd) : Prop where
  size : -(2 ^ 32) < sumI (Nd.size up) ks ∧ sumI (Nd.size up) ks < 2 ^ 32
  mo : ∀ j,-(2 ^ 32) < (sums mo ks).getD j 0 ∧ (sums mo ks).getD j 0 < 2 ^ 32
  le : ∀ j,-(2 ^ 32) < (sums le ks).getD j 0 ∧ (sums le ks).getD j 0 < 2 ^ 32
  last : up = true → -24 ≤ lastD ks ∧ lastD ks ≤ 16777215
theorem bounds {up : Bool} {ks : List Nd} (hk : ∀ x ∈ ks,x.Ok up) (hl : ks.length ≤ 13) : Bnd up ks := by
  have hl' : (ks.length : Int) ≤ 13 := by omega
  cases up with
  | false =>
    obtain ⟨h1,h2,h3,_⟩ := ac_all hk
    have B := Ac.B0 hk
    refine ⟨?_,fun j => ?_,fun j => ?_,fun e => nomatch e⟩
    · rw [← h1]; have := B.n; omega
    · rw [← h2]; have := B.st j; omega
    · rw [← h3]; have := B.sh j; omega
  | true =>
    obtain ⟨h1,h2,h3,_,h5⟩ := cc_all hk
    have B := Cc.B0 hk
    refine ⟨?_,fun j => ?_,fun j => ?_,fun e => ?_⟩
    · rw [← h1]; have := B.n; have := B.d; omega
    · rw [← h2]; have := B.st j; omega
    · rw [← h3]; have := B.sh j; omega
    · rw [← h5]; exact B.d
theorem last_idx {l : List V} {ds : List Int} {kk : V → Prop} (hl : l = ds.map .int) (h : kk (.int (lastF 0 ds))) : seqIx (.int 0 :: l) (-1) kk := by
  subst hl
  refine seqI (by decide) ?_ h
  unfold ixOf
  rw [if_pos (by decide),if_pos (by rw [List.length_cons]; omega)]
  exact last_ix ds 0
end Mine
end
section
open PySem PySem.W PyProof.Rows
namespace Mine
variable {G : Gx} {cells : List Cell} {Q : V → List Cell → Prop} {X : List Cell → Prop}
theorem comp_parts {f : V} {up : Bool} {we : WE} {rest : Lc} {k : List V → Lc → List Cell → Prop} {n : Nat} (hwe : ∀ (yy : V) (a b : Int) (kk : KE),Bud b 30 → (∀ x a' b',Nd.Ok up x → Up b 30 b' → kk (x.part f up) [HPc a' b']) → we (some yy :: rest) [HPc a b] kk no_) :
    ∀ (l : List V) (y : Option V) (xs : List Nd) (a b : Int),Bud b (30 * l.length) → xs.length + l.length ≤ 1000 → (∀ x ∈ xs,x.Ok up) →
    (∀ (xs' : List Nd) (a' b' : Int) (y : Option V),xs'.length = xs.length + l.length → (∀ x ∈ xs',x.Ok up) → Up b (30 * l.length) b' → k (xs'.map (Nd.part f up)) (y :: rest) [HPc a' b']) → compW (tT G n) we 0 l (y :: rest) [HPc a b] (xs.map (Nd.part f up)) k
  | [],y,xs,a,b,_,_,hx,fin => fin xs a b y rfl hx .z
  | v :: r,y,xs,a,b,hb,hl,hx,fin => by
    rw [List.length_cons] at hb hl fin
    rw [Nat.mul_succ] at hb fin
    refine hwe v a b _ (hb.le (Nat.le_add_left ..)) fun x a' b' ox u => okL (by rw [List.length_map]; omega) ?_
    rw [show xs.map (Nd.part f up) ++ [x.part f up] = (xs ++ [x]).map (Nd.part f up) by rw [List.map_append]; rfl]
    refine comp_parts hwe r _ (xs ++ [x]) a' b' (hb.st u) (by rw [List.length_append,List.length_singleton]; omega) (fun z hz => ?_) fun xs' a2 b2 y e ok u2 => fin xs' a2 b2 y (by rw [e,List.length_append,List.length_singleton]; lia) ok ((u.t u2).le (by lia))
    rcases List.mem_append.mp hz with hz | hz
    · exact hx z hz
    · rw [List.mem_singleton.mp hz]; exact ox
theorem comp_in {wel : WE} {k : List V → Lc → List Cell → Prop} (hel : ∀ (y0 : Option V) (u : V) (kk : KE),kk u cells → wel [y0,some u] cells kk no_) : ∀ (l : List V) (y0 y1 : Option V) (acc : List V),acc.length + l.length ≤ 16000000 → (∀ y1,k (acc ++ l) [y0,y1] cells) → compW tt_ wel 1 l [y0,y1] cells acc k
  | [],y0,y1,acc,_,h => by have := h y1; rw [List.append_nil] at this; exact this
  | u :: r,y0,y1,acc,hl,h => by
    rw [List.length_cons] at hl
    refine hel y0 u _ (okL (by omega) (comp_in hel r _ _ _ (by rw [List.length_append,List.length_singleton]; omega) fun y1 => ?_))
    rw [List.append_assoc]; exact h y1
theorem comp2G {α : Type} {we2 wel : WE} {q : Bool} {k : List V → Lc → List Cell → Prop} (v : α → V) (O : α → List V) (m : Nat) (hel : ∀ (y0 : Option V) (u : V) (kk : KE),kk u cells → wel [y0,some u] cells kk no_) :
    ∀ (xs : List α) (y0 y1 : Option V) (acc : List V),(∀ a ∈ xs,(O a).length ≤ m ∧ ∀ (y1 : Option V) (kk : KE),kk (.lst (O a)) cells → we2 [some (v a),y1] cells kk no_) → acc.length + m * xs.length ≤ 16000000 → (∀ lc,k (acc ++ xs.flatMap O) lc cells) → comp2W we2 wel q 0 1 (xs.map v) [y0,y1] cells acc k
  | [],y0,y1,acc,_,_,h => by have := h [y0,y1]; rw [List.flatMap_nil,List.append_nil] at this; exact this
  | a :: r,y0,y1,acc,hw,hl,h => by
    rw [List.length_cons,Nat.mul_succ] at hl
    obtain ⟨ha,hb⟩ := hw a (.head _)
    refine hb y1 _ (comp_in hel (O a) _ _ _ (by omega) fun y => comp2G v O m hel r _ _ _ (fun b hb => hw b (.tail _ hb)) (by rw [List.length_append]; omega) fun lc => ?_)
    have := h lc
    rw [List.flatMap_cons] at this
    rw [List.append_assoc]; exact this
noncomputable def Nd.outN : Nd → List Nd
  | .mar t => [.mar t] | .ins n c => [.ins n c] | .adj p => [.pen p,.ker 9 1] | _ => []
theorem outN_v (f : V) (x : Nd) : x.out f = x.outN.map (Nd.v f) := by cases x <;> rfl
theorem sz_of {s : Int} (h : 0 ≤ s ∧ s ≤ 100) : Sz s := ⟨by omega,by omega⟩
theorem outN_ok {x : Nd} (hx : x.Ok false) : ∀ y ∈ x.outN,y.Ok false := by
  cases x
  case mar t =>
    intro y hy
    rw [List.mem_singleton.mp hy]; exact hx
  case ins n c =>
    intro y hy
    rw [List.mem_singleton.mp hy]; exact hx
  case adj p =>
    intro y hy
    cases hy with
    | head => exact sz_of ⟨hx.2.1,Int.le_trans hx.2.2 (by decide)⟩
    | tail _ hy => rw [List.mem_singleton.mp hy]; exact ⟨sz_of (by decide),by decide,by decide⟩
  all_goals exact fun y hy => nomatch hy
theorem outs_v (f : V) : ∀ xs : List Nd,xs.flatMap (Nd.out f) = (xs.flatMap Nd.outN).map (Nd.v f)
  | [] => rfl
  | x :: r => by rw [List.flatMap_cons,List.flatMap_cons,List.map_append,outs_v f r,outN_v]
noncomputable def keptN (o : Bool) (xs : List Nd) : List Nd := xs.filter fun x => !o || !isOut x
theorem seen_out (x : Nd) (f : V) : x.seen = true ∧ isOut x = false ∨ x.seen = false ∧ (isOut x = false ∧ x.out f = [] ∨ isOut x = true ∧ x.out f ≠ []) := by
  cases x <;> first | exact .inl ⟨rfl,rfl⟩ | exact .inr ⟨rfl,.inl ⟨rfl,rfl⟩⟩ | exact .inr ⟨rfl,.inr ⟨rfl,List.cons_ne_nil _ _⟩⟩
theorem keptN_ok {o up : Bool} {xs : List Nd} (h : ∀ x ∈ xs,x.Ok up) : ∀ x ∈ keptN o xs,x.Ok up := fun x hx => h x (List.mem_filter.mp hx).1
theorem keptN_f {xs : List Nd} : keptN false xs = xs := List.filter_eq_self.mpr fun _ _ => rfl
theorem keptN_t {xs : List Nd} : keptN true xs = xs.filter keepF := rfl
theorem keptN_len {o : Bool} {xs : List Nd} : (keptN o xs).length ≤ xs.length := List.length_filter_le ..
noncomputable def OutOk (o up : Bool) (ov : V) (t : List Cell) : Prop := (o = false ∧ ov = .none ∧ t = []) ∨ (o = true ∧ up = false ∧ ov = .cell 1 ∧ t = [.lst [penV 77]])
theorem eqT (v : V) : PyData.eqv (dat v) (dat v) = true := SeqAt.eqv_refl _ (dat_lay _)
theorem big_of {g a : Int} (h : ¬(Dim a ∧ Dim g)) : 1073741824 ≤ if (if g < 0 then -g else g) < (if a < 0 then -a else a) then (if a < 0 then -a else a) else if g < 0 then -g else g := by
  unfold Dim at h
  split <;> split <;> split <;> omega
theorem small_of {g a : Int} (h1 : Dim a) (h2 : Dim g) : ¬1073741824 ≤ if (if g < 0 then -g else g) < (if a < 0 then -a else a) then (if a < 0 then -a else a) else if g < 0 then -g else g := by
  unfold Dim at h1 h2
  split <;> split <;> split <;> lia
noncomputable def flat (k : Nat) (v : V) : Prop := isDat v = true ∧ (dat v).depth ≤ k
theorem flat_int {i : Int} {k : Nat} : flat k (.int i) := ⟨rfl,Nat.zero_le _⟩
theorem flat_tup {k : Nat} {l : List V} (h : ∀ v ∈ l,flat k v) : flat (k + 1) (.tup l) := by
  have : ∀ l : List V,(∀ v ∈ l,flat k v) → isDatL l = true ∧ PyData.depthAll (datL l) ≤ k := fun l => by
    induction l with
    | nil => exact fun _ => ⟨rfl,Nat.zero_le _⟩
    | cons v l ih =>
      intro h
      have h1 := h v (.head _)
      have h2 := ih fun v hv => h v (.tail _ hv)
      exact ⟨by unfold isDatL; rw [h1.1,h2.1]; rfl,Nat.max_le.mpr ⟨h1.2,h2.2⟩⟩
  exact ⟨(this l h).1,by show (PyData.tuple (datL l)).depth ≤ k + 1; unfold PyData.depth; have := (this l h).2; omega⟩
theorem desc_dat (x : Nd) : flat 10 x.desc := by
  cases x
  case rul w h d => cases w <;> cases h <;> cases d <;> exact ⟨rfl,Nat.le_of_ble_eq_true rfl⟩
  all_goals exact ⟨rfl,Nat.le_of_ble_eq_true rfl⟩
theorem descs_ok (xs : List Nd) : datOk (.tup (xs.map Nd.desc)) := by
  have := flat_tup (l := xs.map Nd.desc) (k := 10) fun v hv => by
    obtain ⟨x,_,rfl⟩ := List.mem_map.mp hv
    exact desc_dat x
  exact ⟨this.1,Nat.le_trans this.2 (by decide)⟩
theorem pen_list (hG : G.Ok) (I : IsG G) {n : Nat} (hQ : Q (.tup [.tup [.int 7,.int 77]]) cells) : Sem G (n + 3) (.ref 668) [.lst [penV 77]] cells Q X := go_described_list1 hG I (c_dpen hG I (by decide) hQ)
theorem ints_ok (l : List Int) : datOk (.tup (l.map .int)) := by
  have := flat_tup (l := l.map V.int) (k := 0) fun v hv => by
    obtain ⟨x,_,rfl⟩ := List.mem_map.mp hv
    exact flat_int
  exact ⟨this.1,Nat.le_trans this.2 (by decide)⟩
theorem law_H (hG : G.Ok) (I : IsG G) (hq : G.q = true) {n : Nat} {up : Bool} {ks : List Nd} {v0 v1 v2 v4 v5 v6 v7 v8 v10 v11 v12 v16 v17 v18 v20 v22 v24 v25 v26 v27 : V} {w h d own goal len : Int} {g g2 : SG}
    (hF : FontOk G fontV) (hkx : ∀ x ∈ ks,x.Ok up) (hkl : ks.length ≤ 13) (hg : setG (sums mo ks) (sums le ks) (goal - own) = g) (hg2 : toldG (sums mo ks) (sums le ks) (goal - own) = g2) (hdg : Dim goal) (hown : -(2 ^ 33) < own ∧ own < 2 ^ 33)
    (hlen : len = sumI (Nd.size up) ks) (hB : Bnd up ks) (hQ : Q (.bool true) cells) :
    V_law_H G (n + 12) [some v0,some v1,some v2,some (.bool up),some v4,some v5,some v6,some v7,some v8,some (.lst (ks.map (Nd.row fontV up))),some v10,some v11,some v12,some (.int len),some (.lst ((sums mo ks).map .int)),some (.lst ((sums le ks).map .int)),some v16,some v17,some v18,some (.int own),some v20,some (.int goal),some v22,
      some (boxI (if up then 3 else 2) w h d (.lst (ks.map (Nd.v fontV))) g.sign g.order g.a g.b),some v24,some v25,some v26,some v27,some g2.told] cells (back Q) X := by
  have BG : BndG (sums mo ks) (sums le ks) (goal - own) (2 ^ 40) := by
    refine bnd_g (by decide) ?_ (fun j => ?_) (fun j => ?_)
    · unfold Dim at hdg; omega
    · have := hB.mo j; omega
    · have := hB.le j; omega
  have A := agree (sums mo ks) (sums le ks) (goal - own)
  have e1 : (2 : Int) ^ 40 ≤ 2 ^ 60 ∧ (2 : Int) ^ 40 ≤ 2 ^ 64 := by decide
  have wd : ∀ {z : Int},-(2 ^ 40) < z ∧ z < 2 ^ 40 → (-(2 ^ 60) < z ∧ z < 2 ^ 60) ∧ -(2 ^ 64) < z ∧ z < 2 ^ 64 := fun h => by omega
  have B1 := wd BG.a1; have B2 := wd BG.b1; have B3 := BG.o1; have B4 := wd BG.a2; have B5 := wd BG.b2
  have Asign := A.sign; have Aorder := A.order; have Ar0 := A.r0; have Ar1 := A.r1; have Ab := A.b; have Aab := A.ab; have Anear := A.near; have Alast := A.last
  rw [hg] at B1 B2 B3 Asign Aorder Ar0 Ar1 Ab Aab Anear Alast
  rw [hg2] at B4 B5 Asign Aorder Ar0 Ar1 Aab Anear
  refine And.intro ⟨ints_ok [_,_,_],ints_ok [_,_,_]⟩ ?_
  rw [Asign,Aorder,eqT]
  refine brF (Int.not_le.mpr Ab) (And.intro (mulS B1.2.1 B1.2.2) (And.intro (mulS B4.2.1 B4.2.2) (brnF Aab ?_)))
  refine c_placed hG I hq hF (Nat.le_trans hkl (by decide)) hkx rfl B1.1 ⟨Ab,B2.1.2⟩ Asign Aorder B4.2 B5.2 Anear ?_ hQ
  rw [size_sum ks 0 hkx,flex_sum B3 ks 0 hkx,Int.zero_add,Int.zero_add,Alast,hlen,Asign,Ar0,Ar1]
theorem law_G (hG : G.Ok) (I : IsG G) (hq : G.q = true) {n : Nat} {up : Bool} {ks : List Nd} {v0 v1 v2 v4 v5 v6 v7 v8 v10 v11 v12 v16 v17 v18 v20 v22 v25 v26 : V} {w h d own goal len : Int} {g : SG}
    (hF : FontOk G fontV) (hkx : ∀ x ∈ ks,x.Ok up) (hkl : ks.length ≤ 13) (hg : setG (sums mo ks) (sums le ks) (goal - own) = g) (hdg : Dim goal) (hown : -(2 ^ 33) < own ∧ own < 2 ^ 33)
    (hlen : len = sumI (Nd.size up) ks) (hB : Bnd up ks) (hQ : Q (.bool true) cells) :
    V_law_G G (n + 12) [some v0,some v1,some v2,some (.bool up),some v4,some v5,some v6,some v7,some v8,some (.lst (ks.map (Nd.row fontV up))),some v10,some v11,some v12,some (.int len),some (.lst ((sums mo ks).map .int)),some (.lst ((sums le ks).map .int)),some v16,some v17,some v18,some (.int own),some v20,some (.int goal),some v22,
      some (boxI (if up then 3 else 2) w h d (.lst (ks.map (Nd.v fontV))) g.sign g.order g.a g.b),some (.tup [.int (if ks = [] then 0 else g.r0),.int (if ks = [] then 0 else g.r1)]),some v25,some v26,some (.tup [.int (if up then 3 else 2),.int w,.int h,.int d]),none] cells (back Q) X := by
  have A := agree (sums mo ks) (sums le ks) (goal - own)
  have Ar0 := A.r0; have Ar1 := A.r1
  rw [hg] at Ar0 Ar1
  refine c_ltold hG I hq rfl rfl ?_ (fun j => ?_) (fun j => ?_) ?_
  · unfold Dim at hdg; omega
  · have := hB.mo j; omega
  · have := hB.le j; omega
  generalize hg2 : toldG (sums mo ks) (sums le ks) (goal - own) = g2 at *
  refine And.intro ⟨ints_ok [_,_,_,_],ints_ok [_,_,_,_]⟩ ?_
  rw [eqT]
  refine And.intro (fun e => ?_) fun e => ?_
  · have e : ks = [] := List.map_eq_nil_iff.mp e
    refine And.intro ⟨ints_ok [_,_],ints_ok [_,_]⟩ ?_
    rw [if_pos e,if_pos e,eqT]
    exact law_H hG I hq hF hkx hkl hg hg2 hdg hown hlen hB hQ
  · have e : ks ≠ [] := fun q => e (by rw [q]; rfl)
    refine And.intro ⟨ints_ok [_,_],ints_ok [_,_]⟩ ?_
    rw [if_neg e,if_neg e,Ar0,Ar1,eqT]
    exact law_H hG I hq hF hkx hkl hg hg2 hdg hown hlen hB hQ
theorem law_F (hG : G.Ok) (I : IsG G) (hq : G.q = true) {n : Nat} {up : Bool} {ks : List Nd} {v0 v1 v2 v4 v5 v6 v7 v8 v10 v11 v12 v16 v17 v20 v22 : V} {w h d low own goal len : Int} {g : SG}
    (hF : FontOk G fontV) (hkx : ∀ x ∈ ks,x.Ok up) (hkl : ks.length ≤ 13) (hg : setG (sums mo ks) (sums le ks) (goal - own) = g)
    (hu : up = true → w = maxI (Nd.high true) ks ∧ h = goal ∧ d = low) (hn : up = false → w = goal ∧ h = maxI (Nd.high false) ks ∧ d = maxI (Nd.deep false) ks) (hdg : Dim goal) (hown : -(2 ^ 33) < own ∧ own < 2 ^ 33)
    (hlen : len = sumI (Nd.size up) ks) (hB : Bnd up ks) (hQ : Q (.bool true) cells) :
    V_law_F G (n + 12) [some v0,some v1,some v2,some (.bool up),some v4,some v5,some v6,some v7,some v8,some (.lst (ks.map (Nd.row fontV up))),some v10,some v11,some v12,some (.int len),some (.lst ((sums mo ks).map .int)),some (.lst ((sums le ks).map .int)),some v16,some v17,some (.int low),some (.int own),some v20,some (.int goal),some v22,
      some (boxI (if up then 3 else 2) w h d (.lst (ks.map (Nd.v fontV))) g.sign g.order g.a g.b),some (.tup [.int (if ks = [] then 0 else g.r0),.int (if ks = [] then 0 else g.r1)]),none,none,none,none] cells (back Q) X := by
  have hk6 : ks.length ≤ 16000000 := by omega
  have hk7 : 1 + ks.length ≤ 16000000 := by omega
  have mxL : ∀ {f : Nd → Int} {kk : KE},kk (.int (maxI f ks)) cells → maxL [.lst ([.int 0] ++ ks.map fun x => .int (f x))] cells kk := fun {f kk} hk =>
    ⟨0 :: ks.map f,by rw [List.map_cons,List.map_map]; rfl,Nat.succ_pos _,fun M h1 h2 => by rw [mx_unique h1 h2]; exact hk⟩
  refine compA (Nd.row fontV up) (fun x => .int (x.high up)) ks none (fun x _ kk h => h) hk6 fun _ => okL (by rw [List.length_map]; exact hk7) (mxL ?_)
  refine compA (Nd.row fontV up) (fun x => .int (x.deep up)) ks none (fun x _ kk h => h) hk6 fun _ => okL (by rw [List.length_map]; exact hk7) (mxL ?_)
  have fin := law_G (v25 := .int (maxI (Nd.high up) ks)) (v26 := .int (maxI (Nd.deep up) ks)) (v0 := v0) (v1 := v1) (v2 := v2) (v4 := v4) (v5 := v5) (v6 := v6) (v7 := v7) (v8 := v8) (v10 := v10) (v11 := v11) (v12 := v12) (v16 := v16) (v17 := v17) (v20 := v20) (v22 := v22) (v18 := .int low) (w := w) (h := h) (d := d) hG I hq hF hkx hkl hg hdg hown hlen hB (X := X) hQ (n := n)
  cases up with
  | true =>
    obtain ⟨rfl,rfl,rfl⟩ := hu rfl
    exact fin
  | false =>
    obtain ⟨rfl,rfl,rfl⟩ := hn rfl
    exact fin
theorem law_E (hG : G.Ok) (I : IsG G) (hq : G.q = true) {n : Nat} {up o : Bool} {ks gd : List Nd} {v0 v1 v2 v4 v5 v6 v8 v10 v16 v17 v22 ov : V} {w h d low own am goal len : Int} {g : SG} {t : List Cell} {c0 : Cell}
    (hF : FontOk G fontV) (hkx : ∀ x ∈ ks,x.Ok up) (hkl : ks.length ≤ 13) (hgo : ∀ x ∈ gd,x.Ok false) (hgl : gd.length ≤ 27) (hg : setG (sums mo ks) (sums le ks) (goal - own) = g)
    (hu : up = true → w = maxI (Nd.high true) ks ∧ h = goal ∧ d = low) (hn : up = false → w = goal ∧ h = maxI (Nd.high false) ks ∧ d = maxI (Nd.deep false) ks) (hda : Dim am) (hdg : Dim goal) (hown : -(2 ^ 33) < own ∧ own < 2 ^ 33)
    (hlen : len = sumI (Nd.size up) ks) (hB : Bnd up ks) (ht : (o = false ∧ ov = .none) ∨ (o = true ∧ ov = .cell 1 ∧ t = [.lst (gd.map (Nd.v fontV))])) (hQ : ∀ c,Q (.bool true) c) :
    V_law_E G (n + 12) [some v0,some v1,some v2,some (.bool up),some v4,some v5,some v6,some ov,some v8,some (.lst (ks.map (Nd.row fontV up))),some v10,some (.tup (ks.map Nd.desc)),some (.tup (gd.map Nd.desc)),some (.int len),some (.lst ((sums mo ks).map .int)),some (.lst ((sums le ks).map .int)),some v16,some v17,some (.int low),some (.int own),some (.int am),some (.int goal),some v22,
      some (boxI (if up then 3 else 2) w h d (.lst (ks.map (Nd.v fontV))) g.sign g.order g.a g.b),some (.tup [.int (if ks = [] then 0 else g.r0),.int (if ks = [] then 0 else g.r1)]),none,none,none,none] (c0 :: t) (back Q) X := by
  refine And.intro (by decide) (brF (small_of hda hdg) (c_dlist1 hG I (D := Nd.desc) (by omega) (fun x hx' kk h => c_desc hG I hq hF (hkx x hx') (by decide) h) (And.intro ⟨descs_ok ks,descs_ok ks⟩ ?_)))
  rw [eqT]
  rcases ht with ⟨_,rfl⟩ | ⟨_,rfl,rfl⟩
  · exact law_F hG I hq hF hkx hkl hg hu hn hdg hown hlen hB (hQ _)
  · refine c_dlist1 hG I (v := Nd.v fontV) (D := Nd.desc) (xs := gd) (by omega) (fun x hx' kk h => c_desc hG I hq hF (hgo x hx') (by decide) h) (And.intro ⟨descs_ok gd,descs_ok gd⟩ ?_)
    rw [eqT]
    exact law_F hG I hq hF hkx hkl hg hu hn hdg hown hlen hB (hQ _)
theorem law_K (hG : G.Ok) (I : IsG G) (hq : G.q = true) {n : Nat} {up o : Bool} {xs ks gd : List Nd} {v0 v1 v2 v5 v8 v10 v17 ov : V} {mode low own most len am goal : Int} {t : List Cell} {c0 : Cell}
    (hov : OutOk o up ov t) (hm : mode = 0 ∨ mode = 1) (hl : xs.length ≤ 13) (hx : ∀ x ∈ xs,x.Ok up) (hks : ks = keptN o xs) (hgo : ∀ x ∈ gd,x.Ok false) (hgl : gd.length ≤ 27) (hgv : gd.map (Nd.v fontV) = penV 77 :: (if o then xs.flatMap (Nd.out fontV) else []))
    (hmo : 0 ≤ most ∧ most ≤ 1073741823) (hlow1 : up = true → low = if most < lastD ks then most else lastD ks) (hlow0 : up = false → low = 0) (hown : own = len - low) (hlen : len = sumI (Nd.size up) ks)
    (hkx : ∀ x ∈ ks,x.Ok up) (hkl : ks.length ≤ 13) (hB : Bnd up ks) (hF : FontOk G fontV) (hown2 : -(2 ^ 33) < own ∧ own < 2 ^ 33) (hgoal : goalF mode am own = goal) (hQ : ∀ c,Q (.bool true) c) :
    V_law_K G (n + 12) [some v0,some v1,some v2,some (.bool up),some (.int mode),some v5,some (.lst (xs.map (Nd.part fontV up))),some ov,some v8,some (.lst (ks.map (Nd.row fontV up))),some v10,some (.tup (ks.map Nd.desc)),some (.tup (gd.map Nd.desc)),some (.int len),some (.lst ((sums mo ks).map .int)),some (.lst ((sums le ks).map .int)),some (.int most),some v17,some (.int low),some (.int own),
      some (.int am),some (.int goal),none,none,none,none,none,none,none] (c0 :: t) (back Q) X := by
  have hl6 : xs.length ≤ 16000000 := by omega
  refine compA (Nd.part fontV up) (Nd.v fontV) xs none (fun x _ kk h => h) hl6 fun _ => ?_
  have big : ¬(Dim am ∧ Dim goal) → ∀ {B : Prop} {A : Prop},A → brW (decide (1073741824 ≤ if (if goal < 0 then -goal else goal) < (if am < 0 then -am else am) then (if am < 0 then -am else am) else if goal < 0 then -goal else goal)) A B := fun h _ _ a => brT (big_of h) a
  rcases hov with ⟨rfl,rfl,rfl⟩ | ⟨rfl,rfl,rfl,rfl⟩
  · rw [keptN_f] at hks
    subst hks
    cases up with
    | true =>
      obtain ⟨c1,c2,c3,c4,c5⟩ := cc_all hx
      have hd' : (if most < (ks.foldl Cc.step cc0).d then most else (ks.foldl Cc.step cc0).d) = low := by rw [hlow1 rfl,c5]
      have hnt : (if most < (ks.foldl Cc.step cc0).d then (ks.foldl Cc.step cc0).n + ((ks.foldl Cc.step cc0).d - most) else (ks.foldl Cc.step cc0).n) = own := by
        rw [hown,hlen,← c1,← hd']; split <;> lia
      refine c_vpack hG I hq hF (by omega) hx hm hmo ?_ ?_
      · dsimp only
        rw [hnt,hd',c2,c3,c4,hgoal]
        intro hda hdg
        exact law_E hG I hq hF hkx hkl hgo hgl rfl (fun _ => ⟨rfl,rfl,rfl⟩) (fun q => nomatch q) hda hdg hown2 hlen hB (.inl ⟨rfl,rfl⟩) hQ
      · dsimp only
        rw [hnt,hgoal]
        intro hnd l
        exact And.intro (by decide) (big hnd (hQ _))
    | false =>
      obtain ⟨c1,c2,c3,c4,c5⟩ := ac_all hx
      have hn' : (ks.foldl Ac.step ac0).n = own := by rw [hown,hlen,hlow0 rfl,c1]; lia
      refine c_hpack0 hG I hq hF (by omega) hx hm ?_ ?_
      · dsimp only
        rw [hn',c2,c3,c4,c5,hgoal]
        intro hda hdg
        exact law_E hG I hq hF hkx hkl hgo hgl rfl (fun q => nomatch q) (fun _ => ⟨rfl,rfl,rfl⟩) hda hdg hown2 hlen hB (.inl ⟨rfl,rfl⟩) hQ
      · rw [hn',hgoal]
        intro hnd l
        exact And.intro (by decide) (big hnd (hQ _))
  · rw [keptN_t] at hks
    obtain ⟨c1,c2,c3,c4,c5⟩ := ac_all hkx
    have hn' : (ks.foldl Ac.step ac0).n = own := by rw [hown,hlen,hlow0 rfl,c1]; lia
    refine c_hpack1 hG I hq hF (by omega) hx hm (o := 1) (ol := [penV 77]) rfl (by decide) ⟨⟨trivial,trivial⟩,trivial⟩ ?_ ?_
    · dsimp only
      rw [← hks,hn',c2,c3,c4,c5,hgoal]
      intro hda hdg
      rw [if_pos rfl] at hgv
      rw [List.singleton_append,← hgv]
      exact law_E (t := [.lst (gd.map (Nd.v fontV))]) hG I hq hF hkx hkl hgo hgl rfl (fun q => nomatch q) (fun _ => ⟨rfl,rfl,rfl⟩) hda hdg hown2 hlen hB (.inr ⟨rfl,rfl,rfl⟩) hQ
    · rw [← hks,hn',hgoal]
      intro hnd l
      refine And.intro (by decide) (big hnd ?_)
      refine pen_list hG.off I.off (c_Penalty hG.off I.off (by decide) (by decide) (pen_list hG.off I.off (And.intro ⟨descs_ok [.pen 77],descs_ok [.pen 77]⟩ ?_)))
      rw [eqT]
      exact hQ _
theorem law_D (hG : G.Ok) (I : IsG G) (hq : G.q = true) {n : Nat} {up o : Bool} {xs ks gd : List Nd} {v0 v2 v5 v8 v10 v17 ov : V} {mode low own most len a b : Int} {t : List Cell}
    (hov : OutOk o up ov t) (hm : mode = 0 ∨ mode = 1) (hb : Bud b 100) (hl : xs.length ≤ 13) (hx : ∀ x ∈ xs,x.Ok up) (hks : ks = keptN o xs) (hgo : ∀ x ∈ gd,x.Ok false) (hgl : gd.length ≤ 27) (hgv : gd.map (Nd.v fontV) = penV 77 :: (if o then xs.flatMap (Nd.out fontV) else []))
    (hmo : 0 ≤ most ∧ most ≤ 1073741823) (hlow1 : up = true → low = if most < lastD ks then most else lastD ks) (hlow0 : up = false → low = 0) (hown : own = len - low) (hlen : len = sumI (Nd.size up) ks) (hQ : ∀ c,Q (.bool true) c) :
    V_law_D G (n + 12) [some v0,some (.cell 0),some v2,some (.bool up),some (.int mode),some v5,some (.lst (xs.map (Nd.part fontV up))),some ov,some v8,some (.lst (ks.map (Nd.row fontV up))),some v10,some (.tup (ks.map Nd.desc)),some (.tup (gd.map Nd.desc)),some (.int len),some (.lst ((sums mo ks).map .int)),some (.lst ((sums le ks).map .int)),some (.int most),some v17,some (.int low),some (.int own),
      none,none,none,none,none,none,none,none,none] (HPc a b :: t) (back Q) X := by
  have hkx : ∀ x ∈ ks,x.Ok up := by rw [hks]; exact keptN_ok hx
  have hkl : ks.length ≤ 13 := by rw [hks]; exact Nat.le_trans keptN_len hl
  have hB := bounds hkx hkl
  have hF := fontOk hG I
  have hlw : -24 ≤ low ∧ low ≤ 16777215 := by
    cases up with
    | true =>
      have h1 := hlow1 rfl; have h3 := hB.last rfl
      split at h1 <;> omega
    | false => have := hlow0 rfl; omega
  have hown2 : -(2 ^ 33) < own ∧ own < 2 ^ 33 := by have := hB.size; omega
  have w40 : ∀ {z : Int},-(2 ^ 32) < z ∧ z < 2 ^ 32 → -(2 ^ 40) < z ∧ z < 2 ^ 40 := fun h => by omega
  refine c_lamount hG I (h := 0) (a := a) (b := b) rfl (hb.le (by decide)) ⟨by omega,by omega⟩ (w40 (hB.mo 0)) (w40 (hB.le 0)) fun am a' b' ham => ?_
  refine br (fun p => ?_) fun p => ?_
  · exact law_K hG I hq hov hm hl hx hks hgo hgl hgv hmo hlow1 hlow0 hown hlen hkx hkl hB hF hown2 (by unfold goalF; rw [if_neg (by lia)]) hQ
  · exact law_K hG I hq hov hm hl hx hks hgo hgl hgv hmo hlow1 hlow0 hown hlen hkx hkl hB hF hown2 (by unfold goalF; rw [if_pos (by lia)]) hQ
theorem law_J (hG : G.Ok) (I : IsG G) (hq : G.q = true) {n : Nat} {up o : Bool} {xs ks gd : List Nd} {v0 v2 v5 v8 v10 ov : V} {mode most last len a b : Int} {t : List Cell}
    (hov : OutOk o up ov t) (hm : mode = 0 ∨ mode = 1) (hb : Bud b 100) (hl : xs.length ≤ 13) (hx : ∀ x ∈ xs,x.Ok up) (hks : ks = keptN o xs) (hgo : ∀ x ∈ gd,x.Ok false) (hgl : gd.length ≤ 27) (hgv : gd.map (Nd.v fontV) = penV 77 :: (if o then xs.flatMap (Nd.out fontV) else []))
    (hmo : 0 ≤ most ∧ most ≤ 1073741823) (hlast : up = true → last = lastD ks) (hlen : len = sumI (Nd.size up) ks) (hQ : ∀ c,Q (.bool true) c) :
    V_law_J G (n + 12) [some v0,some (.cell 0),some v2,some (.bool up),some (.int mode),some v5,some (.lst (xs.map (Nd.part fontV up))),some ov,some v8,some (.lst (ks.map (Nd.row fontV up))),some v10,some (.tup (ks.map Nd.desc)),some (.tup (gd.map Nd.desc)),some (.int len),some (.lst ((sums mo ks).map .int)),some (.lst ((sums le ks).map .int)),some (.int most),some (.int last),none,none,
      none,none,none,none,none,none,none,none,none] (HPc a b :: t) (back Q) X := by
  cases up with
  | true =>
    have hlast := hlast rfl
    subst hlast
    exact law_D hG I hq hov hm hb hl hx hks hgo hgl hgv hmo (fun _ => rfl) (fun q => nomatch q) rfl hlen hQ
  | false => exact law_D hG I hq hov hm hb hl hx hks hgo hgl hgv hmo (fun q => nomatch q) (fun _ => rfl) rfl hlen hQ
theorem row_more {n : Nat} {up : Bool} {x : Nd} {i : Nat} {k : KT} (h : k (mo i x).isSome cells) : (tA (tOp pNeU (wIdx (wL 0) (wC (.int 3))) (wTup lN)) (tA (tOp pEqU (wIdx (wIdx (wL 0) (wC (.int 3))) (wC (.int 1))) (wL 1)) tT)) G n [some (x.row fontV up),some (.int i)] cells k X := by
  unfold Nd.row
  cases hr : x.rest with
  | none =>
    rw [mo_none hr] at h
    exact And.intro dOk0 h
  | some q =>
    obtain ⟨s,so,l,lo⟩ := q
    rw [mo_some hr] at h
    refine And.intro dOkR (br (fun e => ?_) fun e => ?_)
    · rw [if_pos e] at h; exact h
    · rw [if_neg e] at h; exact h
theorem row_less {n : Nat} {up : Bool} {x : Nd} {i : Nat} {k : KT} (h : k (le i x).isSome cells) : (tA (tOp pNeU (wIdx (wL 0) (wC (.int 3))) (wTup lN)) (tA (tOp pEqU (wIdx (wIdx (wL 0) (wC (.int 3))) (wC (.int 3))) (wL 1)) tT)) G n [some (x.row fontV up),some (.int i)] cells k X := by
  unfold Nd.row
  cases hr : x.rest with
  | none =>
    rw [le_none hr] at h
    exact And.intro dOk0 h
  | some q =>
    obtain ⟨s,so,l,lo⟩ := q
    rw [le_some hr] at h
    refine And.intro dOkR (br (fun e => ?_) fun e => ?_)
    · rw [if_pos e] at h; exact h
    · rw [if_neg e] at h; exact h
theorem row_mv {n : Nat} {up : Bool} {x : Nd} {i : Nat} {k : KE} (p : (mo i x).isSome = true) (h : k (.int ((mo i x).getD 0)) cells) : (wIdx (wIdx (wL 0) (wC (.int 3))) (wC (.int 0))) G n [some (x.row fontV up),some (.int i)] cells k X := by
  unfold Nd.row
  cases hr : x.rest with
  | none => rw [mo_none hr] at p; cases p
  | some q =>
    obtain ⟨s,so,l,lo⟩ := q
    rw [mo_some hr] at h p
    by_cases e : so = (i : Int)
    · rw [if_pos e] at h; exact h
    · rw [if_neg e] at p; cases p
theorem row_lv {n : Nat} {up : Bool} {x : Nd} {i : Nat} {k : KE} (p : (le i x).isSome = true) (h : k (.int ((le i x).getD 0)) cells) : (wIdx (wIdx (wL 0) (wC (.int 3))) (wC (.int 2))) G n [some (x.row fontV up),some (.int i)] cells k X := by
  unfold Nd.row
  cases hr : x.rest with
  | none => rw [le_none hr] at p; cases p
  | some q =>
    obtain ⟨s,so,l,lo⟩ := q
    rw [le_some hr] at h p
    by_cases e : lo = (i : Int)
    · rw [if_pos e] at h; exact h
    · rw [if_neg e] at p; cases p
theorem law_C (hG : G.Ok) (I : IsG G) (hq : G.q = true) {n : Nat} {up o : Bool} {xs ks gd : List Nd} {v0 v2 v5 v8 v10 ov : V} {mode a b : Int} {t : List Cell}
    (hov : OutOk o up ov t) (hm : mode = 0 ∨ mode = 1) (hb : Bud b 101) (hl : xs.length ≤ 13) (hx : ∀ x ∈ xs,x.Ok up) (hks : ks = keptN o xs) (hgo : ∀ x ∈ gd,x.Ok false) (hgl : gd.length ≤ 27) (hgv : gd.map (Nd.v fontV) = penV 77 :: (if o then xs.flatMap (Nd.out fontV) else [])) (hQ : ∀ c,Q (.bool true) c) :
    V_law_C G (n + 12) [some v0,some (.cell 0),some v2,some (.bool up),some (.int mode),some v5,some (.lst (xs.map (Nd.part fontV up))),some ov,some v8,some (.lst (ks.map (Nd.row fontV up))),some v10,some (.tup (ks.map Nd.desc)),some (.tup (gd.map Nd.desc)),none,none,none,none,none,none,none,
      none,none,none,none,none,none,none,none,none] (HPc a b :: t) (back Q) X := by
  have hkl : ks.length ≤ 13 := by rw [hks]; exact Nat.le_trans keptN_len hl
  have hk6 : ks.length ≤ 16000000 := by omega
  have hk0 : ([] : List V).length + ks.length ≤ 16000000 := by rw [List.length_nil]; omega
  refine compA (Nd.row fontV up) (fun x => .int (x.size up)) ks none (fun x _ kk h => h) hk6 fun _ => Exists.intro (ks.map (Nd.size up)) (And.intro (by rw [List.map_map]; rfl) ?_)
  refine And.intro (by decide) (And.intro ⟨hq,by decide⟩ (compA (fun i : Nat => V.int i) (fun i : Nat => V.int (sumO (mo i) ks)) (List.range 4) none (fun i _ kk h => ?_) (by decide) fun _ => ?_))
  · exact compG (Nd.row fontV up) (fun x => .int ((mo i x).getD 0)) (fun x => (mo i x).isSome) ks none [] (fun x _ kk h => row_more h) (fun x _ p kk h => row_mv p h) hk0 fun _ => ⟨((ks.filter fun x => (mo i x).isSome).map fun x => (mo i x).getD 0),by rw [List.map_map]; rfl,h⟩
  refine And.intro (by decide) (And.intro ⟨hq,by decide⟩ (compA (fun i : Nat => V.int i) (fun i : Nat => V.int (sumO (le i) ks)) (List.range 4) none (fun i _ kk h => ?_) (by decide) fun _ => ?_))
  · exact compG (Nd.row fontV up) (fun x => .int ((le i x).getD 0)) (fun x => (le i x).isSome) ks none [] (fun x _ kk h => row_less h) (fun x _ p kk h => row_lv p h) hk0 fun _ => ⟨((ks.filter fun x => (le i x).isSome).map fun x => (le i x).getD 0),by rw [List.map_map]; rfl,h⟩
  refine And.intro (by decide) (c_take hG I (h := 0) (a := a) (b := b) rfl (hb.le (by decide)) (by decide) fun d a1 b1 h1 h2 u1 => ?_)
  have key : ∃ most : Int,ixOf [V.int (2 ^ Int.toNat 30 - 1),.int 3,.int 0] d = some (.int most) ∧ 0 ≤ most ∧ most ≤ 1073741823 := by
    have : d = 0 ∨ d = 1 ∨ d = 2 := by lia
    rcases this with rfl | rfl | rfl
    · exact ⟨_,rfl,by decide⟩
    · exact ⟨_,rfl,by decide⟩
    · exact ⟨_,rfl,by decide⟩
  obtain ⟨most,key,hmo⟩ := key
  refine seqI (by omega) key ?_
  have hf : (ks.filter Nd.seen).length ≤ 13 := Nat.le_trans (List.length_filter_le ..) hkl
  refine compG (Nd.row fontV up) (fun x => .int (x.deep up)) Nd.seen ks none [] (fun x _ kk h => h) (fun x _ _ kk h => h) hk0 fun _ => okL (by rw [List.nil_append,List.length_map,List.length_singleton]; omega) (last_idx (ds := (ks.filter Nd.seen).map (Nd.deep up)) (by rw [List.nil_append,List.map_map]; rfl) ?_)
  exact law_J hG I hq hov hm (hb.st u1) hl hx hks hgo hgl hgv hmo (fun e => by rw [e]; rfl) rfl hQ
theorem law_M (hG : G.Ok) (I : IsG G) (hq : G.q = true) {n : Nat} {up o : Bool} {xs ks : List Nd} {v0 v2 v5 ov : V} {mode a b : Int} {t : List Cell}
    (hov : OutOk o up ov t) (hm : mode = 0 ∨ mode = 1) (hb : Bud b 101) (hl : xs.length ≤ 13) (hx : ∀ x ∈ xs,x.Ok up) (hks : ks = keptN o xs) (hQ : ∀ c,Q (.bool true) c) :
    V_law_M G (n + 12) [some v0,some (.cell 0),some v2,some (.bool up),some (.int mode),some v5,some (.lst (xs.map (Nd.part fontV up))),some ov,some (.lst (ks.map (Nd.part fontV up))),some (.lst (ks.map (Nd.row fontV up))),some (.lst (if o then xs.flatMap (Nd.out fontV) else [])),none,none,none,none,none,none,none,none,none,
      none,none,none,none,none,none,none,none,none] (HPc a b :: t) (back Q) X := by
  have hkx : ∀ x ∈ ks,x.Ok up := by rw [hks]; exact keptN_ok hx
  have hkl : ks.length ≤ 13 := by rw [hks]; exact Nat.le_trans keptN_len hl
  have hF := fontOk hG I
  have hgd : ∃ gd : List Nd,gd.map (Nd.v fontV) = penV 77 :: (if o then xs.flatMap (Nd.out fontV) else []) ∧ (∀ x ∈ gd,x.Ok false) ∧ gd.length ≤ 27 := by
    cases o with
    | false => exact ⟨[.pen 77],rfl,fun x hx => by rw [List.mem_singleton.mp hx]; exact sz_of (by decide),by decide⟩
    | true =>
      refine ⟨.pen 77 :: xs.flatMap Nd.outN,by rw [if_pos rfl,outs_v]; rfl,fun x hx' => ?_,?_⟩
      · cases hx' with
        | head => exact sz_of (by decide)
        | tail _ hx' =>
          rcases hov with ⟨q,_⟩ | ⟨_,rfl,_⟩
          · cases q
          obtain ⟨z,hz,hz'⟩ := List.mem_flatMap.mp hx'
          exact outN_ok (hx z hz) x hz'
      · have := flat_len (f := fontV) xs
        rw [outs_v,List.length_map] at this
        rw [List.length_cons]; omega
  obtain ⟨gd,hgv,hgo,hgl⟩ := hgd
  refine compA (Nd.part fontV up) (Nd.v fontV) ks none (fun x _ kk h => h) (by omega) fun _ => c_dlist1 hG I (v := Nd.v fontV) (D := Nd.desc) (xs := ks) (by omega) (fun x hx' kk h => c_desc hG I hq hF (hkx x hx') (by decide) h) ?_
  refine c_Penalty hG I (by decide) (by decide) (okL ?_ ?_)
  · have := congrArg List.length hgv
    rw [List.length_map,List.length_cons] at this
    rw [List.length_singleton]; omega
  rw [List.singleton_append,← hgv]
  exact c_dlist1 hG I (v := Nd.v fontV) (D := Nd.desc) (xs := gd) (by omega) (fun x hx' kk h => c_desc hG I hq hF (hgo x hx') (by decide) h) (law_C hG I hq hov hm hb hl hx hks hgo hgl hgv hQ)
theorem law_B (hG : G.Ok) (I : IsG G) (hq : G.q = true) {n : Nat} {up o : Bool} {xs : List Nd} {v0 v2 v5 ov : V} {mode a b : Int} {t : List Cell}
    (hov : OutOk o up ov t) (hm : mode = 0 ∨ mode = 1) (hb : Bud b 101) (hl : xs.length ≤ 13) (hx : ∀ x ∈ xs,x.Ok up) (hQ : ∀ c,Q (.bool true) c) :
    V_law_B G (n + 12) [some v0,some (.cell 0),some v2,some (.bool up),some (.int mode),some v5,some (.lst (xs.map (Nd.part fontV up))),some ov,none,none,none,none,none,none,none,none,none,none,none,none,
      none,none,none,none,none,none,none,none,none] (HPc a b :: t) (back Q) X := by
  have hl0 : ([] : List V).length + xs.length ≤ 16000000 := by rw [List.length_nil]; omega
  refine compG (Nd.part fontV up) (Nd.part fontV up) (fun x => !o || !isOut x) xs none [] (fun x _ kk h => ?_) (fun x _ _ kk h => h) hl0 fun _ => ?_
  · rcases hov with ⟨rfl,rfl,rfl⟩ | ⟨rfl,_,rfl,rfl⟩
    · exact h
    · rcases seen_out x fontV with ⟨e,e2⟩ | ⟨e,⟨e2,e3⟩ | ⟨e2,e3⟩⟩
      · rw [e2] at h
        exact brB (fun _ => h) fun q => by rw [e] at q; cases q
      · rw [e2] at h
        exact brB (fun _ => h) fun _ => And.intro (fun _ => h) fun q => absurd e3 q
      · rw [e2] at h
        exact brB (fun q => by rw [e] at q; cases q) fun _ => And.intro (fun q => absurd q e3) fun _ => h
  rw [List.nil_append]
  have hkl : (keptN o xs).length ≤ 13 := Nat.le_trans keptN_len hl
  refine compA (Nd.part fontV up) (Nd.row fontV up) (keptN o xs) none (fun x _ kk h => h) (by omega) fun _ => ?_
  have fin := law_M (v0 := v0) (v2 := v2) (v5 := v5) (n := n) (a := a) (X := X) hG I hq hov hm hb hl hx rfl hQ
  rcases hov with ⟨rfl,rfl,rfl⟩ | ⟨rfl,rfl,rfl,rfl⟩
  · exact fin
  · exact comp2G (Nd.part fontV false) (Nd.out fontV) 2 (fun y0 u kk h => h) xs none none [] (fun x _ => ⟨out2 fontV x,fun y1 kk h => h⟩) (by rw [List.length_nil]; omega) fun _ => fin
theorem law_N (hG : G.Ok) (I : IsG G) (hq : G.q = true) {n : Nat} {up : Bool} {xs : List Nd} {v0 v2 v5 : V} {mode a b : Int}
    (hm : mode = 0 ∨ mode = 1) (hb : Bud b 102) (hl : xs.length ≤ 13) (hx : ∀ x ∈ xs,x.Ok up) (hQ : ∀ c,Q (.bool true) c) :
    V_law_N G (n + 12) [some v0,some (.cell 0),some v2,some (.bool up),some (.int mode),some v5,some (.lst (xs.map (Nd.part fontV up))),none,none,none,none,none,none,none,none,none,none,none,none,none,
      none,none,none,none,none,none,none,none,none] [HPc a b] (back Q) X := by
  refine brB (fun _ => law_B hG I hq (.inl ⟨rfl,rfl,rfl⟩) hm (hb.le (by decide)) hl hx hQ) fun e => c_take hG I (h := 0) (a := a) (b := b) rfl (hb.le (by decide)) (by decide) fun d a1 b1 h1 h2 u1 => br (fun _ => law_B hG I hq (.inl ⟨rfl,rfl,rfl⟩) hm (hb.st u1) hl hx hQ)
    fun _ => c_Penalty hG I (by decide) (by decide) (law_B (o := true) (t := [.lst [penV 77]]) hG I hq (.inr ⟨rfl,e,rfl,rfl⟩) hm (hb.st u1) hl hx hQ)
theorem law_w (hG : G.Ok) (I : IsG G) (hq : G.q = true) {n : Nat} {ns : List Int} (hns : ns.length ≤ 63) (hQ : ∀ c,Q (.bool true) c) :
    V_law G (n + 12) [some (.lst (ns.map .int)),none,none,none,none,none,none,none,none,none,none,none,none,none,none,none,none,none,none,none,none,none,none,none,none,none,none,none,none] [] (back Q) X := by
  have hb : Bud 0 1000 := by unfold Bud; decide
  refine c_heap hG I (by omega) fun a0 => c_font hG I hq ?_
  refine c_take hG I (h := 0) (a := a0) (b := 0) rfl (hb.le (by decide)) (by decide) fun d1 a1 b1 h1 h2 u1 => c_take hG I (h := 0) (a := a1) (b := b1) rfl ((hb.st u1).le (by decide)) (by decide) fun d2 a2 b2 h3 h4 u2 => c_take hG I (h := 0) (a := a2) (b := b2) rfl (((hb.st u1).st u2).le (by decide)) (by decide) fun d3 a3 b3 h5 h6 u3 => ?_
  have key : ∃ o : Int,ixOf [V.int 1,.int 4] d3 = some (.int o) ∧ 1 ≤ o ∧ o ≤ 4 := by
    have : d3 = 0 ∨ d3 = 1 := by lia
    rcases this with rfl | rfl
    · exact ⟨_,rfl,by decide⟩
    · exact ⟨_,rfl,by decide⟩
  obtain ⟨ords,key,ho⟩ := key
  refine seqI (by omega) key ?_
  have hm : d2 = 0 ∨ d2 = 1 := by lia
  have hb3 : Bud b3 997 := ((hb.st u1).st u2).st u3
  generalize decide (d1 = 1) = up
  refine c_take hG I (h := 0) (a := a3) (b := b3) rfl (hb3.le (by decide)) (by decide) fun d a4 b4 h7 h8 u4 => And.intro (by lia) (And.intro ⟨hq,by omega⟩ ?_)
  have rl : (rngL (3 + d).toNat).length = (3 + d).toNat := by unfold rngL; rw [List.length_map,List.length_range]
  have r13 : (3 + d).toNat ≤ 13 := by omega
  refine comp_parts (f := fontV) (up := up) (fun yy a b kk hb hk => c_part hG I hq (fontOk hG I).nc ho rfl hb hk) _ none [] a4 b4 ((hb3.st u4).le (by rw [rl]; omega)) (by rw [rl,List.length_nil]; omega) (fun x hx => nomatch hx) fun xs a5 b5 y hl ok u5 => ?_
  exact law_N hG I hq hm (((hb3.st u4).le (show 102 + 30 * (rngL (3 + d).toNat).length ≤ 996 by rw [rl]; omega)).st u5) (by rw [hl,rl,List.length_nil]; omega) ok hQ
end Mine
end
section
open PySem PySem.W PyProof.Rows
namespace Mine
theorem kf_law : (gF 6 true 1106 1 [(S "script"),(S "heap"),(S "font"),(S "upright"),(S "mode"),(S "orders"),(S "parts"),(S "out"),(S "kept"),(S "rows"),(S "gone"),(S "due"),(S "due_out"),(S "length"),(S "more"),(S "less"),(S "most"),(S "last"),(S "low"),(S "own"),(S "amount"),(S "goal"),(S "items"),(S "found"),(S "report"),(S "high"),(S "deep"),(S "sizes"),(S "told")]).map Subtype.val = some V_law := by kernel_rfl
theorem c_lawT {G : Gx} (hG : G.Ok) (I : IsG G) (hq : G.q = true) {n : Nat} {ns : List Int} (hns : ns.length ≤ 63) {Q : V → List Cell → Prop} {X : List Cell → Prop} (hQ : ∀ c,Q (.bool true) c) : SemF (fun fr => fr = []) G (n + 13) (.ref 1106) [.lst (ns.map .int)] [] Q X := by
  obtain ⟨w,_,e⟩ := Option.map_eq_some_iff.mp kf_law
  refine sem_fnCF hG (fnC_of I (fnAt (i := 83) rfl) (fcAt (i := 83) rfl) w.2.1.1) (dv := []) (dvals := []) (fun _ _ _ => rvl_nil.mpr rfl) (bd I fun _ _ _ => by kernel_rfl) rfl fun C eG en hn hs hcl hC ⟨fr,e1,e2,e3⟩ =>
    ⟨_,w.2.2 C G (n + 12) ⟨⟨eG,en,hn,fun h _ => kd hs h,hC,IsG.to eG I⟩,fun y hy => ?_,fun _ => hq,fun _ => hs,fun _ _ => ⟨by rw [e2,e1],e3⟩,(fun h => nomatch h)⟩,by rw [e]; exact law_w hG I hq hns hQ⟩
  rcases hy with hy | hy
  · exact ⟨comp_has hcl hy,by unfold Env.kindOf; rw [hs,show (fdK 1106).scope.names.lookup y = _ from hy]; decide⟩
  · have := List.all_eq_true.mp w.2.1.2 _ (lookup_mem' hy)
    cases this
theorem k_law (P : Params) : nsIn (K P) mainGlobals (S "law") = some (some (.ref 1106)) := by kernel_rfl
theorem hn_law : lawD.name = S "law" := by kernel_rfl
theorem k_980 (P : Params) : (K P).lookup 980 = some (tupO [] 0) := by kernel_rfl
theorem k_981 (P : Params) : (K P).lookup 981 = some (tupO [] 0) := by kernel_rfl
theorem k_828 (P : Params) : (K P).lookup 828 = some (tupO [.int 0 1418,.int 0 1419,.int 0 1420,.int 0 1421,.int 0 1422,.int 0 1423] 0) := by kernel_rfl
theorem k_829 (P : Params) : (K P).lookup 829 = some (tupO [.int 0 1427,.int 196608 1428,.int 98304 1429,.int 65536 1430,.int 262144 1431,.int 655360 1432,.int 65536 1433] 0) := by kernel_rfl
theorem k_990 (P : Params) : (K P).lookup 990 = some (tupO [.int 97 1667,.int 5 1668,.int 7 1669,.int 2 1670] 0) := by kernel_rfl
theorem k_991 (P : Params) : (K P).lookup 991 = some (tupO [.int 98 1671,.int 11 1672,.int 3 1673,.int 0 1674] 0) := by kernel_rfl
theorem k_992 (P : Params) : (K P).lookup 992 = some (tupO [.int 99 1675,.int 4 1676,.int 1 1677,.int 9 1678] 0) := by kernel_rfl
theorem k_993 (P : Params) : (K P).lookup 993 = some (lstO [.ref 990,.ref 991,.ref 992] 0) := by kernel_rfl
theorem rvl_toks {an P Z r} : ∀ l : List (Int × Tok),RvL an P Z r (l.map fun p => V.int p.1) (l.map fun p => Value.int p.1 p.2)
  | [] => rvl_nil.mpr rfl
  | p :: l => rvl_cons.mpr ⟨_,_,rfl,rv_int.mpr ⟨p.2,rfl⟩,rvl_toks l⟩
theorem rvl_ints {an P Z r} : ∀ {ns : List Int} {us : List Value},us.length = ns.length → (∀ (i : Nat) (j : Int),ns[i]? = some j → ∃ t,us[i]? = some (.int j t)) → RvL an P Z r (ns.map .int) us
  | [],us,hl,_ => rvl_nil.mpr (List.eq_nil_of_length_eq_zero hl)
  | n :: ns,[],hl,_ => by cases hl
  | n :: ns,u :: us,hl,h => by
    obtain ⟨t,ht⟩ := h 0 n rfl
    simp only [List.getElem?_cons_zero,Option.some.injEq] at ht
    exact rvl_cons.mpr ⟨u,us,rfl,rv_int.mpr ⟨t,ht⟩,rvl_ints (by simpa using hl) fun i j e => h (i + 1) j e⟩
theorem pre_of {args : List WData} (h : row.toRowW.claim.pre args = true) : ∃ ns : List Int,args = [.list (ns.map .int)] ∧ ns.length ≤ 63 := by
  obtain ⟨h1,h2⟩ := pre_splitW h
  obtain ⟨d,r,rfl,h3,h4⟩ := hasAllW_cons (R := []) h1
  obtain ⟨xs,rfl,h5⟩ := hasW_list h3
  have hr : r = [] := hasAllW_nil h4
  subst hr
  have key : ∀ xs : List WData,WShape.hasItems [] xs .int = true → ∃ ns : List Int,xs = ns.map .int := by
    intro xs
    induction xs with
    | nil => intro _; exact ⟨[],rfl⟩
    | cons x r ih =>
      intro h
      simp only [WShape.hasItems,Bool.and_eq_true] at h
      obtain ⟨i,rfl⟩ := hasW_int h.1
      obtain ⟨ns,rfl⟩ := ih h.2
      exact ⟨i :: ns,rfl⟩
  obtain ⟨ns,rfl⟩ := key xs h5
  refine ⟨ns,rfl,?_⟩
  have h6 : (OpenLaw.pre PySem.Challenge.rw_rg0167_01).holds [] { args := [.list (ns.map .int)] } = true := h2
  simp [OpenLaw.pre,PySem.Challenge.rw_rg0167_01,WTm.holds,WTm.value,less?,Num.less?] at h6
  by_cases c : (63 : Int) < (ns.length : Int)
  · rw [decide_eq_true c] at h6; cases h6
  · omega
noncomputable def gx (w : World) (mg mb : Str → Option Value) (h : Heap) : Gx :=
  { prog := row.toRowW.prog,w := w,K := K w.params,p := q,loose := looseW q loose,mg := mg,mb := mb,an := anm,T := tb,ovf := 64,P0 := h.get?,zg := h.get?,q := true }
theorem gx_ok {w : World} {mg mb : Str → Option Value} {h : Heap} (X : (K w.params).In h) (T : TopRead q (looseW q loose) mg mb h) : (gx w mg mb h).Ok :=
  ⟨fun _ k => X.keeps k,fun _ k => T.keeps k,tb_ok w.params⟩
theorem gx_is {w : World} {mg mb : Str → Option Value} {h : Heap} (X : (K w.params).In h) : IsG (gx w mg mb h) := by
  have at_ : ∀ {a : Addr} {o : Obj} {Z : Zm},(K w.params).lookup a = some o → Zle h.get? Z → Z a = some o := fun e z => z _ _ (X _ _ e)
  refine ⟨rfl,fun Z r z => ?_,fun Z r z => ?_,fun Z r z => ?_,fun Z r z => ?_,fun Z r z => ?_,rfl,rfl,rfl⟩
  · refine rv_lst.mpr ⟨993,_,_,rfl,at_ (k_993 _) z,⟨0,rfl⟩,rvl_cons.mpr ⟨_,_,rfl,rv_tup.mpr ⟨990,_,_,rfl,at_ (k_990 _) z,?_⟩,rvl_cons.mpr ⟨_,_,rfl,rv_tup.mpr ⟨991,_,_,rfl,at_ (k_991 _) z,?_⟩,rvl_cons.mpr ⟨_,_,rfl,rv_tup.mpr ⟨992,_,_,rfl,at_ (k_992 _) z,?_⟩,rvl_nil.mpr rfl⟩⟩⟩⟩
    · exact rvl_toks [(97,1667),(5,1668),(7,1669),(2,1670)]
    · exact rvl_toks [(98,1671),(11,1672),(3,1673),(0,1674)]
    · exact rvl_toks [(99,1675),(4,1676),(1,1677),(9,1678)]
  · exact rv_tup.mpr ⟨828,_,_,rfl,at_ (k_828 _) z,rvl_toks [(0,1418),(0,1419),(0,1420),(0,1421),(0,1422),(0,1423)]⟩
  · exact rv_tup.mpr ⟨829,_,_,rfl,at_ (k_829 _) z,rvl_toks [(0,1427),(196608,1428),(98304,1429),(65536,1430),(262144,1431),(655360,1432),(65536,1433)]⟩
  · exact rv_tup.mpr ⟨980,_,_,rfl,at_ (k_980 _) z,rvl_nil.mpr rfl⟩
  · exact rv_tup.mpr ⟨981,_,_,rfl,at_ (k_981 _) z,rvl_nil.mpr rfl⟩
theorem walk : WalkO q loose (fun _ _ => True) (InK K) row.toRowW lawD [] (fun f vs => PySem.call f vs) := by
  intro w s₀ s₁ mg mb Gd Y a o pm cd doc dV kV ha ho hcd hdf hmg hgens args vals as hpre hlay hrd hwell hsm
  have X : (K w.params).In s₁.heap := Y
  have T := topRead_of Gd.T
  rw [hn_law,mg_of X T.g (k_law w.params)] at hmg
  cases hmg
  obtain ⟨ns,rfl,hns⟩ := pre_of hpre
  have hG := gx_ok (mg := mg) (mb := mb) X T
  have I := gx_is (mg := mg) (mb := mb) X
  cases hwell with
  | cons wl wn =>
  cases wn
  cases wl with
  | list hl wv =>
  rename_i l us
  have hint : us.length = ns.length ∧ ∀ (i : Nat) (j : Int),ns[i]? = some j → ∃ t,us[i]? = some (.int j t) := by
    have key : ∀ (us : List Value) (ns : List Int),WellAll w.params s₁.heap us (ns.map .int) → us.length = ns.length ∧ ∀ (i : Nat) (j : Int),ns[i]? = some j → ∃ t,us[i]? = some (.int j t) := by
      intro us ns
      induction ns generalizing us with
      | nil => intro h; cases h; exact ⟨rfl,fun i j e => by cases e⟩
      | cons n ns ih =>
        intro h
        cases h with
        | cons h1 h2 =>
          cases h1
          obtain ⟨a,b⟩ := ih _ h2
          refine ⟨by simp [a],fun i j e => ?_⟩
          cases i with
          | zero => cases e; exact ⟨_,rfl⟩
          | succ i => exact b i j e
    exact key us ns wv
  refine enter_call ?_
  refine c_lawT hG I rfl (n := 12) hns (Q := fun v _ => v = .bool true) (X := fun _ => False) (fun _ => rfl) callerA [] s₁.heap.get? s₁.heap.get? [] s₁ _ _ rfl rfl (fun _ h => nomatch h) ⟨fun _ => rfl,.inl rfl⟩ (by decide) (by decide) .refl .refl
    ⟨fun _ _ e => e,fun _ _ e => e,(fun _ h => nomatch h),List.nodup_nil⟩ trivial (rvl_cons.mpr ⟨_,_,rfl,rv_lst.mpr ⟨l,us,_,rfl,hl,⟨0,rfl⟩,rvl_ints hint.1 hint.2⟩,rvl_nil.mpr rfl⟩) (fun v c Z' g' s' u hz hr H cr zn rv hv => ?_) (fun _ _ _ _ h => h.elim)
  subst hv
  obtain rfl := rv_bool.mp rv
  obtain ⟨e1,e2⟩ := Prod.mk.inj hz.2
  exact ⟨.inl ⟨_,_,[],rfl,fun _ => rfl,ReadsW.bool true,by wrow_post,fun _ => ⟨List.nodup_nil,(fun _ hm => nomatch hm)⟩⟩,.of_keep fun b o e => H.kp b o e,e1.symm,.of_eq (e2.symm.trans hgens)⟩
end Mine
end
open PySem PySem.W PyProof.Rows
theorem PySem.Challenge.cw_rg0167_01_holds : PySem.Challenge.rw_rg0167_01.Holds :=
  Mine.head_ Mine.walk
