import PyProof.Rows.All
import Wide.All
import OpenK.AllK
import Wide.FinOn
import PySem.Challenge.RW_on0173_01
open PySem PySem.W PySem.Calls PyProof.Rows
set_option Elab.async false
set_option maxRecDepth 100000
set_option maxHeartbeats 8000000
set_option compiler.extract_closed false
namespace Mine
local macro_rules | `(tactic| walk_at $s:str) => `(tactic| k_extra $s)
-- KK
noncomputable def nth {α : Type} : List α → Nat → Option α
  | [], _ => none
  | a :: _, 0 => some a
  | _ :: l, n + 1 => nth l n
noncomputable def nth2 (l : List Stmt) (i j : Nat) : Option Stmt := match nth l i with
  | some (.ClassDef _ _ _ b _ _ _ _ _ _ _) => nth b j
  | _ => none
noncomputable abbrev prg : List Stmt := PySem.Challenge.pw_on0173_01.main.body
noncomputable def fnAt (qual : Str) (dV pm : Value) (cd : Addr) {st : Option Stmt} {name : Str} {ps : Arguments} {body : List Stmt} {d : List Expr} {r : Option Expr} {tp : List TypeParam} {scope : Scope} {ts : Option Scope} {b : Str} {pos : Pos}
    (_ : st = some (.FunctionDef name ps body d r tp scope ts b pos)) : Obj :=
  ⟨.type "function", none, .func ⟨name, qual, ps, .stmts body, scope, 3, [], dV, .none, .none, pm, none, .ref cd, .none, 0⟩, #[]⟩
noncomputable def K0 : Params → Frag := fun P =>
(nat_lit 544, fnAt "law" .none (.str "law_on0173_01" 948) 543 (st := nth prg 52) rfl) ::
(nat_lit 543, ⟨(.type "code"),none,(.fields #[(.str "law" 985),(.str "law" 986),(.str "/claim/cut.py" 987),(.int 444 0),(.int 1 0),(.int 0 0),(.int 0 0),(.int 3 0),(.ref 540),(.bool true),(.int 181 0),(.ref 541),.none,.none,.none,(.ref 542),(.int 988 0),(.int 444 0),(.str "/claim/cut.py" 989)]),#[]⟩) ::
(nat_lit 539, fnAt "_law_heard" .none (.str "law_on0173_01" 948) 538 (st := nth prg 51) rfl) ::
(nat_lit 538, ⟨(.type "code"),none,(.fields #[(.str "_law_heard" 978),(.str "_law_heard" 979),(.str "/claim/cut.py" 980),(.int 437 0),(.int 1 0),(.int 0 0),(.int 0 0),(.int 3 0),(.ref 533),(.bool true),(.int 181 0),(.ref 534),.none,(.ref 535),(.ref 536),(.ref 537),(.int 982 0),(.int 437 0),(.str "/claim/cut.py" 983)]),#[]⟩) ::
(nat_lit 532, fnAt "_law_due" .none (.str "law_on0173_01" 948) 531 (st := nth prg 50) rfl) ::
(nat_lit 531, ⟨(.type "code"),none,(.fields #[(.str "_law_due" 968),(.str "_law_due" 969),(.str "/claim/cut.py" 970),(.int 430 0),(.int 3 0),(.int 0 0),(.int 0 0),(.int 3 0),(.ref 526),(.bool true),(.int 181 0),(.ref 527),.none,(.ref 528),(.ref 529),(.ref 530),(.int 975 0),(.int 430 0),(.str "/claim/cut.py" 976)]),#[]⟩) ::
(nat_lit 525, fnAt "_law_number" .none (.str "law_on0173_01" 948) 524 (st := nth prg 49) rfl) ::
(nat_lit 524, ⟨(.type "code"),none,(.fields #[(.str "_law_number" 959),(.str "_law_number" 960),(.str "/claim/cut.py" 961),(.int 426 0),(.int 1 0),(.int 0 0),(.int 0 0),(.int 3 0),(.ref 519),(.bool true),(.int 181 0),(.ref 520),.none,(.ref 521),(.ref 522),(.ref 523),(.int 965 0),(.int 426 0),(.str "/claim/cut.py" 966)]),#[]⟩) ::
(nat_lit 518, fnAt "_law_draw" .none (.str "law_on0173_01" 948) 517 (st := nth prg 48) rfl) ::
(nat_lit 517, ⟨(.type "code"),none,(.fields #[(.str "_law_draw" 950),(.str "_law_draw" 951),(.str "/claim/cut.py" 952),(.int 420 0),(.int 2 0),(.int 0 0),(.int 0 0),(.int 3 0),(.ref 512),(.bool true),(.int 181 0),(.ref 513),.none,(.ref 514),(.ref 515),(.ref 516),(.int 956 0),(.int 420 0),(.str "/claim/cut.py" 957)]),#[]⟩) ::
(nat_lit 511, fnAt "number_of" .none (.str "grammarmill.machine" 926) 510 (st := nth prg 46) rfl) ::
(nat_lit 510, ⟨(.type "code"),none,(.fields #[(.str "number_of" 938),(.str "number_of" 939),(.str "/claim/cut.py" 940),(.int 410 0),(.int 1 0),(.int 0 0),(.int 0 0),(.int 3 0),(.ref 505),(.bool true),(.int 181 0),(.ref 506),.none,(.ref 507),(.ref 508),(.ref 509),(.int 945 0),(.int 410 0),(.str "/claim/cut.py" 946)]),#[]⟩) ::
(nat_lit 504, fnAt "need" .none (.str "grammarmill.machine" 926) 503 (st := nth prg 45) rfl) ::
(nat_lit 503, ⟨(.type "code"),none,(.fields #[(.str "need" 930),(.str "need" 931),(.str "/claim/cut.py" 932),(.int 407 0),(.int 2 0),(.int 0 0),(.int 0 0),(.int 3 0),(.ref 498),(.bool true),(.int 181 0),(.ref 499),.none,(.ref 500),(.ref 501),(.ref 502),(.int 935 0),(.int 407 0),(.str "/claim/cut.py" 936)]),#[]⟩) ::
(nat_lit 497, fnAt "two_worth" .none (.str "grammarmill.codes" 853) 496 (st := nth prg 42) rfl) ::
(nat_lit 496, ⟨(.type "code"),none,(.fields #[(.str "two_worth" 917),(.str "two_worth" 918),(.str "/claim/cut.py" 919),(.int 387 0),(.int 3 0),(.int 0 0),(.int 0 0),(.int 3 0),(.ref 491),(.bool true),(.int 181 0),(.ref 492),.none,(.ref 493),(.ref 494),(.ref 495),(.int 923 0),(.int 387 0),(.str "/claim/cut.py" 924)]),#[]⟩) ::
(nat_lit 469, fnAt "added" .none (.str "grammarmill.codes" 853) 468 (st := nth prg 38) rfl) ::
(nat_lit 468, ⟨(.type "code"),none,(.fields #[(.str "added" 880),(.str "added" 881),(.str "/claim/cut.py" 882),(.int 359 0),(.int 2 0),(.int 0 0),(.int 0 0),(.int 3 0),(.ref 463),(.bool true),(.int 181 0),(.ref 464),.none,(.ref 465),(.ref 466),(.ref 467),(.int 886 0),(.int 359 0),(.str "/claim/cut.py" 887)]),#[]⟩) ::
(nat_lit 462, fnAt "bounded" .none (.str "grammarmill.codes" 853) 461 (st := nth prg 37) rfl) ::
(nat_lit 461, ⟨(.type "code"),none,(.fields #[(.str "bounded" 873),(.str "bounded" 874),(.str "/claim/cut.py" 875),(.int 352 0),(.int 1 0),(.int 0 0),(.int 0 0),(.int 3 0),(.ref 456),(.bool true),(.int 181 0),(.ref 457),.none,(.ref 458),(.ref 459),(.ref 460),(.int 877 0),(.int 352 0),(.str "/claim/cut.py" 878)]),#[]⟩) ::
(nat_lit 455, fnAt "is_number" .none (.str "grammarmill.codes" 853) 454 (st := nth prg 36) rfl) ::
(nat_lit 454, ⟨(.type "code"),none,(.fields #[(.str "is_number" 866),(.str "is_number" 867),(.str "/claim/cut.py" 868),(.int 350 0),(.int 1 0),(.int 0 0),(.int 0 0),(.int 3 0),(.ref 449),(.bool true),(.int 181 0),(.ref 450),.none,(.ref 451),(.ref 452),(.ref 453),(.int 870 0),(.int 350 0),(.str "/claim/cut.py" 871)]),#[]⟩) ::
(nat_lit 448, ⟨(.type "tuple"),none,(.seq #[(.str "==" 855),(.str "!=" 856),(.str "<" 857),(.str "<=" 858),(.str ">" 859),(.str ">=" 860)] 0),#[]⟩) ::
(nat_lit 447, fnAt "parse_action" .none (.str "grammarmill.actions" 518) 446 (st := nth prg 31) rfl) ::
(nat_lit 446, ⟨(.type "code"),none,(.fields #[(.str "parse_action" 846),(.str "parse_action" 847),(.str "/claim/cut.py" 848),(.int 344 0),(.int 1 0),(.int 0 0),(.int 0 0),(.int 3 0),(.ref 441),(.bool true),(.int 181 0),(.ref 442),.none,(.ref 443),(.ref 444),(.ref 445),(.int 850 0),(.int 344 0),(.str "/claim/cut.py" 851)]),#[]⟩) ::
(nat_lit 429, ⟨(.type "type"),none,(.cls ⟨"ActionReader",[(.type "object")],[(.ref 429),(.type "object")],428,"ActionReader",true,[],[],false,none,false⟩),#[none,none,(some (.str "ActionReader" 659)),(some (.str "ActionReader" 667)),(some (.builtin "object.__new__")),(some (.bool true))]⟩) ::
(nat_lit 428, ⟨(.type "dict"),none,(.dict #[⟨(PyData.keyHash P "__module__"),(.str "__module__" 666),(.str "grammarmill.actions" 518)⟩,⟨(PyData.keyHash P "__firstlineno__"),(.str "__firstlineno__" 670),(.int 198 669)⟩,⟨(PyData.keyHash P "__init__"),(.str "__init__" 678),(.ref 306)⟩,⟨(PyData.keyHash P "here"),(.str "here" 685),(.ref 313)⟩,⟨(PyData.keyHash P "refuse"),(.str "refuse" 693),(.ref 320)⟩,⟨(PyData.keyHash P "is_sign"),(.str "is_sign" 704),(.ref 328)⟩,⟨(PyData.keyHash P "skip"),(.str "skip" 712),(.ref 335)⟩,⟨(PyData.keyHash P "need"),(.str "need" 720),(.ref 342)⟩,⟨(PyData.keyHash P "take"),(.str "take" 728),(.ref 349)⟩,⟨(PyData.keyHash P "whole"),(.str "whole" 736),(.ref 356)⟩,⟨(PyData.keyHash P "is_closed"),(.str "is_closed" 743),(.ref 363)⟩,⟨(PyData.keyHash P "statements"),(.str "statements" 751),(.ref 370)⟩,⟨(PyData.keyHash P "block"),(.str "block" 759),(.ref 377)⟩,⟨(PyData.keyHash P "condition"),(.str "condition" 767),(.ref 384)⟩,⟨(PyData.keyHash P "choice"),(.str "choice" 777),(.ref 391)⟩,⟨(PyData.keyHash P "statement"),(.str "statement" 786),(.ref 398)⟩,⟨(PyData.keyHash P "expression"),(.str "expression" 799),(.ref 405)⟩,⟨(PyData.keyHash P "unary"),(.str "unary" 807),(.ref 412)⟩,⟨(PyData.keyHash P "atom"),(.str "atom" 816),(.ref 419)⟩,⟨(PyData.keyHash P "items"),(.str "items" 825),(.ref 426)⟩,⟨(PyData.keyHash P "__static_attributes__"),(.str "__static_attributes__" 829),(.ref 427)⟩,⟨(PyData.keyHash P "__dict__"),(.str "__dict__" 831),(.ref 430)⟩,⟨(PyData.keyHash P "__weakref__"),(.str "__weakref__" 833),(.ref 431)⟩,⟨(PyData.keyHash P "__doc__"),(.str "__doc__" 834),.none⟩] 4),#[]⟩) ::
(nat_lit 419, fnAt "ActionReader.atom" .none (.str "grammarmill.actions" 518) 418 (st := nth2 prg 29 16) rfl) ::
(nat_lit 418, ⟨(.type "code"),none,(.fields #[(.str "atom" 808),(.str "ActionReader.atom" 809),(.str "/claim/cut.py" 810),(.int 308 0),(.int 1 0),(.int 0 0),(.int 0 0),(.int 3 0),(.ref 413),(.bool true),(.int 181 0),(.ref 414),.none,(.ref 415),(.ref 416),(.ref 417),(.int 814 0),(.int 308 0),(.str "/claim/cut.py" 815)]),#[]⟩) ::
(nat_lit 412, fnAt "ActionReader.unary" .none (.str "grammarmill.actions" 518) 411 (st := nth2 prg 29 15) rfl) ::
(nat_lit 411, ⟨(.type "code"),none,(.fields #[(.str "unary" 800),(.str "ActionReader.unary" 801),(.str "/claim/cut.py" 802),(.int 302 0),(.int 1 0),(.int 0 0),(.int 0 0),(.int 3 0),(.ref 406),(.bool true),(.int 181 0),(.ref 407),.none,(.ref 408),(.ref 409),(.ref 410),(.int 805 0),(.int 302 0),(.str "/claim/cut.py" 806)]),#[]⟩) ::
(nat_lit 405, fnAt "ActionReader.expression" .none (.str "grammarmill.actions" 518) 404 (st := nth2 prg 29 14) rfl) ::
(nat_lit 404, ⟨(.type "code"),none,(.fields #[(.str "expression" 787),(.str "ActionReader.expression" 788),(.str "/claim/cut.py" 789),(.int 288 0),(.int 2 0),(.int 0 0),(.int 0 0),(.int 3 0),(.ref 399),(.bool true),(.int 181 0),(.ref 400),.none,(.ref 401),(.ref 402),(.ref 403),(.int 797 0),(.int 288 0),(.str "/claim/cut.py" 798)]),#[]⟩) ::
(nat_lit 398, fnAt "ActionReader.statement" .none (.str "grammarmill.actions" 518) 397 (st := nth2 prg 29 13) rfl) ::
(nat_lit 397, ⟨(.type "code"),none,(.fields #[(.str "statement" 778),(.str "ActionReader.statement" 779),(.str "/claim/cut.py" 780),(.int 266 0),(.int 1 0),(.int 0 0),(.int 0 0),(.int 3 0),(.ref 392),(.bool true),(.int 181 0),(.ref 393),.none,(.ref 394),(.ref 395),(.ref 396),(.int 784 0),(.int 266 0),(.str "/claim/cut.py" 785)]),#[]⟩) ::
(nat_lit 370, fnAt "ActionReader.statements" .none (.str "grammarmill.actions" 518) 369 (st := nth2 prg 29 9) rfl) ::
(nat_lit 369, ⟨(.type "code"),none,(.fields #[(.str "statements" 744),(.str "ActionReader.statements" 745),(.str "/claim/cut.py" 746),(.int 239 0),(.int 1 0),(.int 0 0),(.int 0 0),(.int 3 0),(.ref 364),(.bool true),(.int 181 0),(.ref 365),.none,(.ref 366),(.ref 367),(.ref 368),(.int 749 0),(.int 239 0),(.str "/claim/cut.py" 750)]),#[]⟩) ::
(nat_lit 363, fnAt "ActionReader.is_closed" .none (.str "grammarmill.actions" 518) 362 (st := nth2 prg 29 8) rfl) ::
(nat_lit 362, ⟨(.type "code"),none,(.fields #[(.str "is_closed" 737),(.str "ActionReader.is_closed" 738),(.str "/claim/cut.py" 739),(.int 236 0),(.int 1 0),(.int 0 0),(.int 0 0),(.int 3 0),(.ref 357),(.bool true),(.int 181 0),(.ref 358),.none,(.ref 359),(.ref 360),(.ref 361),(.int 741 0),(.int 236 0),(.str "/claim/cut.py" 742)]),#[]⟩) ::
(nat_lit 356, fnAt "ActionReader.whole" .none (.str "grammarmill.actions" 518) 355 (st := nth2 prg 29 7) rfl) ::
(nat_lit 355, ⟨(.type "code"),none,(.fields #[(.str "whole" 729),(.str "ActionReader.whole" 730),(.str "/claim/cut.py" 731),(.int 230 0),(.int 1 0),(.int 0 0),(.int 0 0),(.int 3 0),(.ref 350),(.bool true),(.int 181 0),(.ref 351),.none,(.ref 352),(.ref 353),(.ref 354),(.int 734 0),(.int 230 0),(.str "/claim/cut.py" 735)]),#[]⟩) ::
(nat_lit 349, fnAt "ActionReader.take" .none (.str "grammarmill.actions" 518) 348 (st := nth2 prg 29 6) rfl) ::
(nat_lit 348, ⟨(.type "code"),none,(.fields #[(.str "take" 721),(.str "ActionReader.take" 722),(.str "/claim/cut.py" 723),(.int 225 0),(.int 1 0),(.int 0 0),(.int 0 0),(.int 3 0),(.ref 343),(.bool true),(.int 181 0),(.ref 344),.none,(.ref 345),(.ref 346),(.ref 347),(.int 726 0),(.int 225 0),(.str "/claim/cut.py" 727)]),#[]⟩) ::
(nat_lit 335, fnAt "ActionReader.skip" .none (.str "grammarmill.actions" 518) 334 (st := nth2 prg 29 4) rfl) ::
(nat_lit 334, ⟨(.type "code"),none,(.fields #[(.str "skip" 705),(.str "ActionReader.skip" 706),(.str "/claim/cut.py" 707),(.int 215 0),(.int 2 0),(.int 0 0),(.int 0 0),(.int 3 0),(.ref 329),(.bool true),(.int 181 0),(.ref 330),.none,(.ref 331),(.ref 332),(.ref 333),(.int 710 0),(.int 215 0),(.str "/claim/cut.py" 711)]),#[]⟩) ::
(nat_lit 328, fnAt "ActionReader.is_sign" (.ref 321) (.str "grammarmill.actions" 518) 327 (st := nth2 prg 29 3) rfl) ::
(nat_lit 327, ⟨(.type "code"),none,(.fields #[(.str "is_sign" 695),(.str "ActionReader.is_sign" 696),(.str "/claim/cut.py" 697),(.int 211 0),(.int 3 0),(.int 0 0),(.int 0 0),(.int 3 0),(.ref 322),(.bool true),(.int 181 0),(.ref 323),.none,(.ref 324),(.ref 325),(.ref 326),(.int 702 0),(.int 211 0),(.str "/claim/cut.py" 703)]),#[]⟩) ::
(nat_lit 321, ⟨(.type "tuple"),none,(.seq #[(.int 0 694)] 0),#[]⟩) ::
(nat_lit 313, fnAt "ActionReader.here" .none (.str "grammarmill.actions" 518) 312 (st := nth2 prg 29 1) rfl) ::
(nat_lit 312, ⟨(.type "code"),none,(.fields #[(.str "here" 679),(.str "ActionReader.here" 680),(.str "/claim/cut.py" 681),(.int 205 0),(.int 1 0),(.int 0 0),(.int 0 0),(.int 3 0),(.ref 307),(.bool true),(.int 181 0),(.ref 308),.none,(.ref 309),(.ref 310),(.ref 311),(.int 683 0),(.int 205 0),(.str "/claim/cut.py" 684)]),#[]⟩) ::
(nat_lit 306, fnAt "ActionReader.__init__" .none (.str "grammarmill.actions" 518) 305 (st := nth2 prg 29 0) rfl) ::
(nat_lit 305, ⟨(.type "code"),none,(.fields #[(.str "__init__" 671),(.str "ActionReader.__init__" 672),(.str "/claim/cut.py" 673),(.int 200 0),(.int 2 0),(.int 0 0),(.int 0 0),(.int 3 0),(.ref 300),(.bool true),(.int 181 0),(.ref 301),.none,(.ref 302),(.ref 303),(.ref 304),(.int 676 0),(.int 200 0),(.str "/claim/cut.py" 677)]),#[]⟩) ::
(nat_lit 292, fnAt "scan_action" .none (.str "grammarmill.actions" 518) 291 (st := nth prg 28) rfl) ::
(nat_lit 291, ⟨(.type "code"),none,(.fields #[(.str "scan_action" 646),(.str "scan_action" 647),(.str "/claim/cut.py" 648),(.int 173 0),(.int 1 0),(.int 0 0),(.int 0 0),(.int 3 0),(.ref 286),(.bool true),(.int 181 0),(.ref 287),.none,(.ref 288),(.ref 289),(.ref 290),(.int 656 0),(.int 173 0),(.str "/claim/cut.py" 657)]),#[]⟩) ::
(nat_lit 271, fnAt "refused" .none (.str "grammarmill.actions" 518) 270 (st := nth prg 25) rfl) ::
(nat_lit 270, ⟨(.type "code"),none,(.fields #[(.str "refused" 616),(.str "refused" 617),(.str "/claim/cut.py" 618),(.int 155 0),(.int 3 0),(.int 0 0),(.int 0 0),(.int 3 0),(.ref 265),(.bool true),(.int 181 0),(.ref 266),.none,(.ref 267),(.ref 268),(.ref 269),(.int 622 0),(.int 155 0),(.str "/claim/cut.py" 623)]),#[]⟩) ::
(nat_lit 260, ⟨(.type "type"),none,(.cls ⟨"Part",[(.type "object")],[(.ref 260),(.type "object")],259,"Part",true,[],[],false,none,false⟩),#[none,none,(some (.str "Part" 583)),(some (.str "Part" 591)),(some (.builtin "object.__new__")),(some (.bool true))]⟩) ::
(nat_lit 259, ⟨(.type "dict"),none,(.dict #[⟨(PyData.keyHash P "__module__"),(.str "__module__" 590),(.str "grammarmill.actions" 518)⟩,⟨(PyData.keyHash P "__firstlineno__"),(.str "__firstlineno__" 594),(.int 149 593)⟩,⟨(PyData.keyHash P "__init__"),(.str "__init__" 604),(.ref 257)⟩,⟨(PyData.keyHash P "__static_attributes__"),(.str "__static_attributes__" 608),(.ref 258)⟩,⟨(PyData.keyHash P "__dict__"),(.str "__dict__" 610),(.ref 261)⟩,⟨(PyData.keyHash P "__weakref__"),(.str "__weakref__" 612),(.ref 262)⟩,⟨(PyData.keyHash P "__doc__"),(.str "__doc__" 613),.none⟩] 4),#[]⟩) ::
(nat_lit 257, fnAt "Part.__init__" .none (.str "grammarmill.actions" 518) 256 (st := nth2 prg 24 0) rfl) ::
(nat_lit 256, ⟨(.type "code"),none,(.fields #[(.str "__init__" 595),(.str "Part.__init__" 596),(.str "/claim/cut.py" 597),(.int 151 0),(.int 4 0),(.int 0 0),(.int 0 0),(.int 3 0),(.ref 251),(.bool true),(.int 181 0),(.ref 252),.none,(.ref 253),(.ref 254),(.ref 255),(.int 602 0),(.int 151 0),(.str "/claim/cut.py" 603)]),#[]⟩) ::
(nat_lit 243, ⟨(.type "tuple"),none,(.seq #[(.str "||" 570),(.str "&&" 571),(.str "==" 572),(.str "!=" 573),(.str "<=" 574),(.str ">=" 575)] 0),#[]⟩) ::
(nat_lit 242, ⟨(.type "dict"),none,(.dict #[⟨(PyData.keyHash P "||"),(.str "||" 530),(.int 1 531)⟩,⟨(PyData.keyHash P "&&"),(.str "&&" 532),(.int 2 533)⟩,⟨(PyData.keyHash P "=="),(.str "==" 534),(.int 3 535)⟩,⟨(PyData.keyHash P "!="),(.str "!=" 536),(.int 3 537)⟩,⟨(PyData.keyHash P "<"),(.str "<" 538),(.int 3 539)⟩,⟨(PyData.keyHash P "<="),(.str "<=" 540),(.int 3 541)⟩,⟨(PyData.keyHash P ">"),(.str ">" 542),(.int 3 543)⟩,⟨(PyData.keyHash P ">="),(.str ">=" 544),(.int 3 545)⟩,⟨(PyData.keyHash P "+"),(.str "+" 546),(.int 4 547)⟩,⟨(PyData.keyHash P "-"),(.str "-" 548),(.int 4 549)⟩,⟨(PyData.keyHash P "*"),(.str "*" 550),(.int 5 551)⟩,⟨(PyData.keyHash P "/"),(.str "/" 552),(.int 5 553)⟩,⟨(PyData.keyHash P "%"),(.str "%" 554),(.int 5 555)⟩] 13),#[]⟩) ::
(nat_lit 241, ⟨(.type "tuple"),none,(.seq #[(.str "if" 526),(.str "else" 527),(.str "while" 528),(.str "yyerrok" 520),(.str "yyclearin" 521),(.str "YYERROR" 522),(.str "YYABORT" 523),(.str "YYACCEPT" 524)] 0),#[]⟩) ::
(nat_lit 239, ⟨(.type "tuple"),none,(.seq #[(.str "yyerrok" 520),(.str "yyclearin" 521),(.str "YYERROR" 522),(.str "YYABORT" 523),(.str "YYACCEPT" 524)] 0),#[]⟩) ::
(nat_lit 234, ⟨(.type "type"),none,(.cls ⟨"Cursor",[(.type "object")],[(.ref 234),(.type "object")],233,"Cursor",true,[],[],false,none,false⟩),#[none,none,(some (.str "Cursor" 358)),(some (.str "Cursor" 366)),(some (.builtin "object.__new__")),(some (.bool true))]⟩) ::
(nat_lit 233, ⟨(.type "dict"),none,(.dict #[⟨(PyData.keyHash P "__module__"),(.str "__module__" 365),(.str "grammarmill.source" 194)⟩,⟨(PyData.keyHash P "__firstlineno__"),(.str "__firstlineno__" 369),(.int 44 368)⟩,⟨(PyData.keyHash P "__init__"),(.str "__init__" 379),(.ref 124)⟩,⟨(PyData.keyHash P "is_done"),(.str "is_done" 386),(.ref 131)⟩,⟨(PyData.keyHash P "peek"),(.str "peek" 396),(.ref 139)⟩,⟨(PyData.keyHash P "starts"),(.str "starts" 404),(.ref 146)⟩,⟨(PyData.keyHash P "take"),(.str "take" 412),(.ref 153)⟩,⟨(PyData.keyHash P "skip"),(.str "skip" 420),(.ref 160)⟩,⟨(PyData.keyHash P "take_while"),(.str "take_while" 429),(.ref 167)⟩,⟨(PyData.keyHash P "take_line"),(.str "take_line" 436),(.ref 174)⟩,⟨(PyData.keyHash P "skip_blanks"),(.str "skip_blanks" 445),(.ref 182)⟩,⟨(PyData.keyHash P "name"),(.str "name" 453),(.ref 189)⟩,⟨(PyData.keyHash P "number"),(.str "number" 462),(.ref 196)⟩,⟨(PyData.keyHash P "position"),(.str "position" 469),(.ref 203)⟩,⟨(PyData.keyHash P "position_at"),(.str "position_at" 477),(.ref 210)⟩,⟨(PyData.keyHash P "coded"),(.str "coded" 489),(.ref 217)⟩,⟨(PyData.keyHash P "escape"),(.str "escape" 497),(.ref 224)⟩,⟨(PyData.keyHash P "quoted"),(.str "quoted" 507),(.ref 231)⟩,⟨(PyData.keyHash P "__static_attributes__"),(.str "__static_attributes__" 510),(.ref 232)⟩,⟨(PyData.keyHash P "__dict__"),(.str "__dict__" 512),(.ref 235)⟩,⟨(PyData.keyHash P "__weakref__"),(.str "__weakref__" 514),(.ref 236)⟩,⟨(PyData.keyHash P "__doc__"),(.str "__doc__" 515),.none⟩] 4),#[]⟩) ::
(nat_lit 196, fnAt "Cursor.number" .none (.str "grammarmill.source" 194) 195 (st := nth2 prg 15 10) rfl) ::
(nat_lit 195, ⟨(.type "code"),none,(.fields #[(.str "number" 454),(.str "Cursor.number" 455),(.str "/claim/cut.py" 456),(.int 93 0),(.int 1 0),(.int 0 0),(.int 0 0),(.int 3 0),(.ref 190),(.bool true),(.int 181 0),(.ref 191),.none,(.ref 192),(.ref 193),(.ref 194),(.int 460 0),(.int 93 0),(.str "/claim/cut.py" 461)]),#[]⟩) ::
(nat_lit 189, fnAt "Cursor.name" .none (.str "grammarmill.source" 194) 188 (st := nth2 prg 15 9) rfl) ::
(nat_lit 188, ⟨(.type "code"),none,(.fields #[(.str "name" 446),(.str "Cursor.name" 447),(.str "/claim/cut.py" 448),(.int 87 0),(.int 1 0),(.int 0 0),(.int 0 0),(.int 3 0),(.ref 183),(.bool true),(.int 181 0),(.ref 184),.none,(.ref 185),(.ref 186),(.ref 187),(.int 451 0),(.int 87 0),(.str "/claim/cut.py" 452)]),#[]⟩) ::
(nat_lit 182, fnAt "Cursor.skip_blanks" (.ref 175) (.str "grammarmill.source" 194) 181 (st := nth2 prg 15 8) rfl) ::
(nat_lit 181, ⟨(.type "code"),none,(.fields #[(.str "skip_blanks" 438),(.str "Cursor.skip_blanks" 439),(.str "/claim/cut.py" 440),(.int 84 0),(.int 2 0),(.int 0 0),(.int 0 0),(.int 3 0),(.ref 176),(.bool true),(.int 181 0),(.ref 177),.none,(.ref 178),(.ref 179),(.ref 180),(.int 443 0),(.int 84 0),(.str "/claim/cut.py" 444)]),#[]⟩) ::
(nat_lit 175, ⟨(.type "tuple"),none,(.seq #[(.str " \t" 437)] 0),#[]⟩) ::
(nat_lit 167, fnAt "Cursor.take_while" .none (.str "grammarmill.source" 194) 166 (st := nth2 prg 15 6) rfl) ::
(nat_lit 166, ⟨(.type "code"),none,(.fields #[(.str "take_while" 421),(.str "Cursor.take_while" 422),(.str "/claim/cut.py" 423),(.int 75 0),(.int 2 0),(.int 0 0),(.int 0 0),(.int 3 0),(.ref 161),(.bool true),(.int 181 0),(.ref 162),.none,(.ref 163),(.ref 164),(.ref 165),(.int 427 0),(.int 75 0),(.str "/claim/cut.py" 428)]),#[]⟩) ::
(nat_lit 139, fnAt "Cursor.peek" (.ref 132) (.str "grammarmill.source" 194) 138 (st := nth2 prg 15 2) rfl) ::
(nat_lit 138, ⟨(.type "code"),none,(.fields #[(.str "peek" 388),(.str "Cursor.peek" 389),(.str "/claim/cut.py" 390),(.int 53 0),(.int 2 0),(.int 0 0),(.int 0 0),(.int 3 0),(.ref 133),(.bool true),(.int 181 0),(.ref 134),.none,(.ref 135),(.ref 136),(.ref 137),(.int 394 0),(.int 53 0),(.str "/claim/cut.py" 395)]),#[]⟩) ::
(nat_lit 132, ⟨(.type "tuple"),none,(.seq #[(.int 0 387)] 0),#[]⟩) ::
(nat_lit 131, fnAt "Cursor.is_done" .none (.str "grammarmill.source" 194) 130 (st := nth2 prg 15 1) rfl) ::
(nat_lit 130, ⟨(.type "code"),none,(.fields #[(.str "is_done" 380),(.str "Cursor.is_done" 381),(.str "/claim/cut.py" 382),(.int 50 0),(.int 1 0),(.int 0 0),(.int 0 0),(.int 3 0),(.ref 125),(.bool true),(.int 181 0),(.ref 126),.none,(.ref 127),(.ref 128),(.ref 129),(.int 384 0),(.int 50 0),(.str "/claim/cut.py" 385)]),#[]⟩) ::
(nat_lit 124, fnAt "Cursor.__init__" (.ref 117) (.str "grammarmill.source" 194) 123 (st := nth2 prg 15 0) rfl) ::
(nat_lit 123, ⟨(.type "code"),none,(.fields #[(.str "__init__" 371),(.str "Cursor.__init__" 372),(.str "/claim/cut.py" 373),(.int 46 0),(.int 3 0),(.int 0 0),(.int 0 0),(.int 3 0),(.ref 118),(.bool true),(.int 181 0),(.ref 119),.none,(.ref 120),(.ref 121),(.ref 122),(.int 377 0),(.int 46 0),(.str "/claim/cut.py" 378)]),#[]⟩) ::
(nat_lit 117, ⟨(.type "tuple"),none,(.seq #[(.int 0 370)] 0),#[]⟩) ::
(nat_lit 107, ⟨(.type "type"),none,(.cls ⟨"MachineError",[(.ref 82)],[(.ref 107),(.ref 82),(.type "Exception"),(.type "BaseException"),(.type "object")],106,"MachineError",true,[],[],false,none,false⟩),#[(some (.ref 98)),none,(some (.str "MachineError" 342)),(some (.str "MachineError" 350)),(some (.builtin "Exception.__new__")),(some (.bool true))]⟩) ::
(nat_lit 106, ⟨(.type "dict"),none,(.dict #[⟨(PyData.keyHash P "__module__"),(.str "__module__" 349),(.str "grammarmill.source" 194)⟩,⟨(PyData.keyHash P "__firstlineno__"),(.str "__firstlineno__" 353),(.int 42 352)⟩,⟨(PyData.keyHash P "__static_attributes__"),(.str "__static_attributes__" 354),(.ref 105)⟩,⟨(PyData.keyHash P "__doc__"),(.str "__doc__" 355),.none⟩] 2),#[]⟩) ::
(nat_lit 95, ⟨(.type "type"),none,(.cls ⟨"ActionError",[(.ref 82)],[(.ref 95),(.ref 82),(.type "Exception"),(.type "BaseException"),(.type "object")],94,"ActionError",true,[],[],false,none,false⟩),#[(some (.ref 86)),none,(some (.str "ActionError" 326)),(some (.str "ActionError" 334)),(some (.builtin "Exception.__new__")),(some (.bool true))]⟩) ::
(nat_lit 94, ⟨(.type "dict"),none,(.dict #[⟨(PyData.keyHash P "__module__"),(.str "__module__" 333),(.str "grammarmill.source" 194)⟩,⟨(PyData.keyHash P "__firstlineno__"),(.str "__firstlineno__" 337),(.int 40 336)⟩,⟨(PyData.keyHash P "__static_attributes__"),(.str "__static_attributes__" 338),(.ref 93)⟩,⟨(PyData.keyHash P "__doc__"),(.str "__doc__" 339),.none⟩] 2),#[]⟩) ::
(nat_lit 82, ⟨(.type "type"),none,(.cls ⟨"ToolError",[(.type "Exception")],[(.ref 82),(.type "Exception"),(.type "BaseException"),(.type "object")],81,"ToolError",true,[],[(.ref 95),(.ref 107)],false,none,false⟩),#[(some (.ref 58)),none,(some (.str "ToolError" 288)),(some (.str "ToolError" 296)),(some (.builtin "Exception.__new__")),(some (.bool true))]⟩) ::
(nat_lit 81, ⟨(.type "dict"),none,(.dict #[⟨(PyData.keyHash P "__module__"),(.str "__module__" 295),(.str "grammarmill.source" 194)⟩,⟨(PyData.keyHash P "__firstlineno__"),(.str "__firstlineno__" 299),(.int 31 298)⟩,⟨(PyData.keyHash P "__init__"),(.str "__init__" 308),(.ref 72)⟩,⟨(PyData.keyHash P "told"),(.str "told" 315),(.ref 79)⟩,⟨(PyData.keyHash P "__static_attributes__"),(.str "__static_attributes__" 318),(.ref 80)⟩,⟨(PyData.keyHash P "__weakref__"),(.str "__weakref__" 320),(.ref 83)⟩,⟨(PyData.keyHash P "__doc__"),(.str "__doc__" 321),.none⟩] 3),#[]⟩) ::
(nat_lit 72, fnAt "ToolError.__init__" (.ref 65) (.str "grammarmill.source" 194) 71 (st := nth2 prg 12 0) rfl) ::
(nat_lit 71, ⟨(.type "code"),none,(.fields #[(.str "__init__" 300),(.str "ToolError.__init__" 301),(.str "/claim/cut.py" 302),(.int 33 0),(.int 3 0),(.int 0 0),(.int 0 0),(.int 3 0),(.ref 66),(.bool true),(.int 181 0),(.ref 67),.none,(.ref 68),(.ref 69),(.ref 70),(.int 306 0),(.int 33 0),(.str "/claim/cut.py" 307)]),#[]⟩) ::
(nat_lit 65, ⟨(.type "tuple"),none,(.seq #[.none] 0),#[]⟩) ::
(nat_lit 57, fnAt "position_of" .none (.str "grammarmill.source" 194) 56 (st := nth prg 11) rfl) ::
(nat_lit 56, ⟨(.type "code"),none,(.fields #[(.str "position_of" 276),(.str "position_of" 277),(.str "/claim/cut.py" 278),(.int 22 0),(.int 2 0),(.int 0 0),(.int 0 0),(.int 3 0),(.ref 51),(.bool true),(.int 181 0),(.ref 52),.none,(.ref 53),(.ref 54),(.ref 55),(.int 285 0),(.int 22 0),(.str "/claim/cut.py" 286)]),#[]⟩) ::
(nat_lit 46, ⟨(.type "type"),none,(.cls ⟨"Position",[(.type "object")],[(.ref 46),(.type "object")],45,"Position",true,[],[],false,none,false⟩),#[none,none,(some (.str "Position" 236)),(some (.str "Position" 244)),(some (.builtin "object.__new__")),(some (.bool true))]⟩) ::
(nat_lit 45, ⟨(.type "dict"),none,(.dict #[⟨(PyData.keyHash P "__module__"),(.str "__module__" 243),(.str "grammarmill.source" 194)⟩,⟨(PyData.keyHash P "__firstlineno__"),(.str "__firstlineno__" 247),(.int 13 246)⟩,⟨(PyData.keyHash P "__init__"),(.str "__init__" 257),(.ref 36)⟩,⟨(PyData.keyHash P "told"),(.str "told" 264),(.ref 43)⟩,⟨(PyData.keyHash P "__static_attributes__"),(.str "__static_attributes__" 268),(.ref 44)⟩,⟨(PyData.keyHash P "__dict__"),(.str "__dict__" 270),(.ref 47)⟩,⟨(PyData.keyHash P "__weakref__"),(.str "__weakref__" 272),(.ref 48)⟩,⟨(PyData.keyHash P "__doc__"),(.str "__doc__" 273),.none⟩] 4),#[]⟩) ::
(nat_lit 36, fnAt "Position.__init__" .none (.str "grammarmill.source" 194) 35 (st := nth2 prg 10 0) rfl) ::
(nat_lit 35, ⟨(.type "code"),none,(.fields #[(.str "__init__" 248),(.str "Position.__init__" 249),(.str "/claim/cut.py" 250),(.int 15 0),(.int 4 0),(.int 0 0),(.int 0 0),(.int 3 0),(.ref 30),(.bool true),(.int 181 0),(.ref 31),.none,(.ref 32),(.ref 33),(.ref 34),(.int 255 0),(.int 15 0),(.str "/claim/cut.py" 256)]),#[]⟩) ::
(nat_lit 3, ⟨(.type "dict"),none,(.dict #[⟨(PyData.keyHash P "__name__"),(.str "__name__" 165),(.str "law_on0173_01" 948)⟩,⟨(PyData.keyHash P "__doc__"),(.str "__doc__" 166),.none⟩,⟨(PyData.keyHash P "__package__"),(.str "__package__" 167),.none⟩,⟨(PyData.keyHash P "__loader__"),(.str "__loader__" 168),(.builtin "__main__.__loader__#opaque")⟩,⟨(PyData.keyHash P "__spec__"),(.str "__spec__" 169),.none⟩,⟨(PyData.keyHash P "__annotations__"),(.str "__annotations__" 170),(.ref 6)⟩,⟨(PyData.keyHash P "__builtins__"),(.str "__builtins__" 171),(.ref 4)⟩,⟨(PyData.keyHash P "__file__"),(.str "__file__" 173),(.str "/claim/cut.py" 172)⟩,⟨(PyData.keyHash P "__cached__"),(.str "__cached__" 174),.none⟩,⟨(PyData.keyHash P "_wall"),(.str "_wall" 193),(.ref 21)⟩,⟨(PyData.keyHash P "SMALL"),(.str "SMALL" 197),(.str "abcdefghijklmnopqrstuvwxyz" 196)⟩,⟨(PyData.keyHash P "LETTERS"),(.str "LETTERS" 200),(.str "abcdefghijklmnopqrstuvwxyzABCDEFGHIJKLMNOPQRSTUVWXYZ" 199)⟩,⟨(PyData.keyHash P "FIGURES"),(.str "FIGURES" 202),(.str "0123456789" 201)⟩,⟨(PyData.keyHash P "NAME_SIGNS"),(.str "NAME_SIGNS" 206),(.str "abcdefghijklmnopqrstuvwxyzABCDEFGHIJKLMNOPQRSTUVWXYZ_0123456789" 205)⟩,⟨(PyData.keyHash P "HEX_SIGNS"),(.str "HEX_SIGNS" 209),(.str "0123456789abcdefABCDEF" 208)⟩,⟨(PyData.keyHash P "OCTAL_SIGNS"),(.str "OCTAL_SIGNS" 211),(.str "01234567" 210)⟩,⟨(PyData.keyHash P "MOST_FIGURES_source"),(.str "MOST_FIGURES_source" 213),(.int 4000 212)⟩,⟨(PyData.keyHash P "PLAIN_ESCAPES"),(.str "PLAIN_ESCAPES" 235),(.ref 22)⟩,⟨(PyData.keyHash P "Position"),(.str "Position" 275),(.ref 46)⟩,⟨(PyData.keyHash P "position_of"),(.str "position_of" 287),(.ref 57)⟩,⟨(PyData.keyHash P "ToolError"),(.str "ToolError" 325),(.ref 82)⟩,⟨(PyData.keyHash P "ActionError"),(.str "ActionError" 341),(.ref 95)⟩,⟨(PyData.keyHash P "MachineError"),(.str "MachineError" 357),(.ref 107)⟩,⟨(PyData.keyHash P "Cursor"),(.str "Cursor" 517),(.ref 234)⟩,⟨(PyData.keyHash P "WORDS"),(.str "WORDS" 525),(.ref 239)⟩,⟨(PyData.keyHash P "RESERVED"),(.str "RESERVED" 529),(.ref 241)⟩,⟨(PyData.keyHash P "LEVELS"),(.str "LEVELS" 569),(.ref 242)⟩,⟨(PyData.keyHash P "SIGNS_OF_TWO"),(.str "SIGNS_OF_TWO" 576),(.ref 243)⟩,⟨(PyData.keyHash P "SIGNS_OF_ONE"),(.str "SIGNS_OF_ONE" 578),(.str "+-*/%!<>=;,(){}[]" 577)⟩,⟨(PyData.keyHash P "BLANKS"),(.str "BLANKS" 580),(.str " \t\n\x0d" 579)⟩,⟨(PyData.keyHash P "MOST_BITS"),(.str "MOST_BITS" 582),(.int 512 581)⟩,⟨(PyData.keyHash P "Part"),(.str "Part" 615),(.ref 260)⟩,⟨(PyData.keyHash P "refused"),(.str "refused" 624),(.ref 271)⟩,⟨(PyData.keyHash P "scan_dollar"),(.str "scan_dollar" 634),(.ref 278)⟩,⟨(PyData.keyHash P "scan_sign"),(.str "scan_sign" 645),(.ref 285)⟩,⟨(PyData.keyHash P "scan_action"),(.str "scan_action" 658),(.ref 292)⟩,⟨(PyData.keyHash P "ActionReader"),(.str "ActionReader" 836),(.ref 429)⟩,⟨(PyData.keyHash P "joined"),(.str "joined" 845),(.ref 440)⟩,⟨(PyData.keyHash P "parse_action"),(.str "parse_action" 852),(.ref 447)⟩,⟨(PyData.keyHash P "COMPARISONS"),(.str "COMPARISONS" 861),(.ref 448)⟩,⟨(PyData.keyHash P "MOST_SIZE"),(.str "MOST_SIZE" 863),(.int 2000 862)⟩,⟨(PyData.keyHash P "MOST_PARTS"),(.str "MOST_PARTS" 865),(.int 300 864)⟩,⟨(PyData.keyHash P "is_number"),(.str "is_number" 872),(.ref 455)⟩,⟨(PyData.keyHash P "bounded"),(.str "bounded" 879),(.ref 462)⟩,⟨(PyData.keyHash P "added"),(.str "added" 888),(.ref 469)⟩,⟨(PyData.keyHash P "compared"),(.str "compared" 898),(.ref 476)⟩,⟨(PyData.keyHash P "part_count"),(.str "part_count" 908),(.ref 483)⟩,⟨(PyData.keyHash P "are_equal"),(.str "are_equal" 916),(.ref 490)⟩,⟨(PyData.keyHash P "two_worth"),(.str "two_worth" 925),(.ref 497)⟩,⟨(PyData.keyHash P "MOST_FIGURES_machine"),(.str "MOST_FIGURES_machine" 929),(.int 160 928)⟩,⟨(PyData.keyHash P "need"),(.str "need" 937),(.ref 504)⟩,⟨(PyData.keyHash P "number_of"),(.str "number_of" 947),(.ref 511)⟩,⟨(PyData.keyHash P "_law_draw"),(.str "_law_draw" 958),(.ref 518)⟩,⟨(PyData.keyHash P "_law_number"),(.str "_law_number" 967),(.ref 525)⟩,⟨(PyData.keyHash P "_law_due"),(.str "_law_due" 977),(.ref 532)⟩,⟨(PyData.keyHash P "_law_heard"),(.str "_law_heard" 984),(.ref 539)⟩,⟨(PyData.keyHash P "law"),(.str "law" 990),(.ref 544)⟩] 57),#[]⟩) :: []
-- HEADA
noncomputable def goQ (thr : Thread → Bool) (ok : Nat → Option Value → Thread → Bool) (st : (Code → Sem Fin) → Program → World → SharedT → Thread → Option (SharedT × Thread)) (den : Code → Sem Fin) (p : Program) (w : World) (n₀ : Nat) (ann : Option Value) : Nat → SharedT → Thread → Option SharedT
  | 0, _, _ => none
  | n + 1, s, t => match thr t with
    | true => some s
    | false => match ok n₀ ann t with
      | false => none
      | true => match st den p w s t with
        | some (s', t') => goQ thr ok st den p w n₀ ann n s' t'
        | none => none
theorem goQ_top {tb : String → Option Builtin} {p : Program} {w : World} {n₀ : Nat} {ann : Option Value} : ∀ {n : Nat} {s s' : SharedT} {t : Thread}, goQ through stepOk stepT (denote tb) p w n₀ ann n s t = some s' → topRun tb p w n₀ ann n s.abs t = some s'.abs
  | 0, _, _, _, h => by cases h
  | n + 1, s, s', t, h => by
    unfold goQ at h
    unfold topRun
    cases he : through t with
    | true => rw [he] at h; cases h; rfl
    | false =>
      rw [he] at h
      cases hk : stepOk n₀ ann t with
      | false => rw [hk] at h; cases h
      | true =>
        rw [hk] at h
        cases hs : stepT (denote tb) p w s t with
        | none => rw [hs] at h; cases h
        | some r => obtain ⟨s₂, t₂⟩ := r; rw [hs] at h; rw [stepT_spec hs]; exact goQ_top h
theorem left_of {p q : Program} {loose : List Str} {Xt : Shared → Bool} {α : Type} {Yf : Shared → α} {Ya : World → α} {N : Nat} {H₀ : Params → Heap} {T₀ : Params → BT} {n0 : Nat} {life : Life} {d₀ : Drawn} {k₀ m₀ : Nat} {ann : Option Value} {M : Nat} (row : String)
    (open_ : ∀ w : World, (fencedOpening treeTable p w N).map (fun s => (s.heap, s.gens, s.drawn, s.toks)) = some (H₀ w.params, #[], d₀, k₀))
    (tree : ∀ P, absHeap (T₀ P) n0 life = H₀ P)
    (size : ∀ P, ((H₀ P).isNs mainGlobals, (H₀ P).objs.size, (H₀ P).nsMap mainGlobals "__annotations__") = (true, m₀, ann)) (le : Nat.ble M N = true)
    (run : ∀ (b : Bool) (w : World) (os : OsState), (goQ through stepOk stepT (denote treeTable) p (w.withFollow row b) m₀ ann M ⟨T₀ (w.withFollow row b).params, n0, life, #[], d₀, k₀, os⟩ (topStub p)).map (fun s =>
        ((staticsOk (importedModules p.main.body) (H₀ (w.withFollow row b).params) s.abs.heap && namesBound p s.abs.heap && gensDone s.abs && laidKept (H₀ (w.withFollow row b).params) s.abs.heap), openSeen q loose (importedModules p.main.body) Xt true s.abs, Yf s.abs)) =
      some (true, openGood q loose, Ya (w.withFollow row b))) : LeftO p q loose Xt Yf Ya N true := by
  have key : ∀ (b : Bool) (w : World), (fun w => (openEnds treeTable p w N).map (fun s => (openSeen q loose (importedModules p.main.body) Xt true s, Yf s)) = some (openGood q loose, Ya w)) (w.withFollow row b) := by
    intro b w
    have r := run b w
    generalize w.withFollow row b = W at r
    obtain ⟨⟨h, gs, d, k, os⟩, e, e'⟩ := Option.map_eq_some_iff.mp (open_ W)
    obtain ⟨rfl, rfl, rfl, rfl⟩ : h = H₀ W.params ∧ gs = #[] ∧ d = d₀ ∧ k = k₀ := by simpa using e'
    obtain ⟨z1, z2, z3⟩ : _ ∧ _ ∧ _ := by simpa only [Prod.mk.injEq] using size W.params
    obtain ⟨s, hs, hv⟩ := Option.map_eq_some_iff.mp (r os)
    obtain ⟨l1, l2, l3⟩ : _ ∧ _ ∧ _ := by simpa only [Prod.mk.injEq] using hv
    have g := goQ_top hs
    have ea : (⟨T₀ W.params, n0, life, #[], d, k, os⟩ : SharedT).abs = ⟨H₀ W.params, #[], d, k, os⟩ := by
      show Shared.mk (absHeap (T₀ W.params) n0 life) _ _ _ _ = _
      rw [tree]
    rw [ea] at g
    have r := topRun_mono (N - M) _ _ _ _ g
    rw [show M + (N - M) = N by have := Nat.le_of_ble_eq_true le; omega] at r
    have t : topFrom treeTable p W N ⟨H₀ W.params, #[], d, k, os⟩ = some s.abs := by
      unfold topFrom
      dsimp only
      rw [z1, z2, z3, r]
      show (match staticsOk (importedModules p.main.body) (H₀ W.params) s.abs.heap && namesBound p s.abs.heap && gensDone s.abs && laidKept (H₀ W.params) s.abs.heap with | true => _ | false => _) = _
      rw [l1]
    unfold openEnds
    rw [e]
    show ((topFrom treeTable p W N ⟨H₀ W.params, #[], d, k, os⟩)).map _ = _
    rw [t]
    show some ((openSeen q loose (importedModules p.main.body) Xt true s.abs, Yf s.abs)) = some _
    rw [l2, l3]
  exact fun w => byRow2 row (P := fun w => (openEnds treeTable p w N).map (fun s => (openSeen q loose (importedModules p.main.body) Xt true s, Yf s)) = some (openGood q loose, Ya w)) (key false) (key true) w
noncomputable def lz : List Str := [.ofString "_wall", .ofString "SMALL", .ofString "LETTERS", .ofString "FIGURES", .ofString "NAME_SIGNS", .ofString "HEX_SIGNS", .ofString "OCTAL_SIGNS", .ofString "MOST_FIGURES_source", .ofString "PLAIN_ESCAPES", .ofString "Position", .ofString "position_of", .ofString "ToolError", .ofString "ActionError", .ofString "MachineError", .ofString "Cursor", .ofString "WORDS", .ofString "RESERVED", .ofString "LEVELS", .ofString "SIGNS_OF_TWO", .ofString "SIGNS_OF_ONE", .ofString "BLANKS", .ofString "MOST_BITS", .ofString "Part", .ofString "refused", .ofString "scan_dollar", .ofString "scan_sign", .ofString "scan_action", .ofString "ActionReader", .ofString "joined", .ofString "parse_action", .ofString "COMPARISONS", .ofString "MOST_SIZE", .ofString "MOST_PARTS", .ofString "is_number", .ofString "bounded", .ofString "added", .ofString "compared", .ofString "part_count", .ofString "are_equal", .ofString "two_worth", .ofString "MOST_FIGURES_machine", .ofString "need", .ofString "number_of", .ofString "_law_draw", .ofString "_law_number", .ofString "_law_due", .ofString "_law_heard"]
noncomputable def as0 : List Addr := [544, 543, 539, 538, 532, 531, 525, 524, 518, 517, 511, 510, 504, 503, 497, 496, 469, 468, 462, 461, 455, 454, 448, 447, 446, 429, 428, 419, 418, 412, 411, 405, 404, 398, 397, 370, 369, 363, 362, 356, 355, 349, 348, 335, 334, 328, 327, 321, 313, 312, 306, 305, 292, 291, 271, 270, 260, 259, 257, 256, 243, 242, 241, 239, 234, 233, 196, 195, 189, 188, 182, 181, 175, 167, 166, 139, 138, 132, 131, 130, 124, 123, 117, 107, 106, 95, 94, 82, 81, 72, 71, 65, 57, 56, 46, 45, 36, 35, 3]
noncomputable abbrev pw : Program := PySem.Challenge.pw_on0173_01
noncomputable def qv : Program := { pw with main := { pw.main with body := (nth prg 52).toList } }
noncomputable def T0 (P : Params) : BT := ((boot_heap P).objs.toList.foldl (fun (t : BT × Nat) o => (t.1.ins t.2 o, t.2 + 1)) (BT.nil, 0)).1
-- HEADB
theorem tree0 : ∀ P, absHeap (T0 P) 11 {} = boot_heap P := by intro P; kernel_rfl
theorem size0 : ∀ P, ((boot_heap P).isNs mainGlobals, (boot_heap P).objs.size, (boot_heap P).nsMap mainGlobals "__annotations__") = (true, 11, some (.ref 6)) := by intro P; kernel_rfl
theorem open0 : ∀ w : World, (fencedOpening treeTable pw w 8000).map (fun s => (s.heap, s.gens, s.drawn, s.toks)) = some (boot_heap w.params, Array.mk [], boot_drawn, boot_toks) :=
  boot_open (by kernel_rfl) (by decide) (fun s => by kernel_rfl)
-- HEADC
noncomputable abbrev HK : Hook := kHook K0 as0 (fun _ => by kernel_rfl)
noncomputable abbrev Xt0 : Shared → Bool := fun s => xlAt qv [] s && recOk (RowW.records (OpenRow.toRowW PySem.Challenge.rw_on0173_01.row)) s
noncomputable abbrev RunSays (b : Bool) (w : World) (os : OsState) : Prop := (goQ through stepOk stepT (denote treeTable) pw (w.withFollow "special-get-raises" b) 11 (some (.ref 6)) 4000 ⟨T0 (w.withFollow "special-get-raises" b).params, 11, {}, #[], boot_drawn, boot_toks, os⟩ (topStub pw)).map (fun s =>
        ((staticsOk (importedModules pw.main.body) (boot_heap (w.withFollow "special-get-raises" b).params) s.abs.heap && namesBound pw s.abs.heap && gensDone s.abs && laidKept (boot_heap (w.withFollow "special-get-raises" b).params) s.abs.heap), openSeen qv lz (importedModules pw.main.body) Xt0 true s.abs, HK.obs s.abs)) =
      some (true, openGood qv lz, HK.val (w.withFollow "special-get-raises" b))
theorem run_t (w : World) (os : OsState) : RunSays true w os := by
  unfold RunSays
  rw [PySem.W.Fast.te6613529449190102663, PySem.W.Fast.te10156331382660048174, PySem.W.Fast.te11892475500146522536, PySem.W.Fast.te14364793385576792824, PySem.W.Fast.te4187177175401517315, PySem.W.Fast.te5923862056798008813]
  kernel_rfl
theorem run_f (w : World) (os : OsState) : RunSays false w os := by
  unfold RunSays
  rw [PySem.W.Fast.te6613529449190102663, PySem.W.Fast.te10156331382660048174, PySem.W.Fast.te11892475500146522536, PySem.W.Fast.te14364793385576792824, PySem.W.Fast.te4187177175401517315, PySem.W.Fast.te5923862056798008813]
  kernel_rfl
theorem run0 (b : Bool) (w : World) (os : OsState) : (goQ through stepOk stepT (denote treeTable) pw (w.withFollow "special-get-raises" b) 11 (some (.ref 6)) 4000 ⟨T0 (w.withFollow "special-get-raises" b).params, 11, {}, #[], boot_drawn, boot_toks, os⟩ (topStub pw)).map (fun s =>
        ((staticsOk (importedModules pw.main.body) (boot_heap (w.withFollow "special-get-raises" b).params) s.abs.heap && namesBound pw s.abs.heap && gensDone s.abs && laidKept (boot_heap (w.withFollow "special-get-raises" b).params) s.abs.heap), openSeen qv lz (importedModules pw.main.body) Xt0 true s.abs, HK.obs s.abs)) =
      some (true, openGood qv lz, HK.val (w.withFollow "special-get-raises" b)) := by
  cases b
  · exact run_f w os
  · exact run_t w os
-- HEADD
theorem said0 : PySem.Challenge.rw_on0173_01.wellSaid = true := by
  rw [PySem.W.Fast.te9446332074065402090]
  delta PySem.W.Fast.tw9446332074065402090
  (try dsimp only)
  repeat' with_reducible refine PySem.W.look_both ?_ ?_
  delta PySem.W.Fast.tw17960256430627541270
  (try dsimp only)
  repeat' with_reducible refine PySem.W.look_both ?_ ?_
  delta PySem.W.Fast.tw2436336058641802641
  (try dsimp only)
  repeat' with_reducible refine PySem.W.look_both ?_ ?_
  delta PySem.W.Fast.tw12908688711261696721
  (try dsimp only)
  repeat' with_reducible refine PySem.W.look_both ?_ ?_
  all_goals decide +kernel
theorem left0 : LeftO pw qv lz Xt0 HK.obs HK.val 8000 true := left_of "special-get-raises" open0 tree0 size0 (by decide) run0
theorem top0 {d : DefRec} {kwd : List (Str × Expr)} (hdef : defOf qv (OpenLaw.row PySem.Challenge.rw_on0173_01).name = some (d, kwd)) (hp : (OpenLaw.row PySem.Challenge.rw_on0173_01).prog.theDef (OpenLaw.row PySem.Challenge.rw_on0173_01).name = some (d.params, d.body, d.scope)) (hk : kwWritten? d.params.kwonlyargs d.params.kw_defaults = some kwd)
   (walk : WalkO qv lz (XL qv []) HK.says (OpenRow.toRowW (OpenLaw.row PySem.Challenge.rw_on0173_01)) d kwd (fun f vs => PySem.call f vs)) : PySem.Challenge.rw_on0173_01.Holds := by
  refine PySem.W.holds_law said0 fun said => ?_
  refine PySem.W.holds_open (q := qv) (loose := lz) (Xt := Xt0) (XP := XL qv []) (Yf := HK.obs) (Ya := HK.val) (YP := HK.says) (N := 8000) left0 HK.of HK.keeps (fun s e => xl_of s (Bool.and_eq_true_iff.mp e).1) XL.keeps hdef hp hk (fun s e => recFacts_of (Bool.and_eq_true_iff.mp e).2) (by rfl) (by assumption) (by decide +kernel) ⟨rfl, rfl, rfl, rfl, rfl, by decide +kernel⟩ ?hw walk
  exact ⟨[.list [.int 3, .int 1]], by decide +kernel, by decide +kernel⟩
-- EXC0
section
open Builtin Builtin.ObjectAttr
noncomputable abbrev excBm : List Value := [.ref 82, .type "Exception", .type "BaseException", .type "object"]
theorem refuse_exc (self : Value) (C : Addr) : refuseLoop self "__setattr__" (.ref C :: excBm) = pure () := by
  rw [refuseLoop_ref, refuseLoop_ref]
  kernel_rfl
noncomputable abbrev excObj (C t : Addr) (d : Option Addr) : Obj := { cls := .ref C, dict := d, data := .fields #[.ref t, .none, .none, .none, .bool false, .none] }
section
variable {prog : Program} {w : World} {A : Around} {R : Result → Shared → Prop} {s : Shared} {K : Frag} {x C L : Addr} {h₀ : Heap} {m : Str → Option Value} {news : List (Addr × Obj)}
theorem exc_osa_open {ox : Obj} {od : Option Obj} {name : Str} {tk : Tok} {v : Value} {cd : ClassData} (X : K.In s.heap) (I : InstAt s.heap x ox C od) (hc : clsIn K C = some cd) (hm0 : cd.mro = .ref C :: excBm)
    (ha : findIn K (.ref C) name = some none)
    (h : ∀ b, wpAny (model prog w) A.in1 (storeInOwnDict (.ref x) (.ref C) (.str name tk) name v b)
      (fun fin s' => match fin with | .done f => R (.ok f) s' | .again c' => c'.quiet = true ∧ codeAny (model prog w) A c' R s') (fun e s' => R (.error e) s') s) :
    codeAny (model prog w) A (.call (.builtin "object.__setattr__") ⟨[.ref x, .str name tk, v], []⟩) R s := by
  have SF := PySem.F.store_object
  have sub : Looks (model prog w) s.heap (isInstance (.ref x) (.type "object")) true := I.type.andThen (looks_mroIn X (by unfold mroIn; rw [hc, Option.bind_some, hm0]; simp [excBm]))
  refine codeAny_call_builtin SF.slot.plain SF.entry (@check_slot (model prog w) _ _ s "object.__setattr__" "object" "__setattr__" (.ref x) [.str name tk, v] [] _ SF.kind SF.split sub (SF.args (.ref x) (.str name tk) v) ?_)
  have hm : Looks (model prog w) s.heap (mroOf (.ref C)) cd.mro := (looks_clsIn X hc).andThen .now
  have L3 : Looks (model prog w) s.heap (storeTaker? none) none := .now
  rw [osa_eq, refuse_eq]
  refine wpAny_bind (wpAny_bind (I.type.here (wpAny_bind (hm.here ?_))))
  rw [hm0, refuse_exc]
  refine wpAny_pure (wpAny_bind (I.type.here (wpAny_bind ((looks_findIn X ha).here (wpAny_bind (L3.here ?_))))))
  exact h _
theorem exc_set1 {Q : Unit → Shared → Prop} {E : Value → Shared → Prop} {t : Addr} {name : Str} {v : Value} {cd : ClassData} (F : Fr h₀ L s.heap m) (X₀ : K.In h₀) (N : News h₀ L s.heap ((x, excObj C t none) :: news)) (hr : ∀ q ∈ news, q.1 ≠ x)
    (hc : clsIn K C = some cd) (hm0 : cd.mro = .ref C :: excBm) (hd : cd.hasDict = true) (ha : findIn K (.ref C) name = some none)
    (hs : findIn K (.ref C) "__setattr__" = some (some (.builtin "object.__setattr__")))
    (h : ∀ D h' tk, Fr h₀ L h' m → News h₀ L h' ((x, excObj C t (some D)) :: (D, dictOf [⟨PyData.keyHash w.params name, .str name tk, v⟩] 1) :: news) → (∀ q ∈ news, q.1 < D) → x < D → Q () { s with heap := h', toks := tk + 1 }) :
    wpAny (model prog w) A (setAttr (.ref x) name v) Q E s := by
  have X := X₀.keeps F.keep
  have hx := (N _ (.head _)).1
  have I : InstAt s.heap x (excObj C t none) C none := ⟨hx, rfl, rfl, trivial⟩
  refine set_plain X I hs ?_
  refine exc_osa_open (s := { s with toks := s.toks + 1 }) X I hc hm0 ha fun b => ?_
  have F1 := F.push (dictOf [] 0)
  have N1 := N.push F (dictOf [] 0)
  have hsz : s.heap.objs.size ≠ x := Nat.ne_of_gt (Heap.lt_size hx)
  have lt : ∀ q ∈ news, q.1 < s.heap.objs.size := fun q hq => Heap.lt_size (N q (.tail _ hq)).1
  obtain ⟨F2, N2⟩ := news_upd (f := fun o => { o with dict := some s.heap.objs.size }) (o' := excObj C t (some s.heap.objs.size)) (pre := [(s.heap.objs.size, dictOf [] 0)]) (post := news) F1 N1 (fun q hq => by cases hq with | head => exact hsz | tail _ h => cases h) hr rfl rfl
  have N2' : News h₀ L ((s.heap.push (dictOf [] 0)).update x fun o => { o with dict := some s.heap.objs.size }) ([(x, excObj C t (some s.heap.objs.size))] ++ (s.heap.objs.size, dictOf [] 0) :: news) := fun q hq => N2 q (by
    simp only [List.cons_append, List.nil_append, List.mem_cons] at hq ⊢
    rcases hq with e | e | e
    · exact .inr (.inl e)
    · exact .inl e
    · exact .inr (.inr e))
  have e : Obj.putName name (PyData.keyHash w.params name) (.str name (s.toks + 1)) v (dictOf [] 0) = dictOf [⟨PyData.keyHash w.params name, .str name (s.toks + 1), v⟩] 1 := putName_dict ..
  obtain ⟨F3, N3⟩ := news_upd (f := Obj.putName name (PyData.keyHash w.params name) (.str name (s.toks + 1)) v) F2 N2' (fun q hq => by cases hq with | head => exact hsz.symm | tail _ h => cases h) (fun q hq => Nat.ne_of_lt (lt q hq)) e rfl
  have D := (N2' (s.heap.objs.size, dictOf [] 0) (by simp)).1
  have D' := (N3 (s.heap.objs.size, dictOf [⟨PyData.keyHash w.params name, .str name (s.toks + 1), v⟩] 1) (by simp)).1
  have hx1 : (s.heap.push (dictOf [] 0)).get? x = some (excObj C t none) := Heap.get?_push_of_some _ hx
  have fin := h s.heap.objs.size _ (s.toks + 1) F3 N3 lt (Heap.lt_size hx)
  refine wpAny_bind (wpAny_pure (wpAny_bind (wpAny_bind (wpAny_loadPart hx (wpAny_bind ((looks_clsIn X hc).at ?_))))))
  rw [hd]
  refine wpAny_bind (wpAny_alloc (wpAny_bind (wpAny_update hx1 (wpAny_pure (a := some s.heap.objs.size) ?_))))
  refine wpAny_bind (wpAny_pure (wpAny_bind ?_))
  unfold nsSet
  refine wpAny_bind (wpAny_bind (wpAny_askSetting (wpAny_pure (wpAny_bind (wpAny_mkText (wpAny_bind (wpAny_loadPart D ?_)))))))
  dsimp only
  rw [aRefKeyMayBeTheName_at, show ((!([] : List DictEntry).toArray.any (·.key.isStr name)) && ([] : List DictEntry).toArray.any (·.refKey)) = false from by simp]
  refine wpAny_updatePart D ?_
  refine wpAny_bind (wpAny_lookBehind D' (pastItsLine_dict (by rw [List.size_toArray, sizeLine_eq]; simp)) ?_)
  exact wpAny_pure fin
theorem exc_set2 {Q : Unit → Shared → Prop} {E : Value → Shared → Prop} {t D : Addr} {name n1 : Str} {v v1 : Value} {hs1 : Int} {k1 : Tok} {cd : ClassData} (F : Fr h₀ L s.heap m) (X₀ : K.In h₀)
    (N : News h₀ L s.heap ((x, excObj C t (some D)) :: (D, dictOf [⟨hs1, .str n1 k1, v1⟩] 1) :: news)) (hD : ∀ q ∈ news, q.1 ≠ D) (hxD : x ≠ D) (hn : (n1 == name) = false)
    (hc : clsIn K C = some cd) (hm0 : cd.mro = .ref C :: excBm) (hd : cd.hasDict = true) (ha : findIn K (.ref C) name = some none)
    (hs : findIn K (.ref C) "__setattr__" = some (some (.builtin "object.__setattr__")))
    (h : ∀ h' tk, Fr h₀ L h' m → News h₀ L h' ((x, excObj C t (some D)) :: (D, dictOf [⟨hs1, .str n1 k1, v1⟩, ⟨PyData.keyHash w.params name, .str name tk, v⟩] 2) :: news) → Q () { s with heap := h', toks := tk + 1 }) :
    wpAny (model prog w) A (setAttr (.ref x) name v) Q E s := by
  have X := X₀.keeps F.keep
  have hx := (N _ (.head _)).1
  have hDD := (N _ (.tail _ (.head _))).1
  have I : InstAt s.heap x (excObj C t (some D)) C (some (dictOf [⟨hs1, .str n1 k1, v1⟩] 1)) := ⟨hx, rfl, rfl, hDD⟩
  refine set_plain X I hs ?_
  refine exc_osa_open (s := { s with toks := s.toks + 1 }) X I hc hm0 ha fun b => ?_
  have e : Obj.putName name (PyData.keyHash w.params name) (.str name (s.toks + 1)) v (dictOf [⟨hs1, .str n1 k1, v1⟩] 1) = dictOf [⟨hs1, .str n1 k1, v1⟩, ⟨PyData.keyHash w.params name, .str name (s.toks + 1), v⟩] 2 := by
    rw [putName_dict]; simp [putL, putN, Value.isStr, hn]
  obtain ⟨F3, N3⟩ := news_upd (f := Obj.putName name (PyData.keyHash w.params name) (.str name (s.toks + 1)) v) (pre := [(x, excObj C t (some D))]) F N (fun q hq => by cases hq with | head => exact hxD | tail _ h => cases h) hD e rfl
  have D' := (N3 (D, dictOf [⟨hs1, .str n1 k1, v1⟩, ⟨PyData.keyHash w.params name, .str name (s.toks + 1), v⟩] 2) (by simp)).1
  have fin := h _ (s.toks + 1) F3 N3
  refine wpAny_bind (wpAny_pure (wpAny_bind (wpAny_bind (wpAny_loadPart hx (wpAny_bind ((looks_clsIn X hc).at ?_))))))
  rw [hd]
  refine wpAny_pure (a := some D) (wpAny_bind (wpAny_pure (wpAny_bind ?_)))
  unfold nsSet
  refine wpAny_bind (wpAny_bind (wpAny_askSetting (wpAny_pure (wpAny_bind (wpAny_mkText (wpAny_bind (wpAny_loadPart hDD ?_)))))))
  dsimp only
  rw [aRefKeyMayBeTheName_at, show ((!([⟨hs1, .str n1 k1, v1⟩] : List DictEntry).toArray.any (·.key.isStr name)) && ([⟨hs1, .str n1 k1, v1⟩] : List DictEntry).toArray.any (·.refKey)) = false from by simp [DictEntry.refKey]]
  refine wpAny_updatePart hDD ?_
  refine wpAny_bind (wpAny_lookBehind D' (pastItsLine_dict (by rw [List.size_toArray, sizeLine_eq]; simp)) ?_)
  exact wpAny_pure fin
end
section
variable {prog : Program} {w : World} {A : Around} {E : Value → Shared → Prop} {h : Heap} {g : Array GenState} {d : Drawn} {t : Nat} {os : OsState}
variable {nm q : Str} {C N : Addr} {bs bm : List Value} {hdct : Bool} {sn : List Str} {sub : List Value} {ab : Bool} {col : Option Bool} {dd : Option Addr} {k0 k1 k2 k3 k5 : Option Value}
abbrev F0 := PySem.F.excBase_Exception
theorem check_new {rest : List Value} {Q : Unit → Shared → Prop} (hC : h.get? C = some (excClassObj nm q C N bs bm hdct sn sub ab col dd k0 k1 k2 k3 k5 "Exception.__new__"))
    (hB : bm.contains (.type "Exception") = true)
    (hq : Q () ⟨h, g, d, t, os⟩) : wpAny (model prog w) A (checkBuiltinCall "Exception.__new__" ⟨.ref C :: rest, []⟩) Q E ⟨h, g, d, t, os⟩ := by
  have hcont : (Value.ref C :: bm).contains (.type "Exception") = true := by rw [List.contains_cons, hB, Bool.or_true]
  have hstar := F0.noStar
  simp only [checkBuiltinCall, F0.newKind, F0.newSplit, F0.newRow]
  repeat (first | refine wpAny_loadPart_at hC ?_ | (refine wpAny_isSubtype_exc hC ?_; rw [hcont]) | refine wpAny_staticBase_exc hC ?_ | refine wpAny_madeBy_exc hC ?_ | simp only [bne_self_eq_false, Bool.false_eq_true, if_false] | wp_step)
  exact hq
theorem exc_new {R : Result → Shared → Prop} {rest : List Value} (hC : h.get? C = some (excClassObj nm q C N bs bm hdct sn sub ab col dd k0 k1 k2 k3 k5 "Exception.__new__"))
    (hB : bm.contains (.type "Exception") = true) (hA : bm.contains (.type "AttributeError") = false) (hN : bm.contains (.type "NameError") = false)
    (hq : R (.ok (.ret (.ref (h.objs.size + 1)))) ⟨(h.push { cls := .type "tuple", data := .seq rest.toArray }).push
      { cls := .ref C, data := .fields #[.ref h.objs.size, .none, .none, .none, .bool false, .none] }, g, d, t, os⟩) (hrest : rest.length ≤ sizeLine := by size_fits) :
    codeAny (model prog w) A (.builtin "Exception.__new__" ⟨.ref C :: rest, []⟩) R ⟨h, g, d, t, os⟩ := by
  have hends := F0.ends
  have hcB : (Value.ref C :: bm).contains (.type "Exception") = true := by rw [List.contains_cons, hB, Bool.or_true]
  have hcA : (Value.ref C :: bm).contains (.type "AttributeError") = false := by rw [List.contains_cons, hA]; rfl
  have hcN : (Value.ref C :: bm).contains (.type "NameError") = false := by rw [List.contains_cons, hN]; rfl
  refine codeAny_builtinAt F0.entry ?_
  unfold Builtin.«BaseException.__new__»
  refine PySem.wpAt_bind ?_
  show PySem.wpAt _ _ _ (stack >>= _) _ _ _
  refine PySem.wpAt_bind (PySem.wpAt_stack fun p below => PySem.wpAt_of_wpAny ?_)
  wp_walk
  refine PySem.wpAt_of_wpAny ?_
  rw [F0.owner]
  repeat (first | with_reducible refine wpAny_madeHere_exc F0.canon hC ?_ | with_reducible refine wpAny_loadPart_at hC ?_ | (with_reducible refine wpAny_isSubtype_exc hC ?_; first | rw [hcB] | rw [hcA] | rw [hcN]) | wp_step)
  show R _ _
  rw [Heap.size_push]
  exact hq
end

end
-- EXC1
section
open Builtin Builtin.ObjectAttr
section
variable {prog : Program} {w : World} {A : Around} {E : Value → Shared → Prop} {h : Heap} {g : Array GenState} {d : Drawn} {t : Nat} {os : OsState} {K : Frag}
variable {nm q : Str} {C N : Addr} {bs bm : List Value} {hdct : Bool} {sn : List Str} {sub : List Value} {ab : Bool} {col : Option Bool} {dd : Option Addr} {k0 k1 k2 k3 k5 : Option Value}
theorem exc_type_callH {rest : List Value} {fI : Addr} {Q : Fin → Shared → Prop} (X : K.In h)
    (hC : h.get? C = some (excClassObj nm q C N bs bm hdct sn sub ab col dd k0 k1 k2 k3 k5 "Exception.__new__"))
    (hB : bm.contains (.type "Exception") = true) (hA : bm.contains (.type "AttributeError") = false) (hN : bm.contains (.type "NameError") = false)
    (hi : findIn K (.ref C) "__init__" = some (some (.ref fI))) (hf : typeIn K (.ref fI) = some (.type "function"))
    (hq : wpAny (model prog w) A (call (.ref fI) (.ref (h.objs.size + 1) :: rest)) (fun r s' => r = .none ∧ Q (.done (.ret (.ref (h.objs.size + 1)))) s') E
      ⟨(h.push { cls := .type "tuple", data := .seq rest.toArray }).push (excObj C h.objs.size none), g, d, t, os⟩) (hrest : rest.length ≤ sizeLine := by size_fits) :
    wpAny (model prog w) A (Builtin.«type.__call__» ⟨.ref C :: rest, []⟩) Q E ⟨h, g, d, t, os⟩ := by
  repeat (first | with_reducible refine wpAny_loadPart_at hC ?_ | with_reducible refine wpAny_madeBy_exc hC ?_ | wp_step)
  refine codeAny_call_builtin_code (Code.quiet_builtin _ F0.quiet) (check_new hC hB ?_)
  refine exc_new hC hB hA hN ?_ hrest
  show wpAny _ _ _ _ _ _
  have hC₁ := Heap.get?_push_of_some { cls := .ref C, data := .fields #[.ref h.objs.size, .none, .none, .none, .bool false, .none] }
    (Heap.get?_push_of_some { cls := .type "tuple", data := .seq rest.toArray } hC)
  have X₁ : K.In ((h.push { cls := .type "tuple", data := .seq rest.toArray }).push { cls := .ref C, data := .fields #[.ref h.objs.size, .none, .none, .none, .bool false, .none] }) :=
    X.keeps fun b o e => Heap.get?_push_of_some _ (Heap.get?_push_of_some _ e)
  have hget : ((h.push { cls := .type "tuple", data := .seq rest.toArray }).push
      { cls := .ref C, data := .fields #[.ref h.objs.size, .none, .none, .none, .bool false, .none] }).get? (h.objs.size + 1) = some
      { cls := .ref C, data := .fields #[.ref h.objs.size, .none, .none, .none, .bool false, .none] } := by heap_get
  have hcC : (Value.ref C :: bm).contains (.ref C) = true := by simp
  unfold isInstance
  repeat (first | with_reducible refine wpAny_loadPart_at hget ?_ | (with_reducible refine wpAny_isSubtype_exc hC₁ ?_; rw [hcC]) | wp_step)
  show wpAny _ _ (typeLookup (.ref C) _) _ _ _
  refine (looks_findIn X₁ hi).at ?_
  refine wpAny_holding (wpAny_bind ((bind_fn X₁ _ hf).at ?_))
  refine wpAny_bind (wpAny_mono hq (fun r s' hr => ?_) fun _ _ x => x)
  obtain ⟨rfl, hQ⟩ := hr
  wp_walk
  exact hQ
end
section
variable {prog : Program} {w : World} {A : Around} {E : Value → Shared → Prop} {s : Shared} {K : Frag} {e C L : Addr} {h₀ : Heap} {m : Str → Option Value} {news : List (Addr × Obj)}
variable {nm q : Str} {N₁ : Addr} {bs bm : List Value} {hdct : Bool} {sn : List Str} {sub : List Value} {ab : Bool} {col : Option Bool} {dd : Option Addr} {k0 k1 k2 k3 k5 : Option Value}
theorem check_init {h : Heap} {g : Array GenState} {d : Drawn} {t : Nat} {os : OsState} {oe : Obj} {rest : List Value} {Q : Unit → Shared → Prop}
    (hC : h.get? C = some (excClassObj nm q C N₁ bs bm hdct sn sub ab col dd k0 k1 k2 k3 k5 "Exception.__new__")) (hB : bm.contains (.type "Exception") = true) (he : h.get? e = some oe) (hcls : oe.cls = .ref C) (hq : Q () ⟨h, g, d, t, os⟩) :
    wpAny (model prog w) A (checkBuiltinCall "Exception.__init__" ⟨.ref e :: rest, []⟩) Q E ⟨h, g, d, t, os⟩ := by
  have hcB : (Value.ref C :: bm).contains (.type "Exception") = true := by rw [List.contains_cons, hB, Bool.or_true]
  have hshort := F0.noStar
  simp only [checkBuiltinCall, F0.initKind, F0.initSplit, F0.initRow]
  repeat (first | (with_reducible refine wpAny_loadPart_at he ?_; rw [hcls]) | with_reducible refine wpAny_loadPart_at hC ?_ | (with_reducible refine wpAny_isSubtype_exc hC ?_; rw [hcB]) | wp_step)
  refine wpAny_onRaise ?_
  rw [show ∀ (a b : String) (n : Nat), Bind.check ⟨.positional, "*", "Exception", .self, [⟨"args", .varPos, false⟩]⟩ a b n (List.map (fun x => x.fst) ({ pos := Value.ref e :: rest } : Args).kw) = pure () from
    fun a b n => check_star_args _ _ _ _ _ _]
  exact wpAny_pure hq
theorem exc_init {t : Addr} {rest : List Value} {Q : Value → Shared → Prop} (F : Fr h₀ L s.heap m) (N : News h₀ L s.heap ((e, excObj C t none) :: news)) (hr : ∀ q ∈ news, q.1 ≠ e)
    (hC : s.heap.get? C = some (excClassObj nm q C N₁ bs bm hdct sn sub ab col dd k0 k1 k2 k3 k5 "Exception.__new__")) (hB : bm.contains (.type "Exception") = true)
    (h : ∀ t' h', Fr h₀ L h' m → News h₀ L h' ((e, excObj C t' none) :: (t', { cls := .type "tuple", data := .seq rest.toArray }) :: news) → (∀ q ∈ news, q.1 < t') → e < t' → Q .none { s with heap := h' }) (hrest : rest.length ≤ sizeLine := by size_fits) :
    wpAny (model prog w) A (call (.builtin "Exception.__init__") (.ref e :: rest)) Q E s := by
  have he := (N _ (.head _)).1
  refine wpAny_call (codeAny_call_builtin F0.init.plain F0.initEntry (check_init hC hB he rfl ?_))
  have N1 := N.push F { cls := .type "tuple", data := .seq rest.toArray }
  have F1 := F.push { cls := .type "tuple", data := .seq rest.toArray }
  have hsz : s.heap.objs.size ≠ e := Nat.ne_of_gt (Heap.lt_size he)
  obtain ⟨F2, N2⟩ := news_upd (f := Obj.mapFields (·.setIfInBounds 0 (.ref s.heap.objs.size))) (o' := excObj C s.heap.objs.size none) (pre := [(s.heap.objs.size, { cls := .type "tuple", data := .seq rest.toArray })]) (post := news) F1 N1 (fun q hq => by cases hq with | head => exact hsz | tail _ h => cases h) hr rfl rfl
  have fin := h s.heap.objs.size _ F2 (fun q hq => N2 q (by
    simp only [List.cons_append, List.nil_append, List.mem_cons] at hq ⊢
    rcases hq with e | e | e
    · exact .inr (.inl e)
    · exact .inl e
    · exact .inr (.inr e))) (fun q hq => Heap.lt_size (N q (.tail _ hq)).1) (Heap.lt_size he)
  have he1 : (s.heap.push { cls := .type "tuple", data := .seq rest.toArray }).get? e = some (excObj C t none) := Heap.get?_push_of_some _ he
  unfold Builtin.«BaseException.__init__»
  wp_walk
  all_goals exact fin
end

end
-- EXC2
section
open Builtin Builtin.ObjectAttr
theorem memX {env : Env} {L b : Addr} {outer : List Env} (hf : env.frame = some L) (hm : b ∈ (env :: outer).filterMap (·.frame)) : b = L ∨ b ∈ outer.filterMap (·.frame) := by
  obtain ⟨e, he, hb⟩ := List.mem_filterMap.mp hm
  rcases List.mem_cons.mp he with rfl | he
  · rw [hf] at hb; exact .inl (Option.some.inj hb).symm
  · exact .inr (List.mem_filterMap.mpr ⟨e, he, hb⟩)
section
variable {M : Model} {A : Around} {E : Value → Shared → Prop} {s' : Shared} {base g g₂ h : Heap} {outer : List Env} {env : Env} {L e t : Addr} {m : Str → Option Value} {Q : Unit → Shared → Prop} {news : List (Addr × Obj)}
theorem leave_onSX {cls : Value} {vs : List Value} (hf : env.frame = some L) (K : Below A base outer g) (F : Fr g L g₂ m) (R : RaisedS base g₂ (env :: outer) e cls t vs news s'.heap) (hsm : g₂.UpToSlots s'.heap)
    (hQ : ∀ h', RaisedS base g outer e cls t vs news h' → RaisedK base outer e cls t vs news h' → g.UpToSlots h' → Q () { s' with heap := h' }) :
    wpAny M (A.deeper env) (leaving env (.ref e)) Q E s' := by
  obtain ⟨⟨B, hB, hBG, hl, hfl, hnew⟩, htup⟩ := R
  exact wpAny_leaves_onW (Around.frames_deeper K.stack) hf hfl fun h' x1 x2 =>
    have R : RaisedS base g outer e cls t vs news h' := ⟨⟨B, hB, fun b o q nm => hBG b o (F.keep b o q) (fun hm => by
      rcases memX hf hm with z | z
      · rw [z, kts_self F] at q
        cases q
      · exact nm z), fun q hq => ⟨(hl q hq).1, kts_none F.keep (hl q hq).2.1, (hl q hq).2.2⟩, x1, hnew⟩, htup.of_slots x2⟩
    hQ h' R R.toK ((Heap.UpToSlots.of_keeps F.keep).trans (hsm.trans x2))
theorem leave_raiseSX {C : Addr} {vs : List Value} {od : Option Addr} (hf : env.frame = some L) (hk : env.scope.kind = .function) (K : Below A base outer g) (F : Fr g L s'.heap m)
    (N : News g L s'.heap ((e, excObj C t od) :: (t, { cls := .type "tuple", data := .seq vs.toArray }) :: news)) (hne : ∀ q ∈ news, q.1 ≠ e) (hnt : ∀ q ∈ news, q.1 ≠ t)
    (hQ : ∀ h', RaisedS base g outer e (.ref C) t vs news h' → RaisedK base outer e (.ref C) t vs news h' → g.UpToSlots h' → Q () { s' with heap := h' }) :
    wpAny M (A.deeper env) (leaving env (.ref e)) Q E s' := by
  have K' := pushX K F hf hk
  have he := N _ (.head _)
  have ht := N _ (.tail _ (.head _))
  have nE : e ∉ (env :: outer).filterMap (·.frame) := fun hm => by
    rcases memX hf hm with z | z
    · exact he.2.1 z
    · obtain ⟨_, o, ho, _⟩ := K.frames.mem z
      rw [he.2.2] at ho; cases ho
  have nT : t ∉ (env :: outer).filterMap (·.frame) := fun hm => by
    rcases memX hf hm with z | z
    · exact ht.2.1 z
    · obtain ⟨_, o, ho, _⟩ := K.frames.mem z
      rw [ht.2.2] at ho; cases ho
  have hin : ∀ env' ∈ (env :: outer), ∀ b, env'.frame = some b → b ∈ e :: t :: (env :: outer).filterMap (·.frame) := fun env' he' b hb => .tail _ (.tail _ (List.mem_filterMap.mpr ⟨env', he', hb⟩))
  have be : base.get? e = none := fresh_of_stays K.stays he.2.2
  have bt : base.get? t = none := fresh_of_stays K.stays ht.2.2
  have split : ∀ {b : Addr}, b ∈ e :: t :: (env :: outer).filterMap (·.frame) → b = e ∨ b = t ∨ b ∈ (env :: outer).filterMap (·.frame) := fun hm => by
    rcases List.mem_cons.mp hm with z | z
    · exact .inl z
    · rcases List.mem_cons.mp z with z | z
      · exact .inr (.inl z)
      · exact .inr (.inr z)
  have st : base.StaysIn (hideAll s'.heap (e :: t :: (env :: outer).filterMap (·.frame))) := fun b o q => hideAll_get _ (K'.stays b o q) fun hm => by
    rcases split hm with z | z | z
    · rw [z, be] at q; cases q
    · rw [z, bt] at q; cases q
    · rw [(K'.frames.mem z).1] at q; cases q
  have sg : ∀ b o, g.get? b = some o → b ∉ outer.filterMap (·.frame) → (hideAll s'.heap (e :: t :: (env :: outer).filterMap (·.frame))).get? b = some o := fun b o q nm => hideAll_get _ (F.keep b o q) fun hm => by
    rcases split hm with z | z | z
    · rw [z, he.2.2] at q; cases q
    · rw [z, ht.2.2] at q; cases q
    · rcases memX hf z with z | z
      · rw [z, kts_self F] at q; cases q
      · exact nm z
  have hl : ∀ q ∈ news, (hideAll s'.heap (e :: t :: (env :: outer).filterMap (·.frame))).get? q.1 = some q.2 ∧ g.get? q.1 = none ∧ base.get? q.1 = none := fun q hq => by
    have n := N q (.tail _ (.tail _ hq))
    refine ⟨hideAll_get _ n.1 fun hm => ?_, n.2.2, fresh_of_stays K.stays n.2.2⟩
    rcases split hm with z | z | z
    · exact hne q hq z
    · exact hnt q hq z
    · rcases memX hf z with z | z
      · exact n.2.1 z
      · obtain ⟨_, o, ho, _⟩ := K.frames.mem z
        rw [n.2.2] at ho; cases ho
  refine wpAny_leaving_firstW (base := hideAll s'.heap (e :: t :: (env :: outer).filterMap (·.frame))) (a0 := .ref t) K'.stack (funFrames_hide K'.frames hin) hf he.1 (fun b o q => of_hideAll _ q) (hideAll_none _ (.head _)) rfl rfl rfl fun h' hL => ?_
  obtain ⟨k1, ⟨_, _, k2⟩, k3, k4⟩ := hL
  have R : RaisedS base g outer e (.ref C) t vs news h' := ⟨⟨_, st, sg, hl, ⟨k1, hideAll_none _ (.head _), k2, k3⟩, hideAll_none _ (.tail _ (.head _))⟩, Heap.TupAt.of_slots ⟨_, _, ht.1, rfl, rfl⟩ k4⟩
  exact hQ h' R R.toK ((Heap.UpToSlots.of_keeps F.keep).trans k4)
end

end
-- EXC3
section
open Builtin Builtin.ObjectAttr
section
variable {prog : Program} {w : World} {A₀ A : Around} {s : Shared} {base h₀ : Heap} {env : Env} {L : Addr} {m : Str → Option Value} {news : List (Addr × Obj)} {K : Frag} {p : Program} {loose : List Str} {mean : ExcName → Option Value} {mg mb : Str → Option Value}
    {R : Result → Shared → Prop} {name qual : Str} {params : Arguments} {body : List Stmt} {scope : Scope} {dV kV doc pm cdv ct oc : Value} {an od : Option Addr} {osl : Array (Option Value)} {f : Addr} {args : Args} {binds : List (Str × Value)}
theorem codeS0X (B : Below A₀ base [] h₀) (F : Fr h₀ L s.heap m) (X₀ : K.In h₀) (N : News h₀ L s.heap news) (T : Top p loose mean mg mb h₀) (hA : A.frames = some [env]) (hf : env.frame = some L)
    (ho : K.lookup f = some ⟨oc, od, .func (fnOf name qual params body scope dV kV doc pm an cdv ct), osl⟩) (hcd : codeIn K cdv qual = true) (hroom : A.depth < recursionLimit)
    (hbind : BindsTo s (fnOf name qual params body scope dV kV doc pm an cdv ct) args binds) (hloc : ∀ y ∈ binds, scope.names.lookup y.1 = some .local)
    (h : ∀ g L' h₁, Fr h₀ L g m → Fr g L' h₁ (fun y => binds.reverse.lookup y) → News g L' h₁ news → Below A base [env] g → K.In g → Top p loose mean mg mb g → KtsDicts ([env].filterMap (·.frame)) g →
      wpAny (model prog w) (A.deeper (envOf qual scope L' f cdv)) (execs body (envOf qual scope L' f cdv))
        (fun fl s' => LeaveS0 ([env].filterMap (·.frame)) h₀ L m g R (match fl with | .ret v => v | _ => .none) s')
        (fun e s' => wpAny (model prog w) (A.deeper (envOf qual scope L' f cdv)) (leaving (envOf qual scope L' f cdv) e) (fun _ s'' => R (.error e) s'') (fun e' s'' => R (.error e') s'') s')
        { s with heap := h₁, toks := s.toks + binds.length })
    (hck : env.scope.kind = .function) (hco : scope.isCoroutine = false) (hgen : scope.isGenerator = false) (hk : scope.kind = .function)
    (hcell : ∀ x ∈ scope.names, x.2 ≠ .cell) : codeAny (model prog w) A (.call (.ref f) args) R s := by
  have X := X₀.keeps F.keep
  refine codeAny_call_def (fd := fnOf name qual params body scope dV kV doc pm an cdv ct) (body := body) (binds := binds) hroom (X _ _ ho) rfl (T.nolimit.keeps F.keep) (codeRec_of X hcd) rfl hbind hcell hloc (fun h₁ hns hk₁ => ?_) hco hgen hk
  have nm : ∀ b o, h₀.get? b = some o → b ∉ news.map (·.1) := fun b o e q => by
    obtain ⟨p, hp, rfl⟩ := List.mem_map.mp q
    rw [(N p hp).2.2] at e; cases e
  have st : h₀.StaysIn (hideAll s.heap (news.map (·.1))) := fun b o e => hideAll_get _ (F.keep b o e) (nm b o e)
  obtain ⟨oL, es, ep, hL, hLd, hLk, hLf⟩ := F.ns
  have nL : L ∉ news.map (·.1) := fun q => by
    obtain ⟨p, hp, e⟩ := List.mem_map.mp q
    exact (N p hp).2.1 e
  have hLg := hideAll_get (news.map (·.1)) hL nL
  have hN : ∀ h', h'.get? L = some oL → Heap.Ns h' L m := fun h' e => ⟨oL, es, ep, e, hLd, hLk, hLf⟩
  have hNs : ∀ (sl : Array (Option Value)) h', h'.get? L = some { oL with slots := sl } → Heap.Ns h' L m := fun sl h' e => ⟨_, es, ep, e, hLd, hLk, hLf⟩
  have B₁ := pushX B F hf hck
  have B₂ : Below A base [env] (hideAll s.heap (news.map (·.1))) := ⟨hA, fun b o e => st b o (B.stays b o e), funFrames_hideAll B₁.frames fun env' he b hb hf' => by
    cases he with
    | head => exact nL ((Option.some.inj (hf.symm.trans hf') : L = b) ▸ hb)
    | tail _ he => cases he⟩
  refine wpAny_mono (h _ s.heap.objs.size h₁ ⟨hN _ hLg, st, F.above⟩ ⟨hns, fun b o e => hk₁ b o (of_hideAll _ e), Nat.le_of_eq (hideAll_size _ _)⟩
    (fun p hp => ⟨hk₁ _ _ (N p hp).1, Nat.ne_of_lt (Heap.lt_size (N p hp).1), hideAll_none _ (List.mem_map_of_mem hp)⟩) B₂ (X₀.keeps st) (T.keeps st) (fun b hb => by
      rcases memX hf hb with rfl | z
      · exact ⟨oL, es, ep, hLg, hLd⟩
      · simp at z)) (fun fl s' hl => ?_) fun _ _ y => y
  obtain ⟨g', L', m', news', T', F', N', k⟩ := hl
  have nL₀ : h₀.get? L = none := kts_self F
  obtain ⟨sl, hs⟩ := T'.up hLg
  refine k ⟨hNs sl _ (F'.keep _ _ hs), fun b o e => F'.keep b o (T'.other b o (st b o e) (fun q => by
    rcases memX hf q with z | z
    · rw [z, nL₀] at e
      cases e
    · simp at z)), F.above⟩ fun p hp => ⟨(N' p hp).1, fun q => ?_, ?_⟩
  · have := (N' p hp).2.2; rw [q, hs] at this; cases this
  · cases q : h₀.get? p.1 with
    | none => rfl
    | some o =>
      obtain ⟨sl', hs'⟩ := T'.up (st _ _ q)
      have := (N' p hp).2.2
      rw [hs'] at this
      cases this
end
section
variable {prog : Program} {w : World} {A : Around} {E : Value → Shared → Prop} {s : Shared} {K : Frag} {C L : Addr} {h₀ : Heap} {m : Str → Option Value} {news : List (Addr × Obj)} {env : Env}
variable {nm q : Str} {N₁ : Addr} {bs : List Value} {hdct : Bool} {sn : List Str} {sub : List Value} {ab : Bool} {col : Option Bool} {dd : Option Addr} {k0 k1 k2 k3 k5 : Option Value}
theorem exc_call_K {rest : List Value} {Q : Value → Shared → Prop} {fI : Addr} (F : Fr h₀ L s.heap m) (X₀ : K.In h₀) (N : News h₀ L s.heap news)
    (hC : K.lookup C = some (excClassObj nm q C N₁ bs excBm hdct sn sub ab col dd k0 k1 k2 k3 k5 "Exception.__new__"))
    (hi : findIn K (.ref C) "__init__" = some (some (.ref fI))) (hfn : typeIn K (.ref fI) = some (.type "function"))
    (h : ∀ e t h', Fr h₀ L h' m → News h₀ L h' ((e, excObj C t none) :: (t, { cls := .type "tuple", data := .seq rest.toArray }) :: news) → (∀ q ∈ news, q.1 < t) → t < e →
      wpAny (model prog w) (A.under (.builtin "type.__call__" ⟨.ref C :: rest, []⟩)) (call (.ref fI) (.ref e :: rest)) (fun r s' => r = .none ∧ Q (.ref e) s') E { s with heap := h' }) (hrest : rest.length ≤ sizeLine := by size_fits) :
    wpAny (model prog w) A (call (.ref C) rest) Q E s := by
  have X := X₀.keeps F.keep
  obtain ⟨hh, g, d, tk, os⟩ := s
  have hC' := X _ _ hC
  have f1 := tc_lookup
  have f2 := PySem.tc_bind (.ref C)
  have hT : (⟨hh, g, d, tk, os⟩ : Shared).TypeIs (.ref C) "type" := ⟨_, hC', rfl⟩
  refine wpAny_call (codeAny_of_tree ?_)
  show wpAny _ _ (callAny (.ref C) _) _ _ _
  repeat (any_goals (first | assumption | with_reducible refine wpAny_loadPart_at hC' ?_ | wp_step))
  refine ⟨rfl, ?_⟩
  refine codeAny_call_builtin_at (Code.quiet_builtin _ (by decide +kernel)) entry_typeCall (wpAny_check_type_call_sub hC' (exc_type_callH (hrest := hrest) X hC' rfl rfl rfl hi hfn ?_))
  have N1 := N.push F { cls := .type "tuple", data := .seq rest.toArray }
  have F1 := F.push { cls := .type "tuple", data := .seq rest.toArray }
  have N2 := N1.push F1 (excObj C hh.objs.size none)
  have F2 := F1.push (excObj C hh.objs.size none)
  rw [Heap.size_push] at N2
  exact h (hh.objs.size + 1) hh.objs.size _ F2 N2 (fun q hq => Heap.lt_size (N q hq).1) (Nat.lt_succ_self _)
end

end
-- EXC4
section
open Builtin Builtin.ObjectAttr
def RaiseIt (K : Frag) (C : Addr) (E : Value → Shared → Prop) (v : Value) (s : Shared) : Prop := ∃ e t od, v = .ref e ∧ s.heap.get? e = some (excObj C t od) ∧ K.In s.heap ∧ E (.ref e) s
section
variable {M : Model} {A : Around} {E : Value → Shared → Prop} {env : Env} {K : Frag}
variable {nm q : Str} {C N : Addr} {bs : List Value} {hdct : Bool} {sn : List Str} {sub : List Value} {ab : Bool} {col : Option Bool} {dd : Option Addr} {k0 k1 k2 k3 k5 : Option Value} {newId : String}
theorem raiseStmt_made {s : Shared} {x : Sem Value} {Q : Flow → Shared → Prop} (hC : K.lookup C = some (excClassObj nm q C N bs excBm hdct sn sub ab col dd k0 k1 k2 k3 k5 newId)) (hh : A.handled = none)
    (h : wpAny M A x (RaiseIt K C E) E s) : wpAny M A (raiseStmt env (some x) none) Q E s := by
  have hcB : (Value.ref C :: excBm).contains (.type "BaseException") = true := by rw [List.contains_cons]; simp [excBm]
  unfold raiseStmt
  refine wpAny_bind (wpAny_mono h (fun v s₁ h₁ => ?_) fun _ _ x => x)
  obtain ⟨e, t, od, rfl, he, X, hE⟩ := h₁
  have hC' := X _ _ hC
  obtain ⟨hp, g, d, tk, os⟩ := s₁
  repeat (first | with_reducible refine wpAny_loadPart_at he ?_ | with_reducible refine wpAny_loadPart_at hC' ?_ | (with_reducible refine wpAny_isSubtype_exc hC' ?_; rw [hcB]) | wp_step)
  exact wpAny_raiseNew_none hh hE
end
section
variable {prog : Program} {w : World} {A : Around} {E : Value → Shared → Prop} {s : Shared} {K : Frag} {C L : Addr} {h₀ : Heap} {m : Str → Option Value} {env : Env}
variable {nm q : Str} {N : Addr} {bs : List Value} {hdct : Bool} {sn : List Str} {sub : List Value} {ab : Bool} {col : Option Bool} {dd : Option Addr} {k0 k1 k2 k3 k5 : Option Value} {newId : String}
theorem raise_any {pos : Pos} {e0 : Expr} {Q : Flow → Shared → Prop} {hX : Heap} (_X : K.In hX) (hh : A.handled = none)
    (hC : K.lookup C = some (excClassObj nm q C N bs excBm hdct sn sub ab col dd k0 k1 k2 k3 k5 newId))
    (h : wpAny (model prog w) A (eval e0 env) (RaiseIt K C E) E s) :
    wpAny (model prog w) A (exec (.Raise (some e0) none pos) env) Q E s := by
  rw [arm_exec_Raise]
  refine wpAny_bind (wpAny_standAt (raiseStmt_made hC hh (wpAny_bind (wpAny_mono h (fun v s₃ h₃ => wpAny_bind (wpAny_standAt (wpAny_pure h₃))) fun _ _ x => x))))
end

end
-- LN
section
open Builtin Builtin.ObjectAttr
theorem meta_exc : typeOf (.type "Exception") = pure (.type "type") := by kernel_rfl
theorem allLt_ne {d : Addr} : ∀ {l : List (Addr × Obj)}, AllLt d l → ∀ q ∈ l, q.1 ≠ d
  | [], _, _, h => nomatch h
  | _ :: _, ⟨a, b⟩, q, h => by
    rcases List.mem_cons.mp h with rfl | h
    · exact Nat.ne_of_lt a
    · exact allLt_ne b q h
theorem allLt_ne0 {l : List (Addr × Obj)} {d : Addr} (h : ∀ q ∈ l, q.1 < d) : ∀ q ∈ l, q.1 ≠ d := fun q hq => Nat.ne_of_lt (h q hq)

end
-- RUL
theorem units_make (A : Around) (C : Addr) (vals : List Value) : (A.under (.builtin "type.__call__" ⟨.ref C :: vals, []⟩)).units = A.units + 1 := rfl
local macro_rules | `(tactic| k_in) => `(tactic| exact Frag.In.keeps (by k_asm) (Fr.keep (by k_asm)))

local macro_rules | `(tactic| ktr_room) => `(tactic| ((try simp only [depth_under_make, depth_under_kw, depth_in1, depth_deeper, depth_caller]); (try dsimp only [ktrTop]); omega))

local macro_rules | `(tactic| ktr_units) => `(tactic| ((try simp only [units_make, units_in1, units_deeper, Around.mark_units, units_caller]); (try dsimp only [ktrTop]); omega))

local macro_rules | `(tactic| k_all) => `(tactic| first | with_reducible assumption | exact allLt_ne0 (by with_reducible assumption) | exact allLt_ne (by with_reducible assumption) | exact allLt_ne (And.right (by with_reducible assumption)) | exact allLt_ne (And.right (And.right (by with_reducible assumption))) | exact allLt_ne (And.right (And.right (And.right (by with_reducible assumption)))))

local macro_rules | `(tactic| k_enter) => `(tactic| (refine' code_def ?k1 ?k2 ?k3 ?k4 ?k5 ?kA ?kF ?kK ?k6 ?k7 ?k8 ?k9 ?kB ?_ ?c2 ?c3 ?c4 ?c5; (case kA => exact rfl); (case kF => exact rfl); (case kK => first | exact rfl | with_reducible assumption); (case k1 => k_asm); (case k2 => k_asm); (case k3 => k_asm); (case k4 => k_asm); (case k5 => k_asm); (case k6 => k_is); (case k7 => k_is); (case k8 => ktr_room); (case k9 => first | exact BindsTo.of_eq rfl | exact binds_K (by k_in) rfl (by k_is) rfl rfl rfl); (case c5 => decide); (case kB => exact locs rfl); (case c2 => exact rfl); (case c3 => exact rfl); (case c4 => exact rfl); k_whole; intro g' L' h' FG' F' N' B' X' T'; (try dsimp only); (try k_lift B'); (try k_fold)))

local macro_rules | `(tactic| walk_at "getMethod type:Exception") => `(tactic| (k_here; refine' method_type ?F ?X meta_exc (by decide +kernel) ?e ?h ?_; (case F => k_asm); (case X => k_asm); (case e => k_dflt k_is); (case h => k_handed)))

theorem reg_1 : True := by
  k_with "call builtin:Exception.__init__" => ((k_here; k_dflt (apply exc_init; (case F => k_asm); (case N => k_asm); (case hr => k_all); (case hC => exact (Frag.In.keeps (by k_asm) (Fr.keep (by k_asm))) _ _ (by k_is)); (case hB => rfl); (try (case hrest => size_fits))); intro t' h' F' N' l1 l2; (try k_lt l1); (try k_lt2 l2); (try k_sweep)))
  trivial

theorem reg_2 : True := by
  k_with "setAttr ref" => ((k_here; k_dflt (first | (apply exc_set1; (case F => k_asm); (case X₀ => k_asm); (case N => k_asm); (case hr => k_all); (case hc => k_is); (case hm0 => rfl); (case hd => rfl); (case ha => k_is); (case hs => k_is); intro D' h' tk' F' N' l1 l2; (try k_lt l1); (try k_lt2 l2); (try k_sweep)) | (apply exc_set2; (case F => k_asm); (case X₀ => k_asm); (case N => k_asm); (case hD => k_all); (case hxD => k_ne); (case hn => decide); (case hc => k_is); (case hm0 => rfl); (case hd => rfl); (case ha => k_is); (case hs => k_is); intro h' tk' F' N'; (try k_sweep)))))
  trivial

theorem reg_3 : True := by
  k_with "exec Raise some none" => ((k_here; k_dflt (first | ((with_reducible show wpAny _ _ (exec (Stmt.Raise (some (Expr.Call (Expr.Name (PySem.Str.ofString "MachineError") _) _ _ _)) none _) _) _ _ _); apply raise_any (C := 107); (case _X => k_asm); (case hh => rfl); (case hC => k_is); k_whole) | (apply raise_any (C := 95); (case _X => k_asm); (case hh => rfl); (case hC => k_is); k_whole))))
  trivial

theorem reg_4 : True := by
  k_with "And" => (((with_reducible show _ = Value.ref _ ∧ _); refine ⟨rfl, ?_⟩))
  trivial

theorem reg_5 : True := by
  k_with "RaiseIt" => ((refine ⟨_, _, _, rfl, News.get (by k_asm) (by k_mem), by k_in, ?_⟩))
  trivial

theorem reg_6 : True := by
  k_with "leaving ref" => ((k_here; k_dflt (first | (apply leave_raiseSX; (case hf => rfl); (case hk => rfl); (case K => assumption); (case F => k_asm); (case N => k_asm); (case hne => k_all); (case hnt => k_all); k_whole; intro h' S' R' U'; (try dsimp only at S' R' U' ⊢)) | (apply leave_onSX; (case hf => rfl); (case R => assumption); (case K => assumption); (case F => assumption); (case hsm => assumption); k_whole; intro h' S' R' U'; (try dsimp only at S' R' U' ⊢)))))
  trivial

theorem reg_7 : True := by
  k_with "compareOp In str ref" => ((k_here; (with_reducible show wpAny _ _ (compareOp CmpOp.In (Value.str _ _) (Value.ref _)) _ _ _); (with_unfolding_all apply in_tuple_strs; (case ht => exact tupK (Frag.In.keeps (by k_asm) (Fr.keep (by k_asm))) (by k_is)); (case hi => kde_strs); k_whole)))
  trivial
-- X1
theorem drop2 {h₀ h : Heap} {L : Addr} {a d : Addr × Obj} {l : List (Addr × Obj)} (N : News h₀ L h (a :: d :: l)) : News h₀ L h (a :: l) := fun q hq => by
  cases hq with
  | head => exact N _ (.head _)
  | tail _ h => exact N _ (.tail _ (.tail _ h))
theorem drop1 {h₀ h : Heap} {L : Addr} {a : Addr × Obj} {l : List (Addr × Obj)} (N : News h₀ L h (a :: l)) : News h₀ L h l := fun q hq => N q (.tail _ hq)
theorem drop3 {h₀ h : Heap} {L : Addr} {a b d : Addr × Obj} {l : List (Addr × Obj)} (N : News h₀ L h (a :: b :: d :: l)) : News h₀ L h (a :: b :: l) := fun q hq => by
  cases hq with
  | head => exact N _ (.head _)
  | tail _ h => exact (drop2 (fun q hq => N q (.tail _ hq))) q h
theorem allLt_mem {d : Addr} : ∀ {l : List (Addr × Obj)}, AllLt d l → ∀ q ∈ l, q.1 < d
  | [], _, _, h => nomatch h
  | _ :: _, ⟨a, b⟩, q, h => by
    rcases List.mem_cons.mp h with rfl | h
    · exact a
    · exact allLt_mem b q h
section
variable {w : World} {p : Program} {loose : List Str} {mean : ExcName → Option Value} {mg mb : Str → Option Value}
  {dp un : Nat} {gd : Option (List Code)} {cn : Str} {cs : Scope} {a : Addr} {ccd : Value} {cl : List (Str × Addr)} {outer : List Env} {A₀ : Around} {base h₀ : Heap} {L : Addr} {m : Str → Option Value} {s : Shared} {Q : Value → Shared → Prop} {E : Value → Shared → Prop}
theorem init_c {rest : List (Addr × Obj)} {e t C : Addr} {msg : Str} {tk : Tok} 
  (hC : C = 107 ∨ C = 95)
  (B : Below A₀ base outer h₀) (F : Fr h₀ L s.heap m) (X : (K0 w.params).In h₀)
  (N : News h₀ L s.heap ((e, excObj C t none) :: rest)) (hr : ∀ q ∈ rest, q.1 ≠ e)
  (T : Top p loose mean mg mb h₀) (hk : cs.kind = .function) (hd : dp + 20 < recursionLimit) (hu : un + 80 < cLine)
  (hret : ∀ t' D h' tk', Fr h₀ L h' m → News h₀ L h' ((e, excObj C t' (some D)) :: (t', { cls := .type "tuple", data := .seq #[.str msg tk] }) :: rest) → (∀ q ∈ rest, q.1 < t') → e < t' → Q .none { s with heap := h', toks := tk' }) :
  wpAny (model PySem.Challenge.rw_on0173_01.row.toRowW.prog w) (ktrTop dp un gd cn cs L a ccd cl outer) (call (.ref 72) [.ref e, .str msg tk]) Q E s := by
  rcases hC with rfl | rfl
  all_goals
    revert X; k_fill; intro X
    refine wpAny_call ?_
    k_enter
    k_steps
    all_goals exact hret _ _ _ _ (by k_asm) (drop2 (by k_asm)) (by assumption) (by assumption)
theorem init_p {rest : List (Addr × Obj)} {e t C : Addr} {msg : Str} {tk : Tok} {po : Addr}
  (hC : C = 107 ∨ C = 95)
  (B : Below A₀ base outer h₀) (F : Fr h₀ L s.heap m) (X : (K0 w.params).In h₀)
  (N : News h₀ L s.heap ((e, excObj C t none) :: rest)) (hr : ∀ q ∈ rest, q.1 ≠ e)
  (T : Top p loose mean mg mb h₀) (hk : cs.kind = .function) (hd : dp + 20 < recursionLimit) (hu : un + 80 < cLine)
  (hret : ∀ t' D h' tk', Fr h₀ L h' m → News h₀ L h' ((e, excObj C t' (some D)) :: (t', { cls := .type "tuple", data := .seq #[.str msg tk] }) :: rest) → (∀ q ∈ rest, q.1 < t') → e < t' → Q .none { s with heap := h', toks := tk' }) :
  wpAny (model PySem.Challenge.rw_on0173_01.row.toRowW.prog w) (ktrTop dp un gd cn cs L a ccd cl outer) (call (.ref 72) [.ref e, .str msg tk, .ref po]) Q E s := by
  rcases hC with rfl | rfl
  all_goals
    revert X; k_fill; intro X
    refine wpAny_call ?_
    k_enter
    k_steps
    all_goals exact hret _ _ _ _ (by k_asm) (drop2 (by k_asm)) (by assumption) (by assumption)
theorem mk_c {news : List (Addr × Obj)} {C : Addr} {msg : Str} {tk : Tok} 
  (hC : C = 107 ∨ C = 95)
  (B : Below A₀ base outer h₀) (F : Fr h₀ L s.heap m) (X : (K0 w.params).In h₀)
  (N : News h₀ L s.heap news)
  (T : Top p loose mean mg mb h₀) (hk : cs.kind = .function) (hd : dp + 30 < recursionLimit) (hu : un + 100 < cLine)
  (hret : ∀ e t D h' tk', Fr h₀ L h' m → News h₀ L h' ((e, excObj C t (some D)) :: (t, { cls := .type "tuple", data := .seq #[.str msg tk] }) :: news) → (∀ q ∈ news, q.1 < e) → (∀ q ∈ news, q.1 < t) → e < t → Q (.ref e) { s with heap := h', toks := tk' }) :
  wpAny (model PySem.Challenge.rw_on0173_01.row.toRowW.prog w) (ktrTop dp un gd cn cs L a ccd cl outer) (call (.ref C) [.str msg tk]) Q E s := by
  have hX := X
  rcases hC with rfl | rfl
  all_goals
    revert X; k_fill; intro X
    k_dflt (refine' exc_call_K ?F ?X ?N ?hC ?hi ?hf ?_ ?z; (case F => k_asm); (case X => k_asm); (case N => k_asm); (case hC => k_is); (case hi => k_is); (case hf => k_is); (case z => size_fits); k_whole)
    intro e t h' F' N' l1 l2
    k_dflt (refine init_c (by first | exact .inl rfl | exact .inr rfl) B F' X N' (fun q hq => ?_) T hk ?_ ?_ ?_)
    · rcases List.mem_cons.mp hq with rfl | hq
      · exact Nat.ne_of_lt l2
      · exact Nat.ne_of_lt (Nat.lt_trans (l1 q hq) l2)
    · show dp + 1 + 20 < recursionLimit
      omega
    · show un + 1 + 80 < cLine
      omega
    · intro t' D h'' tk' F'' N'' l3 l4
      exact ⟨rfl, hret _ _ _ _ _ F'' (drop3 N'') (fun q hq => Nat.lt_trans (l1 q hq) l2) (fun q hq => Nat.lt_trans (Nat.lt_trans (l1 q hq) l2) l4) l4⟩
theorem mk_p {news : List (Addr × Obj)} {C : Addr} {msg : Str} {tk : Tok} {po : Addr}
  (hC : C = 107 ∨ C = 95)
  (B : Below A₀ base outer h₀) (F : Fr h₀ L s.heap m) (X : (K0 w.params).In h₀)
  (N : News h₀ L s.heap news)
  (T : Top p loose mean mg mb h₀) (hk : cs.kind = .function) (hd : dp + 30 < recursionLimit) (hu : un + 100 < cLine)
  (hret : ∀ e t D h' tk', Fr h₀ L h' m → News h₀ L h' ((e, excObj C t (some D)) :: (t, { cls := .type "tuple", data := .seq #[.str msg tk] }) :: news) → (∀ q ∈ news, q.1 < e) → (∀ q ∈ news, q.1 < t) → e < t → Q (.ref e) { s with heap := h', toks := tk' }) :
  wpAny (model PySem.Challenge.rw_on0173_01.row.toRowW.prog w) (ktrTop dp un gd cn cs L a ccd cl outer) (call (.ref C) [.str msg tk, .ref po]) Q E s := by
  have hX := X
  rcases hC with rfl | rfl
  all_goals
    revert X; k_fill; intro X
    k_dflt (refine' exc_call_K ?F ?X ?N ?hC ?hi ?hf ?_ ?z; (case F => k_asm); (case X => k_asm); (case N => k_asm); (case hC => k_is); (case hi => k_is); (case hf => k_is); (case z => size_fits); k_whole)
    intro e t h' F' N' l1 l2
    k_dflt (refine init_p (by first | exact .inl rfl | exact .inr rfl) B F' X N' (fun q hq => ?_) T hk ?_ ?_ ?_)
    · rcases List.mem_cons.mp hq with rfl | hq
      · exact Nat.ne_of_lt l2
      · exact Nat.ne_of_lt (Nat.lt_trans (l1 q hq) l2)
    · show dp + 1 + 20 < recursionLimit
      omega
    · show un + 1 + 80 < cLine
      omega
    · intro t' D h'' tk' F'' N'' l3 l4
      exact ⟨rfl, hret _ _ _ _ _ F'' (drop3 N'') (fun q hq => Nat.lt_trans (l1 q hq) l2) (fun q hq => Nat.lt_trans (Nat.lt_trans (l1 q hq) l2) l4) l4⟩
end
-- X2
theorem reg_8 : True := by
  k_with "call ref" => ((k_here; k_dflt (first | ((first | (with_reducible show wpAny _ _ (call (Value.ref 107) [Value.str _ _]) _ _ _) | (with_reducible show wpAny _ _ (call (Value.ref 95) [Value.str _ _]) _ _ _)); apply mk_c; (case hC => first | exact .inl rfl | exact .inr rfl); (case B => k_asm); (case F => k_asm); (case X => k_asm); (case N => k_asm); (case T => k_asm); (case hk => first | exact rfl | with_reducible assumption); (case hd => ktr_room); (case hu => ktr_units); intro e' t' D' h' tk' F' N' l1 l2 l3; (try k_lt l1); (try k_lt l2); (try k_lt2 l3); (try k_sweep)) | ((first | (with_reducible show wpAny _ _ (call (Value.ref 107) [Value.str _ _, _]) _ _ _) | (with_reducible show wpAny _ _ (call (Value.ref 95) [Value.str _ _, _]) _ _ _)); apply mk_p; (case hC => first | exact .inl rfl | exact .inr rfl); (case B => k_asm); (case F => k_asm); (case X => k_asm); (case N => k_asm); (case T => k_asm); (case hk => first | exact rfl | with_reducible assumption); (case hd => ktr_room); (case hu => ktr_units); intro e' t' D' h' tk' F' N' l1 l2 l3; (try k_lt l1); (try k_lt l2); (try k_lt2 l3); (try k_sweep)))))
  trivial

theorem fit_iff (v : Int) : Builtin.Int.intBits v ≤ 512 ↔ (-2 ^ 512 < v ∧ v < 2 ^ 512) := by
  rw [PySem.intBits_le_iff]
  have h : ((2 ^ 512 : Nat) : Int) = 2 ^ 512 := by rfl
  omega
section
variable {w : World} {p : Program} {loose : List Str} {mean : ExcName → Option Value} {mg mb : Str → Option Value}
  {dp un : Nat} {gd : Option (List Code)} {cn : Str} {cs : Scope} {a : Addr} {ccd : Value} {cl : List (Str × Addr)} {outer : List Env} {A₀ : Around} {base h₀ : Heap} {L : Addr} {m : Str → Option Value} {s : Shared} {Q : Value → Shared → Prop} {E : Value → Shared → Prop}
theorem bounded_c {news : List (Addr × Obj)} {v : Int} {tk : Tok}
  (B : Below A₀ base outer h₀) (F : Fr h₀ L s.heap m) (X : (K0 w.params).In h₀)
  (N : News h₀ L s.heap news)
  (T : Top p loose mean mg mb h₀) (hk : cs.kind = .function) (hd : dp + 40 < recursionLimit) (hu : un + 120 < cLine)
  (hret : ∀ h' tk', -2 ^ 512 < v ∧ v < 2 ^ 512 → Fr h₀ L h' m → News h₀ L h' news → Q (.int v tk) { s with heap := h', toks := tk' })
  (hexc : ∀ e t vs g₂ h' tk', ¬ (-2 ^ 512 < v ∧ v < 2 ^ 512) → Fr h₀ L g₂ m → RaisedS base g₂ (envX cn cs L a ccd cl :: outer) e (.ref 107) t vs news h' → RaisedK base (envX cn cs L a ccd cl :: outer) e (.ref 107) t vs news h' → g₂.UpToSlots h' → E (.ref e) { s with heap := h', toks := tk' }) :
  wpAny (model PySem.Challenge.rw_on0173_01.row.toRowW.prog w) (ktrTop dp un gd cn cs L a ccd cl outer) (call (.ref 462) [.int v tk]) Q E s := by
  revert X; k_fill; intro X
  refine wpAny_call ?_
  k_dflt k_enter
  k_steps
  · exact hexc _ _ _ _ _ _ (fun h => by have := (fit_iff v).mpr h; omega) (by assumption) (by assumption) (by assumption) (by assumption)
  · exact hret _ _ ((fit_iff v).mp (by omega)) (by k_asm) (by k_asm)
end
-- X3
theorem reg_9 : True := by
  k_with "call ref" => ((k_here; (with_reducible show wpAny _ _ (call (Value.ref 462) _) _ _ _); k_dflt (apply bounded_c; (case B => k_asm); (case F => k_asm); (case X => k_asm); (case N => k_asm); (case T => k_asm); (case hk => first | exact rfl | with_reducible assumption); (case hd => ktr_room); (case hu => ktr_units); (case' hexc => intro e' t' vs' g' h' tk' hf' F' S' R' U'); (case' hret => intro h' tk' hf' F' N'); (try k_sweep))))
  trivial

noncomputable def fit (v : Int) : Option Int := if -2 ^ 512 < v ∧ v < 2 ^ 512 then some v else none
noncomputable def due (s : Str) (x y : Int) : Option Int :=
  if s = "+" then fit (x + y) else if s = "-" then fit (x - y) else if s = "*" then fit (x * y)
  else if y = 0 then none else if s = "/" then some (x.fdiv y) else some (x.fmod y)
def Mark (s : Str) : Prop := s = "+" ∨ s = "-" ∨ s = "*" ∨ s = "/" ∨ s = "%"
theorem fit_some {v : Int} (h : -2 ^ 512 < v ∧ v < 2 ^ 512) : fit v = some v := if_pos h
theorem fit_none {v : Int} (h : ¬ (-2 ^ 512 < v ∧ v < 2 ^ 512)) : fit v = none := if_neg h
theorem due_add (x y : Int) : due "+" x y = fit (x + y) := by simp only [due, if_true]
theorem due_sub (x y : Int) : due "-" x y = fit (x - y) := by
  have h1 : ¬ ("-" : Str) = "+" := by decide
  simp only [due, h1, if_true, if_false]
theorem due_mul (x y : Int) : due "*" x y = fit (x * y) := by
  have h1 : ¬ ("*" : Str) = "+" := by decide
  have h2 : ¬ ("*" : Str) = "-" := by decide
  simp only [due, h1, h2, if_true, if_false]
theorem due_div (x y : Int) : due "/" x y = if y = 0 then none else some (x.fdiv y) := by
  have h1 : ¬ ("/" : Str) = "+" := by decide
  have h2 : ¬ ("/" : Str) = "-" := by decide
  have h3 : ¬ ("/" : Str) = "*" := by decide
  simp only [due, h1, h2, h3, if_true, if_false]
theorem due_mod (x y : Int) : due "%" x y = if y = 0 then none else some (x.fmod y) := by
  have h1 : ¬ ("%" : Str) = "+" := by decide
  have h2 : ¬ ("%" : Str) = "-" := by decide
  have h3 : ¬ ("%" : Str) = "*" := by decide
  have h4 : ¬ ("%" : Str) = "/" := by decide
  simp only [due, h1, h2, h3, h4, if_true, if_false]
theorem bits_log2 {y : Int} (h : Builtin.Int.intBits y ≤ 600) : y.natAbs.log2 < 9000 := by
  unfold Builtin.Int.intBits at h
  split at h
  · rename_i e
    have : y = 0 := by simpa using e
    subst this
    decide
  · omega
theorem reg_10 : True := by
  k_with "binaryOp Mult int int" => ((k_here; refine PyProof.Rows.mul_int ?_ (IntMulOk.of_le (by with_reducible assumption) (by with_reducible assumption) (by decide))))
  trivial

theorem reg_11 : True := by
  k_with "binaryOp FloorDiv int int" => ((k_here; refine floordiv_int (by with_reducible assumption) ?_ (Or.inl (PyProof.noPylong_of_log2 (bits_log2 (by with_reducible assumption))))))
  trivial

local macro_rules | `(tactic| ktr_rel) => `(tactic| first
  | exact fit_some (by assumption)
  | exact fit_none (by assumption)
  | exact if_pos (by assumption)
  | exact if_neg (by assumption))

section
variable {w : World} {p : Program} {loose : List Str} {mean : ExcName → Option Value} {mg mb : Str → Option Value}
  {dp un : Nat} {gd : Option (List Code)} {cn : Str} {cs : Scope} {a : Addr} {ccd : Value} {cl : List (Str × Addr)} {outer : List Env} {A₀ : Around} {base h₀ : Heap} {L : Addr} {m : Str → Option Value} {s : Shared} {Q : Value → Shared → Prop} {E : Value → Shared → Prop}
theorem two_add {news : List (Addr × Obj)} {x y : Int} {tm tx ty : Tok}
  (hx : Builtin.Int.intBits x ≤ 600) (hy : Builtin.Int.intBits y ≤ 600)
  (B : Below A₀ base outer h₀) (F : Fr h₀ L s.heap m) (X : (K0 w.params).In h₀)
  (N : News h₀ L s.heap news)
  (T : Top p loose mean mg mb h₀) (hk : cs.kind = .function) (hd : dp + 60 < recursionLimit) (hu : un + 200 < cLine)
  (hret : ∀ r tk h' tk', due "+" x y = some r → Fr h₀ L h' m → News h₀ L h' news → Q (.int r tk) { s with heap := h', toks := tk' })
  (hexc : ∀ e t vs g₂ h' tk', due "+" x y = none → Fr h₀ L g₂ m → RaisedS base g₂ (envX cn cs L a ccd cl :: outer) e (.ref 107) t vs news h' → RaisedK base (envX cn cs L a ccd cl :: outer) e (.ref 107) t vs news h' → g₂.UpToSlots h' → E (.ref e) { s with heap := h', toks := tk' }) :
  wpAny (model PySem.Challenge.rw_on0173_01.row.toRowW.prog w) (ktrTop dp un gd cn cs L a ccd cl outer) (call (.ref 497) [.str "+" tm, .int x tx, .int y ty]) Q E s := by
  revert X; k_fill; intro X
  refine wpAny_call ?_
  k_dflt k_enter
  k_steps
  all_goals first
    | exact hexc _ _ _ _ _ _ (by rw [due_add]; ktr_rel) (by assumption) (by assumption) (by assumption) (by assumption)
    | exact hret _ _ _ _ (by rw [due_add]; ktr_rel) (by k_asm) (by k_asm)
theorem two_sub {news : List (Addr × Obj)} {x y : Int} {tm tx ty : Tok}
  (hx : Builtin.Int.intBits x ≤ 600) (hy : Builtin.Int.intBits y ≤ 600)
  (B : Below A₀ base outer h₀) (F : Fr h₀ L s.heap m) (X : (K0 w.params).In h₀)
  (N : News h₀ L s.heap news)
  (T : Top p loose mean mg mb h₀) (hk : cs.kind = .function) (hd : dp + 60 < recursionLimit) (hu : un + 200 < cLine)
  (hret : ∀ r tk h' tk', due "-" x y = some r → Fr h₀ L h' m → News h₀ L h' news → Q (.int r tk) { s with heap := h', toks := tk' })
  (hexc : ∀ e t vs g₂ h' tk', due "-" x y = none → Fr h₀ L g₂ m → RaisedS base g₂ (envX cn cs L a ccd cl :: outer) e (.ref 107) t vs news h' → RaisedK base (envX cn cs L a ccd cl :: outer) e (.ref 107) t vs news h' → g₂.UpToSlots h' → E (.ref e) { s with heap := h', toks := tk' }) :
  wpAny (model PySem.Challenge.rw_on0173_01.row.toRowW.prog w) (ktrTop dp un gd cn cs L a ccd cl outer) (call (.ref 497) [.str "-" tm, .int x tx, .int y ty]) Q E s := by
  revert X; k_fill; intro X
  refine wpAny_call ?_
  k_dflt k_enter
  k_steps
  all_goals first
    | exact hexc _ _ _ _ _ _ (by rw [due_sub]; ktr_rel) (by assumption) (by assumption) (by assumption) (by assumption)
    | exact hret _ _ _ _ (by rw [due_sub]; ktr_rel) (by k_asm) (by k_asm)
theorem two_mul {news : List (Addr × Obj)} {x y : Int} {tm tx ty : Tok}
  (hx : Builtin.Int.intBits x ≤ 600) (hy : Builtin.Int.intBits y ≤ 600)
  (B : Below A₀ base outer h₀) (F : Fr h₀ L s.heap m) (X : (K0 w.params).In h₀)
  (N : News h₀ L s.heap news)
  (T : Top p loose mean mg mb h₀) (hk : cs.kind = .function) (hd : dp + 60 < recursionLimit) (hu : un + 200 < cLine)
  (hret : ∀ r tk h' tk', due "*" x y = some r → Fr h₀ L h' m → News h₀ L h' news → Q (.int r tk) { s with heap := h', toks := tk' })
  (hexc : ∀ e t vs g₂ h' tk', due "*" x y = none → Fr h₀ L g₂ m → RaisedS base g₂ (envX cn cs L a ccd cl :: outer) e (.ref 107) t vs news h' → RaisedK base (envX cn cs L a ccd cl :: outer) e (.ref 107) t vs news h' → g₂.UpToSlots h' → E (.ref e) { s with heap := h', toks := tk' }) :
  wpAny (model PySem.Challenge.rw_on0173_01.row.toRowW.prog w) (ktrTop dp un gd cn cs L a ccd cl outer) (call (.ref 497) [.str "*" tm, .int x tx, .int y ty]) Q E s := by
  revert X; k_fill; intro X
  refine wpAny_call ?_
  k_dflt k_enter
  k_steps
  all_goals first
    | exact hexc _ _ _ _ _ _ (by rw [due_mul]; ktr_rel) (by assumption) (by assumption) (by assumption) (by assumption)
    | exact hret _ _ _ _ (by rw [due_mul]; ktr_rel) (by k_asm) (by k_asm)
theorem two_div {news : List (Addr × Obj)} {x y : Int} {tm tx ty : Tok}
  (hx : Builtin.Int.intBits x ≤ 600) (hy : Builtin.Int.intBits y ≤ 600)
  (B : Below A₀ base outer h₀) (F : Fr h₀ L s.heap m) (X : (K0 w.params).In h₀)
  (N : News h₀ L s.heap news)
  (T : Top p loose mean mg mb h₀) (hk : cs.kind = .function) (hd : dp + 60 < recursionLimit) (hu : un + 200 < cLine)
  (hret : ∀ r tk h' tk', due "/" x y = some r → Fr h₀ L h' m → News h₀ L h' news → Q (.int r tk) { s with heap := h', toks := tk' })
  (hexc : ∀ e t vs g₂ h' tk', due "/" x y = none → Fr h₀ L g₂ m → RaisedS base g₂ (envX cn cs L a ccd cl :: outer) e (.ref 107) t vs news h' → RaisedK base (envX cn cs L a ccd cl :: outer) e (.ref 107) t vs news h' → g₂.UpToSlots h' → E (.ref e) { s with heap := h', toks := tk' }) :
  wpAny (model PySem.Challenge.rw_on0173_01.row.toRowW.prog w) (ktrTop dp un gd cn cs L a ccd cl outer) (call (.ref 497) [.str "/" tm, .int x tx, .int y ty]) Q E s := by
  revert X; k_fill; intro X
  refine wpAny_call ?_
  k_dflt k_enter
  k_steps
  all_goals first
    | exact hexc _ _ _ _ _ _ (by rw [due_div]; ktr_rel) (by assumption) (by assumption) (by assumption) (by assumption)
    | exact hret _ _ _ _ (by rw [due_div]; ktr_rel) (by k_asm) (by k_asm)
theorem two_mod {news : List (Addr × Obj)} {x y : Int} {tm tx ty : Tok}
  (hx : Builtin.Int.intBits x ≤ 600) (hy : Builtin.Int.intBits y ≤ 600)
  (B : Below A₀ base outer h₀) (F : Fr h₀ L s.heap m) (X : (K0 w.params).In h₀)
  (N : News h₀ L s.heap news)
  (T : Top p loose mean mg mb h₀) (hk : cs.kind = .function) (hd : dp + 60 < recursionLimit) (hu : un + 200 < cLine)
  (hret : ∀ r tk h' tk', due "%" x y = some r → Fr h₀ L h' m → News h₀ L h' news → Q (.int r tk) { s with heap := h', toks := tk' })
  (hexc : ∀ e t vs g₂ h' tk', due "%" x y = none → Fr h₀ L g₂ m → RaisedS base g₂ (envX cn cs L a ccd cl :: outer) e (.ref 107) t vs news h' → RaisedK base (envX cn cs L a ccd cl :: outer) e (.ref 107) t vs news h' → g₂.UpToSlots h' → E (.ref e) { s with heap := h', toks := tk' }) :
  wpAny (model PySem.Challenge.rw_on0173_01.row.toRowW.prog w) (ktrTop dp un gd cn cs L a ccd cl outer) (call (.ref 497) [.str "%" tm, .int x tx, .int y ty]) Q E s := by
  revert X; k_fill; intro X
  refine wpAny_call ?_
  k_dflt k_enter
  k_steps
  all_goals first
    | exact hexc _ _ _ _ _ _ (by rw [due_mod]; ktr_rel) (by assumption) (by assumption) (by assumption) (by assumption)
    | exact hret _ _ _ _ (by rw [due_mod]; ktr_rel) (by k_asm) (by k_asm)
theorem two_c {news : List (Addr × Obj)} {mark : Str} {x y : Int} {tm tx ty : Tok}
  (hM : Mark mark) (hx : Builtin.Int.intBits x ≤ 600) (hy : Builtin.Int.intBits y ≤ 600)
  (B : Below A₀ base outer h₀) (F : Fr h₀ L s.heap m) (X : (K0 w.params).In h₀)
  (N : News h₀ L s.heap news)
  (T : Top p loose mean mg mb h₀) (hk : cs.kind = .function) (hd : dp + 60 < recursionLimit) (hu : un + 200 < cLine)
  (hret : ∀ r tk h' tk', due mark x y = some r → Fr h₀ L h' m → News h₀ L h' news → Q (.int r tk) { s with heap := h', toks := tk' })
  (hexc : ∀ e t vs g₂ h' tk', due mark x y = none → Fr h₀ L g₂ m → RaisedS base g₂ (envX cn cs L a ccd cl :: outer) e (.ref 107) t vs news h' → RaisedK base (envX cn cs L a ccd cl :: outer) e (.ref 107) t vs news h' → g₂.UpToSlots h' → E (.ref e) { s with heap := h', toks := tk' }) :
  wpAny (model PySem.Challenge.rw_on0173_01.row.toRowW.prog w) (ktrTop dp un gd cn cs L a ccd cl outer) (call (.ref 497) [.str mark tm, .int x tx, .int y ty]) Q E s := by
  rcases hM with rfl | rfl | rfl | rfl | rfl
  · exact two_add hx hy B F X N T hk hd hu hret hexc
  · exact two_sub hx hy B F X N T hk hd hu hret hexc
  · exact two_mul hx hy B F X N T hk hd hu hret hexc
  · exact two_div hx hy B F X N T hk hd hu hret hexc
  · exact two_mod hx hy B F X N T hk hd hu hret hexc
end
-- X4
theorem reg_12 : True := by
  k_with "call ref" => ((k_here; (with_reducible show wpAny _ _ (call (Value.ref 497) _) _ _ _); k_dflt (apply two_c; (case hM => with_reducible assumption); (case hx => with_reducible assumption); (case hy => with_reducible assumption); (case B => k_asm); (case F => k_asm); (case X => k_asm); (case N => k_asm); (case T => k_asm); (case hk => first | exact rfl | with_reducible assumption); (case hd => ktr_room); (case hu => ktr_units); (case' hexc => intro e' t' vs' g' h' tk' hr' F' S' R' U'); (case' hret => intro r' tk' h' tk' hr' F' N'); (try k_sweep))))
  trivial

def Is (o : Option Int) (v : Value) : Prop := match o with | some i => ∃ t, v = .int i t | none => ∃ t, v = .str "refused" t
theorem is_some {o : Option Int} {i : Int} {t : Tok} (h : o = some i) : Is o (.int i t) := by rw [h]; exact ⟨t, rfl⟩
theorem is_none {o : Option Int} {t : Tok} (h : o = none) : Is o (.str "refused" t) := by rw [h]; exact ⟨t, rfl⟩
local macro_rules | `(tactic| ktr_unf) => `(tactic| (refine wpAny_call ?_; k_dflt (refine' codeS0X ?k1 ?k2 ?k3 ?k4 ?k5 ?kA ?kf ?k6 ?k7 ?k8 ?k9 ?kB ?_ ?cK ?c2 ?c3 ?c4 ?c5; (case kA => exact rfl); (case kf => exact rfl); (case k2 => k_asm); (case k1 => k_asm); (case k3 => k_asm); (case k4 => k_asm); (case k5 => k_asm); (case k6 => k_is); (case k7 => k_is); (case k8 => ktr_room); (case k9 => exact BindsTo.of_eq rfl); (case kB => exact locs rfl); (case cK => with_reducible assumption); (case c2 => exact rfl); (case c3 => exact rfl); (case c4 => exact rfl); (case c5 => decide); k_whole; intro g' L' h' FG' F' N' B' X' T' D'); (try dsimp only); (try k_lift B'); (try k_fold)))

noncomputable abbrev lamQ : Str := ("law" : Str) ++ (".<locals>." : Str) ++ ("<lambda>" : Str)
noncomputable abbrev noArgs : Arguments := { posonlyargs := [], args := [], vararg := none, kwonlyargs := [], kw_defaults := [], kwarg := none, defaults := [] }
noncomputable abbrev lamScope : Scope := { kind := .function, names := [("mark", .free), ("one", .free), ("other", .free), ("two_worth", .globalImplicit)], isGenerator := false, isCoroutine := false }
theorem reg_13 : True := by
  k_with "call ref" => ((k_here; (with_reducible show wpAny _ _ (call (Value.ref _) []) _ _ _); k_dflt (refine wpAny_call ?_; (apply kla_code; (case hA => exact rfl); (case hf => exact rfl); (case hke => exact rfl); (case B => k_asm); (case F => k_asm); (case X₀ => k_asm); (case N => k_asm); (case T => k_asm); (case ho => k_mem); (case hcd => exact codeRec_news (by k_asm) (by k_mem) (by with_reducible assumption) (by with_reducible assumption)); (case hroom => ktr_room); (case hbind => exact rfl); (case hcell => decide); (case hloc => exact locs rfl); (case hco => exact rfl); (case hgen => exact rfl); (case hk => exact rfl); k_whole; intro g' L' h' FG' F' N' B' X' T'; (try dsimp only); (try k_lift B'); (try k_fold)))))
  trivial

section
variable {w : World} {p : Program} {loose : List Str} {mean : ExcName → Option Value} {mg mb : Str → Option Value}
  {dp un : Nat} {gd : Option (List Code)} {cn : Str} {cs : Scope} {a : Addr} {ccd : Value} {cl : List (Str × Addr)} {A₀ : Around} {h₀ : Heap} {L : Addr} {m : Str → Option Value} {s : Shared} {Q : Value → Shared → Prop} {E : Value → Shared → Prop}
theorem heard_two {news : List (Addr × Obj)} {f c' am ao ar cc PP : Addr} {oc om oo or : Obj} {vs : Array Value} {tq tm to tr : Tok} {pm ctv : Value} {mark : Str} {x y : Int} {p1 p2 p3 p4 p5 : Pos}
  (B : Below A₀ h₀ [] h₀) (CH : CodeHd h₀ cc PP) (F : Fr h₀ L s.heap m) (X : (K0 w.params).In h₀)
  (N : News h₀ L s.heap news)
  (hf : (f, kla_obj "<lambda>" lamQ noArgs (.Call (.Name "two_worth" p1) [.Name "mark" p2, .Name "one" p3, .Name "other" p4] [] p5) lamScope [("other", ar), ("one", ao), ("mark", am)] pm c' ctv) ∈ news)
  (hc : (c', oc) ∈ news) (ha : (am, om) ∈ news) (ho : (ao, oo) ∈ news) (hr : (ar, or) ∈ news)
  (hoc : oc.data = .fields vs) (hvs : vs[1]? = some (.str lamQ tq))
  (hom : om.data = .cell (some (.str mark tm))) (hoo : oo.data = .cell (some (.int x to))) (hor : or.data = .cell (some (.int y tr)))
  (hM : Mark mark) (hx : Builtin.Int.intBits x ≤ 600) (hy : Builtin.Int.intBits y ≤ 600)
  (T : Top p loose mean mg mb h₀) (hk : cs.kind = .function) (hd : dp + 100 < recursionLimit) (hu : un + 400 < cLine)
  (hret : ∀ v h' tk', Is (due mark x y) v → Fr h₀ L h' m → News h₀ L h' news → Q v { s with heap := h', toks := tk' }) :
  wpAny (model PySem.Challenge.rw_on0173_01.row.toRowW.prog w) (ktrTop dp un gd cn cs L a ccd cl []) (call (.ref 539) [.ref f]) Q E s := by
  revert X; k_fill; intro X
  ktr_unf
  k_steps
  all_goals first
    | exact hret _ _ _ (is_some (by assumption)) (by k_asm) (by k_asm)
    | exact hret _ _ _ (is_none (by assumption)) (by k_asm) (by k_asm)
end
theorem reg_14 : True := by
  k_with "callWith ref" => ((k_here; (first | (with_reducible show wpAny _ _ (callWith _ (Value.ref 539) _ _ _) _ _ _) | (with_reducible show wpAny _ _ (callWith _ (Value.ref 532) _ _ _) _ _ _) | (with_reducible show wpAny _ _ (callWith _ (Value.ref 525) _ _ _) _ _ _) | (with_reducible show wpAny _ _ (callWith _ (Value.ref 518) _ _ _) _ _ _)); k_dflt (apply callWith_K; (case _X => k_asm); (case hk => k_is); (try (case he => rfl)); (try (case hplain => rfl)); k_whole)))
  trivial
-- X5
theorem in_strB {prog : Program} {w : World} {A : Around} {E : Value → Shared → Prop} {s : Shared} {x y : Str} {u v : Tok} {b : Bool} {Q : Value → Shared → Prop} (e : (!(Builtin.Str.occurrences y x 0 y.length 1).isEmpty) = b) (h : Q (.bool b) s) :
    wpAny (model prog w) A (compareOp .In (.str x u) (.str y v)) Q E s := in_str (by rw [e]; exact h)
theorem reg_15 : True := by
  k_with "compareOp In str str" => ((k_here; k_dflt (first | refine in_strB (b := true) (by decide +kernel) ?_ | refine in_strB (b := false) (by decide +kernel) ?_)))
  trivial

theorem reg_16 : True := by
  k_with "binaryOp Mult int int" => ((k_here; refine PyProof.Rows.mul_int ?_ (IntMulOk.of_le (m := 600) (n := 600) (by first | with_reducible assumption | exact intBits_fdiv_le (by with_reducible assumption)) (by first | with_reducible assumption | exact intBits_fdiv_le (by with_reducible assumption)) (by decide)); (try dsimp only)))
  trivial

theorem reg_17 : True := by
  k_with "binaryOp FloorDiv int int" => ((k_here; refine floordiv_int (by with_reducible assumption) ?_ (Or.inl (PyProof.noPylong_of_log2 (bits_log2 (by with_reducible assumption)))); (try dsimp only)))
  trivial

theorem fit_someT {v : Int} (h1 : -2 ^ Int.toNat 512 < v) (h2 : v < 2 ^ Int.toNat 512) : fit v = some v := fit_some ⟨h1, h2⟩
theorem fit_noneA {v : Int} (h1 : ¬ -2 ^ Int.toNat 512 < v) : fit v = none := fit_none fun h => h1 h.1
theorem fit_noneB {v : Int} (h2 : ¬ v < 2 ^ Int.toNat 512) : fit v = none := fit_none fun h => h2 h.2
local macro_rules | `(tactic| ktr_rel) => `(tactic| first
  | exact fit_someT (by assumption) (by assumption)
  | exact fit_noneA (by assumption)
  | exact fit_noneB (by assumption)
  | exact if_pos (by assumption)
  | exact if_neg (by assumption)
  | exact (if_neg (by assumption)).trans (congrArg some (Int.fmod_def ..)))

section
variable {w : World} {p : Program} {loose : List Str} {mean : ExcName → Option Value} {mg mb : Str → Option Value}
  {dp un : Nat} {gd : Option (List Code)} {cn : Str} {cs : Scope} {a : Addr} {ccd : Value} {cl : List (Str × Addr)} {outer : List Env} {A₀ : Around} {base h₀ : Heap} {L : Addr} {m : Str → Option Value} {s : Shared} {Q : Value → Shared → Prop} {E : Value → Shared → Prop}
theorem due_c_add {news : List (Addr × Obj)} {x y : Int} {tm tx ty : Tok}
  (hx : Builtin.Int.intBits x ≤ 600) (hy : Builtin.Int.intBits y ≤ 600)
  (B : Below A₀ base outer h₀) (F : Fr h₀ L s.heap m) (X : (K0 w.params).In h₀)
  (N : News h₀ L s.heap news)
  (T : Top p loose mean mg mb h₀) (hk : cs.kind = .function) (hd : dp + 60 < recursionLimit) (hu : un + 200 < cLine)
  (hret : ∀ v h' tk', Is (due "+" x y) v → Fr h₀ L h' m → News h₀ L h' news → Q v { s with heap := h', toks := tk' }) :
  wpAny (model PySem.Challenge.rw_on0173_01.row.toRowW.prog w) (ktrTop dp un gd cn cs L a ccd cl outer) (call (.ref 532) [.str "+" tm, .int x tx, .int y ty]) Q E s := by
  revert X; k_fill; intro X
  refine wpAny_call ?_
  k_dflt k_enter
  k_steps
  all_goals first
    | exact hret _ _ _ (is_some (by rw [due_add]; ktr_rel)) (by k_asm) (by k_asm)
    | exact hret _ _ _ (is_none (by rw [due_add]; ktr_rel)) (by k_asm) (by k_asm)
theorem due_c_sub {news : List (Addr × Obj)} {x y : Int} {tm tx ty : Tok}
  (hx : Builtin.Int.intBits x ≤ 600) (hy : Builtin.Int.intBits y ≤ 600)
  (B : Below A₀ base outer h₀) (F : Fr h₀ L s.heap m) (X : (K0 w.params).In h₀)
  (N : News h₀ L s.heap news)
  (T : Top p loose mean mg mb h₀) (hk : cs.kind = .function) (hd : dp + 60 < recursionLimit) (hu : un + 200 < cLine)
  (hret : ∀ v h' tk', Is (due "-" x y) v → Fr h₀ L h' m → News h₀ L h' news → Q v { s with heap := h', toks := tk' }) :
  wpAny (model PySem.Challenge.rw_on0173_01.row.toRowW.prog w) (ktrTop dp un gd cn cs L a ccd cl outer) (call (.ref 532) [.str "-" tm, .int x tx, .int y ty]) Q E s := by
  revert X; k_fill; intro X
  refine wpAny_call ?_
  k_dflt k_enter
  k_steps
  all_goals first
    | exact hret _ _ _ (is_some (by rw [due_sub]; ktr_rel)) (by k_asm) (by k_asm)
    | exact hret _ _ _ (is_none (by rw [due_sub]; ktr_rel)) (by k_asm) (by k_asm)
theorem due_c_mul {news : List (Addr × Obj)} {x y : Int} {tm tx ty : Tok}
  (hx : Builtin.Int.intBits x ≤ 600) (hy : Builtin.Int.intBits y ≤ 600)
  (B : Below A₀ base outer h₀) (F : Fr h₀ L s.heap m) (X : (K0 w.params).In h₀)
  (N : News h₀ L s.heap news)
  (T : Top p loose mean mg mb h₀) (hk : cs.kind = .function) (hd : dp + 60 < recursionLimit) (hu : un + 200 < cLine)
  (hret : ∀ v h' tk', Is (due "*" x y) v → Fr h₀ L h' m → News h₀ L h' news → Q v { s with heap := h', toks := tk' }) :
  wpAny (model PySem.Challenge.rw_on0173_01.row.toRowW.prog w) (ktrTop dp un gd cn cs L a ccd cl outer) (call (.ref 532) [.str "*" tm, .int x tx, .int y ty]) Q E s := by
  revert X; k_fill; intro X
  refine wpAny_call ?_
  k_dflt k_enter
  k_steps
  all_goals first
    | exact hret _ _ _ (is_some (by rw [due_mul]; ktr_rel)) (by k_asm) (by k_asm)
    | exact hret _ _ _ (is_none (by rw [due_mul]; ktr_rel)) (by k_asm) (by k_asm)
theorem due_c_div {news : List (Addr × Obj)} {x y : Int} {tm tx ty : Tok}
  (hx : Builtin.Int.intBits x ≤ 600) (hy : Builtin.Int.intBits y ≤ 600)
  (B : Below A₀ base outer h₀) (F : Fr h₀ L s.heap m) (X : (K0 w.params).In h₀)
  (N : News h₀ L s.heap news)
  (T : Top p loose mean mg mb h₀) (hk : cs.kind = .function) (hd : dp + 60 < recursionLimit) (hu : un + 200 < cLine)
  (hret : ∀ v h' tk', Is (due "/" x y) v → Fr h₀ L h' m → News h₀ L h' news → Q v { s with heap := h', toks := tk' }) :
  wpAny (model PySem.Challenge.rw_on0173_01.row.toRowW.prog w) (ktrTop dp un gd cn cs L a ccd cl outer) (call (.ref 532) [.str "/" tm, .int x tx, .int y ty]) Q E s := by
  revert X; k_fill; intro X
  refine wpAny_call ?_
  k_dflt k_enter
  k_steps
  all_goals first
    | exact hret _ _ _ (is_some (by rw [due_div]; ktr_rel)) (by k_asm) (by k_asm)
    | exact hret _ _ _ (is_none (by rw [due_div]; ktr_rel)) (by k_asm) (by k_asm)
theorem due_c_mod {news : List (Addr × Obj)} {x y : Int} {tm tx ty : Tok}
  (hx : Builtin.Int.intBits x ≤ 600) (hy : Builtin.Int.intBits y ≤ 600)
  (B : Below A₀ base outer h₀) (F : Fr h₀ L s.heap m) (X : (K0 w.params).In h₀)
  (N : News h₀ L s.heap news)
  (T : Top p loose mean mg mb h₀) (hk : cs.kind = .function) (hd : dp + 60 < recursionLimit) (hu : un + 200 < cLine)
  (hret : ∀ v h' tk', Is (due "%" x y) v → Fr h₀ L h' m → News h₀ L h' news → Q v { s with heap := h', toks := tk' }) :
  wpAny (model PySem.Challenge.rw_on0173_01.row.toRowW.prog w) (ktrTop dp un gd cn cs L a ccd cl outer) (call (.ref 532) [.str "%" tm, .int x tx, .int y ty]) Q E s := by
  revert X; k_fill; intro X
  refine wpAny_call ?_
  k_dflt k_enter
  k_steps
  all_goals first
    | exact hret _ _ _ (is_some (by rw [due_mod]; ktr_rel)) (by k_asm) (by k_asm)
    | exact hret _ _ _ (is_none (by rw [due_mod]; ktr_rel)) (by k_asm) (by k_asm)
theorem due_c {news : List (Addr × Obj)} {mark : Str} {x y : Int} {tm tx ty : Tok}
  (hM : Mark mark) (hx : Builtin.Int.intBits x ≤ 600) (hy : Builtin.Int.intBits y ≤ 600)
  (B : Below A₀ base outer h₀) (F : Fr h₀ L s.heap m) (X : (K0 w.params).In h₀)
  (N : News h₀ L s.heap news)
  (T : Top p loose mean mg mb h₀) (hk : cs.kind = .function) (hd : dp + 60 < recursionLimit) (hu : un + 200 < cLine)
  (hret : ∀ v h' tk', Is (due mark x y) v → Fr h₀ L h' m → News h₀ L h' news → Q v { s with heap := h', toks := tk' }) :
  wpAny (model PySem.Challenge.rw_on0173_01.row.toRowW.prog w) (ktrTop dp un gd cn cs L a ccd cl outer) (call (.ref 532) [.str mark tm, .int x tx, .int y ty]) Q E s := by
  rcases hM with rfl | rfl | rfl | rfl | rfl
  · exact due_c_add hx hy B F X N T hk hd hu hret
  · exact due_c_sub hx hy B F X N T hk hd hu hret
  · exact due_c_mul hx hy B F X N T hk hd hu hret
  · exact due_c_div hx hy B F X N T hk hd hu hret
  · exact due_c_mod hx hy B F X N T hk hd hu hret
end
-- X6
section
variable {w : World} {p : Program} {loose : List Str} {mean : ExcName → Option Value} {mg mb : Str → Option Value}
  {dp un : Nat} {gd : Option (List Code)} {cn : Str} {cs : Scope} {a : Addr} {ccd : Value} {cl : List (Str × Addr)} {outer : List Env} {A₀ : Around} {base h₀ : Heap} {L : Addr} {m : Str → Option Value} {s : Shared} {Q : Value → Shared → Prop} {E : Value → Shared → Prop}
local macro_rules | `(tactic| k_all) => `(tactic| assumption)

theorem draw_c
  {rest : List (Addr × Obj)} {pen cells : Addr} {vs : List Value} {ns : List Int} {nc n : Nat} {spot c many : Int} {t1 t2 t3 : Tok}
  (B : Below A₀ base outer h₀) (F : Fr h₀ L s.heap m) (X : (K0 w.params).In h₀)
  (N : News h₀ L s.heap ((pen, listOf #[.ref cells, .int spot t1, .int c t2] n) :: (cells, listOf vs.toArray nc) :: rest))
  (hne : @LT.lt Nat _ cells pen) (hr : ∀ q ∈ rest, q.1 ≠ pen)
  (hI : IntsAre vs ns) (hlen : ns.length ≤ 63) (hs0 : 0 ≤ spot) (hs1 : spot ≤ 10) (hm : 0 < many) (hm' : many ≤ 7)
  (T : Top p loose mean mg mb h₀) (hk : cs.kind = .function) (hd : dp + 1 < recursionLimit) (_hu : un + 8 < cLine)
  (hret : ∀ d t t1' n' h' tk', 0 ≤ d → d < many → Fr h₀ L h' m → News h₀ L h' ((pen, listOf #[.ref cells, .int (spot + 1) t1', .int c t2] n') :: (cells, listOf vs.toArray nc) :: rest) → Q (.int d t) { s with heap := h', toks := tk' }) :
  wpAny (model PySem.Challenge.rw_on0173_01.row.toRowW.prog w) (ktrTop dp un gd cn cs L a ccd cl outer) (call (.ref 518) [.ref pen, .int many t3]) Q E s := by
  revert X; k_fill; intro X
  refine wpAny_call ?_
  k_dflt cell_enter
  k_steps
  all_goals exact hret _ _ _ _ _ _ (Int.fmod_nonneg_of_pos _ hm) (Int.fmod_lt_of_pos _ hm) (by k_asm) (by k_asm)
theorem draw_g {news : List (Addr × Obj)} {g : Obj → List (Addr × Obj)} {pen cells : Addr} {vs : List Value} {ns : List Int} {nc n : Nat} {spot c many : Int} {t1 t2 t3 : Tok}
  (B : Below A₀ base outer h₀) (F : Fr h₀ L s.heap m) (X : (K0 w.params).In h₀)
  (N : News h₀ L s.heap news) (U : UpdF pen (listOf #[.ref cells, .int spot t1, .int c t2] n) news g) (hm0 : (cells, listOf vs.toArray nc) ∈ news)
  (hne : @LT.lt Nat _ cells pen)
  (hI : IntsAre vs ns) (hlen : ns.length ≤ 63) (hs0 : 0 ≤ spot) (hs1 : spot ≤ 10) (hm : 0 < many) (hm' : many ≤ 7)
  (T : Top p loose mean mg mb h₀) (hk : cs.kind = .function) (hd : dp + 1 < recursionLimit) (_hu : un + 8 < cLine)
  (hret : ∀ d t t1' n' h' tk', 0 ≤ d → d < many → Fr h₀ L h' m → News h₀ L h' (g (listOf #[.ref cells, .int (spot + 1) t1', .int c t2] n')) → Q (.int d t) { s with heap := h', toks := tk' }) :
  wpAny (model PySem.Challenge.rw_on0173_01.row.toRowW.prog w) (ktrTop dp un gd cn cs L a ccd cl outer) (call (.ref 518) [.ref pen, .int many t3]) Q E s := by
  obtain ⟨own, rest, rfl, hgr, h1, h2⟩ := U.split
  have hne' : cells ≠ pen := Nat.ne_of_lt hne
  refine draw_c (rest := own ++ rest) (nc := nc) (n := n) (t1 := t1) (t2 := t2) (c := c) B F X (fun q hq => ?_) hne (fun q hq => ?_) hI hlen hs0 hs1 hm hm' T hk hd _hu (fun d t t1' n' h' tk' e1 e2 F' N' => hret d t t1' n' h' tk' e1 e2 F' fun q hq => ?_)
  · rcases List.mem_cons.mp hq with rfl | hq
    · exact N _ (List.mem_append_right _ (.head _))
    · rcases List.mem_cons.mp hq with rfl | hq
      · exact N _ hm0
      · rcases List.mem_append.mp hq with hq | hq
        · exact N _ (List.mem_append_left _ hq)
        · exact N _ (List.mem_append_right _ (.tail _ hq))
  · rcases List.mem_append.mp hq with hq | hq
    · exact h1 q hq
    · exact h2 q hq
  · rw [hgr] at hq
    rcases List.mem_append.mp hq with hq | hq
    · exact N' _ (.tail _ (.tail _ (List.mem_append_left _ hq)))
    · rcases List.mem_cons.mp hq with rfl | hq
      · exact N' _ (.head _)
      · exact N' _ (.tail _ (.tail _ (List.mem_append_right _ hq)))
end
-- X7
noncomputable def menuOk (lo hi : Int) : List Value → Bool
  | [] => true
  | .int i _ :: r => decide (lo ≤ i) && decide (i ≤ hi) && menuOk lo hi r
  | _ => false
theorem menuOk_at {lo hi : Int} : ∀ {l : List Value} {n : Nat}, menuOk lo hi l = true → n < l.length → ∃ i t, l[n]? = some (.int i t) ∧ lo ≤ i ∧ i ≤ hi
  | [], _, _, h => absurd h (Nat.not_lt_zero _)
  | v :: r, n, e, h => by
    cases v with
    | int i t =>
      simp only [menuOk, Bool.and_eq_true, decide_eq_true_eq] at e
      cases n with
      | zero => exact ⟨i, t, rfl, e.1.1, e.1.2⟩
      | succ n =>
        obtain ⟨i', t', e1, e2⟩ := menuOk_at (l := r) (n := n) e.2 (by simpa using h)
        exact ⟨i', t', by simpa using e1, e2⟩
    | _ => cases e
theorem menu_item {prog : Program} {w : World} {A : Around} {E : Value → Shared → Prop} {s : Shared} {h₀ : Heap} {L l : Addr} {news : List (Addr × Obj)} {its : List Value} {n : Nat} {value slice : Expr} {d lo hi : Int} {u : Tok} {Q : Value → Shared → Prop}
    (N : News h₀ L s.heap news) (hm : (l, listOf its.toArray n) ∈ news) (ok : menuOk lo hi its = true) (h0 : 0 ≤ d) (h1 : d < its.length) (hs : its.length < 2 ^ 60)
    (h : ∀ i t, lo ≤ i → i ≤ hi → Q (.int i t) s)
    (hsub : subscripted slice false (.ref l) (.int d u) = operate [.ref l, .int d u] (getItem (.ref l) (.int d u)) := by with_unfolding_all rfl) :
    wpAny (model prog w) A (subscriptTail value slice (.ref l) (.int d u)) Q E s := by
  obtain ⟨i, t, e, e1, e2⟩ := menuOk_at (n := d.toNat) ok (by omega)
  have hL : s.heap.IsList l its.toArray := News.isList N hm
  exact tail_any hL.typeIs slot_list_getitem.lookup (wpAny_getItem_list hL h0 (by omega) (by simpa using e) (h i t e1 e2)) hsub
theorem pow_bits {i j : Int} (h0 : 0 ≤ i) (h1 : i ≤ 511) (h2 : -1 ≤ j) (h3 : j ≤ 1) : Builtin.Int.intBits (2 ^ i.toNat + j) ≤ 512 := by
  rw [PySem.intBits_le_iff]
  have a : (2 : Nat) ^ i.toNat ≤ 2 ^ 511 := Nat.pow_le_pow_right (by decide) (by omega)
  have b : ((2 ^ i.toNat : Nat) : Int) = 2 ^ i.toNat := by simp
  have c : 0 < (2 : Nat) ^ i.toNat := Nat.pow_pos (by decide)
  generalize (2 : Nat) ^ i.toNat = z at a b c
  rw [← b]
  have e : (2 : Nat) ^ 511 + 1 < 2 ^ 512 := by decide +kernel
  omega
theorem neg_bits {v : Int} {n : Nat} (h : Builtin.Int.intBits v ≤ n) : Builtin.Int.intBits (-v) ≤ n := PySem.intBits_neg_le h
theorem reg_18 : True := by
  k_with "subscriptTail" => ((k_here; (with_reducible show wpAny _ _ (subscriptTail _ _ (Value.ref _) (Value.int _ _)) _ _ _); k_dflt (first | (apply menu_item (lo := 0) (hi := 511); (case N => k_asm); (case hm => k_mem); (case ok => rfl); (case h0 => with_reducible assumption); (case h1 => (simp only [List.length_cons, List.length_nil]; omega)); (case hs => (simp only [List.length_cons, List.length_nil]; decide)); (try (case hsub => with_unfolding_all rfl)); intro i' t' hi1 hi2) | (apply menu_item (lo := -1) (hi := 1); (case N => k_asm); (case hm => k_mem); (case ok => rfl); (case h0 => with_reducible assumption); (case h1 => (simp only [List.length_cons, List.length_nil]; omega)); (case hs => (simp only [List.length_cons, List.length_nil]; decide)); (try (case hsub => with_unfolding_all rfl)); intro i' t' hi1 hi2) | (apply menu_item (lo := -2 ^ 511) (hi := 1); (case N => k_asm); (case hm => k_mem); (case ok => first | rfl | decide +kernel); (case h0 => with_reducible assumption); (case h1 => (simp only [List.length_cons, List.length_nil]; omega)); (case hs => (simp only [List.length_cons, List.length_nil]; decide)); (try (case hsub => with_unfolding_all rfl)); intro i' t' hi1 hi2))))
  trivial

theorem reg_19 : True := by
  k_with "binaryOp Pow int int" => ((k_here; refine PyProof.Rows.pow_int_small (by with_reducible assumption) (by omega) (by decide) ?_))
  trivial

theorem reg_20 : True := by
  k_with "binaryOp Pow int int" => ((k_here; refine PyProof.Rows.pow_int_small (n := 512) (by decide) (by decide) (by decide) ?_))
  trivial

theorem reg_21 : True := by
  k_with "call ref" => ((k_here; (with_reducible show wpAny _ _ (call (Value.ref 518) _) _ _ _); k_dflt (apply draw_g; (case B => k_asm); (case F => k_asm); (case X => k_asm); (case N => k_asm); (case U => k_updF); (case hm0 => k_mem); (case hne => first | with_reducible assumption | omega); (case hI => with_reducible assumption); (case hlen => with_reducible assumption); (case hs0 => first | with_reducible assumption | decide | omega); (case hs1 => first | with_reducible assumption | decide | omega); (case hm => decide); (case hm' => decide); (case T => k_asm); (case hk => first | exact rfl | with_reducible assumption); (case hd => ktr_room); (case _hu => ktr_units); intro d' t' t1' n' h' tk' hd1 hd2 F' N'; (try k_sweep))))
  trivial

section
variable {w : World} {p : Program} {loose : List Str} {mean : ExcName → Option Value} {mg mb : Str → Option Value}
  {dp un : Nat} {gd : Option (List Code)} {cn : Str} {cs : Scope} {a : Addr} {ccd : Value} {cl : List (Str × Addr)} {outer : List Env} {A₀ : Around} {base h₀ : Heap} {L : Addr} {m : Str → Option Value} {s : Shared} {Q : Value → Shared → Prop} {E : Value → Shared → Prop}
local macro_rules | `(tactic| k_all) => `(tactic| with_reducible assumption)

theorem number_c {rest : List (Addr × Obj)} {pen cells : Addr} {vs : List Value} {ns : List Int} {nc n : Nat} {spot c : Int} {t1 t2 : Tok}
  (B : Below A₀ base outer h₀) (F : Fr h₀ L s.heap m) (X : (K0 w.params).In h₀)
  (N : News h₀ L s.heap ((pen, listOf #[.ref cells, .int spot t1, .int c t2] n) :: (cells, listOf vs.toArray nc) :: rest))
  (hne : @LT.lt Nat _ cells pen) (hr : ∀ q ∈ rest, q.1 ≠ pen)
  (hI : IntsAre vs ns) (hlen : ns.length ≤ 63) (hs0 : 0 ≤ spot) (hs1 : spot ≤ 7)
  (T : Top p loose mean mg mb h₀) (hk : cs.kind = .function) (hd : dp + 10 < recursionLimit) (hu : un + 40 < cLine)
  (hret : ∀ v t t1' n' h' tk', Builtin.Int.intBits v ≤ 512 → Fr h₀ L h' m → News h₀ L h' ((pen, listOf #[.ref cells, .int (spot + 1 + 1 + 1) t1', .int c t2] n') :: (cells, listOf vs.toArray nc) :: rest) → Q (.int v t) { s with heap := h', toks := tk' }) :
  wpAny (model PySem.Challenge.rw_on0173_01.row.toRowW.prog w) (ktrTop dp un gd cn cs L a ccd cl outer) (call (.ref 525) [.ref pen]) Q E s := by
  revert X; k_fill; intro X
  refine wpAny_call ?_
  k_dflt k_enter
  k_steps
  all_goals first
    | exact hret _ _ _ _ _ _ (pow_bits (by assumption) (by assumption) (by assumption) (by assumption)) (by k_asm) (drop1 (drop1 (by k_asm)))
    | exact hret _ _ _ _ _ _ (neg_bits (pow_bits (by assumption) (by assumption) (by assumption) (by assumption))) (by k_asm) (drop1 (drop1 (by k_asm)))
theorem number_g {news : List (Addr × Obj)} {g : Obj → List (Addr × Obj)} {pen cells : Addr} {vs : List Value} {ns : List Int} {nc n : Nat} {spot c : Int} {t1 t2 : Tok}
  (B : Below A₀ base outer h₀) (F : Fr h₀ L s.heap m) (X : (K0 w.params).In h₀)
  (N : News h₀ L s.heap news) (U : UpdF pen (listOf #[.ref cells, .int spot t1, .int c t2] n) news g) (hm0 : (cells, listOf vs.toArray nc) ∈ news)
  (hne : @LT.lt Nat _ cells pen)
  (hI : IntsAre vs ns) (hlen : ns.length ≤ 63) (hs0 : 0 ≤ spot) (hs1 : spot ≤ 7)
  (T : Top p loose mean mg mb h₀) (hk : cs.kind = .function) (hd : dp + 10 < recursionLimit) (hu : un + 40 < cLine)
  (hret : ∀ v t t1' n' h' tk', Builtin.Int.intBits v ≤ 512 → Fr h₀ L h' m → News h₀ L h' (g (listOf #[.ref cells, .int (spot + 1 + 1 + 1) t1', .int c t2] n')) → Q (.int v t) { s with heap := h', toks := tk' }) :
  wpAny (model PySem.Challenge.rw_on0173_01.row.toRowW.prog w) (ktrTop dp un gd cn cs L a ccd cl outer) (call (.ref 525) [.ref pen]) Q E s := by
  obtain ⟨own, rest, rfl, hgr, h1, h2⟩ := U.split
  refine number_c (rest := own ++ rest) (nc := nc) (n := n) (t1 := t1) (t2 := t2) (c := c) B F X (fun q hq => ?_) hne (fun q hq => ?_) hI hlen hs0 hs1 T hk hd hu (fun v t t1' n' h' tk' e1 F' N' => hret v t t1' n' h' tk' e1 F' fun q hq => ?_)
  · rcases List.mem_cons.mp hq with rfl | hq
    · exact N _ (List.mem_append_right _ (.head _))
    · rcases List.mem_cons.mp hq with rfl | hq
      · exact N _ hm0
      · rcases List.mem_append.mp hq with hq | hq
        · exact N _ (List.mem_append_left _ hq)
        · exact N _ (List.mem_append_right _ (.tail _ hq))
  · rcases List.mem_append.mp hq with hq | hq
    · exact h1 q hq
    · exact h2 q hq
  · rw [hgr] at hq
    rcases List.mem_append.mp hq with hq | hq
    · exact N' _ (.tail _ (.tail _ (List.mem_append_left _ hq)))
    · rcases List.mem_cons.mp hq with rfl | hq
      · exact N' _ (.head _)
      · exact N' _ (.tail _ (.tail _ (List.mem_append_right _ hq)))
end
-- X8
noncomputable def valI (l : List Int) : Int := l.foldl (fun t c => 10 * t + c - 48) 0
theorem valI_snoc (l : List Int) (c : Int) : valI (l ++ [c]) = 10 * valI l + c - 48 := by simp [valI]
theorem zero48 : (PySem.Str.ofString "0").cps.getD 0 0 = 48 := by decide
def Digs (l : List Int) : Prop := ∀ c ∈ l, 48 ≤ c ∧ c ≤ 57
theorem dig_at {l pre post : List Int} {n : Nat} (h : Digs l) (e : l = pre ++ (n : Int) :: post) : 48 ≤ n ∧ n ≤ 57 := by
  have := h n (by rw [e]; simp)
  omega
theorem in_figs {n : Nat} (h : 48 ≤ n ∧ n ≤ 57) : (!(Builtin.Str.occurrences "0123456789" ⟨#[n]⟩ 0 (PySem.Str.length "0123456789") 1).isEmpty) = true := by
  have h1 := h.1
  have h2 := h.2
  have : n = 48 ∨ n = 49 ∨ n = 50 ∨ n = 51 ∨ n = 52 ∨ n = 53 ∨ n = 54 ∨ n = 55 ∨ n = 56 ∨ n = 57 := by omega
  rcases this with rfl | rfl | rfl | rfl | rfl | rfl | rfl | rfl | rfl | rfl <;> decide +kernel
theorem eq_strB {prog : Program} {w : World} {A : Around} {E : Value → Shared → Prop} {s : Shared} {x y : Str} {u v : Tok} {b : Bool} {Q : Value → Shared → Prop} (e : (x == y) = b) (h : Q (.bool b) s) :
    wpAny (model prog w) A (compareOp .Eq (.str x u) (.str y v)) Q E s := eq_str (by rw [e]; exact h)
theorem reg_22 : True := by
  k_with "compareOp In str str" => ((k_here; k_dflt (refine in_strB (b := true) (in_figs (dig_at (by with_reducible assumption) (by with_reducible assumption))) ?_)))
  trivial

theorem reg_23 : True := by
  k_with "compareOp Eq str str" => ((k_here; k_dflt (refine eq_strB (by with_reducible assumption) ?_)))
  trivial

theorem reg_24 : True := by
  k_with "subscriptTail" => ((k_here; (with_reducible show wpAny _ _ (subscriptTail _ _ (Value.str _ _) _) _ _ _); k_dflt (first | (apply slice_strN_ns; (case hF => k_asm); (case hN => k_asm); (try (case hs => with_unfolding_all rfl)); (try (case ht => intro _; with_unfolding_all rfl)); (try (case hsz => with_reducible assumption)); intro h' t' tk' F' N'; (try k_sweep)) | (apply slice_strN_sn; (case hF => k_asm); (case hN => k_asm); (try (case hs => with_unfolding_all rfl)); (try (case ht => intro _; with_unfolding_all rfl)); (try (case hsz => with_reducible assumption)); intro h' t' tk' F' N'; (try k_sweep)))))
  trivial

section
variable {w : World} {p : Program} {loose : List Str} {mean : ExcName → Option Value} {mg mb : Str → Option Value}
  {dp un : Nat} {gd : Option (List Code)} {cn : Str} {cs : Scope} {a : Addr} {ccd : Value} {cl : List (Str × Addr)} {outer : List Env} {A₀ : Around} {base h₀ : Heap} {L : Addr} {m : Str → Option Value} {s : Shared} {Q : Value → Shared → Prop} {E : Value → Shared → Prop}
theorem numof_p {news : List (Addr × Obj)} {z : Str} {tz : Tok}
  (hz : Digs (KStt.codes z)) (hz0 : 0 < z.length) (hz1 : z.length ≤ 160) (hzs : z.length ≤ sizeLine)
  (hm1 : (Txt.slice z none (some 1) == ("-" : Str)) = false)
  (B : Below A₀ base outer h₀) (F : Fr h₀ L s.heap m) (X : (K0 w.params).In h₀)
  (N : News h₀ L s.heap news)
  (T : Top p loose mean mg mb h₀) (hk : cs.kind = .function) (hd : dp + 60 < recursionLimit) (hu : un + 200 < cLine)
  (hret : ∀ t h' tk', -2 ^ 512 < valI (KStt.codes z) ∧ valI (KStt.codes z) < 2 ^ 512 → Fr h₀ L h' m → News h₀ L h' news → Q (.int (valI (KStt.codes z)) t) { s with heap := h', toks := tk' })
  (hexc : ∀ e t vs g₂ h' tk', ¬ (-2 ^ 512 < valI (KStt.codes z) ∧ valI (KStt.codes z) < 2 ^ 512) → Fr h₀ L g₂ m → RaisedS base g₂ (envX cn cs L a ccd cl :: outer) e (.ref 107) t vs news h' → RaisedK base (envX cn cs L a ccd cl :: outer) e (.ref 107) t vs news h' → g₂.UpToSlots h' → E (.ref e) { s with heap := h', toks := tk' }) :
  wpAny (model PySem.Challenge.rw_on0173_01.row.toRowW.prog w) (ktrTop dp un gd cn cs L a ccd cl outer) (call (.ref 511) [.str z tz]) Q E s := by
  revert X; k_fill; intro X
  refine wpAny_call ?_
  k_dflt k_enter
  k_with "pyIter str" => (k_state (fun pre total => total = valI pre) "total")
  k_with "state" => (first | rfl | (rw [valI_snoc, zero48]; omega))
  k_steps
  all_goals try (rename _ = valI (KStt.codes _) => kI; subst kI)
  all_goals first
    | exact hexc _ _ _ _ _ _ (by assumption) (by assumption) (by assumption) (by assumption) (by assumption)
    | exact hret _ _ _ (by assumption) (by k_asm) (by k_asm)
theorem numof_n {news : List (Addr × Obj)} {z x : Str} {tz : Tok}
  (hxe : Txt.slice z (some 1) none = x) (hz : Digs (KStt.codes x)) (hz0 : 0 < x.length) (hz1 : x.length ≤ 160) (hzs : z.length ≤ sizeLine)
  (hm1 : (Txt.slice z none (some 1) == ("-" : Str)) = true)
  (B : Below A₀ base outer h₀) (F : Fr h₀ L s.heap m) (X : (K0 w.params).In h₀)
  (N : News h₀ L s.heap news)
  (T : Top p loose mean mg mb h₀) (hk : cs.kind = .function) (hd : dp + 60 < recursionLimit) (hu : un + 200 < cLine)
  (hret : ∀ t h' tk', -2 ^ 512 < -valI (KStt.codes x) ∧ -valI (KStt.codes x) < 2 ^ 512 → Fr h₀ L h' m → News h₀ L h' news → Q (.int (-valI (KStt.codes x)) t) { s with heap := h', toks := tk' })
  (hexc : ∀ e t vs g₂ h' tk', ¬ (-2 ^ 512 < -valI (KStt.codes x) ∧ -valI (KStt.codes x) < 2 ^ 512) → Fr h₀ L g₂ m → RaisedS base g₂ (envX cn cs L a ccd cl :: outer) e (.ref 107) t vs news h' → RaisedK base (envX cn cs L a ccd cl :: outer) e (.ref 107) t vs news h' → g₂.UpToSlots h' → E (.ref e) { s with heap := h', toks := tk' }) :
  wpAny (model PySem.Challenge.rw_on0173_01.row.toRowW.prog w) (ktrTop dp un gd cn cs L a ccd cl outer) (call (.ref 511) [.str z tz]) Q E s := by
  subst hxe
  revert X; k_fill; intro X
  refine wpAny_call ?_
  k_dflt k_enter
  k_with "pyIter str" => (k_state (fun pre total => total = valI pre) "total")
  k_with "state" => (first | rfl | (rw [valI_snoc, zero48]; omega))
  k_steps
  all_goals try (rename _ = valI (KStt.codes _) => kI; subst kI)
  all_goals first
    | exact hexc _ _ _ _ _ _ (by assumption) (by assumption) (by assumption) (by assumption) (by assumption)
    | exact hret _ _ _ (by assumption) (by k_asm) (by k_asm)
end
-- X9
section
open PySem.NumText
noncomputable def ic (l : List Nat) : List Int := l.map fun (c : Nat) => (c : Int)
theorem val_go : ∀ (l : List Nat) (a : Nat), AllDigits l → (ic l).foldl (fun t c => 10 * t + c - 48) (a : Int) = ((l.foldl (fun acc c => acc * 10 + (c - 48)) a : Nat) : Int)
  | [], _, _ => rfl
  | c :: l, a, h => by
    have hc := h.head
    have e : 10 * (a : Int) + (c : Int) - 48 = ((a * 10 + (c - 48) : Nat) : Int) := by omega
    show (ic l).foldl _ (10 * (a : Int) + (c : Int) - 48) = _
    rw [e]
    exact val_go l _ h.tail
theorem val_ic {l : List Nat} (h : AllDigits l) : valI (ic l) = (digitsVal l : Nat) := val_go l 0 h
noncomputable abbrev dg (m : Nat) : List Nat := (Nat.toDigits 10 m).map Char.toNat
theorem dg_digs (m : Nat) : AllDigits (dg m) := by
  intro c hc
  obtain ⟨ch, hch, e⟩ := List.mem_map.mp hc
  have r := digit_range (Nat.isDigit_of_mem_toDigits (by decide) (by decide) hch)
  rw [← e]
  exact r
theorem dg_val (m : Nat) : valI (ic (dg m)) = m := by
  rw [val_ic (dg_digs m), KIN.val_back]
theorem dg_pos (m : Nat) : 0 < (dg m).length := by
  have := PySem.toDigits_len_ge 10 m
  simp only [dg, List.length_map]
  omega
theorem dg_len {m : Nat} (h : m < 10 ^ 155) : (dg m).length ≤ 155 := by
  simp only [dg, List.length_map]
  exact PySem.toDigits_len_pow (by decide) (by decide) h
theorem digs_ic {l : List Nat} (h : AllDigits l) : Digs (ic l) := by
  intro c hc
  obtain ⟨d, hd, rfl⟩ := List.mem_map.mp hc
  have := h d hd
  omega
noncomputable def sI (x : Int) : Str := Str.ofString (toString x)
theorem codes_p (m : Nat) : KStt.codes (sI (m : Int)) = ic (dg m) := by
  unfold KStt.codes
  show ic ((Str.ofString (toString (m : Int))).cps.toList) = _
  rw [KIN.signs_num]
theorem cps_n {m : Nat} : (sI (-((m : Int) + 1))).cps.toList = 45 :: dg (m + 1) := by
  have e : -((m : Int) + 1) = Int.negSucc m := by omega
  unfold sI
  rw [e, signs_ofString]
  show ("-" ++ Nat.repr (m + 1)).toList.map Char.toNat = _
  rw [String.toList_append, List.map_append, Nat.toList_repr]
  rfl
theorem len_p (m : Nat) : (sI (m : Int)).length = (dg m).length := by
  rw [← KStt.codes_length, codes_p]
  simp [ic]
end
section
open PySem.NumText
open PySem.StrLaws PySem.Builtin.Str
theorem slice_toList (x : Str) {a b : Nat} (hab : a ≤ b) (hb : b ≤ x.length) : (Txt.slice x (some (a : Int)) (some (b : Int))).cps.toList = (x.cps.toList.drop a).take (b - a) := by
  unfold Txt.slice
  split
  · rename_i h
    rw [strSliceIndices_plain hab hb] at h
    simp only [beq_self_eq_true, Bool.true_and, beq_iff_eq, List.length_map, List.length_range] at h
    have ha : a = 0 := by omega
    subst ha
    have hl : x.cps.toList.length = b - 0 := by rw [h]; simp [Str.length]
    rw [List.drop_zero, ← hl, List.take_length]
  · rw [sliced_plain x hab hb]
theorem idx_ns (j : Int) (n : Nat) : strSliceIndices none (some j) 1 n = strSliceIndices (some (0 : Nat)) (some j) 1 n := by
  have e : max (0 : Int) (min ((0 : Nat) : Int) (n : Int)) = 0 := by omega
  have z : ¬ (((0 : Nat) : Int) < 0) := by omega
  simp only [strSliceIndices, z, if_false, e, show ((1 : Int) > 0) = True from by simp, if_true]
theorem idx_sn (i : Int) (n : Nat) : strSliceIndices (some i) none 1 n = strSliceIndices (some i) (some (n : Nat)) 1 n := by
  have e : max (0 : Int) (min (n : Int) (n : Int)) = n := by omega
  have z : ¬ ((n : Int) < 0) := by omega
  simp only [strSliceIndices, z, if_false, e, show ((1 : Int) > 0) = True from by simp, if_true]
theorem slice_ns_eq (x : Str) (j : Int) : Txt.slice x none (some j) = Txt.slice x (some (0 : Nat)) (some j) := by
  unfold Txt.slice
  rw [idx_ns]
theorem slice_sn_eq (x : Str) (i : Int) : Txt.slice x (some i) none = Txt.slice x (some i) (some (x.length : Nat)) := by
  unfold Txt.slice
  rw [idx_sn]
theorem slice_head {z : Str} {c : Nat} {r : List Nat} (h : z.cps.toList = c :: r) : Txt.slice z none (some 1) = ⟨#[c]⟩ := by
  have hl : z.length = r.length + 1 := by
    have := congrArg List.length h
    simpa [Str.length] using this
  refine PySem.Str.ext' (Array.toList_inj.mp ?_)
  rw [slice_ns_eq, show (1 : Int) = ((1 : Nat) : Int) from rfl, slice_toList z (by omega) (by omega), h]
  rfl
theorem slice_tail {z : Str} {c : Nat} {r : List Nat} (h : z.cps.toList = c :: r) : (Txt.slice z (some 1) none).cps.toList = r := by
  have hl : z.length = r.length + 1 := by
    have := congrArg List.length h
    simpa [Str.length] using this
  rw [slice_sn_eq, show (1 : Int) = ((1 : Nat) : Int) from rfl, slice_toList z (by omega) (by omega), h, hl]
  simp
theorem slice_all {z : Str} : Txt.slice z (some 0) (some (z.length : Int)) = z := by
  refine PySem.Str.ext' (Array.toList_inj.mp ?_)
  rw [show (0 : Int) = ((0 : Nat) : Int) from rfl, slice_toList z (by omega) (by omega), List.drop_zero]
  exact List.take_of_length_le (by simp [Str.length])
theorem cps_p (m : Nat) : (sI (m : Int)).cps.toList = dg m := KIN.signs_num m
theorem head_p (m : Nat) : (Txt.slice (sI (m : Int)) none (some 1) == ("-" : Str)) = false := by
  have hp := dg_pos m
  have hd := dg_digs m
  have hc := cps_p m
  cases e : dg m with
  | nil => rw [e] at hp; exact absurd hp (by decide)
  | cons c r =>
    rw [e] at hc
    rw [slice_head hc]
    have hh := hd c (by rw [e]; exact .head _)
    rw [beq_eq_false_iff_ne]
    intro h
    have h := congrArg (fun s : Str => s.cps.toList) h
    have h2 : (PySem.Str.ofString "-").cps.toList = [45] := by decide
    rw [h2] at h
    have : c = 45 := by simpa using h
    omega
theorem head_n (m : Nat) : (Txt.slice (sI (-((m : Int) + 1))) none (some 1) == ("-" : Str)) = true := by
  rw [slice_head cps_n]
  decide
theorem codes_n (m : Nat) : KStt.codes (Txt.slice (sI (-((m : Int) + 1))) (some 1) none) = ic (dg (m + 1)) := by
  show ic ((Txt.slice (sI (-((m : Int) + 1))) (some 1) none).cps.toList) = _
  rw [slice_tail cps_n]
theorem len_n (m : Nat) : (Txt.slice (sI (-((m : Int) + 1))) (some 1) none).length = (dg (m + 1)).length := by
  rw [← KStt.codes_length, codes_n]
  simp [ic]
theorem len_n' (m : Nat) : (sI (-((m : Int) + 1))).length = (dg (m + 1)).length + 1 := by
  have := congrArg List.length (cps_n (m := m))
  simpa [Str.length] using this

end
-- XA
theorem bits_lt {x : Int} (h : Builtin.Int.intBits x ≤ 514) : -10 ^ 155 < x ∧ x < 10 ^ 155 := by
  rw [PySem.intBits_le_iff] at h
  have e : (2 : Nat) ^ 514 ≤ 10 ^ 155 := by decide +kernel
  have e' : ((10 ^ 155 : Nat) : Int) = 10 ^ 155 := by rfl
  omega
theorem size_200 {n : Nat} (h : n ≤ 200) : n ≤ sizeLine := Nat.le_trans h (by decide +kernel)
theorem str_sI {prog : Program} {w : World} {A : Around} {E : Value → Shared → Prop} {s : Shared} {x : Int} {t : Tok} {Q : Value → Shared → Prop} (hx : Builtin.Int.intBits x ≤ 514) (h : Q (.str (sI x) s.toks) { s with toks := s.toks + 1 }) : wpAny (model prog w) A (call (.type "str") [.int x t]) Q E s := by
  refine P.str_of_int ?_ h
  unfold Builtin.Int.intBits at hx
  split at hx
  · rename_i e
    have : x = 0 := by simpa using e
    subst this
    decide
  · omega
section
variable {w : World} {p : Program} {loose : List Str} {mean : ExcName → Option Value} {mg mb : Str → Option Value}
  {dp un : Nat} {gd : Option (List Code)} {cn : Str} {cs : Scope} {a : Addr} {ccd : Value} {cl : List (Str × Addr)} {outer : List Env} {A₀ : Around} {base h₀ : Heap} {L : Addr} {m : Str → Option Value} {s : Shared} {Q : Value → Shared → Prop} {E : Value → Shared → Prop}
theorem numof_c {news : List (Addr × Obj)} {x : Int} {tz : Tok}
  (hx : Builtin.Int.intBits x ≤ 514)
  (B : Below A₀ base outer h₀) (F : Fr h₀ L s.heap m) (X : (K0 w.params).In h₀)
  (N : News h₀ L s.heap news)
  (T : Top p loose mean mg mb h₀) (hk : cs.kind = .function) (hd : dp + 60 < recursionLimit) (hu : un + 200 < cLine)
  (hret : ∀ t h' tk', -2 ^ 512 < x ∧ x < 2 ^ 512 → Fr h₀ L h' m → News h₀ L h' news → Q (.int x t) { s with heap := h', toks := tk' })
  (hexc : ∀ e t vs g₂ h' tk', ¬ (-2 ^ 512 < x ∧ x < 2 ^ 512) → Fr h₀ L g₂ m → RaisedS base g₂ (envX cn cs L a ccd cl :: outer) e (.ref 107) t vs news h' → RaisedK base (envX cn cs L a ccd cl :: outer) e (.ref 107) t vs news h' → g₂.UpToSlots h' → E (.ref e) { s with heap := h', toks := tk' }) :
  wpAny (model PySem.Challenge.rw_on0173_01.row.toRowW.prog w) (ktrTop dp un gd cn cs L a ccd cl outer) (call (.ref 511) [.str (sI x) tz]) Q E s := by
  have hb := bits_lt hx
  by_cases h0 : 0 ≤ x
  · obtain ⟨m', rfl⟩ := Int.eq_ofNat_of_zero_le h0
    have hm : m' < 10 ^ 155 := by omega
    have hl := dg_len hm
    have hp := dg_pos m'
    have hv : valI (KStt.codes (sI (m' : Int))) = (m' : Int) := by rw [codes_p, dg_val]
    have hd' : Digs (KStt.codes (sI (m' : Int))) := by rw [codes_p]; exact digs_ic (dg_digs m')
    have l1 := len_p m'
    exact numof_p hd' (by omega) (by omega) (size_200 (by omega)) (head_p m') B F X N T hk hd hu
      (fun t h' tk' hf F' N' => by rw [hv] at hf ⊢; exact hret t h' tk' hf F' N')
      (fun e t vs g₂ h' tk' hf F' S R U => by rw [hv] at hf; exact hexc e t vs g₂ h' tk' hf F' S R U)
  · obtain ⟨m', rfl⟩ : ∃ m' : Nat, x = -((m' : Int) + 1) := ⟨(-x - 1).toNat, by omega⟩
    have hm : m' + 1 < 10 ^ 155 := by omega
    have hl := dg_len hm
    have hp := dg_pos (m' + 1)
    have l1 := len_n m'
    have l2 := len_n' m'
    have hv : -valI (KStt.codes (Txt.slice (sI (-((m' : Int) + 1))) (some 1) none)) = -((m' : Int) + 1) := by rw [codes_n, dg_val]; omega
    have hd' : Digs (KStt.codes (Txt.slice (sI (-((m' : Int) + 1))) (some 1) none)) := by rw [codes_n]; exact digs_ic (dg_digs (m' + 1))
    exact numof_n rfl hd' (by omega) (by omega) (size_200 (by omega)) (head_n m') B F X N T hk hd hu
      (fun t h' tk' hf F' N' => by rw [hv] at hf ⊢; exact hret t h' tk' hf F' N')
      (fun e t vs g₂ h' tk' hf F' S R U => by rw [hv] at hf; exact hexc e t vs g₂ h' tk' hf F' S R U)
end
-- XB
theorem reg_25 : True := by
  k_with "call type:str" => ((k_here; refine str_sI (by with_reducible assumption) ?_))
  trivial

theorem reg_26 : True := by
  k_with "call ref" => ((k_here; (with_reducible show wpAny _ _ (call (Value.ref 511) _) _ _ _); k_dflt ((apply numof_c; (case hx => with_reducible assumption); (case B => k_asm); (case F => k_asm); (case X => k_asm); (case N => k_asm); (case T => k_asm); (case hk => first | exact rfl | with_reducible assumption); (case hd => ktr_room); (case hu => ktr_units); (case' hexc => intro e' t' vs' g' h' tk' hf' F' S' R' U'); (case' hret => intro t' h' tk' hf' F' N'); (try k_sweep)))))
  trivial

noncomputable abbrev lamNum : Scope := { kind := .function, names := [("found", .free), ("number_of", .globalImplicit), ("str", .globalImplicit)], isGenerator := false, isCoroutine := false }
noncomputable abbrev lamBnd : Scope := { kind := .function, names := [("found", .free), ("bounded", .globalImplicit)], isGenerator := false, isCoroutine := false }

section
variable {w : World} {p : Program} {loose : List Str} {mean : ExcName → Option Value} {mg mb : Str → Option Value}
  {dp un : Nat} {gd : Option (List Code)} {cn : Str} {cs : Scope} {a : Addr} {ccd : Value} {cl : List (Str × Addr)} {A₀ : Around} {h₀ : Heap} {L : Addr} {m : Str → Option Value} {s : Shared} {Q : Value → Shared → Prop} {E : Value → Shared → Prop}
theorem heard_bnd {news : List (Addr × Obj)} {f c' am cc PP : Addr} {oc om : Obj} {vs : Array Value} {tq tm : Tok} {pm ctv : Value} {x : Int} {p1 p2 p5 : Pos}
  (B : Below A₀ h₀ [] h₀) (CH : CodeHd h₀ cc PP) (F : Fr h₀ L s.heap m) (X : (K0 w.params).In h₀)
  (N : News h₀ L s.heap news)
  (hf : (f, kla_obj "<lambda>" lamQ noArgs (.Call (.Name "bounded" p1) [.Name "found" p2] [] p5) lamBnd [("found", am)] pm c' ctv) ∈ news)
  (hc : (c', oc) ∈ news) (ha : (am, om) ∈ news)
  (hoc : oc.data = .fields vs) (hvs : vs[1]? = some (.str lamQ tq))
  (hom : om.data = .cell (some (.int x tm)))
  (T : Top p loose mean mg mb h₀) (hk : cs.kind = .function) (hd : dp + 100 < recursionLimit) (hu : un + 400 < cLine)
  (hret : ∀ v h' tk', Is (fit x) v → Fr h₀ L h' m → News h₀ L h' news → Q v { s with heap := h', toks := tk' }) :
  wpAny (model PySem.Challenge.rw_on0173_01.row.toRowW.prog w) (ktrTop dp un gd cn cs L a ccd cl []) (call (.ref 539) [.ref f]) Q E s := by
  revert X; k_fill; intro X
  ktr_unf
  k_steps
  all_goals first
    | exact hret _ _ _ (is_some (fit_some (by assumption))) (by k_asm) (by k_asm)
    | exact hret _ _ _ (is_none (fit_none (by assumption))) (by k_asm) (by k_asm)
theorem heard_num {news : List (Addr × Obj)} {f c' am cc PP : Addr} {oc om : Obj} {vs : Array Value} {tq tm : Tok} {pm ctv : Value} {x : Int} {p1 p2 p3 p4 p5 : Pos}
  (B : Below A₀ h₀ [] h₀) (CH : CodeHd h₀ cc PP) (F : Fr h₀ L s.heap m) (X : (K0 w.params).In h₀)
  (N : News h₀ L s.heap news)
  (hf : (f, kla_obj "<lambda>" lamQ noArgs (.Call (.Name "number_of" p1) [.Call (.Name "str" p2) [.Name "found" p3] [] p4] [] p5) lamNum [("found", am)] pm c' ctv) ∈ news)
  (hc : (c', oc) ∈ news) (ha : (am, om) ∈ news)
  (hoc : oc.data = .fields vs) (hvs : vs[1]? = some (.str lamQ tq))
  (hom : om.data = .cell (some (.int x tm)))
  (hx : Builtin.Int.intBits x ≤ 514)
  (T : Top p loose mean mg mb h₀) (hk : cs.kind = .function) (hd : dp + 100 < recursionLimit) (hu : un + 400 < cLine)
  (hret : ∀ v h' tk', Is (fit x) v → Fr h₀ L h' m → News h₀ L h' news → Q v { s with heap := h', toks := tk' }) :
  wpAny (model PySem.Challenge.rw_on0173_01.row.toRowW.prog w) (ktrTop dp un gd cn cs L a ccd cl []) (call (.ref 539) [.ref f]) Q E s := by
  revert X; k_fill; intro X
  ktr_unf
  k_steps
  all_goals first
    | exact hret _ _ _ (is_some (fit_some (by assumption))) (by k_asm) (by k_asm)
    | exact hret _ _ _ (is_none (fit_none (by assumption))) (by k_asm) (by k_asm)
end
-- XC
noncomputable abbrev curD (P : Params) (t1 t2 : Tok) (z : Str) (tz : Tok) (i : Int) (ti : Tok) : Obj :=
  dictOf [{ hash := PyData.keyHash P "text", key := .str "text" t1, val := .str z tz }, { hash := PyData.keyHash P "at", key := .str "at" t2, val := .int i ti }] 2
theorem dig_item {x : Str} {i : Int} (hz : Digs (KStt.codes x)) (h0 : 0 ≤ i) (h1 : i < x.length) : ∃ n : Nat, (48 ≤ n ∧ n ≤ 57) ∧ Txt.item x i = ⟨#[n]⟩ := by
  have h := charAt_isSome (x := x) (i := i) (by omega) h1
  obtain ⟨n, e⟩ := Option.isSome_iff_exists.mp h
  refine ⟨n, ?_, ?_⟩
  · unfold Txt.charAt at e
    obtain ⟨j, e1, e2⟩ := Option.bind_eq_some_iff.mp e
    have hc := KStt.code_at e2
    have := hz (n : Int) (List.mem_of_getElem? hc)
    omega
  · unfold Txt.item
    rw [e]
    rfl
theorem item_dig {prog : Program} {w : World} {A : Around} {E : Value → Shared → Prop} {s : Shared} {value slice : PySem.Expr} {x : Str} {t u : Tok} {i : Int} {Q : Value → Shared → Prop} (hz : Digs (KStt.codes x)) (h0 : 0 ≤ i) (h1 : i < x.length) (hn : x.length ≤ 160)
    (h : ∀ n : Nat, (48 ≤ n ∧ n ≤ 57) → Q (.str ⟨#[n]⟩ s.toks) { s with toks := s.toks + 1 })
    (hs : subscripted slice false (.str x t) (.int i u) = operate [.str x t, .int i u] (getItem (.str x t) (.int i u)) := by with_unfolding_all rfl)
    (ht : ∀ r, letTemporaryGo value (.str x t) r = pure () := by intro _; with_unfolding_all rfl) :
    wpAny (model prog w) A (subscriptTail value slice (.str x t) (.int i u)) Q E s := by
  obtain ⟨n, hd, e⟩ := dig_item hz h0 h1
  exact KXi.item rfl (by omega) h1 (by omega) (fun _ => by rw [e]; exact h n hd) hs ht
theorem in_blanks {n : Nat} (h : 48 ≤ n ∧ n ≤ 57) : (!(Builtin.Str.occurrences " \t\n\r" ⟨#[n]⟩ 0 (PySem.Str.length " \t\n\r") 1).isEmpty) = false := by
  have h1 := h.1
  have h2 := h.2
  have : n = 48 ∨ n = 49 ∨ n = 50 ∨ n = 51 ∨ n = 52 ∨ n = 53 ∨ n = 54 ∨ n = 55 ∨ n = 56 ∨ n = 57 := by omega
  rcases this with rfl | rfl | rfl | rfl | rfl | rfl | rfl | rfl | rfl | rfl <;> decide +kernel
theorem reg_27 : True := by
  k_with "compareOp In str str" => ((k_here; k_dflt (first | refine in_strB (b := true) (in_figs (by with_reducible assumption)) ?_ | refine in_strB (b := false) (in_blanks (by with_reducible assumption)) ?_)))
  trivial

theorem reg_28 : True := by
  k_with "subscriptTail" => ((k_here; (with_reducible show wpAny _ _ (subscriptTail _ _ (Value.str _ _) (Value.int _ _)) _ _ _); k_dflt (apply item_dig; (case hz => with_reducible assumption); (case h0 => first | with_reducible assumption | omega); (case h1 => omega); (case hn => with_reducible assumption); (try (case hs => with_unfolding_all rfl)); (try (case ht => intro _; with_unfolding_all rfl)); intro n' hn'; (try dsimp only))))
  trivial

theorem reg_29 : True := by
  k_with "subscriptTail" => ((k_here; (with_reducible show wpAny _ _ (subscriptTail _ (PySem.Expr.Slice (some _) (some _) _ _) (Value.str _ _) (Value.ref _)) _ _ _); k_dflt (apply slice_strN_ss; (case hF => k_asm); (case hN => k_asm); (try (case hs => with_unfolding_all rfl)); (try (case ht => intro _; with_unfolding_all rfl)); (try (case hsz => first | with_reducible assumption | exact size_200 (by omega))); intro h' t' tk' F' N'; (try k_sweep))))
  trivial

section
variable {w : World} {p : Program} {loose : List Str} {mean : ExcName → Option Value} {mg mb : Str → Option Value}
  {dp un : Nat} {gd : Option (List Code)} {cn : Str} {cs : Scope} {a : Addr} {ccd : Value} {cl : List (Str × Addr)} {outer : List Env} {A₀ : Around} {base h₀ : Heap} {L : Addr} {m : Str → Option Value} {s : Shared} {Q : Value → Shared → Prop} {E : Value → Shared → Prop}
local macro_rules | `(tactic| k_all) => `(tactic| with_reducible assumption)

theorem tw_fig {rest : List (Addr × Obj)} {x d : Addr} {z g : Str} {t1 t2 tz ti tg : Tok}
  (hz : Digs (KStt.codes z)) (hz1 : z.length ≤ 160) (hdx : @LT.lt Nat _ d x) (hr : ∀ q ∈ rest, q.1 ≠ d)
  (B : Below A₀ base outer h₀) (F : Fr h₀ L s.heap m) (X : (K0 w.params).In h₀)
  (N : News h₀ L s.heap ((x, instObj 234 d) :: (d, curD w.params t1 t2 z tz 0 ti) :: rest))
  (T : Top p loose mean mg mb h₀) (hk : cs.kind = .function) (hd : dp + 20 < recursionLimit) (hu : un + 80 < cLine)
  (hret : ∀ t ti' h' tk', Fr h₀ L h' m → News h₀ L h' ((x, instObj 234 d) :: (d, curD w.params t1 t2 z tz z.length ti') :: rest) → Q (.str z t) { s with heap := h', toks := tk' }) :
  wpAny (model PySem.Challenge.rw_on0173_01.row.toRowW.prog w) (ktrTop dp un gd cn cs L a ccd cl outer) (call (.ref 167) [.ref x, .str "0123456789" tg]) Q E s := by
  dsimp only [curD] at N hret
  revert X; k_fill; intro X
  refine wpAny_call ?_
  k_dflt k_enter
  k_with "exec While BoolOp cons nil" => (k_while (fun script i => 0 ≤ i ∧ i ≤ (z.length : Int)) (fun script i => z.length - i.toNat) "self.at")
  k_steps
  k_with_none
  k_with "call builtin:Exception.__init__" => ((k_here; k_dflt (apply exc_init; (case F => k_asm); (case N => k_asm); (case hr => k_all); (case hC => exact (Frag.In.keeps (by k_asm) (Fr.keep (by k_asm))) _ _ (by k_is)); (case hB => rfl); (try (case hrest => size_fits))); intro t' h' F' N' l1 l2; (try k_lt l1); (try k_lt2 l2); (try k_sweep)))
  k_with "setAttr ref" => ((k_here; k_dflt (first | (apply exc_set1; (case F => k_asm); (case X₀ => k_asm); (case N => k_asm); (case hr => k_all); (case hc => k_is); (case hm0 => rfl); (case hd => rfl); (case ha => k_is); (case hs => k_is); intro D' h' tk' F' N' l1 l2; (try k_lt l1); (try k_lt2 l2); (try k_sweep)) | (apply exc_set2; (case F => k_asm); (case X₀ => k_asm); (case N => k_asm); (case hD => k_all); (case hxD => k_ne); (case hn => decide); (case hc => k_is); (case hm0 => rfl); (case hd => rfl); (case ha => k_is); (case hs => k_is); intro h' tk' F' N'; (try k_sweep)))))
  k_with "exec Raise some none" => ((k_here; k_dflt (first | ((with_reducible show wpAny _ _ (exec (Stmt.Raise (some (Expr.Call (Expr.Name (PySem.Str.ofString "MachineError") _) _ _ _)) none _) _) _ _ _); apply raise_any (C := 107); (case _X => k_asm); (case hh => rfl); (case hC => k_is); k_whole) | (apply raise_any (C := 95); (case _X => k_asm); (case hh => rfl); (case hC => k_is); k_whole))))
  k_with "And" => (((with_reducible show _ = Value.ref _ ∧ _); refine ⟨rfl, ?_⟩))
  k_with "RaiseIt" => ((refine ⟨_, _, _, rfl, News.get (by k_asm) (by k_mem), by k_in, ?_⟩))
  k_with "leaving ref" => ((k_here; k_dflt (first | (apply leave_raiseSX; (case hf => rfl); (case hk => rfl); (case K => assumption); (case F => k_asm); (case N => k_asm); (case hne => k_all); (case hnt => k_all); k_whole; intro h' S' R' U'; (try dsimp only at S' R' U' ⊢)) | (apply leave_onSX; (case hf => rfl); (case R => assumption); (case K => assumption); (case F => assumption); (case hsm => assumption); k_whole; intro h' S' R' U'; (try dsimp only at S' R' U' ⊢)))))
  k_with "compareOp In str ref" => ((k_here; (with_reducible show wpAny _ _ (compareOp CmpOp.In (Value.str _ _) (Value.ref _)) _ _ _); (with_unfolding_all apply in_tuple_strs; (case ht => exact tupK (Frag.In.keeps (by k_asm) (Fr.keep (by k_asm))) (by k_is)); (case hi => kde_strs); k_whole)))
  k_with "call ref" => ((k_here; k_dflt (first | ((first | (with_reducible show wpAny _ _ (call (Value.ref 107) [Value.str _ _]) _ _ _) | (with_reducible show wpAny _ _ (call (Value.ref 95) [Value.str _ _]) _ _ _)); apply mk_c; (case hC => first | exact .inl rfl | exact .inr rfl); (case B => k_asm); (case F => k_asm); (case X => k_asm); (case N => k_asm); (case T => k_asm); (case hk => first | exact rfl | with_reducible assumption); (case hd => ktr_room); (case hu => ktr_units); intro e' t' D' h' tk' F' N' l1 l2 l3; (try k_lt l1); (try k_lt l2); (try k_lt2 l3); (try k_sweep)) | ((first | (with_reducible show wpAny _ _ (call (Value.ref 107) [Value.str _ _, _]) _ _ _) | (with_reducible show wpAny _ _ (call (Value.ref 95) [Value.str _ _, _]) _ _ _)); apply mk_p; (case hC => first | exact .inl rfl | exact .inr rfl); (case B => k_asm); (case F => k_asm); (case X => k_asm); (case N => k_asm); (case T => k_asm); (case hk => first | exact rfl | with_reducible assumption); (case hd => ktr_room); (case hu => ktr_units); intro e' t' D' h' tk' F' N' l1 l2 l3; (try k_lt l1); (try k_lt l2); (try k_lt2 l3); (try k_sweep)))))
  k_with "call ref" => ((k_here; (with_reducible show wpAny _ _ (call (Value.ref 462) _) _ _ _); k_dflt (apply bounded_c; (case B => k_asm); (case F => k_asm); (case X => k_asm); (case N => k_asm); (case T => k_asm); (case hk => first | exact rfl | with_reducible assumption); (case hd => ktr_room); (case hu => ktr_units); (case' hexc => intro e' t' vs' g' h' tk' hf' F' S' R' U'); (case' hret => intro h' tk' hf' F' N'); (try k_sweep))))
  k_with "binaryOp Mult int int" => ((k_here; refine PyProof.Rows.mul_int ?_ (IntMulOk.of_le (by with_reducible assumption) (by with_reducible assumption) (by decide))))
  k_with "binaryOp FloorDiv int int" => ((k_here; refine floordiv_int (by with_reducible assumption) ?_ (Or.inl (PyProof.noPylong_of_log2 (bits_log2 (by with_reducible assumption))))))
  k_with "call ref" => ((k_here; (with_reducible show wpAny _ _ (call (Value.ref 497) _) _ _ _); k_dflt (apply two_c; (case hM => with_reducible assumption); (case hx => with_reducible assumption); (case hy => with_reducible assumption); (case B => k_asm); (case F => k_asm); (case X => k_asm); (case N => k_asm); (case T => k_asm); (case hk => first | exact rfl | with_reducible assumption); (case hd => ktr_room); (case hu => ktr_units); (case' hexc => intro e' t' vs' g' h' tk' hr' F' S' R' U'); (case' hret => intro r' tk' h' tk' hr' F' N'); (try k_sweep))))
  k_with "call ref" => ((k_here; (with_reducible show wpAny _ _ (call (Value.ref _) []) _ _ _); k_dflt (refine wpAny_call ?_; (apply kla_code; (case hA => exact rfl); (case hf => exact rfl); (case hke => exact rfl); (case B => k_asm); (case F => k_asm); (case X₀ => k_asm); (case N => k_asm); (case T => k_asm); (case ho => k_mem); (case hcd => exact codeRec_news (by k_asm) (by k_mem) (by with_reducible assumption) (by with_reducible assumption)); (case hroom => ktr_room); (case hbind => exact rfl); (case hcell => decide); (case hloc => exact locs rfl); (case hco => exact rfl); (case hgen => exact rfl); (case hk => exact rfl); k_whole; intro g' L' h' FG' F' N' B' X' T'; (try dsimp only); (try k_lift B'); (try k_fold)))))
  k_with "callWith ref" => ((k_here; (first | (with_reducible show wpAny _ _ (callWith _ (Value.ref 539) _ _ _) _ _ _) | (with_reducible show wpAny _ _ (callWith _ (Value.ref 532) _ _ _) _ _ _) | (with_reducible show wpAny _ _ (callWith _ (Value.ref 525) _ _ _) _ _ _) | (with_reducible show wpAny _ _ (callWith _ (Value.ref 518) _ _ _) _ _ _)); k_dflt (apply callWith_K; (case _X => k_asm); (case hk => k_is); (try (case he => rfl)); (try (case hplain => rfl)); k_whole)))
  k_with "compareOp In str str" => ((k_here; k_dflt (first | refine in_strB (b := true) (by decide +kernel) ?_ | refine in_strB (b := false) (by decide +kernel) ?_)))
  k_with "binaryOp Mult int int" => ((k_here; refine PyProof.Rows.mul_int ?_ (IntMulOk.of_le (m := 600) (n := 600) (by first | with_reducible assumption | exact intBits_fdiv_le (by with_reducible assumption)) (by first | with_reducible assumption | exact intBits_fdiv_le (by with_reducible assumption)) (by decide)); (try dsimp only)))
  k_with "binaryOp FloorDiv int int" => ((k_here; refine floordiv_int (by with_reducible assumption) ?_ (Or.inl (PyProof.noPylong_of_log2 (bits_log2 (by with_reducible assumption)))); (try dsimp only)))
  k_with "subscriptTail" => ((k_here; (with_reducible show wpAny _ _ (subscriptTail _ _ (Value.ref _) (Value.int _ _)) _ _ _); k_dflt (first | (apply menu_item (lo := 0) (hi := 511); (case N => k_asm); (case hm => k_mem); (case ok => rfl); (case h0 => with_reducible assumption); (case h1 => (simp only [List.length_cons, List.length_nil]; omega)); (case hs => (simp only [List.length_cons, List.length_nil]; decide)); (try (case hsub => with_unfolding_all rfl)); intro i' t' hi1 hi2) | (apply menu_item (lo := -1) (hi := 1); (case N => k_asm); (case hm => k_mem); (case ok => rfl); (case h0 => with_reducible assumption); (case h1 => (simp only [List.length_cons, List.length_nil]; omega)); (case hs => (simp only [List.length_cons, List.length_nil]; decide)); (try (case hsub => with_unfolding_all rfl)); intro i' t' hi1 hi2) | (apply menu_item (lo := -2 ^ 511) (hi := 1); (case N => k_asm); (case hm => k_mem); (case ok => first | rfl | decide +kernel); (case h0 => with_reducible assumption); (case h1 => (simp only [List.length_cons, List.length_nil]; omega)); (case hs => (simp only [List.length_cons, List.length_nil]; decide)); (try (case hsub => with_unfolding_all rfl)); intro i' t' hi1 hi2))))
  k_with "binaryOp Pow int int" => ((k_here; refine PyProof.Rows.pow_int_small (by with_reducible assumption) (by omega) (by decide) ?_))
  k_with "binaryOp Pow int int" => ((k_here; refine PyProof.Rows.pow_int_small (n := 512) (by decide) (by decide) (by decide) ?_))
  k_with "call ref" => ((k_here; (with_reducible show wpAny _ _ (call (Value.ref 518) _) _ _ _); k_dflt (apply draw_g; (case B => k_asm); (case F => k_asm); (case X => k_asm); (case N => k_asm); (case U => k_updF); (case hm0 => k_mem); (case hne => first | with_reducible assumption | omega); (case hI => with_reducible assumption); (case hlen => with_reducible assumption); (case hs0 => first | with_reducible assumption | decide | omega); (case hs1 => first | with_reducible assumption | decide | omega); (case hm => decide); (case hm' => decide); (case T => k_asm); (case hk => first | exact rfl | with_reducible assumption); (case hd => ktr_room); (case _hu => ktr_units); intro d' t' t1' n' h' tk' hd1 hd2 F' N'; (try k_sweep))))
  k_with "compareOp In str str" => ((k_here; k_dflt (refine in_strB (b := true) (in_figs (dig_at (by with_reducible assumption) (by with_reducible assumption))) ?_)))
  k_with "compareOp Eq str str" => ((k_here; k_dflt (refine eq_strB (by with_reducible assumption) ?_)))
  k_with "subscriptTail" => ((k_here; (with_reducible show wpAny _ _ (subscriptTail _ _ (Value.str _ _) _) _ _ _); k_dflt (first | (apply slice_strN_ns; (case hF => k_asm); (case hN => k_asm); (try (case hs => with_unfolding_all rfl)); (try (case ht => intro _; with_unfolding_all rfl)); (try (case hsz => with_reducible assumption)); intro h' t' tk' F' N'; (try k_sweep)) | (apply slice_strN_sn; (case hF => k_asm); (case hN => k_asm); (try (case hs => with_unfolding_all rfl)); (try (case ht => intro _; with_unfolding_all rfl)); (try (case hsz => with_reducible assumption)); intro h' t' tk' F' N'; (try k_sweep)))))
  k_with "call type:str" => ((k_here; refine str_sI (by with_reducible assumption) ?_))
  k_with "call ref" => ((k_here; (with_reducible show wpAny _ _ (call (Value.ref 511) _) _ _ _); k_dflt ((apply numof_c; (case hx => with_reducible assumption); (case B => k_asm); (case F => k_asm); (case X => k_asm); (case N => k_asm); (case T => k_asm); (case hk => first | exact rfl | with_reducible assumption); (case hd => ktr_room); (case hu => ktr_units); (case' hexc => intro e' t' vs' g' h' tk' hf' F' S' R' U'); (case' hret => intro t' h' tk' hf' F' N'); (try k_sweep)))))
  k_with "compareOp In str str" => ((k_here; k_dflt (first | refine in_strB (b := true) (in_figs (by with_reducible assumption)) ?_ | refine in_strB (b := false) (in_blanks (by with_reducible assumption)) ?_)))
  k_with "subscriptTail" => ((k_here; (with_reducible show wpAny _ _ (subscriptTail _ _ (Value.str _ _) (Value.int _ _)) _ _ _); k_dflt (apply item_dig; (case hz => with_reducible assumption); (case h0 => first | with_reducible assumption | omega); (case h1 => omega); (case hn => with_reducible assumption); (try (case hs => with_unfolding_all rfl)); (try (case ht => intro _; with_unfolding_all rfl)); intro n' hn'; (try dsimp only))))
  k_with "subscriptTail" => ((k_here; (with_reducible show wpAny _ _ (subscriptTail _ (PySem.Expr.Slice (some _) (some _) _ _) (Value.str _ _) (Value.ref _)) _ _ _); k_dflt (apply slice_strN_ss; (case hF => k_asm); (case hN => k_asm); (try (case hs => with_unfolding_all rfl)); (try (case ht => intro _; with_unfolding_all rfl)); (try (case hsz => first | with_reducible assumption | exact size_200 (by omega))); intro h' t' tk' F' N'; (try k_sweep))))
  all_goals first
    | (rename _ ≤ (z.length : Int) => hle; have e := Int.le_antisymm hle (Int.not_lt.mp (by assumption)); subst e; rw [slice_all]; exact hret _ _ _ _ (by k_asm) (by k_asm))
end
theorem reg_30 : True := by
  k_with "exec While BoolOp" => ((k_here; k_dflt (refine whl_start 100 ?_)))
  trivial

section
variable {w : World} {p : Program} {loose : List Str} {mean : ExcName → Option Value} {mg mb : Str → Option Value}
  {dp un : Nat} {gd : Option (List Code)} {cn : Str} {cs : Scope} {a : Addr} {ccd : Value} {cl : List (Str × Addr)} {outer : List Env} {A₀ : Around} {base h₀ : Heap} {L : Addr} {m : Str → Option Value} {s : Shared} {Q : Value → Shared → Prop} {E : Value → Shared → Prop}
theorem tw_end {rest : List (Addr × Obj)} {x d : Addr} {z g : Str} {i : Int} {t1 t2 tz ti tg : Tok}
  (hi : i = z.length) (hz1 : z.length ≤ 160)
  (B : Below A₀ base outer h₀) (F : Fr h₀ L s.heap m) (X : (K0 w.params).In h₀)
  (N : News h₀ L s.heap ((x, instObj 234 d) :: (d, curD w.params t1 t2 z tz i ti) :: rest))
  (T : Top p loose mean mg mb h₀) (hk : cs.kind = .function) (hd : dp + 20 < recursionLimit) (hu : un + 80 < cLine)
  (hret : ∀ y t h' tk', Fr h₀ L h' m → News h₀ L h' ((x, instObj 234 d) :: (d, curD w.params t1 t2 z tz i ti) :: rest) → Q (.str y t) { s with heap := h', toks := tk' }) :
  wpAny (model PySem.Challenge.rw_on0173_01.row.toRowW.prog w) (ktrTop dp un gd cn cs L a ccd cl outer) (call (.ref 167) [.ref x, .str g tg]) Q E s := by
  dsimp only [curD] at N hret
  revert X; k_fill; intro X
  refine wpAny_call ?_
  k_dflt k_enter
  k_steps
  all_goals first
    | exact hret _ _ _ _ (by k_asm) (by k_asm)
theorem tw_no {rest : List (Addr × Obj)} {x d : Addr} {z : Str} {t1 t2 tz ti tg : Tok}
  (hz : Digs (KStt.codes z)) (hz0 : 0 < z.length) (hz1 : z.length ≤ 160)
  (B : Below A₀ base outer h₀) (F : Fr h₀ L s.heap m) (X : (K0 w.params).In h₀)
  (N : News h₀ L s.heap ((x, instObj 234 d) :: (d, curD w.params t1 t2 z tz 0 ti) :: rest))
  (T : Top p loose mean mg mb h₀) (hk : cs.kind = .function) (hd : dp + 20 < recursionLimit) (hu : un + 80 < cLine)
  (hret : ∀ y t h' tk', Fr h₀ L h' m → News h₀ L h' ((x, instObj 234 d) :: (d, curD w.params t1 t2 z tz 0 ti) :: rest) → Q (.str y t) { s with heap := h', toks := tk' }) :
  wpAny (model PySem.Challenge.rw_on0173_01.row.toRowW.prog w) (ktrTop dp un gd cn cs L a ccd cl outer) (call (.ref 167) [.ref x, .str " \t\n\r" tg]) Q E s := by
  dsimp only [curD] at N hret
  revert X; k_fill; intro X
  refine wpAny_call ?_
  k_dflt k_enter
  k_steps
  all_goals first
    | exact hret _ _ _ _ (by k_asm) (by k_asm)
end
-- XD
theorem news_of {h₀ h : Heap} {L d x : Addr} {o ox : Obj} {news own rest : List (Addr × Obj)} (N : News h₀ L h news) (e : news = own ++ (d, o) :: rest) (hx : (x, ox) ∈ news) : News h₀ L h ((x, ox) :: (d, o) :: (own ++ rest)) := by
  subst e
  intro q hq
  rcases List.mem_cons.mp hq with rfl | hq
  · exact N _ hx
  · rcases List.mem_cons.mp hq with rfl | hq
    · exact N _ (List.mem_append_right _ (.head _))
    · rcases List.mem_append.mp hq with hq | hq
      · exact N _ (List.mem_append_left _ hq)
      · exact N _ (List.mem_append_right _ (.tail _ hq))
theorem news_back {h₀ h : Heap} {L d x : Addr} {o ox : Obj} {own rest : List (Addr × Obj)} (N : News h₀ L h ((x, ox) :: (d, o) :: (own ++ rest))) : News h₀ L h (own ++ (d, o) :: rest) := by
  intro q hq
  rcases List.mem_append.mp hq with hq | hq
  · exact N _ (.tail _ (.tail _ (List.mem_append_left _ hq)))
  · rcases List.mem_cons.mp hq with rfl | hq
    · exact N _ (.tail _ (.head _))
    · exact N _ (.tail _ (.tail _ (List.mem_append_right _ hq)))
section
variable {w : World} {p : Program} {loose : List Str} {mean : ExcName → Option Value} {mg mb : Str → Option Value}
  {dp un : Nat} {gd : Option (List Code)} {cn : Str} {cs : Scope} {a : Addr} {ccd : Value} {cl : List (Str × Addr)} {outer : List Env} {A₀ : Around} {base h₀ : Heap} {L : Addr} {m : Str → Option Value} {s : Shared} {Q : Value → Shared → Prop} {E : Value → Shared → Prop}
theorem tw_fig_g {news : List (Addr × Obj)} {f : Obj → List (Addr × Obj)} {x d : Addr} {z : Str} {t1 t2 tz ti tg : Tok}
  (hz : Digs (KStt.codes z)) (hz1 : z.length ≤ 160) (hdx : @LT.lt Nat _ d x)
  (B : Below A₀ base outer h₀) (F : Fr h₀ L s.heap m) (X : (K0 w.params).In h₀)
  (N : News h₀ L s.heap news) (hx : (x, instObj 234 d) ∈ news) (U : UpdF d (curD w.params t1 t2 z tz 0 ti) news f)
  (T : Top p loose mean mg mb h₀) (hk : cs.kind = .function) (hd : dp + 20 < recursionLimit) (hu : un + 80 < cLine)
  (hret : ∀ t ti' h' tk', Fr h₀ L h' m → News h₀ L h' (f (curD w.params t1 t2 z tz z.length ti')) → Q (.str z t) { s with heap := h', toks := tk' }) :
  wpAny (model PySem.Challenge.rw_on0173_01.row.toRowW.prog w) (ktrTop dp un gd cn cs L a ccd cl outer) (call (.ref 167) [.ref x, .str "0123456789" tg]) Q E s := by
  obtain ⟨own, rest, e, hgr, h1, h2⟩ := U.split
  refine tw_fig (g := z) hz hz1 hdx (rest := own ++ rest) (fun q hq => ?_) B F X (news_of N e hx) T hk hd hu (fun t ti' h' tk' F' N' => hret t ti' h' tk' F' (by rw [hgr]; exact news_back N'))
  rcases List.mem_append.mp hq with hq | hq
  · exact h1 q hq
  · exact h2 q hq
theorem tw_end_g {news : List (Addr × Obj)} {f : Obj → List (Addr × Obj)} {x d : Addr} {z g : Str} {i : Int} {t1 t2 tz ti tg : Tok}
  (hi : i = z.length) (hz1 : z.length ≤ 160)
  (B : Below A₀ base outer h₀) (F : Fr h₀ L s.heap m) (X : (K0 w.params).In h₀)
  (N : News h₀ L s.heap news) (hx : (x, instObj 234 d) ∈ news) (U : UpdF d (curD w.params t1 t2 z tz i ti) news f)
  (T : Top p loose mean mg mb h₀) (hk : cs.kind = .function) (hd : dp + 20 < recursionLimit) (hu : un + 80 < cLine)
  (hret : ∀ y t h' tk', Fr h₀ L h' m → News h₀ L h' news → Q (.str y t) { s with heap := h', toks := tk' }) :
  wpAny (model PySem.Challenge.rw_on0173_01.row.toRowW.prog w) (ktrTop dp un gd cn cs L a ccd cl outer) (call (.ref 167) [.ref x, .str g tg]) Q E s := by
  obtain ⟨own, rest, e, hgr, h1, h2⟩ := U.split
  exact tw_end hi hz1 B F X (news_of N e hx) T hk hd hu (fun y t h' tk' F' N' => hret y t h' tk' F' (by rw [e]; exact news_back N'))
theorem tw_no_g {news : List (Addr × Obj)} {f : Obj → List (Addr × Obj)} {x d : Addr} {z : Str} {t1 t2 tz ti tg : Tok}
  (hz : Digs (KStt.codes z)) (hz0 : 0 < z.length) (hz1 : z.length ≤ 160)
  (B : Below A₀ base outer h₀) (F : Fr h₀ L s.heap m) (X : (K0 w.params).In h₀)
  (N : News h₀ L s.heap news) (hx : (x, instObj 234 d) ∈ news) (U : UpdF d (curD w.params t1 t2 z tz 0 ti) news f)
  (T : Top p loose mean mg mb h₀) (hk : cs.kind = .function) (hd : dp + 20 < recursionLimit) (hu : un + 80 < cLine)
  (hret : ∀ y t h' tk', Fr h₀ L h' m → News h₀ L h' news → Q (.str y t) { s with heap := h', toks := tk' }) :
  wpAny (model PySem.Challenge.rw_on0173_01.row.toRowW.prog w) (ktrTop dp un gd cn cs L a ccd cl outer) (call (.ref 167) [.ref x, .str " \t\n\r" tg]) Q E s := by
  obtain ⟨own, rest, e, hgr, h1, h2⟩ := U.split
  exact tw_no hz hz0 hz1 B F X (news_of N e hx) T hk hd hu (fun y t h' tk' F' N' => hret y t h' tk' F' (by rw [e]; exact news_back N'))
end
-- XE
section
variable {w : World} {p : Program} {loose : List Str} {mean : ExcName → Option Value} {mg mb : Str → Option Value}
  {dp un : Nat} {gd : Option (List Code)} {cn : Str} {cs : Scope} {a : Addr} {ccd : Value} {cl : List (Str × Addr)} {outer : List Env} {A₀ : Around} {base h₀ : Heap} {L : Addr} {m : Str → Option Value} {s : Shared} {Q : Value → Shared → Prop} {E : Value → Shared → Prop}
theorem pos_c {news : List (Addr × Obj)} {z : Str} {tz t0 : Tok}
  (hz1 : z.length ≤ 160)
  (B : Below A₀ base outer h₀) (F : Fr h₀ L s.heap m) (X : (K0 w.params).In h₀)
  (N : News h₀ L s.heap news)
  (T : Top p loose mean mg mb h₀) (hk : cs.kind = .function) (hd : dp + 20 < recursionLimit) (hu : un + 80 < cLine)
  (hret : ∀ po h' tk', Fr h₀ L h' m → News h₀ L h' news → Q (.ref po) { s with heap := h', toks := tk' }) :
  wpAny (model PySem.Challenge.rw_on0173_01.row.toRowW.prog w) (ktrTop dp un gd cn cs L a ccd cl outer) (call (.ref 57) [.str z tz, .int 0 t0]) Q E s := by
  revert X; k_fill; intro X
  refine wpAny_call ?_
  k_dflt k_enter
  k_steps
  all_goals first
    | exact hret _ _ _ (by k_asm) (by k_asm)
    | exact hret _ _ _ (by k_asm) (drop1 (drop1 (by k_asm)))
end
-- XF
theorem reg_31 : True := by
  k_with "call ref" => ((k_here; (with_reducible show wpAny _ _ (call (Value.ref 57) _) _ _ _); k_dflt (apply pos_c; (case hz1 => with_reducible assumption); (case B => k_asm); (case F => k_asm); (case X => k_asm); (case N => k_asm); (case T => k_asm); (case hk => first | exact rfl | with_reducible assumption); (case hd => ktr_room); (case hu => ktr_units); intro po' h' tk' F' N'; (try k_sweep))))
  trivial

theorem reg_32 : True := by
  k_with "call ref" => ((k_here; k_dflt (first | ((with_reducible show wpAny _ _ (call (Value.ref 167) [_, Value.str "0123456789" _]) _ _ _); apply tw_fig_g; (case B => k_asm); (case F => k_asm); (case X => k_asm); (case N => k_asm); (case hx => k_mem); (case U => k_updF); (case hdx => first | with_reducible assumption | omega); (case hz => with_reducible assumption); (case hz1 => with_reducible assumption); (case T => k_asm); (case hk => first | exact rfl | with_reducible assumption); (case hd => ktr_room); (case hu => ktr_units); intro t' ti' h' tk' F' N'; (try k_sweep)) | ((with_reducible show wpAny _ _ (call (Value.ref 167) [_, Value.str " \t\n\r" _]) _ _ _); apply tw_no_g; (case B => k_asm); (case F => k_asm); (case X => k_asm); (case N => k_asm); (case hx => k_mem); (case U => k_updF); (case hz => with_reducible assumption); (case hz0 => with_reducible assumption); (case hz1 => with_reducible assumption); (case T => k_asm); (case hk => first | exact rfl | with_reducible assumption); (case hd => ktr_room); (case hu => ktr_units); intro y' t' h' tk' F' N'; (try k_sweep)) | ((with_reducible show wpAny _ _ (call (Value.ref 167) [_, _]) _ _ _); apply tw_end_g; (case B => k_asm); (case F => k_asm); (case X => k_asm); (case N => k_asm); (case hx => k_mem); (case U => k_updF); (case hi => first | rfl | with_reducible assumption); (case hz1 => with_reducible assumption); (case T => k_asm); (case hk => first | exact rfl | with_reducible assumption); (case hd => ktr_room); (case hu => ktr_units); intro y' t' h' tk' F' N'; (try k_sweep)))))
  trivial

theorem dig_cases {n : Nat} (h : 48 ≤ n ∧ n ≤ 57) : n = 48 ∨ n = 49 ∨ n = 50 ∨ n = 51 ∨ n = 52 ∨ n = 53 ∨ n = 54 ∨ n = 55 ∨ n = 56 ∨ n = 57 := by
  have h1 := h.1
  have h2 := h.2
  omega
theorem in_names {n : Nat} (h : 48 ≤ n ∧ n ≤ 57) : (!(Builtin.Str.occurrences "abcdefghijklmnopqrstuvwxyzABCDEFGHIJKLMNOPQRSTUVWXYZ_0123456789" ⟨#[n]⟩ 0 (PySem.Str.length "abcdefghijklmnopqrstuvwxyzABCDEFGHIJKLMNOPQRSTUVWXYZ_0123456789") 1).isEmpty) = true := by
  rcases dig_cases h with rfl | rfl | rfl | rfl | rfl | rfl | rfl | rfl | rfl | rfl <;> decide +kernel
theorem dig_ne {n : Nat} : ((⟨#[n]⟩ : Str) == ("" : Str)) = false := by
  rw [beq_eq_false_iff_ne]
  intro h
  have h := congrArg (fun s : Str => s.cps.size) h
  have h2 : (PySem.Str.ofString "").cps.size = 0 := by decide
  rw [h2] at h
  exact absurd h (Nat.succ_ne_zero 0)
theorem notin_strB {prog : Program} {w : World} {A : Around} {E : Value → Shared → Prop} {s : Shared} {x y : Str} {u v : Tok} {b : Bool} {Q : Value → Shared → Prop} (e : (!(!(Builtin.Str.occurrences y x 0 y.length 1).isEmpty)) = b) (h : Q (.bool b) s) :
    wpAny (model prog w) A (compareOp .NotIn (.str x u) (.str y v)) Q E s := notIn_str (by rw [e]; exact h)
theorem reg_33 : True := by
  k_with "compareOp In str str" => ((k_here; k_dflt (refine in_strB (b := true) (in_names (by with_reducible assumption)) ?_)))
  trivial

theorem reg_34 : True := by
  k_with "compareOp NotIn str str" => ((k_here; k_dflt (refine notin_strB (b := false) (by rw [in_names (by with_reducible assumption)]; rfl) ?_)))
  trivial

theorem reg_35 : True := by
  k_with "compareOp Eq str str" => ((k_here; k_dflt (refine eq_strB dig_ne ?_)))
  trivial

theorem nd_yes {p : Prop} [Decidable p] (h : ¬ p) : (!decide p) = true := by simp [h]
theorem nd_no {p : Prop} [Decidable p] (h : p) : (!decide p) = false := by simp [h]
theorem reg_36 : True := by
  k_with "WhlIf" => ((first | (refine WhlIf.yes (nd_yes (by omega)) ?_) | (refine WhlIf.no (nd_no (by omega)) ?_) | (refine WhlIf.yes (by with_unfolding_all rfl) ?_) | (refine WhlIf.no (by with_unfolding_all rfl) ?_)))
  trivial

section
variable {w : World} {p : Program} {loose : List Str} {mean : ExcName → Option Value} {mg mb : Str → Option Value}
  {dp un : Nat} {gd : Option (List Code)} {cn : Str} {cs : Scope} {a : Addr} {ccd : Value} {cl : List (Str × Addr)} {outer : List Env} {A₀ : Around} {base h₀ : Heap} {L : Addr} {m : Str → Option Value} {s : Shared} {Q : Value → Shared → Prop} {E : Value → Shared → Prop}
theorem raised_sub {base G : Heap} {l : List Env} {e t : Addr} {cls : Value} {vs : List Value} {news news' : List (Addr × Obj)} {h : Heap} (hs : ∀ q ∈ news', q ∈ news) (R : RaisedS base G l e cls t vs news h) : RaisedS base G l e cls t vs news' h := by
  obtain ⟨⟨B, a1, a2, a3, a4⟩, b⟩ := R
  exact ⟨⟨B, a1, a2, fun q hq => a3 q (hs q hq), a4⟩, b⟩
theorem raised4 {base G : Heap} {l : List Env} {e t : Addr} {cls : Value} {vs : List Value} {news : List (Addr × Obj)} {p1 p2 p3 p4 : Addr × Obj} {h : Heap} (R : RaisedS base G l e cls t vs (p1 :: p2 :: p3 :: p4 :: news) h) : RaisedS base G l e cls t vs news h :=
  raised_sub (fun _ hq => .tail _ (.tail _ (.tail _ (.tail _ hq)))) R
theorem pick8 {h : Heap} {p2 d2 p1 d1 D l x dd : Addr × Obj} {rest : List (Addr × Obj)} (N : News h₀ L h (p2 :: d2 :: p1 :: d1 :: D :: l :: x :: dd :: rest)) : News h₀ L h (l :: p1 :: d1 :: p2 :: d2 :: rest) := fun q hq => N q (by
  simp only [List.mem_cons] at hq ⊢
  rcases hq with e | e | e | e | e | e
  · exact .inr (.inr (.inr (.inr (.inr (.inl e)))))
  · exact .inr (.inr (.inl e))
  · exact .inr (.inr (.inr (.inl e)))
  · exact .inl e
  · exact .inr (.inl e)
  · exact .inr (.inr (.inr (.inr (.inr (.inr (.inr (.inr e))))))))
noncomputable abbrev partD (P : Params) (t1 t2 t3 : Tok) (k : Str) (tk : Tok) (v : Value) (o : Int) (to : Tok) : Obj :=
  dictOf [{ hash := PyData.keyHash P "kind", key := .str "kind" t1, val := .str k tk }, { hash := PyData.keyHash P "worth", key := .str "worth" t2, val := v }, { hash := PyData.keyHash P "offset", key := .str "offset" t3, val := .int o to }] 3
theorem scan_c {news : List (Addr × Obj)} {z : Str} {x : Int} {tz : Tok}
  (hz : Digs (KStt.codes z)) (hz0 : 0 < z.length) (hz1 : z.length ≤ 160) (hze : (z == ("" : Str)) = false) (hix : PySem.intText? z = some x)
  (B : Below A₀ base outer h₀) (F : Fr h₀ L s.heap m) (X : (K0 w.params).In h₀)
  (N : News h₀ L s.heap news)
  (T : Top p loose mean mg mb h₀) (hk : cs.kind = .function) (hd : dp + 60 < recursionLimit) (hu : un + 300 < cLine)
  (hret : ∀ l p1 d1 p2 d2 n t1 t2 t3 t4 t5 t6 t7 t8 t9 o1 o2 o3 o4 h' tk', Builtin.Int.intBits x ≤ 512 → (∀ q ∈ news, q.1 < l) → (@LT.lt Nat _ l d1 ∧ @LT.lt Nat _ d1 p1 ∧ @LT.lt Nat _ p1 d2 ∧ @LT.lt Nat _ d2 p2) → Fr h₀ L h' m → News h₀ L h' ((l, listOf #[.ref p1, .ref p2] n) :: (p1, instObj 260 d1) :: (d1, partD w.params t1 t2 t3 "number" t4 (.int x t5) o1 o2) :: (p2, instObj 260 d2) :: (d2, partD w.params t6 t7 t8 "end" t9 .none o3 o4) :: news) → Q (.ref l) { s with heap := h', toks := tk' })
  (hexc : ∀ e t vs g₂ h' tk', ¬ Builtin.Int.intBits x ≤ 512 → Fr h₀ L g₂ m → RaisedS base g₂ (envX cn cs L a ccd cl :: outer) e (.ref 95) t vs news h' → RaisedK base (envX cn cs L a ccd cl :: outer) e (.ref 95) t vs news h' → g₂.UpToSlots h' → E (.ref e) { s with heap := h', toks := tk' }) :
  wpAny (model PySem.Challenge.rw_on0173_01.row.toRowW.prog w) (ktrTop dp un gd cn cs L a ccd cl outer) (call (.ref 292) [.str z tz]) Q E s := by
  revert X; k_fill; intro X
  refine wpAny_call ?_
  k_dflt k_enter
  k_steps
  all_goals first
    | exact hexc _ _ _ _ _ _ (by omega) (by assumption) (raised4 (by assumption)) (raised4 (by assumption)).toK (by assumption)
    | (refine' hret _ _ _ _ _ _ _ _ _ _ _ _ _ _ _ _ _ _ _ _ _ ?ka ?kb ?kc ?kF (pick8 ?kN); (case kN => k_asm); (case kF => k_asm); (case ka => omega); (case kc => omega); (case kb => exact allLt_mem (And.right (And.right (by assumption)))))
end
-- XH
theorem ne_strB {prog : Program} {w : World} {A : Around} {E : Value → Shared → Prop} {s : Shared} {x y : Str} {u v : Tok} {b : Bool} {Q : Value → Shared → Prop} (e : (x != y) = b) (h : Q (.bool b) s) :
    wpAny (model prog w) A (compareOp .NotEq (.str x u) (.str y v)) Q E s := ne_str (by rw [e]; exact h)
theorem reg_37 : True := by
  k_with "compareOp Eq str str" => ((k_here; (first | refine eq_strB (b := false) (by with_unfolding_all decide +kernel) ?_ | refine eq_strB (b := true) (by with_unfolding_all decide +kernel) ?_)))
  trivial

theorem reg_38 : True := by
  k_with "compareOp NotEq str str" => ((k_here; (first | refine ne_strB (b := true) (by with_unfolding_all decide +kernel) ?_ | refine ne_strB (b := false) (by with_unfolding_all decide +kernel) ?_)))
  trivial

section
variable {w : World} {p : Program} {loose : List Str} {mean : ExcName → Option Value} {mg mb : Str → Option Value}
  {dp un : Nat} {gd : Option (List Code)} {cn : Str} {cs : Scope} {a : Addr} {ccd : Value} {cl : List (Str × Addr)} {outer : List Env} {A₀ : Around} {base h₀ : Heap} {L : Addr} {m : Str → Option Value} {s : Shared} {Q : Value → Shared → Prop} {E : Value → Shared → Prop}
noncomputable abbrev actD (P : Params) (t1 t2 t3 : Tok) (z : Str) (tz : Tok) (l : Addr) (i : Int) (ti : Tok) : Obj :=
  dictOf [{ hash := PyData.keyHash P "text", key := .str "text" t1, val := .str z tz }, { hash := PyData.keyHash P "parts", key := .str "parts" t2, val := .ref l }, { hash := PyData.keyHash P "spot", key := .str "spot" t3, val := .int i ti }] 3
theorem news_add {h : Heap} {p : Addr × Obj} {l : List (Addr × Obj)} (N : News h₀ L h l) (hp : p ∈ l) : News h₀ L h (p :: l) := fun q hq => by
  rcases List.mem_cons.mp hq with rfl | hq
  · exact N _ hp
  · exact N _ hq
theorem here_c {news : List (Addr × Obj)} {x d l p1 p2 q : Addr} {z : Str} {tz t1 t2 t3 ti : Tok} {i : Int} {n : Nat}
  (hi : i = 0 ∧ q = p1 ∨ i = 0 + 1 ∧ q = p2)
  (B : Below A₀ base outer h₀) (F : Fr h₀ L s.heap m) (X : (K0 w.params).In h₀)
  (N : News h₀ L s.heap news) (hx : (x, instObj 429 d) ∈ news) (hdm : (d, actD w.params t1 t2 t3 z tz l i ti) ∈ news) (hl : (l, listOf #[.ref p1, .ref p2] n) ∈ news)
  (T : Top p loose mean mg mb h₀) (hk : cs.kind = .function) (hd : dp + 10 < recursionLimit) (hu : un + 40 < cLine)
  (hret : ∀ h' tk', Fr h₀ L h' m → News h₀ L h' news → Q (.ref q) { s with heap := h', toks := tk' }) :
  wpAny (model PySem.Challenge.rw_on0173_01.row.toRowW.prog w) (ktrTop dp un gd cn cs L a ccd cl outer) (call (.ref 313) [.ref x]) Q E s := by
  rcases hi with ⟨rfl, rfl⟩ | ⟨rfl, rfl⟩
  all_goals
    dsimp only [actD] at hdm
    replace N := news_add (news_add (news_add N hl) (.tail _ hdm)) (.tail _ (.tail _ hx))
    clear hl hdm hx
    revert X; k_fill; intro X
    refine wpAny_call ?_
    k_dflt k_enter
    k_steps
    all_goals first
      | exact hret _ _ (by k_asm) (drop1 (drop1 (drop1 (by k_asm))))
theorem sign_c {news : List (Addr × Obj)} {x d l p1 p2 d1 d2 : Addr} {z g : Str} {tz tg t1 t2 t3 ti r1 r2 r3 r4 r5 r6 r7 r8 o2 o4 : Tok} {v1 v2 : Value} {o1 o3 i : Int} {n : Nat}
  (hi : i = 0 ∨ i = 0 + 1)
  (B : Below A₀ base outer h₀) (F : Fr h₀ L s.heap m) (X : (K0 w.params).In h₀)
  (N : News h₀ L s.heap news) (hx : (x, instObj 429 d) ∈ news) (hdm : (d, actD w.params t1 t2 t3 z tz l i ti) ∈ news) (hl : (l, listOf #[.ref p1, .ref p2] n) ∈ news)
  (hp1 : (p1, instObj 260 d1) ∈ news) (hd1 : (d1, partD w.params r1 r2 r3 "number" r4 v1 o1 o2) ∈ news) (hp2 : (p2, instObj 260 d2) ∈ news) (hd2 : (d2, partD w.params r5 r6 r7 "end" r8 v2 o3 o4) ∈ news)
  (T : Top p loose mean mg mb h₀) (hk : cs.kind = .function) (hd : dp + 10 < recursionLimit) (hu : un + 40 < cLine)
  (hret : ∀ h' tk', Fr h₀ L h' m → News h₀ L h' news → Q (.bool false) { s with heap := h', toks := tk' }) :
  wpAny (model PySem.Challenge.rw_on0173_01.row.toRowW.prog w) (ktrTop dp un gd cn cs L a ccd cl outer) (call (.ref 328) [.ref x, .str g tg]) Q E s := by
  rcases hi with rfl | rfl
  all_goals
    dsimp only [actD, partD] at hdm hd1 hd2
    replace N := news_add (news_add (news_add (news_add (news_add (news_add (news_add N hd2) (.tail _ hp2)) (.tail _ (.tail _ hd1))) (.tail _ (.tail _ (.tail _ hp1)))) (.tail _ (.tail _ (.tail _ (.tail _ hl))))) (.tail _ (.tail _ (.tail _ (.tail _ (.tail _ hdm)))))) (.tail _ (.tail _ (.tail _ (.tail _ (.tail _ (.tail _ hx))))))
    clear hl hdm hx hd1 hd2 hp1 hp2
    revert X; k_fill; intro X
    refine wpAny_call ?_
    k_dflt k_enter
    k_steps
    all_goals first
      | exact hret _ _ (by k_asm) (drop1 (drop1 (drop1 (drop1 (drop1 (drop1 (drop1 (by k_asm))))))))
end
-- XG
theorem reg_39 : True := by
  k_with "call ref" => ((k_here; (with_reducible show wpAny _ _ (call (Value.ref 292) _) _ _ _); k_dflt (apply scan_c; (case hz => with_reducible assumption); (case hz0 => with_reducible assumption); (case hz1 => with_reducible assumption); (case hze => with_reducible assumption); (case hix => with_reducible assumption); (case B => k_asm); (case F => k_asm); (case X => k_asm); (case N => k_asm); (case T => k_asm); (case hk => first | exact rfl | with_reducible assumption); (case hd => ktr_room); (case hu => ktr_units); (case' hexc => intro e' t' vs' g' h' tk' hf' F' S' R' U'); (case' hret => intro l' p1' d1' p2' d2' n' t1' t2' t3' t4' t5' t6' t7' t8' t9' o1' o2' o3' o4' h' tk' hf' l1 l2 F' N'); (try k_lt l1); (try k_sweep))))
  trivial

theorem reg_40 : True := by
  k_with "InitBack" => ((dsimp only [InitBack]))
  trivial

theorem reg_41 : True := by
  k_with "call ref" => ((k_here; (with_reducible show wpAny _ _ (call (Value.ref 313) _) _ _ _); k_dflt (apply here_c; (case B => k_asm); (case F => k_asm); (case X => k_asm); (case N => k_asm); (case hx => k_mem); (case hdm => k_mem); (case hl => k_mem); (case hi => first | exact .inl ⟨rfl, rfl⟩ | exact .inr ⟨rfl, rfl⟩); (case T => k_asm); (case hk => first | exact rfl | with_reducible assumption); (case hd => ktr_room); (case hu => ktr_units); intro h' tk' F' N'; (try k_sweep))))
  trivial

theorem reg_42 : True := by
  k_with "call ref" => ((k_here; (with_reducible show wpAny _ _ (call (Value.ref 328) [_, _]) _ _ _); k_dflt (apply sign_c; (case B => k_asm); (case F => k_asm); (case X => k_asm); (case N => k_asm); (case hx => k_mem); (case hdm => k_mem); (case hl => k_mem); (case hi => first | exact .inl rfl | exact .inr rfl); (case hp1 => k_mem); (case hd1 => k_mem); (case hp2 => k_mem); (case hd2 => k_mem); (case T => k_asm); (case hk => first | exact rfl | with_reducible assumption); (case hd => ktr_room); (case hu => ktr_units); intro h' tk' F' N'; (try k_sweep))))
  trivial

section
variable {w : World} {p : Program} {loose : List Str} {mean : ExcName → Option Value} {mg mb : Str → Option Value}
  {dp un : Nat} {gd : Option (List Code)} {cn : Str} {cs : Scope} {a : Addr} {ccd : Value} {cl : List (Str × Addr)} {outer : List Env} {A₀ : Around} {base h₀ : Heap} {L : Addr} {m : Str → Option Value} {s : Shared} {Q : Value → Shared → Prop} {E : Value → Shared → Prop}
theorem pick12 {h : Heap} {D D1 D2 D3 l l1 p1 d1 p2 d2 x dd : Addr × Obj} {rest : List (Addr × Obj)} (N : News h₀ L h (D :: D1 :: D2 :: D3 :: l :: l1 :: p1 :: d1 :: p2 :: d2 :: x :: dd :: rest)) : News h₀ L h (l :: D :: D2 :: rest) := fun q hq => N q (by
  rcases List.mem_cons.mp hq with e | hq
  · rw [e]; exact .tail _ (.tail _ (.tail _ (.tail _ (.head _))))
  · rcases List.mem_cons.mp hq with e | hq
    · rw [e]; exact .head _
    · rcases List.mem_cons.mp hq with e | hq
      · rw [e]; exact .tail _ (.tail _ (.head _))
      · exact .tail _ (.tail _ (.tail _ (.tail _ (.tail _ (.tail _ (.tail _ (.tail _ (.tail _ (.tail _ (.tail _ (.tail _ hq))))))))))))
theorem raised2 {base G : Heap} {l : List Env} {e t : Addr} {cls : Value} {vs : List Value} {news : List (Addr × Obj)} {p1 p2 : Addr × Obj} {h : Heap} (R : RaisedS base G l e cls t vs (p1 :: p2 :: news) h) : RaisedS base G l e cls t vs news h :=
  raised_sub (fun _ hq => .tail _ (.tail _ hq)) R
theorem parse_c {news : List (Addr × Obj)} {z : Str} {x : Int} {tz : Tok}
  (hz : Digs (KStt.codes z)) (hz0 : 0 < z.length) (hz1 : z.length ≤ 160) (hze : (z == ("" : Str)) = false) (hix : PySem.intText? z = some x)
  (B : Below A₀ base outer h₀) (F : Fr h₀ L s.heap m) (X : (K0 w.params).In h₀)
  (N : News h₀ L s.heap news)
  (T : Top p loose mean mg mb h₀) (hk : cs.kind = .function) (hd : dp + 100 < recursionLimit) (hu : un + 600 < cLine)
  (hret : ∀ l t1 t2 n k1 k2 k3 h' tk', Builtin.Int.intBits x ≤ 512 → Fr h₀ L h' m → News h₀ L h' ((l, listOf #[.ref t1] n) :: (t1, { cls := .type "tuple", data := .seq #[.str "call" k1, .ref t2] }) :: (t2, { cls := .type "tuple", data := .seq #[.str "number" k2, .int x k3] }) :: news) → Q (.ref l) { s with heap := h', toks := tk' })
  (hexc : ∀ e t vs g₂ h' tk', ¬ Builtin.Int.intBits x ≤ 512 → Fr h₀ L g₂ m → RaisedS base g₂ (envX cn cs L a ccd cl :: outer) e (.ref 95) t vs news h' → RaisedK base (envX cn cs L a ccd cl :: outer) e (.ref 95) t vs news h' → g₂.UpToSlots h' → E (.ref e) { s with heap := h', toks := tk' }) :
  wpAny (model PySem.Challenge.rw_on0173_01.row.toRowW.prog w) (ktrTop dp un gd cn cs L a ccd cl outer) (call (.ref 447) [.str z tz]) Q E s := by
  revert X; k_fill; intro X
  refine wpAny_call ?_
  k_dflt k_enter
  k_steps
  all_goals first
    | exact hexc _ _ _ _ _ _ (by assumption) (by assumption) (raised2 (by assumption)) (raised2 (by assumption)).toK (by assumption)
    | (refine' hret _ _ _ _ _ _ _ _ _ ?kb ?kF (pick12 ?kN); (case kN => k_asm); (case kF => k_asm); (case kb => assumption))
end
-- XI
section
open PySem.NumText
theorem sI_read {m : Nat} (h : m < 10 ^ 155) : PySem.intText? (sI (m : Int)) = some (m : Int) := by
  have hl := dg_len h
  have hp := dg_pos m
  have hd : AllDigits (sI (m : Int)).cps.toList := by rw [cps_p]; exact dg_digs m
  have hne : (sI (m : Int)).cps.toList ≠ [] := by
    rw [cps_p]
    intro e
    rw [e] at hp
    exact absurd hp (by decide)
  have hl' : (sI (m : Int)).cps.toList.length ≤ 155 := by rw [cps_p]; exact hl
  have e := intText_digits hd hne (Nat.le_trans hl' (by decide))
  rw [cps_p, KIN.val_back] at e
  exact e
theorem sI_ne {m : Nat} : (sI (m : Int) == ("" : Str)) = false := by
  rw [beq_eq_false_iff_ne]
  intro h
  have h := congrArg (fun s : Str => s.cps.toList) h
  have h2 : (PySem.Str.ofString "").cps.toList = [] := by decide
  have hp := dg_pos m
  rw [h2, cps_p] at h
  rw [h] at hp
  exact absurd hp (by decide)
structure Fig (z : Str) (x : Int) : Prop where
  dig : Digs (KStt.codes z)
  pos : 0 < z.length
  len : z.length ≤ 160
  ne : (z == ("" : Str)) = false
  val : PySem.intText? z = some x
theorem fig_sI {x : Int} (h0 : 0 ≤ x) (hx : Builtin.Int.intBits x ≤ 514) : Fig (sI x) x := by
  have hb := bits_lt hx
  obtain ⟨m, rfl⟩ := Int.eq_ofNat_of_zero_le h0
  have hm : m < 10 ^ 155 := by omega
  have hl := dg_len hm
  have hp := dg_pos m
  have l1 := len_p m
  exact ⟨by rw [codes_p]; exact digs_ic (dg_digs m), by omega, by omega, sI_ne, sI_read hm⟩
theorem reg_43 : True := by
  k_with "call ref" => ((k_here; (with_reducible show wpAny _ _ (call (Value.ref 447) _) _ _ _); k_dflt (apply parse_c; (case hz => exact Fig.dig (by with_reducible assumption)); (case hz0 => exact Fig.pos (by with_reducible assumption)); (case hz1 => exact Fig.len (by with_reducible assumption)); (case hze => exact Fig.ne (by with_reducible assumption)); (case hix => exact Fig.val (by with_reducible assumption)); (case B => k_asm); (case F => k_asm); (case X => k_asm); (case N => k_asm); (case T => k_asm); (case hk => first | exact rfl | with_reducible assumption); (case hd => ktr_room); (case hu => ktr_units); (case' hexc => intro e' t' vs' g' h' tk' hf' F' S' R' U'); (case' hret => intro l' t1' t2' n' k1' k2' k3' h' tk' hf' F' N'); (try k_sweep))))
  trivial


noncomputable abbrev lamPar : Scope := { kind := .function, names := [("edge", .free), ("parse_action", .globalImplicit), ("str", .globalImplicit)], isGenerator := false, isCoroutine := false }
section
variable {w : World} {p : Program} {loose : List Str} {mean : ExcName → Option Value} {mg mb : Str → Option Value}
  {dp un : Nat} {gd : Option (List Code)} {cn : Str} {cs : Scope} {a : Addr} {ccd : Value} {cl : List (Str × Addr)} {A₀ : Around} {h₀ : Heap} {L : Addr} {m : Str → Option Value} {s : Shared} {Q : Value → Shared → Prop} {E : Value → Shared → Prop}
theorem heard_par {news : List (Addr × Obj)} {f c' am cc PP : Addr} {oc om : Obj} {vs : Array Value} {tq tm : Tok} {pm ctv : Value} {x : Int} {p1 p2 p3 p4 p5 : Pos}
  (B : Below A₀ h₀ [] h₀) (CH : CodeHd h₀ cc PP) (F : Fr h₀ L s.heap m) (X : (K0 w.params).In h₀)
  (N : News h₀ L s.heap news)
  (hf : (f, kla_obj "<lambda>" lamQ noArgs (.Call (.Name "parse_action" p1) [.Call (.Name "str" p2) [.Name "edge" p3] [] p4] [] p5) lamPar [("edge", am)] pm c' ctv) ∈ news)
  (hc : (c', oc) ∈ news) (ha : (am, om) ∈ news)
  (hoc : oc.data = .fields vs) (hvs : vs[1]? = some (.str lamQ tq))
  (hom : om.data = .cell (some (.int x tm)))
  (hx : Builtin.Int.intBits x ≤ 514) (hfig : Fig (sI x) x)
  (T : Top p loose mean mg mb h₀) (hk : cs.kind = .function) (hd : dp + 140 < recursionLimit) (hu : un + 800 < cLine)
  (hret : ∀ l t1 t2 n k1 k2 k3 h' tk', Builtin.Int.intBits x ≤ 512 → Fr h₀ L h' m → News h₀ L h' ((l, listOf #[.ref t1] n) :: (t1, { cls := .type "tuple", data := .seq #[.str "call" k1, .ref t2] }) :: (t2, { cls := .type "tuple", data := .seq #[.str "number" k2, .int x k3] }) :: news) → Q (.ref l) { s with heap := h', toks := tk' })
  (hno : ∀ t h' tk', ¬ Builtin.Int.intBits x ≤ 512 → Fr h₀ L h' m → News h₀ L h' news → Q (.str "refused" t) { s with heap := h', toks := tk' }) :
  wpAny (model PySem.Challenge.rw_on0173_01.row.toRowW.prog w) (ktrTop dp un gd cn cs L a ccd cl []) (call (.ref 539) [.ref f]) Q E s := by
  revert X; k_fill; intro X
  ktr_unf
  k_steps
  all_goals first
    | exact hret _ _ _ _ _ _ _ _ _ (by assumption) (by k_asm) (by k_asm)
    | exact hno _ _ _ (by assumption) (by k_asm) (by k_asm)
end

end
-- XL
section
variable {prog : Program} {w : World} {A : Around} {E : Value → Shared → Prop} {s : Shared} {Q : Value → Shared → Prop}
theorem ne_is {o : Option Int} {v v' : Value} (h1 : Is o v) (h2 : Is o v') (h : Q (.bool false) s) : wpAny (model prog w) A (compareOp .NotEq v v') Q E s := by
  cases o with
  | none =>
    obtain ⟨t, rfl⟩ := h1
    obtain ⟨t', rfl⟩ := h2
    exact ne_strB (b := false) (by decide +kernel) h
  | some i =>
    obtain ⟨t, rfl⟩ := h1
    obtain ⟨t', rfl⟩ := h2
    refine ne_int ?_
    simpa using h
end
theorem reg_44 : True := by
  k_with "compareOp NotEq" => ((k_here; refine ne_is (by with_reducible assumption) (by with_reducible assumption) ?_))
  trivial

theorem reg_45 : True := by
  k_with "call ref" => ((k_here; (with_reducible show wpAny _ _ (call (Value.ref 525) _) _ _ _); k_dflt (apply number_g; (case B => k_asm); (case F => k_asm); (case X => k_asm); (case N => k_asm); (case U => k_updF); (case hm0 => k_mem); (case hne => first | with_reducible assumption | omega); (case hI => with_reducible assumption); (case hlen => first | with_reducible assumption | omega); (case hs0 => first | with_reducible assumption | decide | omega); (case hs1 => first | with_reducible assumption | decide | omega); (case T => k_asm); (case hk => first | exact rfl | with_reducible assumption); (case hd => ktr_room); (case hu => ktr_units); intro v' t' t1' n' h' tk' hv' F' N'; (try k_sweep))))
  trivial

theorem reg_46 : True := by
  k_with "call ref" => ((k_here; (with_reducible show wpAny _ _ (call (Value.ref 532) _) _ _ _); k_dflt (apply due_c; (case B => k_asm); (case F => k_asm); (case X => k_asm); (case N => k_asm); (case hM => with_reducible assumption); (case hx => with_reducible assumption); (case hy => with_reducible assumption); (case T => k_asm); (case hk => first | exact rfl | with_reducible assumption); (case hd => ktr_room); (case hu => ktr_units); intro v' h' tk' hv' F' N'; (try k_sweep))))
  trivial

theorem reg_47 : True := by
  k_with "call ref" => ((k_here; (with_reducible show wpAny _ _ (call (Value.ref 539) _) _ _ _); k_dflt (apply heard_two; (case B => k_asm); (case CH => assumption); (case F => k_asm); (case X => k_asm); (case N => k_asm); (case hf => k_mem); (case hc => k_mem); (case ha => k_mem); (case ho => k_mem); (case hr => k_mem); (case hoc => assumption); (case hvs => assumption); (case hom => assumption); (case hoo => assumption); (case hor => assumption); (case hM => with_reducible assumption); (case hx => with_reducible assumption); (case hy => with_reducible assumption); (case T => k_asm); (case hk => first | exact rfl | with_reducible assumption); (case hd => ktr_room); (case hu => ktr_units); intro v' h' tk' hv' F' N'; (try k_sweep))))
  trivial
-- XM
noncomputable abbrev scopeIs {st : Option Stmt} {name : Str} {ps : Arguments} {body : List Stmt} {d : List Expr} {r : Option Expr} {tp : List TypeParam} {scope : Scope} {ts : Option Scope} {b : Str} {pos : Pos}
    (_ : st = some (.FunctionDef name ps body d r tp scope ts b pos)) : Scope := scope
noncomputable abbrev lawScope : Scope := scopeIs (st := nth prg 52) rfl
noncomputable abbrev lawEnv (L a cc cE cF cM cO cR : Addr) : Env := envX "law" lawScope L a (.ref cc) [("other", cR), ("one", cO), ("mark", cM), ("found", cF), ("edge", cE)]
noncomputable abbrev lawTop (dp un : Nat) (gd : Option (List Code)) (L a cc cE cF cM cO cR : Addr) : Around := ktrTop dp un gd "law" lawScope L a (.ref cc) [("other", cR), ("one", cO), ("mark", cM), ("found", cF), ("edge", cE)] []
noncomputable abbrev turnIf (p1 p2 p3 p4 p5 q1 q2 q3 q4 q5 q6 q7 q8 q9 q10 q11 q12 : Pos) : Stmt :=
  .If (.Compare (.Call (.Name "_law_heard" q1) [.Lambda noArgs (.Call (.Name "two_worth" p1) [.Name "mark" p2, .Name "one" p3, .Name "other" p4] [] p5) lamScope q2] [] q3) [.NotEq] [.Call (.Name "_law_due" q4) [.Name "mark" q5, .Name "one" q6, .Name "other" q7] [] q8] q9) [.Return (some (.Constant (.bool false) 0 q10)) q11] [] q12
section
variable {w : World} {p : Program} {loose : List Str} {mean : ExcName → Option Value} {mg mb : Str → Option Value}
  {dp un : Nat} {gd : Option (List Code)} {A₀ : Around} {h₀ : Heap} {L a cc cE cF cM cO cR P : Addr} {m : Str → Option Value} {s : Shared} {Q : Flow → Shared → Prop} {E : Value → Shared → Prop}
theorem pick_a {h : Heap} {f c c1 c2 c3 P : Addr × Obj} {rest : List (Addr × Obj)} (N : News h₀ L h (f :: c :: c1 :: c2 :: c3 :: P :: rest)) : News h₀ L h (c1 :: c2 :: c3 :: P :: c :: rest) := fun q hq => N q (by
  rcases List.mem_cons.mp hq with e | hq
  · rw [e]; exact .tail _ (.tail _ (.head _))
  · rcases List.mem_cons.mp hq with e | hq
    · rw [e]; exact .tail _ (.tail _ (.tail _ (.head _)))
    · rcases List.mem_cons.mp hq with e | hq
      · rw [e]; exact .tail _ (.tail _ (.tail _ (.tail _ (.head _))))
      · rcases List.mem_cons.mp hq with e | hq
        · rw [e]; exact .tail _ (.tail _ (.tail _ (.tail _ (.tail _ (.head _)))))
        · rcases List.mem_cons.mp hq with e | hq
          · rw [e]; exact .tail _ (.head _)
          · exact .tail _ (.tail _ (.tail _ (.tail _ (.tail _ (.tail _ hq))))))
theorem turn_first {rest : List (Addr × Obj)} {om oo or : Obj} {mark : Str} {x y : Int} {tm to tr : Tok} {p1 p2 p3 p4 p5 q1 q2 q3 q4 q5 q6 q7 q8 q9 q10 q11 q12 : Pos}
  (B : Below A₀ h₀ [] h₀) (CH : CodeHd h₀ cc P) (F : Fr h₀ L s.heap m) (X : (K0 w.params).In h₀)
  (N : News h₀ L s.heap ((cM, om) :: (cO, oo) :: (cR, or) :: (P, tabObj #[]) :: rest)) (hM1 : @LT.lt Nat _ P cM) (hO1 : @LT.lt Nat _ P cO) (hR1 : @LT.lt Nat _ P cR) (hre : ∀ q ∈ rest, q.1 ≠ P)
  (hom : om.data = .cell (some (.str mark tm))) (hoo : oo.data = .cell (some (.int x to))) (hor : or.data = .cell (some (.int y tr)))
  (hM : Mark mark) (hx : Builtin.Int.intBits x ≤ 600) (hy : Builtin.Int.intBits y ≤ 600)
  (T : Top p loose mean mg mb h₀) (hd : dp + 160 < recursionLimit) (hu : un + 900 < cLine)
  (hret : ∀ c' oc vs t h' tk', (∀ q ∈ rest, q.1 < c') → @LT.lt Nat _ cM c' → @LT.lt Nat _ cO c' → @LT.lt Nat _ cR c' → oc.data = .fields vs → vs[1]? = some (.str lamQ t) → Fr h₀ L h' m → News h₀ L h' ((cM, om) :: (cO, oo) :: (cR, or) :: (P, tabObj #[rawInt q2.line, rawInt q2.col, .ref c']) :: (c', oc) :: rest) → Q .next { s with heap := h', toks := tk' }) :
  wpAny (model PySem.Challenge.rw_on0173_01.row.toRowW.prog w) (lawTop dp un gd L a cc cE cF cM cO cR) (execs [turnIf p1 p2 p3 p4 p5 q1 q2 q3 q4 q5 q6 q7 q8 q9 q10 q11 q12] (lawEnv L a cc cE cF cM cO cR)) Q E s := by
  revert X; k_fill; intro X
  k_steps
  all_goals first
    | (refine' hret _ _ _ _ _ _ ?l1 ?l2 ?l3 ?l4 ?d1 ?d2 ?kF (pick_a ?kN); (case kN => k_asm); (case kF => k_asm); (case d1 => assumption); (case d2 => assumption); (case l1 => exact allLt_mem (And.right (And.right (And.right (And.right (by assumption)))))); (case l2 => omega); (case l3 => omega); (case l4 => omega))
theorem among_hit (pos : Pos) (c : Addr) : codeAmong pos (#[rawInt pos.line, rawInt pos.col, .ref c] : Array Value).toList = some (.ref c) := by simp [codeAmong, rawInt]
local macro_rules | `(tactic| kn_hit) => `(tactic| exact among_hit _ _)

theorem turn_again {rest : List (Addr × Obj)} {om oo or oc : Obj} {c' : Addr} {vs : Array Value} {t : Tok} {mark : Str} {x y : Int} {tm to tr : Tok} {p1 p2 p3 p4 p5 q1 q2 q3 q4 q5 q6 q7 q8 q9 q10 q11 q12 : Pos}
  (B : Below A₀ h₀ [] h₀) (CH : CodeHd h₀ cc P) (F : Fr h₀ L s.heap m) (X : (K0 w.params).In h₀)
  (N : News h₀ L s.heap ((cM, om) :: (cO, oo) :: (cR, or) :: (P, tabObj #[rawInt q2.line, rawInt q2.col, .ref c']) :: (c', oc) :: rest)) (hM1 : @LT.lt Nat _ P cM) (hO1 : @LT.lt Nat _ P cO) (hR1 : @LT.lt Nat _ P cR) (hre : ∀ q ∈ rest, q.1 ≠ P) (hPc : @LT.lt Nat _ P c') (hoc : oc.data = .fields vs) (hvs : vs[1]? = some (.str lamQ t))
  (hom : om.data = .cell (some (.str mark tm))) (hoo : oo.data = .cell (some (.int x to))) (hor : or.data = .cell (some (.int y tr)))
  (hM : Mark mark) (hx : Builtin.Int.intBits x ≤ 600) (hy : Builtin.Int.intBits y ≤ 600)
  (T : Top p loose mean mg mb h₀) (hd : dp + 160 < recursionLimit) (hu : un + 900 < cLine)
  (hret : ∀ h' tk', Fr h₀ L h' m → News h₀ L h' ((cM, om) :: (cO, oo) :: (cR, or) :: (P, tabObj #[rawInt q2.line, rawInt q2.col, .ref c']) :: (c', oc) :: rest) → Q .next { s with heap := h', toks := tk' }) :
  wpAny (model PySem.Challenge.rw_on0173_01.row.toRowW.prog w) (lawTop dp un gd L a cc cE cF cM cO cR) (execs [turnIf p1 p2 p3 p4 p5 q1 q2 q3 q4 q5 q6 q7 q8 q9 q10 q11 q12] (lawEnv L a cc cE cF cM cO cR)) Q E s := by
  revert X; k_fill; intro X
  k_steps
  all_goals first
    | exact hret _ _ (by k_asm) (drop1 (by k_asm))
end
-- XN
theorem all_cons {d a : Addr} {o : Obj} {r : List (Addr × Obj)} (h : a ≠ d) (hr : ∀ p ∈ r, p.1 ≠ d) : ∀ p ∈ (a, o) :: r, p.1 ≠ d := fun p hp => by
  rcases List.mem_cons.mp hp with rfl | hp
  · exact h
  · exact hr p hp
local macro_rules | `(tactic| k_all) => `(tactic| (refine all_cons ?kah ?kar; (case kah => k_ne); (case kar => k_all)))

theorem end_5 {h₀ h' : Heap} {L I : Addr} {ito : Obj} {a b c d e : Addr × Obj} {tail : List (Addr × Obj)} {s₁ : Shared} {tk : Nat} {m' : Str → Option Value} {rest : (Str → Option Value) → List (Addr × Obj) → Prop} (F : Fr h₀ L h' m') (N : News h₀ L h' (a :: b :: c :: d :: e :: (I, ito) :: tail))
    (off : ∀ p ∈ a :: b :: c :: d :: e :: tail, p.1 ≠ I) (r : rest m' (a :: b :: c :: d :: e :: tail)) : UnrEndW h₀ L s₁ [(I, ito)] rest { s₁ with heap := h', toks := tk } :=
  ⟨h', tk, m', a :: b :: c :: d :: e :: tail, rfl, F, fun p hp => N p (by
    rcases List.mem_append.mp hp with hp | hp
    · rw [List.mem_singleton.mp hp]; exact .tail _ (.tail _ (.tail _ (.tail _ (.tail _ (.head _)))))
    · simp only [List.mem_cons] at hp ⊢
      rcases hp with e | e | e | e | e | e
      · exact .inl e
      · exact .inr (.inl e)
      · exact .inr (.inr (.inl e))
      · exact .inr (.inr (.inr (.inl e)))
      · exact .inr (.inr (.inr (.inr (.inl e))))
      · exact .inr (.inr (.inr (.inr (.inr (.inr e)))))), fun p hp q hq => by rw [List.mem_singleton.mp hq]; exact off p hp, r⟩
theorem perm_f {h₀ h : Heap} {L : Addr} {i t a b c d : Addr × Obj} {rest : List (Addr × Obj)} (N : News h₀ L h (i :: t :: a :: b :: c :: d :: rest)) : News h₀ L h (a :: b :: c :: d :: i :: t :: rest) := fun q hq => N q (by
  simp only [List.mem_cons] at hq ⊢
  rcases hq with e | e | e | e | e | e | e
  · exact .inr (.inr (.inl e))
  · exact .inr (.inr (.inr (.inl e)))
  · exact .inr (.inr (.inr (.inr (.inl e))))
  · exact .inr (.inr (.inr (.inr (.inr (.inl e)))))
  · exact .inl e
  · exact .inr (.inl e)
  · exact .inr (.inr (.inr (.inr (.inr (.inr e))))))
theorem perm_a {h₀ h : Heap} {L : Addr} {i a b c d e : Addr × Obj} {rest : List (Addr × Obj)} (N : News h₀ L h (i :: a :: b :: c :: d :: e :: rest)) : News h₀ L h (a :: b :: c :: d :: e :: i :: rest) := fun q hq => N q (by
  simp only [List.mem_cons] at hq ⊢
  rcases hq with e | e | e | e | e | e | e
  · exact .inr (.inl e)
  · exact .inr (.inr (.inl e))
  · exact .inr (.inr (.inr (.inl e)))
  · exact .inr (.inr (.inr (.inr (.inl e))))
  · exact .inr (.inr (.inr (.inr (.inr (.inl e)))))
  · exact .inl e
  · exact .inr (.inr (.inr (.inr (.inr (.inr e))))))
local macro_rules | `(tactic| k_all) => `(tactic| first | exact allLt_ne (And.right (And.right (And.right (And.right (And.right (by assumption)))))) | exact allLt_ne (And.right (And.right (And.right (And.right (And.right (And.right (by assumption))))))))

theorem reg_48 : True := by
  k_with "pyIter ref" => ((k_here; (with_reducible show wpAny _ _ (pyIter (Value.ref _)) (fun it s₂ => TurnsAt _ _ _ _ _ _ _ _ _ it s₂) _ _); (rename Fr _ _ _ _ => lF'); k_dflt (apply iter_tupTurns; (case hh => rfl); (case F => exact lF'); (case N => k_asm); (case hm => k_mem); (case hc => rfl); (case hd => rfl)); clear lF'; intro i' l1; (try k_lt l1)))
  trivial

theorem reg_49 : True := by
  k_with "UnrEndW" => ((k_dflt (apply end_5; (case F => k_asm); (case N => k_asm); (case off => k_all); (case' r => (refine ⟨?_, ?_⟩; k_subL)))))
  trivial

theorem reg_50 : True := by
  k_with "execs cons" => ((k_here; (with_reducible show wpAny _ _ (execs [Stmt.If (Expr.Compare _ _ _ _) _ _ _] _) _ _ _); k_dflt (first | (first | (refine' turn_first ?Bz1 ?CHz1 ?Fz1 ?Xz1 (perm_f ?Nz1) ?hM1z1 ?hO1z1 ?hR1z1 ?hrez1 ?homz1 ?hooz1 ?horz1 ?hMz1 ?hxz1 ?hyz1 ?Tz1 ?hdz1 ?huz1 (fun c' oc' vs' t' h' tk' l1 m1 m2 m3 d1' d2' F' N' => ?_); (case Nz1 => k_asm); (case Bz1 => k_asm); (case CHz1 => kn_code); (case Fz1 => k_asm); (case Xz1 => k_asm); (case hM1z1 => omega); (case hO1z1 => omega); (case hR1z1 => omega); (case hrez1 => k_all); (case homz1 => assumption); (case hooz1 => assumption); (case horz1 => assumption); (case hMz1 => with_reducible assumption); (case hxz1 => with_reducible assumption); (case hyz1 => with_reducible assumption); (case Tz1 => k_asm); (case hdz1 => ktr_room); (case huz1 => ktr_units); (try k_lt l1)) | (refine' turn_first ?Bz2 ?CHz2 ?Fz2 ?Xz2 (perm_f ?Nz2) ?hM1z2 ?hO1z2 ?hR1z2 ?hrez2 ?homz2 ?hooz2 ?horz2 ?hMz2 ?hxz2 ?hyz2 ?Tz2 ?hdz2 ?huz2 (fun c' oc' vs' t' h' tk' l1 m1 m2 m3 d1' d2' F' N' => ?_); (case Nz2 => k_asm); (case Bz2 => k_asm); (case CHz2 => kn_code); (case Fz2 => k_asm); (case Xz2 => k_asm); (case hM1z2 => omega); (case hO1z2 => omega); (case hR1z2 => omega); (case hrez2 => k_all); (case homz2 => assumption); (case hooz2 => assumption); (case horz2 => assumption); (case hMz2 => with_reducible assumption); (case hxz2 => with_reducible assumption); (case hyz2 => with_reducible assumption); (case Tz2 => k_asm); (case hdz2 => ktr_room); (case huz2 => ktr_units); (try k_lt l1)) | (refine' turn_first ?Bz3 ?CHz3 ?Fz3 ?Xz3 (perm_f ?Nz3) ?hM1z3 ?hO1z3 ?hR1z3 ?hrez3 ?homz3 ?hooz3 ?horz3 ?hMz3 ?hxz3 ?hyz3 ?Tz3 ?hdz3 ?huz3 (fun c' oc' vs' t' h' tk' l1 m1 m2 m3 d1' d2' F' N' => ?_); (case Nz3 => k_asm); (case Bz3 => k_asm); (case CHz3 => kn_code); (case Fz3 => k_asm); (case Xz3 => k_asm); (case hM1z3 => omega); (case hO1z3 => omega); (case hR1z3 => omega); (case hrez3 => k_all); (case homz3 => assumption); (case hooz3 => assumption); (case horz3 => assumption); (case hMz3 => with_reducible assumption); (case hxz3 => with_reducible assumption); (case hyz3 => with_reducible assumption); (case Tz3 => k_asm); (case hdz3 => ktr_room); (case huz3 => ktr_units); (try k_lt l1))) | (first | (refine' turn_again ?Bz1 ?CHz1 ?Fz1 ?Xz1 (perm_a ?Nz1) ?hM1z1 ?hO1z1 ?hR1z1 ?hrez1 ?hPcz1 ?hocz1 ?hvsz1 ?homz1 ?hooz1 ?horz1 ?hMz1 ?hxz1 ?hyz1 ?Tz1 ?hdz1 ?huz1 (fun h' tk' F' N' => ?_); (case Nz1 => k_asm); (case Bz1 => k_asm); (case CHz1 => kn_code); (case Fz1 => k_asm); (case Xz1 => k_asm); (case hM1z1 => omega); (case hO1z1 => omega); (case hR1z1 => omega); (case hrez1 => k_all); (case hPcz1 => omega); (case hocz1 => assumption); (case hvsz1 => assumption); (case homz1 => assumption); (case hooz1 => assumption); (case horz1 => assumption); (case hMz1 => with_reducible assumption); (case hxz1 => with_reducible assumption); (case hyz1 => with_reducible assumption); (case Tz1 => k_asm); (case hdz1 => ktr_room); (case huz1 => ktr_units)) | (refine' turn_again ?Bz2 ?CHz2 ?Fz2 ?Xz2 (perm_a ?Nz2) ?hM1z2 ?hO1z2 ?hR1z2 ?hrez2 ?hPcz2 ?hocz2 ?hvsz2 ?homz2 ?hooz2 ?horz2 ?hMz2 ?hxz2 ?hyz2 ?Tz2 ?hdz2 ?huz2 (fun h' tk' F' N' => ?_); (case Nz2 => k_asm); (case Bz2 => k_asm); (case CHz2 => kn_code); (case Fz2 => k_asm); (case Xz2 => k_asm); (case hM1z2 => omega); (case hO1z2 => omega); (case hR1z2 => omega); (case hrez2 => k_all); (case hPcz2 => omega); (case hocz2 => assumption); (case hvsz2 => assumption); (case homz2 => assumption); (case hooz2 => assumption); (case horz2 => assumption); (case hMz2 => with_reducible assumption); (case hxz2 => with_reducible assumption); (case hyz2 => with_reducible assumption); (case Tz2 => k_asm); (case hdz2 => ktr_room); (case huz2 => ktr_units)) | (refine' turn_again ?Bz3 ?CHz3 ?Fz3 ?Xz3 (perm_a ?Nz3) ?hM1z3 ?hO1z3 ?hR1z3 ?hrez3 ?hPcz3 ?hocz3 ?hvsz3 ?homz3 ?hooz3 ?horz3 ?hMz3 ?hxz3 ?hyz3 ?Tz3 ?hdz3 ?huz3 (fun h' tk' F' N' => ?_); (case Nz3 => k_asm); (case Bz3 => k_asm); (case CHz3 => kn_code); (case Fz3 => k_asm); (case Xz3 => k_asm); (case hM1z3 => omega); (case hO1z3 => omega); (case hR1z3 => omega); (case hrez3 => k_all); (case hPcz3 => omega); (case hocz3 => assumption); (case hvsz3 => assumption); (case homz3 => assumption); (case hooz3 => assumption); (case horz3 => assumption); (case hMz3 => with_reducible assumption); (case hxz3 => with_reducible assumption); (case hyz3 => with_reducible assumption); (case Tz3 => k_asm); (case hdz3 => ktr_room); (case huz3 => ktr_units)) | (refine' turn_again ?Bz4 ?CHz4 ?Fz4 ?Xz4 (perm_a ?Nz4) ?hM1z4 ?hO1z4 ?hR1z4 ?hrez4 ?hPcz4 ?hocz4 ?hvsz4 ?homz4 ?hooz4 ?horz4 ?hMz4 ?hxz4 ?hyz4 ?Tz4 ?hdz4 ?huz4 (fun h' tk' F' N' => ?_); (case Nz4 => k_asm); (case Bz4 => k_asm); (case CHz4 => kn_code); (case Fz4 => k_asm); (case Xz4 => k_asm); (case hM1z4 => omega); (case hO1z4 => omega); (case hR1z4 => omega); (case hrez4 => k_all); (case hPcz4 => omega); (case hocz4 => assumption); (case hvsz4 => assumption); (case homz4 => assumption); (case hooz4 => assumption); (case horz4 => assumption); (case hMz4 => with_reducible assumption); (case hxz4 => with_reducible assumption); (case hyz4 => with_reducible assumption); (case Tz4 => k_asm); (case hdz4 => ktr_room); (case huz4 => ktr_units)) | (refine' turn_again ?Bz5 ?CHz5 ?Fz5 ?Xz5 (perm_a ?Nz5) ?hM1z5 ?hO1z5 ?hR1z5 ?hrez5 ?hPcz5 ?hocz5 ?hvsz5 ?homz5 ?hooz5 ?horz5 ?hMz5 ?hxz5 ?hyz5 ?Tz5 ?hdz5 ?huz5 (fun h' tk' F' N' => ?_); (case Nz5 => k_asm); (case Bz5 => k_asm); (case CHz5 => kn_code); (case Fz5 => k_asm); (case Xz5 => k_asm); (case hM1z5 => omega); (case hO1z5 => omega); (case hR1z5 => omega); (case hrez5 => k_all); (case hPcz5 => omega); (case hocz5 => assumption); (case hvsz5 => assumption); (case homz5 => assumption); (case hooz5 => assumption); (case horz5 => assumption); (case hMz5 => with_reducible assumption); (case hxz5 => with_reducible assumption); (case hyz5 => with_reducible assumption); (case Tz5 => k_asm); (case hdz5 => ktr_room); (case huz5 => ktr_units))))))
  trivial

theorem pick_d {h₀ h : Heap} {L : Addr} {a b c d e f : Addr × Obj} {rest : List (Addr × Obj)} (N : News h₀ L h (a :: b :: c :: d :: e :: f :: rest)) : News h₀ L h (a :: b :: c :: d :: e :: rest) := fun q hq => N q (by
  simp only [List.mem_cons] at hq ⊢
  rcases hq with e | e | e | e | e | e
  · exact .inl e
  · exact .inr (.inl e)
  · exact .inr (.inr (.inl e))
  · exact .inr (.inr (.inr (.inl e)))
  · exact .inr (.inr (.inr (.inr (.inl e))))
  · exact .inr (.inr (.inr (.inr (.inr (.inr e))))))
noncomputable abbrev innerFor (p1 p2 p3 p4 p5 q1 q2 q3 q4 q5 q6 q7 q8 q9 q10 q11 q12 r1 r2 r3 r4 r5 r6 : Pos) : Stmt :=
  .For (.Name "mark" r1) (.Tuple [.Name "sign" r2, .Constant (.str "*") 0 r3, .Constant (.str "+") 0 r4] 0 r5) [turnIf p1 p2 p3 p4 p5 q1 q2 q3 q4 q5 q6 q7 q8 q9 q10 q11 q12] [] r6
section
variable {w : World} {p : Program} {loose : List Str} {mean : ExcName → Option Value} {mg mb : Str → Option Value}
  {dp un : Nat} {gd : Option (List Code)} {A₀ : Around} {h₀ : Heap} {L a cc cE cF cM cO cR P : Addr} {m : Str → Option Value} {s : Shared} {Q : Flow → Shared → Prop} {E : Value → Shared → Prop}
theorem inner_first {rest : List (Addr × Obj)} {om oo or : Obj} {vm : Option Value} {sg : Str} {x y : Int} {ts to tr : Tok} {p1 p2 p3 p4 p5 q1 q2 q3 q4 q5 q6 q7 q8 q9 q10 q11 q12 r1 r2 r3 r4 r5 r6 : Pos}
  (B : Below A₀ h₀ [] h₀) (CH : CodeHd h₀ cc P) (F : Fr h₀ L s.heap (fun y => if y = "sign" then some (.str sg ts) else m y)) (X : (K0 w.params).In h₀)
  (N : News h₀ L s.heap ((cM, om) :: (cO, oo) :: (cR, or) :: (P, tabObj #[]) :: rest)) (hM1 : @LT.lt Nat _ P cM) (hMO : @LT.lt Nat _ cM cO) (hOR : @LT.lt Nat _ cO cR) (hre1 : ∀ q ∈ rest, q.1 ≠ P) (hre2 : ∀ q ∈ rest, q.1 ≠ cM)
  (hom : om.data = .cell vm) (hoo : oo.data = .cell (some (.int x to))) (hor : or.data = .cell (some (.int y tr)))
  (hM : Mark sg) (hx : Builtin.Int.intBits x ≤ 600) (hy : Builtin.Int.intBits y ≤ 600)
  (hE : PassesOwn (model PySem.Challenge.rw_on0173_01.row.toRowW.prog w) (lawTop dp un gd L a cc cE cF cM cO cR) (lawEnv L a cc cE cF cM cO cR) E)
  (T : Top p loose mean mg mb h₀) (hd : dp + 160 < recursionLimit) (hu : un + 900 < cLine)
  (hret : ∀ om' vm' c' oc vs t h' tk', om'.data = .cell vm' → (∀ q ∈ rest, q.1 < c') → @LT.lt Nat _ cM c' → @LT.lt Nat _ cO c' → @LT.lt Nat _ cR c' → oc.data = .fields vs → vs[1]? = some (.str lamQ t) → Fr h₀ L h' (fun y => if y = "sign" then some (.str sg ts) else m y) → News h₀ L h' ((cM, om') :: (cO, oo) :: (cR, or) :: (P, tabObj #[rawInt q2.line, rawInt q2.col, .ref c']) :: (c', oc) :: rest) → Q .next { s with heap := h', toks := tk' }) :
  wpAny (model PySem.Challenge.rw_on0173_01.row.toRowW.prog w) (lawTop dp un gd L a cc cE cF cM cO cR) (execs [innerFor p1 p2 p3 p4 p5 q1 q2 q3 q4 q5 q6 q7 q8 q9 q10 q11 q12 r1 r2 r3 r4 r5 r6] (lawEnv L a cc cE cF cM cO cR)) Q E s := by
  have hMs : Mark "*" := .inr (.inr (.inl rfl))
  have hMp : Mark "+" := .inl rfl
  revert X; k_fill; intro X
  unfold innerFor turnIf
  k_steps
  all_goals first
    | (refine' hret _ _ _ _ _ _ _ _ ?d0 ?l1 ?l2 ?l3 ?l4 ?d1 ?d2 ?kF (pick_d ?kN); (case kN => k_asm); (case kF => k_asm); (case d0 => assumption); (case d1 => assumption); (case d2 => assumption); (case l1 => exact allLt_mem (And.right (And.right (by assumption)))); (case l2 => omega); (case l3 => omega); (case l4 => omega))
theorem perm_b {h₀ h : Heap} {L : Addr} {i t a b c d e : Addr × Obj} {rest : List (Addr × Obj)} (N : News h₀ L h (i :: t :: a :: b :: c :: d :: e :: rest)) : News h₀ L h (a :: b :: c :: d :: e :: i :: t :: rest) := fun q hq => N q (by
  simp only [List.mem_cons] at hq ⊢
  rcases hq with e | e | e | e | e | e | e | e
  · exact .inr (.inr (.inl e))
  · exact .inr (.inr (.inr (.inl e)))
  · exact .inr (.inr (.inr (.inr (.inl e))))
  · exact .inr (.inr (.inr (.inr (.inr (.inl e)))))
  · exact .inr (.inr (.inr (.inr (.inr (.inr (.inl e))))))
  · exact .inl e
  · exact .inr (.inl e)
  · exact .inr (.inr (.inr (.inr (.inr (.inr (.inr e)))))))
theorem reg_51 : True := by
  k_with "execs cons" => ((k_here; (with_reducible show wpAny _ _ (execs [Stmt.If (Expr.Compare _ _ _ _) _ _ _] _) _ _ _); k_dflt (first | (refine' turn_again ?Bz1 ?CHz1 ?Fz1 ?Xz1 (perm_b ?Nz1) ?hM1z1 ?hO1z1 ?hR1z1 ?hrez1 ?hPcz1 ?hocz1 ?hvsz1 ?homz1 ?hooz1 ?horz1 ?hMz1 ?hxz1 ?hyz1 ?Tz1 ?hdz1 ?huz1 (fun h' tk' F' N' => ?_); (case Nz1 => k_asm); (case Bz1 => k_asm); (case CHz1 => kn_code); (case Fz1 => k_asm); (case Xz1 => k_asm); (case hM1z1 => omega); (case hO1z1 => omega); (case hR1z1 => omega); (case hrez1 => k_all); (case hPcz1 => omega); (case hocz1 => assumption); (case hvsz1 => assumption); (case homz1 => assumption); (case hooz1 => assumption); (case horz1 => assumption); (case hMz1 => with_reducible assumption); (case hxz1 => with_reducible assumption); (case hyz1 => with_reducible assumption); (case Tz1 => k_asm); (case hdz1 => ktr_room); (case huz1 => ktr_units)) | (refine' turn_again ?Bz2 ?CHz2 ?Fz2 ?Xz2 (perm_b ?Nz2) ?hM1z2 ?hO1z2 ?hR1z2 ?hrez2 ?hPcz2 ?hocz2 ?hvsz2 ?homz2 ?hooz2 ?horz2 ?hMz2 ?hxz2 ?hyz2 ?Tz2 ?hdz2 ?huz2 (fun h' tk' F' N' => ?_); (case Nz2 => k_asm); (case Bz2 => k_asm); (case CHz2 => kn_code); (case Fz2 => k_asm); (case Xz2 => k_asm); (case hM1z2 => omega); (case hO1z2 => omega); (case hR1z2 => omega); (case hrez2 => k_all); (case hPcz2 => omega); (case hocz2 => assumption); (case hvsz2 => assumption); (case homz2 => assumption); (case hooz2 => assumption); (case horz2 => assumption); (case hMz2 => with_reducible assumption); (case hxz2 => with_reducible assumption); (case hyz2 => with_reducible assumption); (case Tz2 => k_asm); (case hdz2 => ktr_room); (case huz2 => ktr_units)) | (refine' turn_again ?Bz3 ?CHz3 ?Fz3 ?Xz3 (perm_b ?Nz3) ?hM1z3 ?hO1z3 ?hR1z3 ?hrez3 ?hPcz3 ?hocz3 ?hvsz3 ?homz3 ?hooz3 ?horz3 ?hMz3 ?hxz3 ?hyz3 ?Tz3 ?hdz3 ?huz3 (fun h' tk' F' N' => ?_); (case Nz3 => k_asm); (case Bz3 => k_asm); (case CHz3 => kn_code); (case Fz3 => k_asm); (case Xz3 => k_asm); (case hM1z3 => omega); (case hO1z3 => omega); (case hR1z3 => omega); (case hrez3 => k_all); (case hPcz3 => omega); (case hocz3 => assumption); (case hvsz3 => assumption); (case homz3 => assumption); (case hooz3 => assumption); (case horz3 => assumption); (case hMz3 => with_reducible assumption); (case hxz3 => with_reducible assumption); (case hyz3 => with_reducible assumption); (case Tz3 => k_asm); (case hdz3 => ktr_room); (case huz3 => ktr_units)) | (refine' turn_again ?Bz4 ?CHz4 ?Fz4 ?Xz4 (perm_b ?Nz4) ?hM1z4 ?hO1z4 ?hR1z4 ?hrez4 ?hPcz4 ?hocz4 ?hvsz4 ?homz4 ?hooz4 ?horz4 ?hMz4 ?hxz4 ?hyz4 ?Tz4 ?hdz4 ?huz4 (fun h' tk' F' N' => ?_); (case Nz4 => k_asm); (case Bz4 => k_asm); (case CHz4 => kn_code); (case Fz4 => k_asm); (case Xz4 => k_asm); (case hM1z4 => omega); (case hO1z4 => omega); (case hR1z4 => omega); (case hrez4 => k_all); (case hPcz4 => omega); (case hocz4 => assumption); (case hvsz4 => assumption); (case homz4 => assumption); (case hooz4 => assumption); (case horz4 => assumption); (case hMz4 => with_reducible assumption); (case hxz4 => with_reducible assumption); (case hyz4 => with_reducible assumption); (case Tz4 => k_asm); (case hdz4 => ktr_room); (case huz4 => ktr_units)) | (refine' turn_again ?Bz5 ?CHz5 ?Fz5 ?Xz5 (perm_b ?Nz5) ?hM1z5 ?hO1z5 ?hR1z5 ?hrez5 ?hPcz5 ?hocz5 ?hvsz5 ?homz5 ?hooz5 ?horz5 ?hMz5 ?hxz5 ?hyz5 ?Tz5 ?hdz5 ?huz5 (fun h' tk' F' N' => ?_); (case Nz5 => k_asm); (case Bz5 => k_asm); (case CHz5 => kn_code); (case Fz5 => k_asm); (case Xz5 => k_asm); (case hM1z5 => omega); (case hO1z5 => omega); (case hR1z5 => omega); (case hrez5 => k_all); (case hPcz5 => omega); (case hocz5 => assumption); (case hvsz5 => assumption); (case homz5 => assumption); (case hooz5 => assumption); (case horz5 => assumption); (case hMz5 => with_reducible assumption); (case hxz5 => with_reducible assumption); (case hyz5 => with_reducible assumption); (case Tz5 => k_asm); (case hdz5 => ktr_room); (case huz5 => ktr_units)))))
  trivial

theorem inner_again {rest : List (Addr × Obj)} {om oo or oc : Obj} {c' : Addr} {vs : Array Value} {t : Tok} {vm : Option Value} {sg : Str} {x y : Int} {ts to tr : Tok} {p1 p2 p3 p4 p5 q1 q2 q3 q4 q5 q6 q7 q8 q9 q10 q11 q12 r1 r2 r3 r4 r5 r6 : Pos}
  (B : Below A₀ h₀ [] h₀) (CH : CodeHd h₀ cc P) (F : Fr h₀ L s.heap (fun y => if y = "sign" then some (.str sg ts) else m y)) (X : (K0 w.params).In h₀)
  (N : News h₀ L s.heap ((cM, om) :: (cO, oo) :: (cR, or) :: (P, tabObj #[rawInt q2.line, rawInt q2.col, .ref c']) :: (c', oc) :: rest)) (hM1 : @LT.lt Nat _ P cM) (hMO : @LT.lt Nat _ cM cO) (hOR : @LT.lt Nat _ cO cR) (hre1 : ∀ q ∈ rest, q.1 ≠ P) (hre2 : ∀ q ∈ rest, q.1 ≠ cM) (hRc : @LT.lt Nat _ cR c') (hoc : oc.data = .fields vs) (hvs : vs[1]? = some (.str lamQ t))
  (hom : om.data = .cell vm) (hoo : oo.data = .cell (some (.int x to))) (hor : or.data = .cell (some (.int y tr)))
  (hM : Mark sg) (hx : Builtin.Int.intBits x ≤ 600) (hy : Builtin.Int.intBits y ≤ 600)
  (hE : PassesOwn (model PySem.Challenge.rw_on0173_01.row.toRowW.prog w) (lawTop dp un gd L a cc cE cF cM cO cR) (lawEnv L a cc cE cF cM cO cR) E)
  (T : Top p loose mean mg mb h₀) (hd : dp + 160 < recursionLimit) (hu : un + 900 < cLine)
  (hret : ∀ om' vm' h' tk', om'.data = .cell vm' → Fr h₀ L h' (fun y => if y = "sign" then some (.str sg ts) else m y) → News h₀ L h' ((cM, om') :: (cO, oo) :: (cR, or) :: (P, tabObj #[rawInt q2.line, rawInt q2.col, .ref c']) :: (c', oc) :: rest) → Q .next { s with heap := h', toks := tk' }) :
  wpAny (model PySem.Challenge.rw_on0173_01.row.toRowW.prog w) (lawTop dp un gd L a cc cE cF cM cO cR) (execs [innerFor p1 p2 p3 p4 p5 q1 q2 q3 q4 q5 q6 q7 q8 q9 q10 q11 q12 r1 r2 r3 r4 r5 r6] (lawEnv L a cc cE cF cM cO cR)) Q E s := by
  have hMs : Mark "*" := .inr (.inr (.inl rfl))
  have hMp : Mark "+" := .inl rfl
  revert X; k_fill; intro X
  unfold innerFor turnIf
  k_steps
  all_goals first
    | (refine' hret _ _ _ _ ?d0 ?kF (pick_d ?kN); (case kN => k_asm); (case kF => k_asm); (case d0 => assumption))
end
-- XO
theorem perm_7 {h₀ h : Heap} {L : Addr} {x1 x2 x3 x4 x5 x6 x7 a b c d : Addr × Obj} {rest : List (Addr × Obj)} (N : News h₀ L h (x1 :: x2 :: x3 :: x4 :: x5 :: x6 :: x7 :: a :: b :: c :: d :: rest)) : News h₀ L h (a :: b :: c :: d :: x1 :: x2 :: x3 :: x4 :: x5 :: x6 :: x7 :: rest) := fun q hq => N q (by
  have e : a :: b :: c :: d :: x1 :: x2 :: x3 :: x4 :: x5 :: x6 :: x7 :: rest = [a, b, c, d] ++ ([x1, x2, x3, x4, x5, x6, x7] ++ rest) := rfl
  have e' : x1 :: x2 :: x3 :: x4 :: x5 :: x6 :: x7 :: a :: b :: c :: d :: rest = [x1, x2, x3, x4, x5, x6, x7] ++ ([a, b, c, d] ++ rest) := rfl
  rw [e] at hq
  rw [e']
  simp only [List.mem_append] at hq ⊢
  rcases hq with h | h | h
  · exact .inr (.inl h)
  · exact .inl h
  · exact .inr (.inr h))
theorem pick_t {h₀ h : Heap} {L : Addr} {a b c d e x1 x2 x3 x4 x5 x6 : Addr × Obj} {rest : List (Addr × Obj)} (N : News h₀ L h (a :: b :: c :: d :: e :: x1 :: x2 :: x3 :: x4 :: x5 :: x6 :: rest)) : News h₀ L h (a :: b :: c :: d :: e :: rest) := fun q hq => N q (by
  have e0 : a :: b :: c :: d :: e :: rest = [a, b, c, d, e] ++ rest := rfl
  have e' : a :: b :: c :: d :: e :: x1 :: x2 :: x3 :: x4 :: x5 :: x6 :: rest = [a, b, c, d, e] ++ ([x1, x2, x3, x4, x5, x6] ++ rest) := rfl
  rw [e0] at hq
  rw [e']
  simp only [List.mem_append] at hq ⊢
  rcases hq with h | h
  · exact .inl h
  · exact .inr (.inr h))
noncomputable abbrev outerFor (p1 p2 p3 p4 p5 q1 q2 q3 q4 q5 q6 q7 q8 q9 q10 q11 q12 r1 r2 r3 r4 r5 r6 u1 u2 u3 u4 u5 u6 u7 u8 u9 v1 v2 v3 v4 v5 v6 v7 v8 v9 v10 u10 : Pos) : Stmt :=
  .For (.Tuple [.Name "one" u1, .Name "other" u2] 0 u3) (.Tuple [.Tuple [.Name "left" u4, .Name "right" u5] 0 u6, .Tuple [.Name "right" u7, .Name "left" u8] 0 u9, .Tuple [.Name "left" v1, .Name "left" v2] 0 v3, .Tuple [.Name "left" v4, .Constant (.int 0) 0 v5] 0 v6, .Tuple [.Constant (.int 0) 0 v7, .Name "right" v8] 0 v9] 0 v10)
    [innerFor p1 p2 p3 p4 p5 q1 q2 q3 q4 q5 q6 q7 q8 q9 q10 q11 q12 r1 r2 r3 r4 r5 r6] [] u10
local macro_rules | `(tactic| k_all) => `(tactic| exact allLt_ne (And.right (And.right (And.right (And.right (And.right (And.right (And.right (And.right (And.right (And.right (by assumption))))))))))))

theorem reg_52 : True := by
  k_with "execs cons" => ((k_here; (with_reducible show wpAny _ _ (execs [Stmt.For (Expr.Name _ _) (Expr.Tuple [_, _, _] _ _) _ _ _] _) _ _ _); k_dflt (first | (first | (refine' inner_first ?Bz1 ?CHz1 ?Fz1 ?Xz1 (perm_7 ?Nz1) ?hM1z1 ?hMOz1 ?hORz1 ?hre1z1 ?hre2z1 ?homz1 ?hooz1 ?horz1 ?hMz1 ?hxz1 ?hyz1 ?hEz1 ?Tz1 ?hdz1 ?huz1 (fun om' vm' c' oc' vs' t' h' tk' d0' l1 m1 m2 m3 d1' d2' F' N' => ?_); (case Nz1 => k_asm); (case Bz1 => k_asm); (case CHz1 => kn_code); (case Fz1 => k_asm); (case Xz1 => k_asm); (case hM1z1 => omega); (case hMOz1 => omega); (case hORz1 => omega); (case hre1z1 => k_all); (case hre2z1 => k_all); (case homz1 => assumption); (case hooz1 => assumption); (case horz1 => assumption); (case hMz1 => with_reducible assumption); (case hxz1 => with_reducible assumption); (case hyz1 => with_reducible assumption); (case hEz1 => passes_own); (case Tz1 => k_asm); (case hdz1 => ktr_room); (case huz1 => ktr_units); (try k_lt l1)) | (refine' inner_first ?Bz2 ?CHz2 ?Fz2 ?Xz2 (perm_7 ?Nz2) ?hM1z2 ?hMOz2 ?hORz2 ?hre1z2 ?hre2z2 ?homz2 ?hooz2 ?horz2 ?hMz2 ?hxz2 ?hyz2 ?hEz2 ?Tz2 ?hdz2 ?huz2 (fun om' vm' c' oc' vs' t' h' tk' d0' l1 m1 m2 m3 d1' d2' F' N' => ?_); (case Nz2 => k_asm); (case Bz2 => k_asm); (case CHz2 => kn_code); (case Fz2 => k_asm); (case Xz2 => k_asm); (case hM1z2 => omega); (case hMOz2 => omega); (case hORz2 => omega); (case hre1z2 => k_all); (case hre2z2 => k_all); (case homz2 => assumption); (case hooz2 => assumption); (case horz2 => assumption); (case hMz2 => with_reducible assumption); (case hxz2 => with_reducible assumption); (case hyz2 => with_reducible assumption); (case hEz2 => passes_own); (case Tz2 => k_asm); (case hdz2 => ktr_room); (case huz2 => ktr_units); (try k_lt l1)) | (refine' inner_first ?Bz3 ?CHz3 ?Fz3 ?Xz3 (perm_7 ?Nz3) ?hM1z3 ?hMOz3 ?hORz3 ?hre1z3 ?hre2z3 ?homz3 ?hooz3 ?horz3 ?hMz3 ?hxz3 ?hyz3 ?hEz3 ?Tz3 ?hdz3 ?huz3 (fun om' vm' c' oc' vs' t' h' tk' d0' l1 m1 m2 m3 d1' d2' F' N' => ?_); (case Nz3 => k_asm); (case Bz3 => k_asm); (case CHz3 => kn_code); (case Fz3 => k_asm); (case Xz3 => k_asm); (case hM1z3 => omega); (case hMOz3 => omega); (case hORz3 => omega); (case hre1z3 => k_all); (case hre2z3 => k_all); (case homz3 => assumption); (case hooz3 => assumption); (case horz3 => assumption); (case hMz3 => with_reducible assumption); (case hxz3 => with_reducible assumption); (case hyz3 => with_reducible assumption); (case hEz3 => passes_own); (case Tz3 => k_asm); (case hdz3 => ktr_room); (case huz3 => ktr_units); (try k_lt l1))) | (first | (refine' inner_again ?Bz1 ?CHz1 ?Fz1 ?Xz1 (perm_a ?Nz1) ?hM1z1 ?hMOz1 ?hORz1 ?hre1z1 ?hre2z1 ?hRcz1 ?hocz1 ?hvsz1 ?homz1 ?hooz1 ?horz1 ?hMz1 ?hxz1 ?hyz1 ?hEz1 ?Tz1 ?hdz1 ?huz1 (fun om' vm' h' tk' d0' F' N' => ?_); (case Nz1 => k_asm); (case Bz1 => k_asm); (case CHz1 => kn_code); (case Fz1 => k_asm); (case Xz1 => k_asm); (case hM1z1 => omega); (case hMOz1 => omega); (case hORz1 => omega); (case hre1z1 => k_all); (case hre2z1 => k_all); (case hRcz1 => omega); (case hocz1 => assumption); (case hvsz1 => assumption); (case homz1 => assumption); (case hooz1 => assumption); (case horz1 => assumption); (case hMz1 => with_reducible assumption); (case hxz1 => with_reducible assumption); (case hyz1 => with_reducible assumption); (case hEz1 => passes_own); (case Tz1 => k_asm); (case hdz1 => ktr_room); (case huz1 => ktr_units)) | (refine' inner_again ?Bz2 ?CHz2 ?Fz2 ?Xz2 (perm_a ?Nz2) ?hM1z2 ?hMOz2 ?hORz2 ?hre1z2 ?hre2z2 ?hRcz2 ?hocz2 ?hvsz2 ?homz2 ?hooz2 ?horz2 ?hMz2 ?hxz2 ?hyz2 ?hEz2 ?Tz2 ?hdz2 ?huz2 (fun om' vm' h' tk' d0' F' N' => ?_); (case Nz2 => k_asm); (case Bz2 => k_asm); (case CHz2 => kn_code); (case Fz2 => k_asm); (case Xz2 => k_asm); (case hM1z2 => omega); (case hMOz2 => omega); (case hORz2 => omega); (case hre1z2 => k_all); (case hre2z2 => k_all); (case hRcz2 => omega); (case hocz2 => assumption); (case hvsz2 => assumption); (case homz2 => assumption); (case hooz2 => assumption); (case horz2 => assumption); (case hMz2 => with_reducible assumption); (case hxz2 => with_reducible assumption); (case hyz2 => with_reducible assumption); (case hEz2 => passes_own); (case Tz2 => k_asm); (case hdz2 => ktr_room); (case huz2 => ktr_units)) | (refine' inner_again ?Bz3 ?CHz3 ?Fz3 ?Xz3 (perm_a ?Nz3) ?hM1z3 ?hMOz3 ?hORz3 ?hre1z3 ?hre2z3 ?hRcz3 ?hocz3 ?hvsz3 ?homz3 ?hooz3 ?horz3 ?hMz3 ?hxz3 ?hyz3 ?hEz3 ?Tz3 ?hdz3 ?huz3 (fun om' vm' h' tk' d0' F' N' => ?_); (case Nz3 => k_asm); (case Bz3 => k_asm); (case CHz3 => kn_code); (case Fz3 => k_asm); (case Xz3 => k_asm); (case hM1z3 => omega); (case hMOz3 => omega); (case hORz3 => omega); (case hre1z3 => k_all); (case hre2z3 => k_all); (case hRcz3 => omega); (case hocz3 => assumption); (case hvsz3 => assumption); (case homz3 => assumption); (case hooz3 => assumption); (case horz3 => assumption); (case hMz3 => with_reducible assumption); (case hxz3 => with_reducible assumption); (case hyz3 => with_reducible assumption); (case hEz3 => passes_own); (case Tz3 => k_asm); (case hdz3 => ktr_room); (case huz3 => ktr_units)) | (refine' inner_again ?Bz4 ?CHz4 ?Fz4 ?Xz4 (perm_a ?Nz4) ?hM1z4 ?hMOz4 ?hORz4 ?hre1z4 ?hre2z4 ?hRcz4 ?hocz4 ?hvsz4 ?homz4 ?hooz4 ?horz4 ?hMz4 ?hxz4 ?hyz4 ?hEz4 ?Tz4 ?hdz4 ?huz4 (fun om' vm' h' tk' d0' F' N' => ?_); (case Nz4 => k_asm); (case Bz4 => k_asm); (case CHz4 => kn_code); (case Fz4 => k_asm); (case Xz4 => k_asm); (case hM1z4 => omega); (case hMOz4 => omega); (case hORz4 => omega); (case hre1z4 => k_all); (case hre2z4 => k_all); (case hRcz4 => omega); (case hocz4 => assumption); (case hvsz4 => assumption); (case homz4 => assumption); (case hooz4 => assumption); (case horz4 => assumption); (case hMz4 => with_reducible assumption); (case hxz4 => with_reducible assumption); (case hyz4 => with_reducible assumption); (case hEz4 => passes_own); (case Tz4 => k_asm); (case hdz4 => ktr_room); (case huz4 => ktr_units)) | (refine' inner_again ?Bz5 ?CHz5 ?Fz5 ?Xz5 (perm_a ?Nz5) ?hM1z5 ?hMOz5 ?hORz5 ?hre1z5 ?hre2z5 ?hRcz5 ?hocz5 ?hvsz5 ?homz5 ?hooz5 ?horz5 ?hMz5 ?hxz5 ?hyz5 ?hEz5 ?Tz5 ?hdz5 ?huz5 (fun om' vm' h' tk' d0' F' N' => ?_); (case Nz5 => k_asm); (case Bz5 => k_asm); (case CHz5 => kn_code); (case Fz5 => k_asm); (case Xz5 => k_asm); (case hM1z5 => omega); (case hMOz5 => omega); (case hORz5 => omega); (case hre1z5 => k_all); (case hre2z5 => k_all); (case hRcz5 => omega); (case hocz5 => assumption); (case hvsz5 => assumption); (case homz5 => assumption); (case hooz5 => assumption); (case horz5 => assumption); (case hMz5 => with_reducible assumption); (case hxz5 => with_reducible assumption); (case hyz5 => with_reducible assumption); (case hEz5 => passes_own); (case Tz5 => k_asm); (case hdz5 => ktr_room); (case huz5 => ktr_units)) | (refine' inner_again ?Bz6 ?CHz6 ?Fz6 ?Xz6 (perm_a ?Nz6) ?hM1z6 ?hMOz6 ?hORz6 ?hre1z6 ?hre2z6 ?hRcz6 ?hocz6 ?hvsz6 ?homz6 ?hooz6 ?horz6 ?hMz6 ?hxz6 ?hyz6 ?hEz6 ?Tz6 ?hdz6 ?huz6 (fun om' vm' h' tk' d0' F' N' => ?_); (case Nz6 => k_asm); (case Bz6 => k_asm); (case CHz6 => kn_code); (case Fz6 => k_asm); (case Xz6 => k_asm); (case hM1z6 => omega); (case hMOz6 => omega); (case hORz6 => omega); (case hre1z6 => k_all); (case hre2z6 => k_all); (case hRcz6 => omega); (case hocz6 => assumption); (case hvsz6 => assumption); (case homz6 => assumption); (case hooz6 => assumption); (case horz6 => assumption); (case hMz6 => with_reducible assumption); (case hxz6 => with_reducible assumption); (case hyz6 => with_reducible assumption); (case hEz6 => passes_own); (case Tz6 => k_asm); (case hdz6 => ktr_room); (case huz6 => ktr_units))))))
  trivial

section
variable {w : World} {p : Program} {loose : List Str} {mean : ExcName → Option Value} {mg mb : Str → Option Value}
  {dp un : Nat} {gd : Option (List Code)} {A₀ : Around} {h₀ : Heap} {L a cc cE cF cM cO cR P : Addr} {m : Str → Option Value} {s : Shared} {Q : Flow → Shared → Prop} {E : Value → Shared → Prop}
theorem outer_c {rest : List (Addr × Obj)} {om oo or : Obj} {vm vo vr : Option Value} {sg : Str} {x y : Int} {ts tl tr : Tok} {p1 p2 p3 p4 p5 q1 q2 q3 q4 q5 q6 q7 q8 q9 q10 q11 q12 r1 r2 r3 r4 r5 r6 u1 u2 u3 u4 u5 u6 u7 u8 u9 v1 v2 v3 v4 v5 v6 v7 v8 v9 v10 u10 : Pos}
  (B : Below A₀ h₀ [] h₀) (CH : CodeHd h₀ cc P) (F : Fr h₀ L s.heap (fun z => if z = "sign" then some (.str sg ts) else if z = "left" then some (.int x tl) else if z = "right" then some (.int y tr) else m z)) (X : (K0 w.params).In h₀)
  (N : News h₀ L s.heap ((cM, om) :: (cO, oo) :: (cR, or) :: (P, tabObj #[]) :: rest)) (hM1 : @LT.lt Nat _ P cM) (hMO : @LT.lt Nat _ cM cO) (hOR : @LT.lt Nat _ cO cR) (hre1 : ∀ q ∈ rest, q.1 ≠ P) (hre2 : ∀ q ∈ rest, q.1 ≠ cM) (hre3 : ∀ q ∈ rest, q.1 ≠ cO) (hre4 : ∀ q ∈ rest, q.1 ≠ cR)
  (hom : om.data = .cell vm) (hoo : oo.data = .cell vo) (hor : or.data = .cell vr)
  (hM : Mark sg) (hx : Builtin.Int.intBits x ≤ 600) (hy : Builtin.Int.intBits y ≤ 600)
  (hE : PassesOwn (model PySem.Challenge.rw_on0173_01.row.toRowW.prog w) (lawTop dp un gd L a cc cE cF cM cO cR) (lawEnv L a cc cE cF cM cO cR) E)
  (T : Top p loose mean mg mb h₀) (hd : dp + 160 < recursionLimit) (hu : un + 900 < cLine)
  (hret : ∀ om' oo' or' vm' vo' vr' c' oc vs t h' tk', om'.data = .cell vm' → oo'.data = .cell vo' → or'.data = .cell vr' → (∀ q ∈ rest, q.1 < c') → @LT.lt Nat _ cR c' → oc.data = .fields vs → vs[1]? = some (.str lamQ t) →
     Fr h₀ L h' (fun z => if z = "sign" then some (.str sg ts) else if z = "left" then some (.int x tl) else if z = "right" then some (.int y tr) else m z) → News h₀ L h' ((cM, om') :: (cO, oo') :: (cR, or') :: (P, tabObj #[rawInt q2.line, rawInt q2.col, .ref c']) :: (c', oc) :: rest) → Q .next { s with heap := h', toks := tk' }) :
  wpAny (model PySem.Challenge.rw_on0173_01.row.toRowW.prog w) (lawTop dp un gd L a cc cE cF cM cO cR) (exec (outerFor p1 p2 p3 p4 p5 q1 q2 q3 q4 q5 q6 q7 q8 q9 q10 q11 q12 r1 r2 r3 r4 r5 r6 u1 u2 u3 u4 u5 u6 u7 u8 u9 v1 v2 v3 v4 v5 v6 v7 v8 v9 v10 u10) (lawEnv L a cc cE cF cM cO cR)) Q E s := by
  have h0b : Builtin.Int.intBits 0 ≤ 600 := by decide
  revert X; k_fill; intro X
  unfold outerFor
  k_steps
  all_goals first
    | (refine' hret _ _ _ _ _ _ _ _ _ _ _ _ ?d0 ?d1 ?d2 ?l1 ?l2 ?d3 ?d4 ?kF (pick_t ?kN); (case kN => k_asm); (case kF => k_asm); (case d0 => assumption); (case d1 => assumption); (case d2 => assumption); (case d3 => assumption); (case d4 => assumption); (case l2 => omega); (case l1 => first | exact allLt_mem (And.right (And.right (And.right (And.right (And.right (And.right (And.right (by assumption)))))))) | exact allLt_mem (And.right (And.right (And.right (And.right (And.right (And.right (And.right (And.right (by assumption))))))))) | exact allLt_mem (And.right (And.right (And.right (And.right (And.right (And.right (by assumption)))))))))
end
-- XP
noncomputable abbrev bodyIs {st : Option Stmt} {name : Str} {ps : Arguments} {body : List Stmt} {d : List Expr} {r : Option Expr} {tp : List TypeParam} {scope : Scope} {ts : Option Scope} {b : Str} {pos : Pos}
    (_ : st = some (.FunctionDef name ps body d r tp scope ts b pos)) : List Stmt := body
noncomputable abbrev lawBody : List Stmt := bodyIs (st := nth prg 52) rfl
theorem among_skip {pos : Pos} {l c : Int} {v : Value} {r : List Value} (h : l ≠ pos.line) : codeAmong pos (rawInt l :: rawInt c :: v :: r) = codeAmong pos r := by
  have e : (l == (pos.line : Int)) = false := by simpa using h
  simp only [rawInt, codeAmong, e, Bool.false_and]
  rfl
theorem abs_p {prog : Program} {w : World} {A : Around} {E : Value → Shared → Prop} {s : Shared} {x : Int} {t : Tok} {Q : Value → Shared → Prop} (h0 : 0 ≤ x) (h : ∀ u tk, Q (.int x u) { s with toks := tk }) : wpAny (model prog w) A (call (.builtin "abs") [.int x t]) Q E s :=
  call_abs_int fun u tk => by rw [if_neg (by omega)]; exact h u tk
theorem abs_n {prog : Program} {w : World} {A : Around} {E : Value → Shared → Prop} {s : Shared} {x : Int} {t : Tok} {Q : Value → Shared → Prop} (h0 : 0 < x) (h : ∀ u tk, Q (.int x u) { s with toks := tk }) : wpAny (model prog w) A (call (.builtin "abs") [.int (-x) t]) Q E s :=
  call_abs_int fun u tk => by rw [if_pos (by omega), Int.neg_neg]; exact h u tk
theorem end_f1 {h₀ h' : Heap} {L I : Addr} {ito : Obj} {f c f1 c1 : Addr × Obj} {tail : List (Addr × Obj)} {s₁ : Shared} {tk : Nat} {m' : Str → Option Value} {rest : (Str → Option Value) → List (Addr × Obj) → Prop} (F : Fr h₀ L h' m') (N : News h₀ L h' (f :: c :: f1 :: c1 :: (I, ito) :: tail))
    (off : ∀ p ∈ c :: c1 :: tail, p.1 ≠ I) (r : rest m' (c :: c1 :: tail)) : UnrEndW h₀ L s₁ [(I, ito)] rest { s₁ with heap := h', toks := tk } :=
  ⟨h', tk, m', c :: c1 :: tail, rfl, F, fun p hp => N p (by
    rcases List.mem_append.mp hp with hp | hp
    · rw [List.mem_singleton.mp hp]; exact .tail _ (.tail _ (.tail _ (.tail _ (.head _))))
    · simp only [List.mem_cons] at hp ⊢
      rcases hp with e | e | e
      · exact .inr (.inl e)
      · exact .inr (.inr (.inr (.inl e)))
      · exact .inr (.inr (.inr (.inr (.inr e))))), fun p hp q hq => by rw [List.mem_singleton.mp hq]; exact off p hp, r⟩
theorem end_f2 {h₀ h' : Heap} {L I : Addr} {ito : Obj} {f f1 : Addr × Obj} {tail : List (Addr × Obj)} {s₁ : Shared} {tk : Nat} {m' : Str → Option Value} {rest : (Str → Option Value) → List (Addr × Obj) → Prop} (F : Fr h₀ L h' m') (N : News h₀ L h' (f :: f1 :: (I, ito) :: tail))
    (off : ∀ p ∈ tail, p.1 ≠ I) (r : rest m' tail) : UnrEndW h₀ L s₁ [(I, ito)] rest { s₁ with heap := h', toks := tk } :=
  ⟨h', tk, m', tail, rfl, F, fun p hp => N p (by
    rcases List.mem_append.mp hp with hp | hp
    · rw [List.mem_singleton.mp hp]; exact .tail _ (.tail _ (.head _))
    · exact .tail _ (.tail _ (.tail _ hp))), fun p hp q hq => by rw [List.mem_singleton.mp hq]; exact off p hp, r⟩
local macro_rules | `(tactic| k_all) => `(tactic| exact allLt_ne (And.right (And.right (And.right (And.right (by assumption))))))

theorem reg_53 : True := by
  k_with "UnrEndW" => ((k_dflt (first | (apply end_f1; (case F => k_asm); (case N => k_asm); (case off => k_all); (case' r => (refine ⟨?_, ?_⟩; k_subL))) | (apply end_f2; (case F => k_asm); (case N => k_asm); (case off => k_all); (case' r => (refine ⟨?_, ?_⟩; k_subL))))))
  trivial

theorem reg_54 : True := by
  k_with "call builtin:abs" => ((k_here; first | (refine abs_p (by with_reducible assumption) ?_; intro _ _) | (refine abs_n (by with_reducible assumption) ?_; intro _ _)))
  trivial

theorem reg_55 : True := by
  k_with "compareOp NotEq" => ((k_here; refine ne_is (o := fit _) (by with_reducible assumption) (by first | exact is_some (fit_some ⟨by omega, by omega⟩) | exact is_none (fit_none (by omega)) | exact is_none (fit_none fun h => absurd h.2 (by assumption)) | exact is_none (fit_none fun h => absurd h.1 (by omega))) ?_))
  trivial

theorem reg_56 : True := by
  k_with "call ref" => ((k_here; (with_reducible show wpAny _ _ (call (Value.ref 539) _) _ _ _); k_dflt (first | (apply heard_par; (case B => k_asm); (case CH => kn_code); (case F => k_asm); (case X => k_asm); (case N => k_asm); (case hf => k_mem); (case hc => k_mem); (case ha => k_mem); (case hoc => assumption); (case hvs => assumption); (case hom => assumption); (case hx => with_reducible assumption); (case hfig => with_reducible assumption); (case T => k_asm); (case hk => first | exact rfl | with_reducible assumption); (case hd => ktr_room); (case hu => ktr_units); (case' hno => intro t' h' tk' hb' F' N'); (case' hret => intro l' t1' t2' n' k1' k2' k3' h' tk' hb' F' N'); (try k_sweep)) | (apply heard_num; (case B => k_asm); (case CH => kn_code); (case F => k_asm); (case X => k_asm); (case N => k_asm); (case hf => k_mem); (case hc => k_mem); (case ha => k_mem); (case hoc => assumption); (case hvs => assumption); (case hom => assumption); (case hx => first | with_reducible assumption | exact neg_bits (by with_reducible assumption)); (case T => k_asm); (case hk => first | exact rfl | with_reducible assumption); (case hd => ktr_room); (case hu => ktr_units); intro v' h' tk' hv' F' N'; (try k_sweep)) | (apply heard_bnd; (case B => k_asm); (case CH => kn_code); (case F => k_asm); (case X => k_asm); (case N => k_asm); (case hf => k_mem); (case hc => k_mem); (case ha => k_mem); (case hoc => assumption); (case hvs => assumption); (case hom => assumption); (case T => k_asm); (case hk => first | exact rfl | with_reducible assumption); (case hd => ktr_room); (case hu => ktr_units); intro v' h' tk' hv' F' N'; (try k_sweep)))))
  trivial

section
variable {w : World} {p : Program} {loose : List Str} {mean : ExcName → Option Value} {mg mb : Str → Option Value}
  {dp un : Nat} {gd : Option (List Code)} {A₀ : Around} {h₀ : Heap} {L a cc cE cF cM cO cR P : Addr} {m : Str → Option Value} {s : Shared} {Q : Flow → Shared → Prop} {E : Value → Shared → Prop}
theorem tail_c {rest : List (Addr × Obj)} {of oe : Obj} {c' : Addr} {vf : Option Value} {x : Int} {te : Tok}
  (B : Below A₀ h₀ [] h₀) (CH : CodeHd h₀ cc P) (F : Fr h₀ L s.heap m) (X : (K0 w.params).In h₀)
  (N : News h₀ L s.heap ((cF, of) :: (cE, oe) :: (P, tabObj #[rawInt 452, rawInt 0, .ref c']) :: rest)) (hPE : @LT.lt Nat _ P cE) (hEF : @LT.lt Nat _ cE cF) (hre1 : ∀ q ∈ rest, q.1 ≠ P) (hre2 : ∀ q ∈ rest, q.1 ≠ cF)
  (hof : of.data = .cell vf) (hoe : oe.data = .cell (some (.int x te)))
  (hx : Builtin.Int.intBits x ≤ 514) (hlo : 2 ^ 511 ≤ x) (hfig : Fig (sI x) x)
  (hE : PassesOwn (model PySem.Challenge.rw_on0173_01.row.toRowW.prog w) (lawTop dp un gd L a cc cE cF cM cO cR) (lawEnv L a cc cE cF cM cO cR) E)
  (T : Top p loose mean mg mb h₀) (hd : dp + 160 < recursionLimit) (hu : un + 900 < cLine)
  (hret : ∀ m' news' ps h' tk', Fr h₀ L h' m' → News h₀ L h' ((P, tabObj ps) :: news') → Q (.ret (.bool true)) { s with heap := h', toks := tk' }) :
  wpAny (model PySem.Challenge.rw_on0173_01.row.toRowW.prog w) (lawTop dp un gd L a cc cE cF cM cO cR) (execs (List.drop 6 lawBody) (lawEnv L a cc cE cF cM cO cR)) Q E s := by
  have hb : Builtin.Int.intBits x ≤ 512 ↔ (-2 ^ 512 < x ∧ x < 2 ^ 512) := fit_iff x
  have hpos : 0 ≤ x := Int.le_trans (by decide +kernel) hlo
  have hpos1 : 0 < x := Int.lt_of_lt_of_le (by decide +kernel) hlo
  by_cases hc : x < 2 ^ 512
  all_goals
    first
      | (have hc2 : x < 2 ^ Int.toNat 512 := hc)
      | (have hc2 : ¬ x < 2 ^ Int.toNat 512 := hc)
    revert X; k_fill; intro X
    dsimp only [lawBody, bodyIs, List.drop]
    k_steps
    all_goals first
      | exact hret _ _ _ _ _ (by k_asm) (news_add (by k_asm) (by k_mem))
      | exact absurd (hb.mpr ⟨Int.lt_of_lt_of_le (by decide +kernel) hpos, hc⟩) (by assumption)
      | exact absurd (hb.mp (by assumption)).2 hc
end
-- XQ
theorem sign_at {d : Int} (h0 : 0 ≤ d) (h1 : d < 5) : ∃ mk, Mark mk ∧ Txt.item "+-*/%" d = mk := by
  have : d = 0 ∨ d = 1 ∨ d = 2 ∨ d = 3 ∨ d = 4 := by omega
  rcases this with rfl | rfl | rfl | rfl | rfl
  · exact ⟨"+", .inl rfl, by decide +kernel⟩
  · exact ⟨"-", .inr (.inl rfl), by decide +kernel⟩
  · exact ⟨"*", .inr (.inr (.inl rfl)), by decide +kernel⟩
  · exact ⟨"/", .inr (.inr (.inr (.inl rfl))), by decide +kernel⟩
  · exact ⟨"%", .inr (.inr (.inr (.inr rfl))), by decide +kernel⟩
theorem sign_len : (PySem.Str.ofString "+-*/%").length = 5 := by decide +kernel
theorem item_sign {prog : Program} {w : World} {A : Around} {E : Value → Shared → Prop} {s : Shared} {value slice : PySem.Expr} {t u : Tok} {d : Int} {Q : Value → Shared → Prop} (h0 : 0 ≤ d) (h1 : d < 5)
    (h : ∀ mk, Mark mk → Q (.str mk s.toks) { s with toks := s.toks + 1 })
    (hs : subscripted slice false (.str "+-*/%" t) (.int d u) = operate [.str "+-*/%" t, .int d u] (getItem (.str "+-*/%" t) (.int d u)) := by with_unfolding_all rfl)
    (ht : ∀ r, letTemporaryGo value (.str "+-*/%" t) r = pure () := by intro _; with_unfolding_all rfl) :
    wpAny (model prog w) A (subscriptTail value slice (.str "+-*/%" t) (.int d u)) Q E s := by
  obtain ⟨mk, hM, e⟩ := sign_at h0 h1
  exact KXi.item rfl (by omega) (by rw [sign_len]; omega) (by rw [sign_len]; omega) (fun _ => by rw [e]; exact h mk hM) hs ht
theorem reg_57 : True := by
  k_with "subscriptTail" => ((k_here; (with_reducible show wpAny _ _ (subscriptTail _ _ (Value.str _ _) (Value.int _ _)) _ _ _); k_dflt (apply item_sign; (case h0 => with_reducible assumption); (case h1 => with_reducible assumption); (try (case hs => with_unfolding_all rfl)); (try (case ht => intro _; with_unfolding_all rfl)); intro mk' hMk; (try dsimp only))))
  trivial

theorem edge_bits {i : Int} (h1 : -2 ^ 511 ≤ i) (h2 : i ≤ 1) : Builtin.Int.intBits (2 ^ Int.toNat 512 + i) ≤ 514 ∧ 2 ^ 511 ≤ 2 ^ Int.toNat 512 + i := by
  have e : (2 : Int) ^ Int.toNat 512 = 2 ^ 512 := rfl
  rw [e, PySem.intBits_le_iff]
  have e2 : ((2 ^ 514 : Nat) : Int) = 2 ^ 514 := by rfl
  omega
theorem reg_58 : True := by
  k_with "exec For Tuple Tuple cons nil" => ((k_here; k_dflt (first | (refine' outer_c ?Bz1 ?CHz1 ?Fz1 ?Xz1 (drop1 ?Nz1) ?hM1z1 ?hMOz1 ?hORz1 ?hre1z1 ?hre2z1 ?hre3z1 ?hre4z1 ?homz1 ?hooz1 ?horz1 ?hMz1 ?hxz1 ?hyz1 ?hEz1 ?Tz1 ?hdz1 ?huz1 (fun om' oo' or' vm' vo' vr' c' oc' vs' t' h' tk' d1 d2 d3 l1 l2 d4 d5 F' N' => ?_); (case Nz1 => k_asm); (case Bz1 => k_asm); (case CHz1 => kn_code); (case Fz1 => k_asm); (case Xz1 => k_asm); (case hM1z1 => omega); (case hMOz1 => omega); (case hORz1 => omega); (case hre1z1 => k_all); (case hre2z1 => k_all); (case hre3z1 => k_all); (case hre4z1 => k_all); (case homz1 => assumption); (case hooz1 => assumption); (case horz1 => assumption); (case hMz1 => with_reducible assumption); (case hxz1 => exact Nat.le_trans (by assumption) (by decide)); (case hyz1 => exact Nat.le_trans (by assumption) (by decide)); (case hEz1 => passes_own); (case Tz1 => k_asm); (case hdz1 => ktr_room); (case huz1 => ktr_units); (try k_lt l1)) | (refine' outer_c ?Bz2 ?CHz2 ?Fz2 ?Xz2 (drop1 ?Nz2) ?hM1z2 ?hMOz2 ?hORz2 ?hre1z2 ?hre2z2 ?hre3z2 ?hre4z2 ?homz2 ?hooz2 ?horz2 ?hMz2 ?hxz2 ?hyz2 ?hEz2 ?Tz2 ?hdz2 ?huz2 (fun om' oo' or' vm' vo' vr' c' oc' vs' t' h' tk' d1 d2 d3 l1 l2 d4 d5 F' N' => ?_); (case Nz2 => k_asm); (case Bz2 => k_asm); (case CHz2 => kn_code); (case Fz2 => k_asm); (case Xz2 => k_asm); (case hM1z2 => omega); (case hMOz2 => omega); (case hORz2 => omega); (case hre1z2 => k_all); (case hre2z2 => k_all); (case hre3z2 => k_all); (case hre4z2 => k_all); (case homz2 => assumption); (case hooz2 => assumption); (case horz2 => assumption); (case hMz2 => with_reducible assumption); (case hxz2 => exact Nat.le_trans (by assumption) (by decide)); (case hyz2 => exact Nat.le_trans (by assumption) (by decide)); (case hEz2 => passes_own); (case Tz2 => k_asm); (case hdz2 => ktr_room); (case huz2 => ktr_units); (try k_lt l1)) | (refine' outer_c ?Bz3 ?CHz3 ?Fz3 ?Xz3 (drop1 ?Nz3) ?hM1z3 ?hMOz3 ?hORz3 ?hre1z3 ?hre2z3 ?hre3z3 ?hre4z3 ?homz3 ?hooz3 ?horz3 ?hMz3 ?hxz3 ?hyz3 ?hEz3 ?Tz3 ?hdz3 ?huz3 (fun om' oo' or' vm' vo' vr' c' oc' vs' t' h' tk' d1 d2 d3 l1 l2 d4 d5 F' N' => ?_); (case Nz3 => k_asm); (case Bz3 => k_asm); (case CHz3 => kn_code); (case Fz3 => k_asm); (case Xz3 => k_asm); (case hM1z3 => omega); (case hMOz3 => omega); (case hORz3 => omega); (case hre1z3 => k_all); (case hre2z3 => k_all); (case hre3z3 => k_all); (case hre4z3 => k_all); (case homz3 => assumption); (case hooz3 => assumption); (case horz3 => assumption); (case hMz3 => with_reducible assumption); (case hxz3 => exact Nat.le_trans (by assumption) (by decide)); (case hyz3 => exact Nat.le_trans (by assumption) (by decide)); (case hEz3 => passes_own); (case Tz3 => k_asm); (case hdz3 => ktr_room); (case huz3 => ktr_units); (try k_lt l1)))))
  trivial

theorem pick_z {h₀ h : Heap} {L : Addr} {l m1 m2 m3 P c p1 p2 f e : Addr × Obj} (N : News h₀ L h (l :: m1 :: m2 :: m3 :: P :: c :: p1 :: p2 :: f :: e :: [])) : News h₀ L h (f :: e :: P :: []) := fun q hq => N q (by
  simp only [List.mem_cons] at hq ⊢
  rcases hq with h | h | h | h
  · simp [h]
  · simp [h]
  · simp [h]
  · exact absurd h List.not_mem_nil)
theorem reg_59 : True := by
  k_with "execs cons" => ((k_here; (with_reducible show wpAny _ _ (execs (Stmt.For (Expr.Name _ _) (Expr.Tuple [_, _] _ _) _ _ _ :: _) _) _ _ _); k_dflt (first | (refine' tail_c ?Bz1 ?CHz1 ?Fz1 ?Xz1 (pick_z ?Nz1) ?hPEz1 ?hEFz1 ?hre1z1 ?hre2z1 ?hofz1 ?hoez1 ?hxz1 ?hloz1 ?hfigz1 ?hEz1 ?Tz1 ?hdz1 ?huz1 ?hretz1; (case Nz1 => k_asm); (case Bz1 => k_asm); (case CHz1 => kn_code); (case Fz1 => k_asm); (case Xz1 => k_asm); (case hPEz1 => omega); (case hEFz1 => omega); (case hre1z1 => exact fun _ h => nomatch h); (case hre2z1 => exact fun _ h => nomatch h); (case hofz1 => assumption); (case hoez1 => assumption); (case hxz1 => exact (edge_bits (by assumption) (by assumption)).1); (case hloz1 => exact (edge_bits (by assumption) (by assumption)).2); (case hfigz1 => exact fig_sI (Int.le_trans (by decide +kernel) (edge_bits (by assumption) (by assumption)).2) (edge_bits (by assumption) (by assumption)).1); (case hEz1 => passes_own); (case Tz1 => k_asm); (case hdz1 => ktr_room); (case huz1 => ktr_units); (case hretz1 => assumption)) | (refine' tail_c ?Bz2 ?CHz2 ?Fz2 ?Xz2 (pick_z ?Nz2) ?hPEz2 ?hEFz2 ?hre1z2 ?hre2z2 ?hofz2 ?hoez2 ?hxz2 ?hloz2 ?hfigz2 ?hEz2 ?Tz2 ?hdz2 ?huz2 ?hretz2; (case Nz2 => k_asm); (case Bz2 => k_asm); (case CHz2 => kn_code); (case Fz2 => k_asm); (case Xz2 => k_asm); (case hPEz2 => omega); (case hEFz2 => omega); (case hre1z2 => exact fun _ h => nomatch h); (case hre2z2 => exact fun _ h => nomatch h); (case hofz2 => assumption); (case hoez2 => assumption); (case hxz2 => exact (edge_bits (by assumption) (by assumption)).1); (case hloz2 => exact (edge_bits (by assumption) (by assumption)).2); (case hfigz2 => exact fig_sI (Int.le_trans (by decide +kernel) (edge_bits (by assumption) (by assumption)).2) (edge_bits (by assumption) (by assumption)).1); (case hEz2 => passes_own); (case Tz2 => k_asm); (case hdz2 => ktr_room); (case huz2 => ktr_units); (case hretz2 => assumption)) | (refine' tail_c ?Bz3 ?CHz3 ?Fz3 ?Xz3 (pick_z ?Nz3) ?hPEz3 ?hEFz3 ?hre1z3 ?hre2z3 ?hofz3 ?hoez3 ?hxz3 ?hloz3 ?hfigz3 ?hEz3 ?Tz3 ?hdz3 ?huz3 ?hretz3; (case Nz3 => k_asm); (case Bz3 => k_asm); (case CHz3 => kn_code); (case Fz3 => k_asm); (case Xz3 => k_asm); (case hPEz3 => omega); (case hEFz3 => omega); (case hre1z3 => exact fun _ h => nomatch h); (case hre2z3 => exact fun _ h => nomatch h); (case hofz3 => assumption); (case hoez3 => assumption); (case hxz3 => exact (edge_bits (by assumption) (by assumption)).1); (case hloz3 => exact (edge_bits (by assumption) (by assumption)).2); (case hfigz3 => exact fig_sI (Int.le_trans (by decide +kernel) (edge_bits (by assumption) (by assumption)).2) (edge_bits (by assumption) (by assumption)).1); (case hEz3 => passes_own); (case Tz3 => k_asm); (case hdz3 => ktr_room); (case huz3 => ktr_units); (case hretz3 => assumption)))))
  trivial

section
variable {w : World} {p : Program} {loose : List Str} {mean : ExcName → Option Value} {mg mb : Str → Option Value}
  {dp un : Nat} {gd : Option (List Code)} {A₀ : Around} {h₀ : Heap} {L a cc cE cF cM cO cR P : Addr} {m : Str → Option Value} {s : Shared} {Q : Flow → Shared → Prop} {E : Value → Shared → Prop}
theorem rest_c {om oo or of oe : Obj} {vm vo vr vf ve : Option Value} {pen cells : Addr} {vs : List Value} {ns : List Int} {nc n : Nat} {c : Int} {t1 t2 : Tok}
  (B : Below A₀ h₀ [] h₀) (CH : CodeHd h₀ cc P) (F : Fr h₀ L s.heap (fun z => if z = "pen" then some (.ref pen) else m z)) (X : (K0 w.params).In h₀)
  (N : News h₀ L s.heap ((cM, om) :: (cO, oo) :: (cR, or) :: (P, tabObj #[]) :: (pen, listOf #[.ref cells, .int 0 t1, .int c t2] n) :: (cells, listOf vs.toArray nc) :: (cF, of) :: (cE, oe) :: []))
  (hPE : @LT.lt Nat _ P cE) (hEF : @LT.lt Nat _ cE cF) (hFM : @LT.lt Nat _ cF cM) (hMO : @LT.lt Nat _ cM cO) (hOR : @LT.lt Nat _ cO cR) (hRC : @Ne Nat cells cM ∧ @Ne Nat cells cO ∧ @Ne Nat cells cR ∧ @Ne Nat cells cF ∧ @Ne Nat cells cE ∧ @Ne Nat cells P) (hRP : @LT.lt Nat _ cR pen) (hCP : @LT.lt Nat _ cells pen)
  (hI : IntsAre vs ns) (hlen : ns.length ≤ 63)
  (hom : om.data = .cell vm) (hoo : oo.data = .cell vo) (hor : or.data = .cell vr) (hof : of.data = .cell vf) (hoe : oe.data = .cell ve)
  (hE : PassesOwn (model PySem.Challenge.rw_on0173_01.row.toRowW.prog w) (lawTop dp un gd L a cc cE cF cM cO cR) (lawEnv L a cc cE cF cM cO cR) E)
  (T : Top p loose mean mg mb h₀) (hd : dp + 200 < recursionLimit) (hu : un + 1200 < cLine)
  (hret : ∀ m' news' ps h' tk', Fr h₀ L h' m' → News h₀ L h' ((P, tabObj ps) :: news') → Q (.ret (.bool true)) { s with heap := h', toks := tk' }) :
  wpAny (model PySem.Challenge.rw_on0173_01.row.toRowW.prog w) (lawTop dp un gd L a cc cE cF cM cO cR) (execs (List.drop 2 lawBody) (lawEnv L a cc cE cF cM cO cR)) Q E s := by
  revert X; k_fill; intro X
  dsimp only [lawBody, bodyIs, List.drop]
  k_steps
end
-- XR
theorem pick_r {h₀ h : Heap} {L : Addr} {pen cells d1 r o m f e P : Addr × Obj} (N : News h₀ L h [pen, cells, d1, r, o, m, f, e, P]) : News h₀ L h [m, o, r, P, pen, cells, f, e] := fun q hq => N q (by
  simp only [List.mem_cons] at hq ⊢
  rcases hq with h | h | h | h | h | h | h | h | h
  · simp [h]
  · simp [h]
  · simp [h]
  · simp [h]
  · simp [h]
  · simp [h]
  · simp [h]
  · simp [h]
  · exact absurd h List.not_mem_nil)
theorem reg_60 : True := by
  k_with "execs cons" => (((with_reducible show wpAny _ _ (execs (Stmt.Assign [Expr.Tuple [Expr.Name (PySem.Str.ofString "left") _, _] _ _] _ _ :: _) _) _ _ _); k_dflt ((first | (refine' rest_c ?Bz1 ?CHz1 ?Fz1 ?Xz1 (pick_r ?Nz1) ?h1z1 ?h2z1 ?h3z1 ?h4z1 ?h5z1 ?h6z1 ?h8z1 ?h7z1 ?hIz1 ?hlenz1 ?homz1 ?hooz1 ?horz1 ?hofz1 ?hoez1 ?hEz1 ?Tz1 ?hdz1 ?huz1 (fun m' n' ps' h' tk' F' N' => ?_); (case Nz1 => k_asm); (case Fz1 => k_asm); (case Bz1 => k_asm); (case CHz1 => kn_code); (case Xz1 => k_asm); (case h1z1 => omega); (case h2z1 => omega); (case h3z1 => omega); (case h4z1 => omega); (case h5z1 => omega); (case h6z1 => (exact ⟨by k_ne, by k_ne, by k_ne, by k_ne, by k_ne, by k_ne⟩)); (case h8z1 => omega); (case h7z1 => omega); (case hIz1 => assumption); (case hlenz1 => (simp only [List.length_map, List.length_take]; omega)); (case homz1 => assumption); (case hooz1 => assumption); (case horz1 => assumption); (case hofz1 => assumption); (case hoez1 => assumption); (case hEz1 => passes_own); (case Tz1 => k_asm); (case hdz1 => ktr_room); (case huz1 => ktr_units)) | (refine' rest_c ?Bz2 ?CHz2 ?Fz2 ?Xz2 (pick_r ?Nz2) ?h1z2 ?h2z2 ?h3z2 ?h4z2 ?h5z2 ?h6z2 ?h8z2 ?h7z2 ?hIz2 ?hlenz2 ?homz2 ?hooz2 ?horz2 ?hofz2 ?hoez2 ?hEz2 ?Tz2 ?hdz2 ?huz2 (fun m' n' ps' h' tk' F' N' => ?_); (case Nz2 => k_asm); (case Fz2 => k_asm); (case Bz2 => k_asm); (case CHz2 => kn_code); (case Xz2 => k_asm); (case h1z2 => omega); (case h2z2 => omega); (case h3z2 => omega); (case h4z2 => omega); (case h5z2 => omega); (case h6z2 => (exact ⟨by k_ne, by k_ne, by k_ne, by k_ne, by k_ne, by k_ne⟩)); (case h8z2 => omega); (case h7z2 => omega); (case hIz2 => assumption); (case hlenz2 => (simp only [List.length_map, List.length_take]; omega)); (case homz2 => assumption); (case hooz2 => assumption); (case horz2 => assumption); (case hofz2 => assumption); (case hoez2 => assumption); (case hEz2 => passes_own); (case Tz2 => k_asm); (case hdz2 => ktr_room); (case huz2 => ktr_units)) | (refine' rest_c ?Bz3 ?CHz3 ?Fz3 ?Xz3 (pick_r ?Nz3) ?h1z3 ?h2z3 ?h3z3 ?h4z3 ?h5z3 ?h6z3 ?h8z3 ?h7z3 ?hIz3 ?hlenz3 ?homz3 ?hooz3 ?horz3 ?hofz3 ?hoez3 ?hEz3 ?Tz3 ?hdz3 ?huz3 (fun m' n' ps' h' tk' F' N' => ?_); (case Nz3 => k_asm); (case Fz3 => k_asm); (case Bz3 => k_asm); (case CHz3 => kn_code); (case Xz3 => k_asm); (case h1z3 => omega); (case h2z3 => omega); (case h3z3 => omega); (case h4z3 => omega); (case h5z3 => omega); (case h6z3 => (exact ⟨by k_ne, by k_ne, by k_ne, by k_ne, by k_ne, by k_ne⟩)); (case h8z3 => omega); (case h7z3 => omega); (case hIz3 => assumption); (case hlenz3 => (simp only [List.length_map, List.length_take]; omega)); (case homz3 => assumption); (case hooz3 => assumption); (case horz3 => assumption); (case hofz3 => assumption); (case hoez3 => assumption); (case hEz3 => passes_own); (case Tz3 => k_asm); (case hdz3 => ktr_room); (case huz3 => ktr_units))))))
  trivial

theorem law_dev : PySem.Challenge.rw_on0173_01.Holds := top0 (by rfl) (by rfl) (by rfl) (by
  delta HK
  k_go0
  all_goals try k_fold
  k_steps)
end Mine
theorem PySem.Challenge.cw_on0173_01_holds : PySem.Challenge.rw_on0173_01.Holds :=
  Mine.law_dev
