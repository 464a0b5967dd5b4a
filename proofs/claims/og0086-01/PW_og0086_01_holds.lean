import PyProof.Rows.All
import Wide.All
import OpenK.AllK
import Wide.FinOn
import PySem.Challenge.RW_og0086_01
open PySem PySem.W PySem.Calls PyProof.Rows PySem.Spec
set_option Elab.async false
set_option linter.unusedVariables false
set_option linter.unusedSimpArgs false
set_option maxRecDepth 100000
set_option maxHeartbeats 4000000
namespace Mine
noncomputable abbrev kh := PyData.keyHash
/-- the row's statements by their place -/
noncomputable def dAt (i : Nat) : Stmt := PySem.Challenge.pw_og0086_01.main.body.getD i (.Pass default)
noncomputable def mAt (i k : Nat) : Stmt := match dAt i with | .ClassDef _ _ _ b _ _ _ _ _ _ _ => b.getD k (.Pass default) | s => s
noncomputable def fPar : Stmt → Arguments | .FunctionDef _ a _ _ _ _ _ _ _ _ => a | _ => default
noncomputable def fBody : Stmt → List Stmt | .FunctionDef _ _ b _ _ _ _ _ _ _ => b | _ => []
noncomputable def fScope : Stmt → Scope | .FunctionDef _ _ _ _ _ _ sc _ _ _ => sc | _ => default
noncomputable abbrev fnO (st : Stmt) (name qual : Str) (dv pm : Value) (code : Nat) : Obj :=
  ⟨.type "function", none, .func ⟨name, qual, fPar st, .stmts (fBody st), fScope st, 3, [], dv, .none, .none, pm, none, .ref code, .none, 0⟩, #[]⟩
/-- what the row's top leaves -/
noncomputable def KK (P : Params) : Frag := [
(2,⟨.none,none,(.dict #[⟨(kh P "type.__subclasses__.Exception.0"),(.str "type.__subclasses__.Exception.0" 267),(.int 68 0)⟩,⟨(kh P "type.__subclasses__.Exception.n"),(.str "type.__subclasses__.Exception.n" 268),(.int 1 0)⟩] 2),#[]⟩),
(3,⟨(.type "dict"),none,(.dict #[⟨(kh P "__name__"),(.str "__name__" 165),(.str "law_og0086_01" 541)⟩,⟨(kh P "__doc__"),(.str "__doc__" 166),.none⟩,⟨(kh P "__package__"),(.str "__package__" 167),.none⟩,⟨(kh P "__loader__"),(.str "__loader__" 168),(.builtin "__main__.__loader__#opaque")⟩,⟨(kh P "__spec__"),(.str "__spec__" 169),.none⟩,⟨(kh P "__annotations__"),(.str "__annotations__" 170),(.ref 6)⟩,⟨(kh P "__builtins__"),(.str "__builtins__" 171),(.ref 4)⟩,⟨(kh P "__file__"),(.str "__file__" 173),(.str "/claim/cut.py" 172)⟩,⟨(kh P "__cached__"),(.str "__cached__" 174),.none⟩,⟨(kh P "QUOTES"),(.str "QUOTES" 190),(.str "\"'" 189)⟩,⟨(kh P "Line"),(.str "Line" 228),(.ref 38)⟩,⟨(kh P "LedgerError"),(.str "LedgerError" 270),(.ref 68)⟩,⟨(kh P "TokenFault"),(.str "TokenFault" 286),(.ref 81)⟩,⟨(kh P "LETTERS"),(.str "LETTERS" 290),(.str "ABCDEFGHIJKLMNOPQRSTUVWXYZ" 289)⟩,⟨(kh P "FIGURES"),(.str "FIGURES" 292),(.str "0123456789" 291)⟩,⟨(kh P "WORD_SIGNS"),(.str "WORD_SIGNS" 296),(.str "ABCDEFGHIJKLMNOPQRSTUVWXYZ0123456789-" 295)⟩,⟨(kh P "SINGLE_SIGNS"),(.str "SINGLE_SIGNS" 298),(.str "():+-*/=<>" 297)⟩,⟨(kh P "DOUBLE_SIGNS"),(.str "DOUBLE_SIGNS" 300),(.str "** <= >=" 299)⟩,⟨(kh P "ENDS"),(.str "ENDS" 302),(.str ".,;" 301)⟩,⟨(kh P "MOST_WORD"),(.str "MOST_WORD" 304),(.int 30 303)⟩,⟨(kh P "MOST_FIGURES"),(.str "MOST_FIGURES" 306),(.int 18 305)⟩,⟨(kh P "MOST_LITERAL"),(.str "MOST_LITERAL" 308),(.int 160 307)⟩,⟨(kh P "Token"),(.str "Token" 352),(.ref 109)⟩,⟨(kh P "capital_of"),(.str "capital_of" 359),(.ref 120)⟩,⟨(kh P "capitals"),(.str "capitals" 365),(.ref 125)⟩,⟨(kh P "is_word_sign"),(.str "is_word_sign" 372),(.ref 132)⟩,⟨(kh P "is_parted"),(.str "is_parted" 380),(.ref 139)⟩,⟨(kh P "line_fault"),(.str "line_fault" 389),(.ref 146)⟩,⟨(kh P "run_end"),(.str "run_end" 398),(.ref 153)⟩,⟨(kh P "number_end"),(.str "number_end" 407),(.ref 160)⟩,⟨(kh P "literal_end"),(.str "literal_end" 417),(.ref 167)⟩,⟨(kh P "picture_end"),(.str "picture_end" 426),(.ref 174)⟩,⟨(kh P "checked_word"),(.str "checked_word" 432),(.ref 179)⟩,⟨(kh P "checked_number"),(.str "checked_number" 442),(.ref 186)⟩,⟨(kh P "checked_literal"),(.str "checked_literal" 453),(.ref 193)⟩,⟨(kh P "checked_picture"),(.str "checked_picture" 462),(.ref 200)⟩,⟨(kh P "need_apart"),(.str "need_apart" 471),(.ref 207)⟩,⟨(kh P "mark_at"),(.str "mark_at" 481),(.ref 214)⟩,⟨(kh P "worth_at"),(.str "worth_at" 494),(.ref 221)⟩,⟨(kh P "is_blank_at"),(.str "is_blank_at" 502),(.ref 228)⟩,⟨(kh P "is_picture_next"),(.str "is_picture_next" 509),(.ref 235)⟩,⟨(kh P "add_tokens"),(.str "add_tokens" 523),(.ref 242)⟩,⟨(kh P "is_word_is"),(.str "is_word_is" 531),(.ref 249)⟩,⟨(kh P "tokens_of"),(.str "tokens_of" 540),(.ref 256)⟩,⟨(kh P "_law_figures"),(.str "_law_figures" 544),(.str "0123456789" 543)⟩,⟨(kh P "_law_letters"),(.str "_law_letters" 546),(.str "ABCDEFGHIJKLMNOPQRSTUVWXYZ" 545)⟩,⟨(kh P "_law_piece"),(.str "_law_piece" 555),(.ref 263)⟩,⟨(kh P "_law_text"),(.str "_law_text" 566),(.ref 270)⟩,⟨(kh P "_law_run"),(.str "_law_run" 575),(.ref 277)⟩,⟨(kh P "_law_apart"),(.str "_law_apart" 583),(.ref 284)⟩,⟨(kh P "_law_quoted"),(.str "_law_quoted" 594),(.ref 291)⟩,⟨(kh P "_law_next"),(.str "_law_next" 600),(.ref 296)⟩,⟨(kh P "_law_read"),(.str "_law_read" 613),(.ref 303)⟩,⟨(kh P "_law_right"),(.str "_law_right" 619),(.ref 308)⟩,⟨(kh P "law"),(.str "law" 628),(.ref 315)⟩] 55),#[]⟩),
(22,⟨(.type "tuple"),none,(.seq #[] 0),#[]⟩),
(24,⟨(.type "tuple"),none,(.seq #[(.str "self" 206),(.str "text" 207),(.str "spots" 208)] 0),#[]⟩),
(25,⟨(.type "tuple"),none,(.seq #[] 0),#[]⟩),
(27,⟨(.type "code"),none,(.fields #[(.str "__init__" 203),(.str "Line.__init__" 204),(.str "/claim/cut.py" 205),(.int 5 0),(.int 3 0),(.int 0 0),(.int 0 0),(.int 3 0),(.ref 22),(.bool true),(.int 181 0),(.ref 23),.none,(.ref 24),(.ref 25),(.ref 26),(.int 209 0),(.int 5 0),(.str "/claim/cut.py" 210)]),#[]⟩),
(28,fnO (mAt 2 0) "__init__" "Line.__init__" .none (.str "ledgerspeak.columns" 187) 27),
(29,⟨(.type "tuple"),none,(.seq #[] 0),#[]⟩),
(31,⟨(.type "tuple"),none,(.seq #[(.str "self" 215)] 0),#[]⟩),
(32,⟨(.type "tuple"),none,(.seq #[] 0),#[]⟩),
(34,⟨(.type "code"),none,(.fields #[(.str "told" 212),(.str "Line.told" 213),(.str "/claim/cut.py" 214),(.int 9 0),(.int 1 0),(.int 0 0),(.int 0 0),(.int 3 0),(.ref 29),(.bool true),(.int 181 0),(.ref 30),.none,(.ref 31),(.ref 32),(.ref 33),(.int 216 0),(.int 9 0),(.str "/claim/cut.py" 217)]),#[]⟩),
(35,fnO (mAt 2 1) "told" "Line.told" .none (.str "ledgerspeak.columns" 187) 34),
(36,⟨(.type "tuple"),none,(.seq #[(.str "places" 219),(.str "text" 220)] 0),#[]⟩),
(37,⟨(.type "dict"),none,(.dict #[⟨(kh P "__module__"),(.str "__module__" 198),(.str "ledgerspeak.columns" 187)⟩,⟨(kh P "__firstlineno__"),(.str "__firstlineno__" 202),(.int 3 201)⟩,⟨(kh P "__init__"),(.str "__init__" 211),(.ref 28)⟩,⟨(kh P "told"),(.str "told" 218),(.ref 35)⟩,⟨(kh P "__static_attributes__"),(.str "__static_attributes__" 221),(.ref 36)⟩,⟨(kh P "__dict__"),(.str "__dict__" 223),(.ref 39)⟩,⟨(kh P "__weakref__"),(.str "__weakref__" 225),(.ref 40)⟩,⟨(kh P "__doc__"),(.str "__doc__" 226),.none⟩] 4),#[]⟩),
(38,⟨(.type "type"),none,(.cls ⟨"Line",[(.type "object")],[(.ref 38),(.type "object")],37,"Line",true,[],[],false,none,false⟩),#[none,none,(some (.str "Line" 191)),(some (.str "Line" 199)),(some (.builtin "object.__new__")),(some (.bool true))]⟩),
(39,⟨(.type "getset_descriptor"),none,(.fields #[(.str "__dict__" 222),(.ref 38),(.builtin "function.__dict__"),(.builtin "function.__dict__#set")]),#[]⟩),
(40,⟨(.type "getset_descriptor"),none,(.fields #[(.str "__weakref__" 224),(.ref 38),(.builtin "ExceptionGroup.__weakref__"),.none]),#[]⟩),
(43,⟨(.type "tuple"),none,(.seq #[(.type "Exception")] 0),#[]⟩),
(50,⟨(.type "tuple"),none,(.seq #[(.int 0 243),(.int 0 244)] 0),#[]⟩),
(51,⟨(.type "tuple"),none,(.seq #[(.ref 50)] 0),#[]⟩),
(52,⟨(.type "tuple"),none,(.seq #[] 0),#[]⟩),
(54,⟨(.type "tuple"),none,(.seq #[(.str "self" 248),(.str "what" 249),(.str "at" 250)] 0),#[]⟩),
(55,⟨(.type "tuple"),none,(.seq #[] 0),#[]⟩),
(57,⟨(.type "code"),none,(.fields #[(.str "__init__" 245),(.str "LedgerError.__init__" 246),(.str "/claim/cut.py" 247),(.int 14 0),(.int 3 0),(.int 0 0),(.int 0 0),(.int 3 0),(.ref 52),(.bool true),(.int 181 0),(.ref 53),.none,(.ref 54),(.ref 55),(.ref 56),(.int 251 0),(.int 14 0),(.str "/claim/cut.py" 252)]),#[]⟩),
(58,fnO (mAt 4 0) "__init__" "LedgerError.__init__" (.ref 51) (.str "ledgerspeak.errors" 229) 57),
(59,⟨(.type "tuple"),none,(.seq #[] 0),#[]⟩),
(61,⟨(.type "tuple"),none,(.seq #[(.str "self" 257)] 0),#[]⟩),
(62,⟨(.type "tuple"),none,(.seq #[] 0),#[]⟩),
(64,⟨(.type "code"),none,(.fields #[(.str "told" 254),(.str "LedgerError.told" 255),(.str "/claim/cut.py" 256),(.int 19 0),(.int 1 0),(.int 0 0),(.int 0 0),(.int 3 0),(.ref 59),(.bool true),(.int 181 0),(.ref 60),.none,(.ref 61),(.ref 62),(.ref 63),(.int 258 0),(.int 19 0),(.str "/claim/cut.py" 259)]),#[]⟩),
(65,fnO (mAt 4 1) "told" "LedgerError.told" .none (.str "ledgerspeak.errors" 229) 64),
(66,⟨(.type "tuple"),none,(.seq #[(.str "at" 261),(.str "what" 262)] 0),#[]⟩),
(67,⟨(.type "dict"),none,(.dict #[⟨(kh P "__module__"),(.str "__module__" 238),(.str "ledgerspeak.errors" 229)⟩,⟨(kh P "__firstlineno__"),(.str "__firstlineno__" 242),(.int 12 241)⟩,⟨(kh P "__init__"),(.str "__init__" 253),(.ref 58)⟩,⟨(kh P "told"),(.str "told" 260),(.ref 65)⟩,⟨(kh P "__static_attributes__"),(.str "__static_attributes__" 263),(.ref 66)⟩,⟨(kh P "__weakref__"),(.str "__weakref__" 265),(.ref 69)⟩,⟨(kh P "__doc__"),(.str "__doc__" 266),.none⟩] 3),#[]⟩),
(68,⟨(.type "type"),none,(.cls ⟨"LedgerError",[(.type "Exception")],[(.ref 68),(.type "Exception"),(.type "BaseException"),(.type "object")],67,"LedgerError",true,[],[(.ref 81)],false,none,false⟩),#[(some (.ref 43)),none,(some (.str "LedgerError" 231)),(some (.str "LedgerError" 239)),(some (.builtin "Exception.__new__")),(some (.bool true))]⟩),
(69,⟨(.type "getset_descriptor"),none,(.fields #[(.str "__weakref__" 264),(.ref 68),(.builtin "ExceptionGroup.__weakref__"),.none]),#[]⟩),
(72,⟨(.type "tuple"),none,(.seq #[(.ref 68)] 0),#[]⟩),
(79,⟨(.type "tuple"),none,(.seq #[] 0),#[]⟩),
(80,⟨(.type "dict"),none,(.dict #[⟨(kh P "__module__"),(.str "__module__" 278),(.str "ledgerspeak.errors" 229)⟩,⟨(kh P "__firstlineno__"),(.str "__firstlineno__" 282),(.int 21 281)⟩,⟨(kh P "__static_attributes__"),(.str "__static_attributes__" 283),(.ref 79)⟩,⟨(kh P "__doc__"),(.str "__doc__" 284),.none⟩] 2),#[]⟩),
(81,⟨(.type "type"),none,(.cls ⟨"TokenFault",[(.ref 68)],[(.ref 81),(.ref 68),(.type "Exception"),(.type "BaseException"),(.type "object")],80,"TokenFault",true,[],[],false,none,false⟩),#[(some (.ref 72)),none,(some (.str "TokenFault" 271)),(some (.str "TokenFault" 279)),(some (.builtin "Exception.__new__")),(some (.bool true))]⟩),
(91,⟨(.type "tuple"),none,(.seq #[(.int 0 321),(.int 0 322)] 0),#[]⟩),
(92,⟨(.type "tuple"),none,(.seq #[(.ref 91),(.bool false)] 0),#[]⟩),
(93,⟨(.type "tuple"),none,(.seq #[] 0),#[]⟩),
(95,⟨(.type "tuple"),none,(.seq #[(.str "self" 326),(.str "kind" 327),(.str "worth" 328),(.str "at" 329),(.str "is_in_a" 330)] 0),#[]⟩),
(96,⟨(.type "tuple"),none,(.seq #[] 0),#[]⟩),
(98,⟨(.type "code"),none,(.fields #[(.str "__init__" 323),(.str "Token.__init__" 324),(.str "/claim/cut.py" 325),(.int 35 0),(.int 5 0),(.int 0 0),(.int 0 0),(.int 3 0),(.ref 93),(.bool true),(.int 181 0),(.ref 94),.none,(.ref 95),(.ref 96),(.ref 97),(.int 331 0),(.int 35 0),(.str "/claim/cut.py" 332)]),#[]⟩),
(99,fnO (mAt 16 0) "__init__" "Token.__init__" (.ref 92) (.str "ledgerspeak.tokens" 287) 98),
(100,⟨(.type "tuple"),none,(.seq #[] 0),#[]⟩),
(102,⟨(.type "tuple"),none,(.seq #[(.str "self" 337)] 0),#[]⟩),
(103,⟨(.type "tuple"),none,(.seq #[] 0),#[]⟩),
(105,⟨(.type "code"),none,(.fields #[(.str "told" 334),(.str "Token.told" 335),(.str "/claim/cut.py" 336),(.int 41 0),(.int 1 0),(.int 0 0),(.int 0 0),(.int 3 0),(.ref 100),(.bool true),(.int 181 0),(.ref 101),.none,(.ref 102),(.ref 103),(.ref 104),(.int 338 0),(.int 41 0),(.str "/claim/cut.py" 339)]),#[]⟩),
(106,fnO (mAt 16 1) "told" "Token.told" .none (.str "ledgerspeak.tokens" 287) 105),
(107,⟨(.type "tuple"),none,(.seq #[(.str "at" 341),(.str "is_in_a" 342),(.str "kind" 343),(.str "worth" 344)] 0),#[]⟩),
(108,⟨(.type "dict"),none,(.dict #[⟨(kh P "__module__"),(.str "__module__" 316),(.str "ledgerspeak.tokens" 287)⟩,⟨(kh P "__firstlineno__"),(.str "__firstlineno__" 320),(.int 33 319)⟩,⟨(kh P "__init__"),(.str "__init__" 333),(.ref 99)⟩,⟨(kh P "told"),(.str "told" 340),(.ref 106)⟩,⟨(kh P "__static_attributes__"),(.str "__static_attributes__" 345),(.ref 107)⟩,⟨(kh P "__dict__"),(.str "__dict__" 347),(.ref 110)⟩,⟨(kh P "__weakref__"),(.str "__weakref__" 349),(.ref 111)⟩,⟨(kh P "__doc__"),(.str "__doc__" 350),.none⟩] 4),#[]⟩),
(109,⟨(.type "type"),none,(.cls ⟨"Token",[(.type "object")],[(.ref 109),(.type "object")],108,"Token",true,[],[],false,none,false⟩),#[none,none,(some (.str "Token" 309)),(some (.str "Token" 317)),(some (.builtin "object.__new__")),(some (.bool true))]⟩),
(110,⟨(.type "getset_descriptor"),none,(.fields #[(.str "__dict__" 346),(.ref 109),(.builtin "function.__dict__"),(.builtin "function.__dict__#set")]),#[]⟩),
(111,⟨(.type "getset_descriptor"),none,(.fields #[(.str "__weakref__" 348),(.ref 109),(.builtin "ExceptionGroup.__weakref__"),.none]),#[]⟩),
(114,⟨(.type "tuple"),none,(.seq #[] 0),#[]⟩),
(116,⟨(.type "tuple"),none,(.seq #[(.str "sign" 356)] 0),#[]⟩),
(117,⟨(.type "tuple"),none,(.seq #[] 0),#[]⟩),
(119,⟨(.type "code"),none,(.fields #[(.str "capital_of" 353),(.str "capital_of" 354),(.str "/claim/cut.py" 355),(.int 43 0),(.int 1 0),(.int 0 0),(.int 0 0),(.int 3 0),(.ref 114),(.bool true),(.int 181 0),(.ref 115),.none,(.ref 116),(.ref 117),(.ref 118),(.int 357 0),(.int 43 0),(.str "/claim/cut.py" 358)]),#[]⟩),
(120,fnO (dAt 17) "capital_of" "capital_of" .none (.str "ledgerspeak.tokens" 287) 119),
(121,⟨(.type "tuple"),none,(.seq #[] 0),#[]⟩),
(124,⟨(.type "code"),none,(.fields #[(.str "capitals" 360),(.str "capitals" 361),(.str "/claim/cut.py" 362),(.int 45 0),(.int 1 0),(.int 0 0),(.int 0 0),(.int 3 0),(.ref 121),(.bool true),(.int 181 0),(.ref 122),.none,.none,.none,(.ref 123),(.int 363 0),(.int 45 0),(.str "/claim/cut.py" 364)]),#[]⟩),
(125,fnO (dAt 18) "capitals" "capitals" .none (.str "ledgerspeak.tokens" 287) 124),
(126,⟨(.type "tuple"),none,(.seq #[] 0),#[]⟩),
(128,⟨(.type "tuple"),none,(.seq #[(.str "sign" 369)] 0),#[]⟩),
(129,⟨(.type "tuple"),none,(.seq #[] 0),#[]⟩),
(131,⟨(.type "code"),none,(.fields #[(.str "is_word_sign" 366),(.str "is_word_sign" 367),(.str "/claim/cut.py" 368),(.int 47 0),(.int 1 0),(.int 0 0),(.int 0 0),(.int 3 0),(.ref 126),(.bool true),(.int 181 0),(.ref 127),.none,(.ref 128),(.ref 129),(.ref 130),(.int 370 0),(.int 47 0),(.str "/claim/cut.py" 371)]),#[]⟩),
(132,fnO (dAt 19) "is_word_sign" "is_word_sign" .none (.str "ledgerspeak.tokens" 287) 131),
(133,⟨(.type "tuple"),none,(.seq #[] 0),#[]⟩),
(135,⟨(.type "tuple"),none,(.seq #[(.str "text" 376),(.str "at" 377)] 0),#[]⟩),
(136,⟨(.type "tuple"),none,(.seq #[] 0),#[]⟩),
(138,⟨(.type "code"),none,(.fields #[(.str "is_parted" 373),(.str "is_parted" 374),(.str "/claim/cut.py" 375),(.int 49 0),(.int 2 0),(.int 0 0),(.int 0 0),(.int 3 0),(.ref 133),(.bool true),(.int 181 0),(.ref 134),.none,(.ref 135),(.ref 136),(.ref 137),(.int 378 0),(.int 49 0),(.str "/claim/cut.py" 379)]),#[]⟩),
(139,fnO (dAt 20) "is_parted" "is_parted" .none (.str "ledgerspeak.tokens" 287) 138),
(140,⟨(.type "tuple"),none,(.seq #[] 0),#[]⟩),
(142,⟨(.type "tuple"),none,(.seq #[(.str "line" 384),(.str "at" 385),(.str "what" 386)] 0),#[]⟩),
(143,⟨(.type "tuple"),none,(.seq #[] 0),#[]⟩),
(145,⟨(.type "code"),none,(.fields #[(.str "line_fault" 381),(.str "line_fault" 382),(.str "/claim/cut.py" 383),(.int 51 0),(.int 3 0),(.int 0 0),(.int 0 0),(.int 3 0),(.ref 140),(.bool true),(.int 181 0),(.ref 141),.none,(.ref 142),(.ref 143),(.ref 144),(.int 387 0),(.int 51 0),(.str "/claim/cut.py" 388)]),#[]⟩),
(146,fnO (dAt 21) "line_fault" "line_fault" .none (.str "ledgerspeak.tokens" 287) 145),
(147,⟨(.type "tuple"),none,(.seq #[] 0),#[]⟩),
(149,⟨(.type "tuple"),none,(.seq #[(.str "text" 393),(.str "at" 394),(.str "signs" 395)] 0),#[]⟩),
(150,⟨(.type "tuple"),none,(.seq #[] 0),#[]⟩),
(152,⟨(.type "code"),none,(.fields #[(.str "run_end" 390),(.str "run_end" 391),(.str "/claim/cut.py" 392),(.int 53 0),(.int 3 0),(.int 0 0),(.int 0 0),(.int 3 0),(.ref 147),(.bool true),(.int 181 0),(.ref 148),.none,(.ref 149),(.ref 150),(.ref 151),(.int 396 0),(.int 53 0),(.str "/claim/cut.py" 397)]),#[]⟩),
(153,fnO (dAt 22) "run_end" "run_end" .none (.str "ledgerspeak.tokens" 287) 152),
(154,⟨(.type "tuple"),none,(.seq #[] 0),#[]⟩),
(156,⟨(.type "tuple"),none,(.seq #[(.str "text" 402),(.str "at" 403),(.str "end" 404)] 0),#[]⟩),
(157,⟨(.type "tuple"),none,(.seq #[] 0),#[]⟩),
(159,⟨(.type "code"),none,(.fields #[(.str "number_end" 399),(.str "number_end" 400),(.str "/claim/cut.py" 401),(.int 57 0),(.int 2 0),(.int 0 0),(.int 0 0),(.int 3 0),(.ref 154),(.bool true),(.int 181 0),(.ref 155),.none,(.ref 156),(.ref 157),(.ref 158),(.int 405 0),(.int 57 0),(.str "/claim/cut.py" 406)]),#[]⟩),
(160,fnO (dAt 23) "number_end" "number_end" .none (.str "ledgerspeak.tokens" 287) 159),
(161,⟨(.type "tuple"),none,(.seq #[] 0),#[]⟩),
(163,⟨(.type "tuple"),none,(.seq #[(.str "line" 411),(.str "at" 412),(.str "quote" 413),(.str "end" 414)] 0),#[]⟩),
(164,⟨(.type "tuple"),none,(.seq #[] 0),#[]⟩),
(166,⟨(.type "code"),none,(.fields #[(.str "literal_end" 408),(.str "literal_end" 409),(.str "/claim/cut.py" 410),(.int 62 0),(.int 2 0),(.int 0 0),(.int 0 0),(.int 3 0),(.ref 161),(.bool true),(.int 181 0),(.ref 162),.none,(.ref 163),(.ref 164),(.ref 165),(.int 415 0),(.int 62 0),(.str "/claim/cut.py" 416)]),#[]⟩),
(167,fnO (dAt 24) "literal_end" "literal_end" .none (.str "ledgerspeak.tokens" 287) 166),
(168,⟨(.type "tuple"),none,(.seq #[] 0),#[]⟩),
(170,⟨(.type "tuple"),none,(.seq #[(.str "text" 421),(.str "at" 422),(.str "end" 423)] 0),#[]⟩),
(171,⟨(.type "tuple"),none,(.seq #[] 0),#[]⟩),
(173,⟨(.type "code"),none,(.fields #[(.str "picture_end" 418),(.str "picture_end" 419),(.str "/claim/cut.py" 420),(.int 73 0),(.int 2 0),(.int 0 0),(.int 0 0),(.int 3 0),(.ref 168),(.bool true),(.int 181 0),(.ref 169),.none,(.ref 170),(.ref 171),(.ref 172),(.int 424 0),(.int 73 0),(.str "/claim/cut.py" 425)]),#[]⟩),
(174,fnO (dAt 25) "picture_end" "picture_end" .none (.str "ledgerspeak.tokens" 287) 173),
(175,⟨(.type "tuple"),none,(.seq #[] 0),#[]⟩),
(178,⟨(.type "code"),none,(.fields #[(.str "checked_word" 427),(.str "checked_word" 428),(.str "/claim/cut.py" 429),(.int 78 0),(.int 3 0),(.int 0 0),(.int 0 0),(.int 3 0),(.ref 175),(.bool true),(.int 181 0),(.ref 176),.none,.none,.none,(.ref 177),(.int 430 0),(.int 78 0),(.str "/claim/cut.py" 431)]),#[]⟩),
(179,fnO (dAt 26) "checked_word" "checked_word" .none (.str "ledgerspeak.tokens" 287) 178),
(180,⟨(.type "tuple"),none,(.seq #[] 0),#[]⟩),
(182,⟨(.type "tuple"),none,(.seq #[(.str "line" 436),(.str "at" 437),(.str "end" 438),(.str "worth" 439)] 0),#[]⟩),
(183,⟨(.type "tuple"),none,(.seq #[] 0),#[]⟩),
(185,⟨(.type "code"),none,(.fields #[(.str "checked_number" 433),(.str "checked_number" 434),(.str "/claim/cut.py" 435),(.int 87 0),(.int 3 0),(.int 0 0),(.int 0 0),(.int 3 0),(.ref 180),(.bool true),(.int 181 0),(.ref 181),.none,(.ref 182),(.ref 183),(.ref 184),(.int 440 0),(.int 87 0),(.str "/claim/cut.py" 441)]),#[]⟩),
(186,fnO (dAt 27) "checked_number" "checked_number" .none (.str "ledgerspeak.tokens" 287) 185),
(187,⟨(.type "tuple"),none,(.seq #[] 0),#[]⟩),
(189,⟨(.type "tuple"),none,(.seq #[(.str "line" 446),(.str "at" 447),(.str "end" 448),(.str "quote" 449),(.str "worth" 450)] 0),#[]⟩),
(190,⟨(.type "tuple"),none,(.seq #[] 0),#[]⟩),
(192,⟨(.type "code"),none,(.fields #[(.str "checked_literal" 443),(.str "checked_literal" 444),(.str "/claim/cut.py" 445),(.int 92 0),(.int 3 0),(.int 0 0),(.int 0 0),(.int 3 0),(.ref 187),(.bool true),(.int 181 0),(.ref 188),.none,(.ref 189),(.ref 190),(.ref 191),(.int 451 0),(.int 92 0),(.str "/claim/cut.py" 452)]),#[]⟩),
(193,fnO (dAt 28) "checked_literal" "checked_literal" .none (.str "ledgerspeak.tokens" 287) 192),
(194,⟨(.type "tuple"),none,(.seq #[] 0),#[]⟩),
(196,⟨(.type "tuple"),none,(.seq #[(.str "line" 457),(.str "at" 458),(.str "end" 459)] 0),#[]⟩),
(197,⟨(.type "tuple"),none,(.seq #[] 0),#[]⟩),
(199,⟨(.type "code"),none,(.fields #[(.str "checked_picture" 454),(.str "checked_picture" 455),(.str "/claim/cut.py" 456),(.int 98 0),(.int 2 0),(.int 0 0),(.int 0 0),(.int 3 0),(.ref 194),(.bool true),(.int 181 0),(.ref 195),.none,(.ref 196),(.ref 197),(.ref 198),(.int 460 0),(.int 98 0),(.str "/claim/cut.py" 461)]),#[]⟩),
(200,fnO (dAt 29) "checked_picture" "checked_picture" .none (.str "ledgerspeak.tokens" 287) 199),
(201,⟨(.type "tuple"),none,(.seq #[] 0),#[]⟩),
(203,⟨(.type "tuple"),none,(.seq #[(.str "line" 466),(.str "end" 467),(.str "behind" 468)] 0),#[]⟩),
(204,⟨(.type "tuple"),none,(.seq #[] 0),#[]⟩),
(206,⟨(.type "code"),none,(.fields #[(.str "need_apart" 463),(.str "need_apart" 464),(.str "/claim/cut.py" 465),(.int 103 0),(.int 2 0),(.int 0 0),(.int 0 0),(.int 3 0),(.ref 201),(.bool true),(.int 181 0),(.ref 202),.none,(.ref 203),(.ref 204),(.ref 205),(.int 469 0),(.int 103 0),(.str "/claim/cut.py" 470)]),#[]⟩),
(207,fnO (dAt 30) "need_apart" "need_apart" .none (.str "ledgerspeak.tokens" 287) 206),
(208,⟨(.type "tuple"),none,(.seq #[] 0),#[]⟩),
(210,⟨(.type "tuple"),none,(.seq #[(.str "line" 475),(.str "at" 476),(.str "pair" 477),(.str "sign" 478)] 0),#[]⟩),
(211,⟨(.type "tuple"),none,(.seq #[] 0),#[]⟩),
(213,⟨(.type "code"),none,(.fields #[(.str "mark_at" 472),(.str "mark_at" 473),(.str "/claim/cut.py" 474),(.int 111 0),(.int 2 0),(.int 0 0),(.int 0 0),(.int 3 0),(.ref 208),(.bool true),(.int 181 0),(.ref 209),.none,(.ref 210),(.ref 211),(.ref 212),(.int 479 0),(.int 111 0),(.str "/claim/cut.py" 480)]),#[]⟩),
(214,fnO (dAt 31) "mark_at" "mark_at" .none (.str "ledgerspeak.tokens" 287) 213),
(215,⟨(.type "tuple"),none,(.seq #[] 0),#[]⟩),
(217,⟨(.type "tuple"),none,(.seq #[(.str "line" 485),(.str "at" 486),(.str "sign" 487),(.str "end" 488),(.str "behind" 489),(.str "kind" 490),(.str "worth" 491)] 0),#[]⟩),
(218,⟨(.type "tuple"),none,(.seq #[] 0),#[]⟩),
(220,⟨(.type "code"),none,(.fields #[(.str "worth_at" 482),(.str "worth_at" 483),(.str "/claim/cut.py" 484),(.int 121 0),(.int 2 0),(.int 0 0),(.int 0 0),(.int 3 0),(.ref 215),(.bool true),(.int 181 0),(.ref 216),.none,(.ref 217),(.ref 218),(.ref 219),(.int 492 0),(.int 121 0),(.str "/claim/cut.py" 493)]),#[]⟩),
(221,fnO (dAt 32) "worth_at" "worth_at" .none (.str "ledgerspeak.tokens" 287) 220),
(222,⟨(.type "tuple"),none,(.seq #[] 0),#[]⟩),
(224,⟨(.type "tuple"),none,(.seq #[(.str "text" 498),(.str "at" 499)] 0),#[]⟩),
(225,⟨(.type "tuple"),none,(.seq #[] 0),#[]⟩),
(227,⟨(.type "code"),none,(.fields #[(.str "is_blank_at" 495),(.str "is_blank_at" 496),(.str "/claim/cut.py" 497),(.int 141 0),(.int 2 0),(.int 0 0),(.int 0 0),(.int 3 0),(.ref 222),(.bool true),(.int 181 0),(.ref 223),.none,(.ref 224),(.ref 225),(.ref 226),(.int 500 0),(.int 141 0),(.str "/claim/cut.py" 501)]),#[]⟩),
(228,fnO (dAt 33) "is_blank_at" "is_blank_at" .none (.str "ledgerspeak.tokens" 287) 227),
(229,⟨(.type "tuple"),none,(.seq #[] 0),#[]⟩),
(231,⟨(.type "tuple"),none,(.seq #[(.str "tokens" 506)] 0),#[]⟩),
(232,⟨(.type "tuple"),none,(.seq #[] 0),#[]⟩),
(234,⟨(.type "code"),none,(.fields #[(.str "is_picture_next" 503),(.str "is_picture_next" 504),(.str "/claim/cut.py" 505),(.int 143 0),(.int 1 0),(.int 0 0),(.int 0 0),(.int 3 0),(.ref 229),(.bool true),(.int 181 0),(.ref 230),.none,(.ref 231),(.ref 232),(.ref 233),(.int 507 0),(.int 143 0),(.str "/claim/cut.py" 508)]),#[]⟩),
(235,fnO (dAt 34) "is_picture_next" "is_picture_next" .none (.str "ledgerspeak.tokens" 287) 234),
(236,⟨(.type "tuple"),none,(.seq #[] 0),#[]⟩),
(238,⟨(.type "tuple"),none,(.seq #[(.str "tokens" 513),(.str "line" 514),(.str "at" 515),(.str "was_is" 516),(.str "place" 517),(.str "kind" 518),(.str "worth" 519),(.str "end" 520)] 0),#[]⟩),
(239,⟨(.type "tuple"),none,(.seq #[] 0),#[]⟩),
(241,⟨(.type "code"),none,(.fields #[(.str "add_tokens" 510),(.str "add_tokens" 511),(.str "/claim/cut.py" 512),(.int 145 0),(.int 2 0),(.int 0 0),(.int 0 0),(.int 3 0),(.ref 236),(.bool true),(.int 181 0),(.ref 237),.none,(.ref 238),(.ref 239),(.ref 240),(.int 521 0),(.int 145 0),(.str "/claim/cut.py" 522)]),#[]⟩),
(242,fnO (dAt 35) "add_tokens" "add_tokens" .none (.str "ledgerspeak.tokens" 287) 241),
(243,⟨(.type "tuple"),none,(.seq #[] 0),#[]⟩),
(245,⟨(.type "tuple"),none,(.seq #[(.str "text" 527),(.str "at" 528)] 0),#[]⟩),
(246,⟨(.type "tuple"),none,(.seq #[] 0),#[]⟩),
(248,⟨(.type "code"),none,(.fields #[(.str "is_word_is" 524),(.str "is_word_is" 525),(.str "/claim/cut.py" 526),(.int 165 0),(.int 2 0),(.int 0 0),(.int 0 0),(.int 3 0),(.ref 243),(.bool true),(.int 181 0),(.ref 244),.none,(.ref 245),(.ref 246),(.ref 247),(.int 529 0),(.int 165 0),(.str "/claim/cut.py" 530)]),#[]⟩),
(249,fnO (dAt 36) "is_word_is" "is_word_is" .none (.str "ledgerspeak.tokens" 287) 248),
(250,⟨(.type "tuple"),none,(.seq #[] 0),#[]⟩),
(252,⟨(.type "tuple"),none,(.seq #[(.str "lines" 535),(.str "tokens" 536),(.str "line" 537)] 0),#[]⟩),
(253,⟨(.type "tuple"),none,(.seq #[] 0),#[]⟩),
(255,⟨(.type "code"),none,(.fields #[(.str "tokens_of" 532),(.str "tokens_of" 533),(.str "/claim/cut.py" 534),(.int 167 0),(.int 1 0),(.int 0 0),(.int 0 0),(.int 3 0),(.ref 250),(.bool true),(.int 181 0),(.ref 251),.none,(.ref 252),(.ref 253),(.ref 254),(.int 538 0),(.int 167 0),(.str "/claim/cut.py" 539)]),#[]⟩),
(256,fnO (dAt 37) "tokens_of" "tokens_of" .none (.str "ledgerspeak.tokens" 287) 255),
(257,⟨(.type "tuple"),none,(.seq #[] 0),#[]⟩),
(259,⟨(.type "tuple"),none,(.seq #[(.str "pick" 550),(.str "number" 551),(.str "some" 552)] 0),#[]⟩),
(260,⟨(.type "tuple"),none,(.seq #[] 0),#[]⟩),
(262,⟨(.type "code"),none,(.fields #[(.str "_law_piece" 547),(.str "_law_piece" 548),(.str "/claim/cut.py" 549),(.int 175 0),(.int 2 0),(.int 0 0),(.int 0 0),(.int 3 0),(.ref 257),(.bool true),(.int 181 0),(.ref 258),.none,(.ref 259),(.ref 260),(.ref 261),(.int 553 0),(.int 175 0),(.str "/claim/cut.py" 554)]),#[]⟩),
(263,fnO (dAt 41) "_law_piece" "_law_piece" .none (.str "law_og0086_01" 541) 262),
(264,⟨(.type "tuple"),none,(.seq #[] 0),#[]⟩),
(266,⟨(.type "tuple"),none,(.seq #[(.str "script" 559),(.str "found" 560),(.str "cell" 561),(.str "number" 562),(.str "turn" 563)] 0),#[]⟩),
(267,⟨(.type "tuple"),none,(.seq #[] 0),#[]⟩),
(269,⟨(.type "code"),none,(.fields #[(.str "_law_text" 556),(.str "_law_text" 557),(.str "/claim/cut.py" 558),(.int 179 0),(.int 1 0),(.int 0 0),(.int 0 0),(.int 3 0),(.ref 264),(.bool true),(.int 181 0),(.ref 265),.none,(.ref 266),(.ref 267),(.ref 268),(.int 564 0),(.int 179 0),(.str "/claim/cut.py" 565)]),#[]⟩),
(270,fnO (dAt 42) "_law_text" "_law_text" .none (.str "law_og0086_01" 541) 269),
(271,⟨(.type "tuple"),none,(.seq #[] 0),#[]⟩),
(273,⟨(.type "tuple"),none,(.seq #[(.str "text" 570),(.str "at" 571),(.str "signs" 572)] 0),#[]⟩),
(274,⟨(.type "tuple"),none,(.seq #[] 0),#[]⟩),
(276,⟨(.type "code"),none,(.fields #[(.str "_law_run" 567),(.str "_law_run" 568),(.str "/claim/cut.py" 569),(.int 188 0),(.int 3 0),(.int 0 0),(.int 0 0),(.int 3 0),(.ref 271),(.bool true),(.int 181 0),(.ref 272),.none,(.ref 273),(.ref 274),(.ref 275),(.int 573 0),(.int 188 0),(.str "/claim/cut.py" 574)]),#[]⟩),
(277,fnO (dAt 43) "_law_run" "_law_run" .none (.str "law_og0086_01" 541) 276),
(278,⟨(.type "tuple"),none,(.seq #[] 0),#[]⟩),
(280,⟨(.type "tuple"),none,(.seq #[(.str "text" 579),(.str "end" 580)] 0),#[]⟩),
(281,⟨(.type "tuple"),none,(.seq #[] 0),#[]⟩),
(283,⟨(.type "code"),none,(.fields #[(.str "_law_apart" 576),(.str "_law_apart" 577),(.str "/claim/cut.py" 578),(.int 192 0),(.int 2 0),(.int 0 0),(.int 0 0),(.int 3 0),(.ref 278),(.bool true),(.int 181 0),(.ref 279),.none,(.ref 280),(.ref 281),(.ref 282),(.int 581 0),(.int 192 0),(.str "/claim/cut.py" 582)]),#[]⟩),
(284,fnO (dAt 44) "_law_apart" "_law_apart" .none (.str "law_og0086_01" 541) 283),
(285,⟨(.type "tuple"),none,(.seq #[] 0),#[]⟩),
(287,⟨(.type "tuple"),none,(.seq #[(.str "text" 587),(.str "at" 588),(.str "mark" 589),(.str "end" 590),(.str "worth" 591)] 0),#[]⟩),
(288,⟨(.type "tuple"),none,(.seq #[] 0),#[]⟩),
(290,⟨(.type "code"),none,(.fields #[(.str "_law_quoted" 584),(.str "_law_quoted" 585),(.str "/claim/cut.py" 586),(.int 198 0),(.int 2 0),(.int 0 0),(.int 0 0),(.int 3 0),(.ref 285),(.bool true),(.int 181 0),(.ref 286),.none,(.ref 287),(.ref 288),(.ref 289),(.int 592 0),(.int 198 0),(.str "/claim/cut.py" 593)]),#[]⟩),
(291,fnO (dAt 45) "_law_quoted" "_law_quoted" .none (.str "law_og0086_01" 541) 290),
(292,⟨(.type "tuple"),none,(.seq #[] 0),#[]⟩),
(295,⟨(.type "code"),none,(.fields #[(.str "_law_next" 595),(.str "_law_next" 596),(.str "/claim/cut.py" 597),(.int 210 0),(.int 2 0),(.int 0 0),(.int 0 0),(.int 3 0),(.ref 292),(.bool true),(.int 181 0),(.ref 293),.none,.none,.none,(.ref 294),(.int 598 0),(.int 210 0),(.str "/claim/cut.py" 599)]),#[]⟩),
(296,fnO (dAt 46) "_law_next" "_law_next" .none (.str "law_og0086_01" 541) 295),
(297,⟨(.type "tuple"),none,(.seq #[] 0),#[]⟩),
(299,⟨(.type "tuple"),none,(.seq #[(.str "text" 604),(.str "found" 605),(.str "at" 606),(.str "is_after" 607),(.str "is_due" 608),(.str "end" 609),(.str "told" 610)] 0),#[]⟩),
(300,⟨(.type "tuple"),none,(.seq #[] 0),#[]⟩),
(302,⟨(.type "code"),none,(.fields #[(.str "_law_read" 601),(.str "_law_read" 602),(.str "/claim/cut.py" 603),(.int 244 0),(.int 1 0),(.int 0 0),(.int 0 0),(.int 3 0),(.ref 297),(.bool true),(.int 181 0),(.ref 298),.none,(.ref 299),(.ref 300),(.ref 301),(.int 611 0),(.int 244 0),(.str "/claim/cut.py" 612)]),#[]⟩),
(303,fnO (dAt 47) "_law_read" "_law_read" .none (.str "law_og0086_01" 541) 302),
(304,⟨(.type "tuple"),none,(.seq #[] 0),#[]⟩),
(307,⟨(.type "code"),none,(.fields #[(.str "_law_right" 614),(.str "_law_right" 615),(.str "/claim/cut.py" 616),(.int 267 0),(.int 3 0),(.int 0 0),(.int 0 0),(.int 3 0),(.ref 304),(.bool true),(.int 181 0),(.ref 305),.none,.none,.none,(.ref 306),(.int 617 0),(.int 267 0),(.str "/claim/cut.py" 618)]),#[]⟩),
(308,fnO (dAt 48) "_law_right" "_law_right" .none (.str "law_og0086_01" 541) 307),
(309,⟨(.type "tuple"),none,(.seq #[] 0),#[]⟩),
(311,⟨(.type "tuple"),none,(.seq #[(.str "script" 623),(.str "written" 624),(.str "text" 625)] 0),#[]⟩),
(312,⟨(.type "tuple"),none,(.seq #[] 0),#[]⟩),
(314,⟨(.type "code"),none,(.fields #[(.str "law" 620),(.str "law" 621),(.str "/claim/cut.py" 622),(.int 276 0),(.int 1 0),(.int 0 0),(.int 0 0),(.int 3 0),(.ref 309),(.bool true),(.int 181 0),(.ref 310),.none,(.ref 311),(.ref 312),(.ref 313),(.int 626 0),(.int 276 0),(.str "/claim/cut.py" 627)]),#[]⟩),
(315,fnO (dAt 49) "law" "law" .none (.str "law_og0086_01" 541) 314)]
noncomputable def as : List Nat := [2,3,22,24,25,27,28,29,31,32,34,35,36,37,38,39,40,43,50,51,52,54,55,57,58,59,61,62,64,65,66,67,68,69,72,79,80,81,91,92,93,95,96,98,99,100,102,103,105,106,107,108,109,110,111,114,116,117,119,120,121,124,125,126,128,129,131,132,133,135,136,138,139,140,142,143,145,146,147,149,150,152,153,154,156,157,159,160,161,163,164,166,167,168,170,171,173,174,175,178,179,180,182,183,185,186,187,189,190,192,193,194,196,197,199,200,201,203,204,206,207,208,210,211,213,214,215,217,218,220,221,222,224,225,227,228,229,231,232,234,235,236,238,239,241,242,243,245,246,248,249,250,252,253,255,256,257,259,260,262,263,264,266,267,269,270,271,273,274,276,277,278,280,281,283,284,285,287,288,290,291,292,295,296,297,299,300,302,303,304,307,308,309,311,312,314,315]
theorem as_eq : ∀ P, as = (KK P).map (·.1) := fun P => by kernel_rfl
noncomputable abbrev pr := PySem.Challenge.pw_og0086_01
noncomputable def vq : Program := view pr [49]
noncomputable def lse : List Str := List.map Str.ofString ["QUOTES","Line","LedgerError","TokenFault","LETTERS","FIGURES","WORD_SIGNS","SINGLE_SIGNS","DOUBLE_SIGNS","ENDS","MOST_WORD","MOST_FIGURES","MOST_LITERAL","Token","capital_of","capitals","is_word_sign","is_parted","line_fault","run_end","number_end","literal_end","picture_end","checked_word","checked_number","checked_literal","checked_picture","need_apart","mark_at","worth_at","is_blank_at","is_picture_next","add_tokens","is_word_is","tokens_of","_law_figures","_law_letters","_law_piece","_law_text","_law_run","_law_apart","_law_quoted","_law_next","_law_read","_law_right"]
end Mine
namespace Mine
-- the top's run, in pieces: what each piece leaves (printed by gen_left.py)
noncomputable abbrev cdO (st : Stmt) (name qual : Str) : Obj :=
  ⟨.none, none, .func ⟨name, qual, fPar st, .stmts (fBody st), fScope st, 0, [], .none, .none, .none, .none, none, .none, .none, 0⟩, #[]⟩
noncomputable def ob_11_0 (P : Params) : Obj := ⟨(.type "tuple"),none,(.seq #[] 0),#[]⟩
noncomputable def ob_12_0 (P : Params) : Obj := ⟨.none,none,(.fields #[]),#[]⟩
noncomputable def ob_13_0 (P : Params) : Obj := ⟨(.type "code"),none,(.fields #[(.str "<module>" 182),(.str "<module>" 183),(.str "/claim/cut.py" 184),(.int 1 0),(.int 0 0),(.int 0 0),(.int 0 0),(.int 0 0),(.ref 11),(.bool false),(.int 181 0),(.ref 12),.none,.none,.none,.none,(.int 185 0),(.int 1 0),(.str "/claim/cut.py" 186)]),#[]⟩
noncomputable def ob_14_0 (P : Params) : Obj := ⟨(.type "frame"),none,.plain,#[(some (.ref 13)),(some (.ref 3)),(some (.ref 3)),none,(some (.str "__main__" 164)),none,(some (.ref 0))]⟩
noncomputable def T_pre (P : Params) : BT := (.node (boot_o_0 P) (.node (boot_o_1 P) (.node (boot_o_3 P) (.node (boot_o_7 P) .nil .nil) (.node (ob_11_0 P) .nil .nil)) (.node (boot_o_5 P) (.node (boot_o_9 P) .nil .nil) (.node (ob_13_0 P) .nil .nil))) (.node (boot_o_2 P) (.node (boot_o_4 P) (.node (boot_o_8 P) .nil .nil) (.node (ob_12_0 P) .nil .nil)) (.node (boot_o_6 P) (.node (boot_o_10 P) .nil .nil) (.node (ob_14_0 P) .nil .nil))))
noncomputable abbrev S_pre (w : World) (os : OsState) : SharedT := ⟨T_pre w.params, 15, {}, Array.mk [], {}, 187, os⟩
noncomputable def ob_2_1 (P : Params) : Obj := ⟨.none,none,(.dict #[⟨(kh P "type.__subclasses__.Exception.0"),(.str "type.__subclasses__.Exception.0" 267),(.int 68 0)⟩,⟨(kh P "type.__subclasses__.Exception.n"),(.str "type.__subclasses__.Exception.n" 268),(.int 1 0)⟩] 2),#[]⟩
noncomputable def ob_3_1 (P : Params) : Obj := ⟨(.type "dict"),none,(.dict #[⟨(kh P "__name__"),(.str "__name__" 165),(.str "ledgerspeak.errors" 229)⟩,⟨(kh P "__doc__"),(.str "__doc__" 166),.none⟩,⟨(kh P "__package__"),(.str "__package__" 167),.none⟩,⟨(kh P "__loader__"),(.str "__loader__" 168),(.builtin "__main__.__loader__#opaque")⟩,⟨(kh P "__spec__"),(.str "__spec__" 169),.none⟩,⟨(kh P "__annotations__"),(.str "__annotations__" 170),(.ref 6)⟩,⟨(kh P "__builtins__"),(.str "__builtins__" 171),(.ref 4)⟩,⟨(kh P "__file__"),(.str "__file__" 173),(.str "/claim/cut.py" 172)⟩,⟨(kh P "__cached__"),(.str "__cached__" 174),.none⟩,⟨(kh P "QUOTES"),(.str "QUOTES" 190),(.str "\"'" 189)⟩,⟨(kh P "Line"),(.str "Line" 228),(.ref 38)⟩,⟨(kh P "LedgerError"),(.str "LedgerError" 270),(.ref 68)⟩] 12),#[]⟩
noncomputable def ob_12_1 (P : Params) : Obj := ⟨.none,none,(.fields #[(.int 3 0),(.int 0 0),(.ref 20),(.int 12 0),(.int 0 0),(.ref 48)]),#[]⟩
noncomputable def ob_15_0 (P : Params) : Obj := ⟨(.type "tuple"),none,(.seq #[] 0),#[]⟩
noncomputable def ob_16_0 (P : Params) : Obj := ⟨(.type "builtin_function_or_method"),none,(.fields #[(.builtin "type.__prepare__"),(.type "type")]),#[]⟩
noncomputable def ob_17_0 (P : Params) : Obj := ⟨(.type "dict"),none,(.dict #[⟨(kh P "__module__"),(.str "__module__" 198),(.str "ledgerspeak.columns" 187)⟩,⟨(kh P "__qualname__"),(.str "__qualname__" 200),(.str "Line" 199)⟩,⟨(kh P "__firstlineno__"),(.str "__firstlineno__" 202),(.int 3 201)⟩,⟨(kh P "__init__"),(.str "__init__" 211),(.ref 28)⟩,⟨(kh P "told"),(.str "told" 218),(.ref 35)⟩,⟨(kh P "__static_attributes__"),(.str "__static_attributes__" 221),(.ref 36)⟩] 6),#[]⟩
noncomputable def ob_18_0 (P : Params) : Obj := ⟨(.type "tuple"),none,(.seq #[] 0),#[]⟩
noncomputable def ob_19_0 (P : Params) : Obj := ⟨.none,none,(.fields #[(.int 5 0),(.int 4 0),(.ref 27),(.int 9 0),(.int 4 0),(.ref 34)]),#[]⟩
noncomputable def ob_20_0 (P : Params) : Obj := ⟨(.type "code"),none,(.fields #[(.str "Line" 193),(.str "Line" 194),(.str "/claim/cut.py" 195),(.int 3 0),(.int 0 0),(.int 0 0),(.int 0 0),(.int 0 0),(.ref 18),(.bool false),(.int 181 0),(.ref 19),.none,.none,.none,.none,(.int 196 0),(.int 3 0),(.str "/claim/cut.py" 197)]),#[]⟩
noncomputable def ob_21_0 (P : Params) : Obj := ⟨(.type "frame"),none,.plain,#[(some (.ref 20)),(some (.ref 3)),(some (.ref 17)),none,(some (.str "ledgerspeak.columns" 187)),none,(some (.ref 0))]⟩
noncomputable def ob_22_0 (P : Params) : Obj := ⟨(.type "tuple"),none,(.seq #[] 0),#[]⟩
noncomputable def ob_23_0 (P : Params) : Obj := ⟨.none,none,(.fields #[]),#[]⟩
noncomputable def ob_24_0 (P : Params) : Obj := ⟨(.type "tuple"),none,(.seq #[(.str "self" 206),(.str "text" 207),(.str "spots" 208)] 0),#[]⟩
noncomputable def ob_25_0 (P : Params) : Obj := ⟨(.type "tuple"),none,(.seq #[] 0),#[]⟩
noncomputable def ob_26_0 (P : Params) : Obj := cdO (mAt 2 0) "__init__" "Line.__init__"
noncomputable def ob_27_0 (P : Params) : Obj := ⟨(.type "code"),none,(.fields #[(.str "__init__" 203),(.str "Line.__init__" 204),(.str "/claim/cut.py" 205),(.int 5 0),(.int 3 0),(.int 0 0),(.int 0 0),(.int 3 0),(.ref 22),(.bool true),(.int 181 0),(.ref 23),.none,(.ref 24),(.ref 25),(.ref 26),(.int 209 0),(.int 5 0),(.str "/claim/cut.py" 210)]),#[]⟩
noncomputable def ob_28_0 (P : Params) : Obj := fnO (mAt 2 0) "__init__" "Line.__init__" .none (.str "ledgerspeak.columns" 187) 27
noncomputable def ob_29_0 (P : Params) : Obj := ⟨(.type "tuple"),none,(.seq #[] 0),#[]⟩
noncomputable def ob_30_0 (P : Params) : Obj := ⟨.none,none,(.fields #[]),#[]⟩
noncomputable def ob_31_0 (P : Params) : Obj := ⟨(.type "tuple"),none,(.seq #[(.str "self" 215)] 0),#[]⟩
noncomputable def ob_32_0 (P : Params) : Obj := ⟨(.type "tuple"),none,(.seq #[] 0),#[]⟩
noncomputable def ob_33_0 (P : Params) : Obj := cdO (mAt 2 1) "told" "Line.told"
noncomputable def ob_34_0 (P : Params) : Obj := ⟨(.type "code"),none,(.fields #[(.str "told" 212),(.str "Line.told" 213),(.str "/claim/cut.py" 214),(.int 9 0),(.int 1 0),(.int 0 0),(.int 0 0),(.int 3 0),(.ref 29),(.bool true),(.int 181 0),(.ref 30),.none,(.ref 31),(.ref 32),(.ref 33),(.int 216 0),(.int 9 0),(.str "/claim/cut.py" 217)]),#[]⟩
noncomputable def ob_35_0 (P : Params) : Obj := fnO (mAt 2 1) "told" "Line.told" .none (.str "ledgerspeak.columns" 187) 34
noncomputable def ob_36_0 (P : Params) : Obj := ⟨(.type "tuple"),none,(.seq #[(.str "places" 219),(.str "text" 220)] 0),#[]⟩
noncomputable def ob_37_0 (P : Params) : Obj := ⟨(.type "dict"),none,(.dict #[⟨(kh P "__module__"),(.str "__module__" 198),(.str "ledgerspeak.columns" 187)⟩,⟨(kh P "__firstlineno__"),(.str "__firstlineno__" 202),(.int 3 201)⟩,⟨(kh P "__init__"),(.str "__init__" 211),(.ref 28)⟩,⟨(kh P "told"),(.str "told" 218),(.ref 35)⟩,⟨(kh P "__static_attributes__"),(.str "__static_attributes__" 221),(.ref 36)⟩,⟨(kh P "__dict__"),(.str "__dict__" 223),(.ref 39)⟩,⟨(kh P "__weakref__"),(.str "__weakref__" 225),(.ref 40)⟩,⟨(kh P "__doc__"),(.str "__doc__" 226),.none⟩] 4),#[]⟩
noncomputable def ob_38_0 (P : Params) : Obj := ⟨(.type "type"),none,(.cls ⟨"Line",[(.type "object")],[(.ref 38),(.type "object")],37,"Line",true,[],[],false,none,false⟩),#[none,none,(some (.str "Line" 191)),(some (.str "Line" 199)),(some (.builtin "object.__new__")),(some (.bool true))]⟩
noncomputable def ob_39_0 (P : Params) : Obj := ⟨(.type "getset_descriptor"),none,(.fields #[(.str "__dict__" 222),(.ref 38),(.builtin "function.__dict__"),(.builtin "function.__dict__#set")]),#[]⟩
noncomputable def ob_40_0 (P : Params) : Obj := ⟨(.type "getset_descriptor"),none,(.fields #[(.str "__weakref__" 224),(.ref 38),(.builtin "ExceptionGroup.__weakref__"),.none]),#[]⟩
noncomputable def ob_41_0 (P : Params) : Obj := ⟨(.type "super"),none,(.fields #[(.ref 38),(.ref 38),(.ref 38)]),#[]⟩
noncomputable def ob_42_0 (P : Params) : Obj := ⟨(.type "builtin_function_or_method"),none,(.fields #[(.builtin "object.__init_subclass__"),(.ref 38)]),#[]⟩
noncomputable def ob_43_0 (P : Params) : Obj := ⟨(.type "tuple"),none,(.seq #[(.type "Exception")] 0),#[]⟩
noncomputable def ob_44_0 (P : Params) : Obj := ⟨(.type "builtin_function_or_method"),none,(.fields #[(.builtin "type.__prepare__"),(.type "type")]),#[]⟩
noncomputable def ob_45_0 (P : Params) : Obj := ⟨(.type "dict"),none,(.dict #[⟨(kh P "__module__"),(.str "__module__" 238),(.str "ledgerspeak.errors" 229)⟩,⟨(kh P "__qualname__"),(.str "__qualname__" 240),(.str "LedgerError" 239)⟩,⟨(kh P "__firstlineno__"),(.str "__firstlineno__" 242),(.int 12 241)⟩,⟨(kh P "__init__"),(.str "__init__" 253),(.ref 58)⟩,⟨(kh P "told"),(.str "told" 260),(.ref 65)⟩,⟨(kh P "__static_attributes__"),(.str "__static_attributes__" 263),(.ref 66)⟩] 6),#[]⟩
noncomputable def ob_46_0 (P : Params) : Obj := ⟨(.type "tuple"),none,(.seq #[] 0),#[]⟩
noncomputable def ob_47_0 (P : Params) : Obj := ⟨.none,none,(.fields #[(.int 14 0),(.int 4 0),(.ref 57),(.int 19 0),(.int 4 0),(.ref 64)]),#[]⟩
noncomputable def ob_48_0 (P : Params) : Obj := ⟨(.type "code"),none,(.fields #[(.str "LedgerError" 233),(.str "LedgerError" 234),(.str "/claim/cut.py" 235),(.int 12 0),(.int 0 0),(.int 0 0),(.int 0 0),(.int 0 0),(.ref 46),(.bool false),(.int 181 0),(.ref 47),.none,.none,.none,.none,(.int 236 0),(.int 12 0),(.str "/claim/cut.py" 237)]),#[]⟩
noncomputable def ob_49_0 (P : Params) : Obj := ⟨(.type "frame"),none,.plain,#[(some (.ref 48)),(some (.ref 3)),(some (.ref 45)),none,(some (.str "ledgerspeak.errors" 229)),none,(some (.ref 0))]⟩
noncomputable def ob_50_0 (P : Params) : Obj := ⟨(.type "tuple"),none,(.seq #[(.int 0 243),(.int 0 244)] 0),#[]⟩
noncomputable def ob_51_0 (P : Params) : Obj := ⟨(.type "tuple"),none,(.seq #[(.ref 50)] 0),#[]⟩
noncomputable def ob_52_0 (P : Params) : Obj := ⟨(.type "tuple"),none,(.seq #[] 0),#[]⟩
noncomputable def ob_53_0 (P : Params) : Obj := ⟨.none,none,(.fields #[]),#[]⟩
noncomputable def ob_54_0 (P : Params) : Obj := ⟨(.type "tuple"),none,(.seq #[(.str "self" 248),(.str "what" 249),(.str "at" 250)] 0),#[]⟩
noncomputable def ob_55_0 (P : Params) : Obj := ⟨(.type "tuple"),none,(.seq #[] 0),#[]⟩
noncomputable def ob_56_0 (P : Params) : Obj := cdO (mAt 4 0) "__init__" "LedgerError.__init__"
noncomputable def ob_57_0 (P : Params) : Obj := ⟨(.type "code"),none,(.fields #[(.str "__init__" 245),(.str "LedgerError.__init__" 246),(.str "/claim/cut.py" 247),(.int 14 0),(.int 3 0),(.int 0 0),(.int 0 0),(.int 3 0),(.ref 52),(.bool true),(.int 181 0),(.ref 53),.none,(.ref 54),(.ref 55),(.ref 56),(.int 251 0),(.int 14 0),(.str "/claim/cut.py" 252)]),#[]⟩
noncomputable def ob_58_0 (P : Params) : Obj := fnO (mAt 4 0) "__init__" "LedgerError.__init__" (.ref 51) (.str "ledgerspeak.errors" 229) 57
noncomputable def ob_59_0 (P : Params) : Obj := ⟨(.type "tuple"),none,(.seq #[] 0),#[]⟩
noncomputable def ob_60_0 (P : Params) : Obj := ⟨.none,none,(.fields #[]),#[]⟩
noncomputable def ob_61_0 (P : Params) : Obj := ⟨(.type "tuple"),none,(.seq #[(.str "self" 257)] 0),#[]⟩
noncomputable def ob_62_0 (P : Params) : Obj := ⟨(.type "tuple"),none,(.seq #[] 0),#[]⟩
noncomputable def ob_63_0 (P : Params) : Obj := cdO (mAt 4 1) "told" "LedgerError.told"
noncomputable def ob_64_0 (P : Params) : Obj := ⟨(.type "code"),none,(.fields #[(.str "told" 254),(.str "LedgerError.told" 255),(.str "/claim/cut.py" 256),(.int 19 0),(.int 1 0),(.int 0 0),(.int 0 0),(.int 3 0),(.ref 59),(.bool true),(.int 181 0),(.ref 60),.none,(.ref 61),(.ref 62),(.ref 63),(.int 258 0),(.int 19 0),(.str "/claim/cut.py" 259)]),#[]⟩
noncomputable def ob_65_0 (P : Params) : Obj := fnO (mAt 4 1) "told" "LedgerError.told" .none (.str "ledgerspeak.errors" 229) 64
noncomputable def ob_66_0 (P : Params) : Obj := ⟨(.type "tuple"),none,(.seq #[(.str "at" 261),(.str "what" 262)] 0),#[]⟩
noncomputable def ob_67_0 (P : Params) : Obj := ⟨(.type "dict"),none,(.dict #[⟨(kh P "__module__"),(.str "__module__" 238),(.str "ledgerspeak.errors" 229)⟩,⟨(kh P "__firstlineno__"),(.str "__firstlineno__" 242),(.int 12 241)⟩,⟨(kh P "__init__"),(.str "__init__" 253),(.ref 58)⟩,⟨(kh P "told"),(.str "told" 260),(.ref 65)⟩,⟨(kh P "__static_attributes__"),(.str "__static_attributes__" 263),(.ref 66)⟩,⟨(kh P "__weakref__"),(.str "__weakref__" 265),(.ref 69)⟩,⟨(kh P "__doc__"),(.str "__doc__" 266),.none⟩] 3),#[]⟩
noncomputable def ob_68_0 (P : Params) : Obj := ⟨(.type "type"),none,(.cls ⟨"LedgerError",[(.type "Exception")],[(.ref 68),(.type "Exception"),(.type "BaseException"),(.type "object")],67,"LedgerError",true,[],[],false,none,false⟩),#[(some (.ref 43)),none,(some (.str "LedgerError" 231)),(some (.str "LedgerError" 239)),(some (.builtin "Exception.__new__")),(some (.bool true))]⟩
noncomputable def ob_69_0 (P : Params) : Obj := ⟨(.type "getset_descriptor"),none,(.fields #[(.str "__weakref__" 264),(.ref 68),(.builtin "ExceptionGroup.__weakref__"),.none]),#[]⟩
noncomputable def ob_70_0 (P : Params) : Obj := ⟨(.type "super"),none,(.fields #[(.ref 68),(.ref 68),(.ref 68)]),#[]⟩
noncomputable def ob_71_0 (P : Params) : Obj := ⟨(.type "builtin_function_or_method"),none,(.fields #[(.builtin "object.__init_subclass__"),(.ref 68)]),#[]⟩
noncomputable def T_p5 (P : Params) : BT := (.node (boot_o_0 P) (.node (boot_o_1 P) (.node (ob_3_1 P) (.node (boot_o_7 P) (.node (ob_15_0 P) (.node (ob_31_0 P) (.node (ob_63_0 P) .nil .nil) .nil) (.node (ob_47_0 P) .nil .nil)) (.node (ob_23_0 P) (.node (ob_39_0 P) (.node (ob_71_0 P) .nil .nil) .nil) (.node (ob_55_0 P) .nil .nil))) (.node (ob_11_0 P) (.node (ob_19_0 P) (.node (ob_35_0 P) (.node (ob_67_0 P) .nil .nil) .nil) (.node (ob_51_0 P) .nil .nil)) (.node (ob_27_0 P) (.node (ob_43_0 P) .nil .nil) (.node (ob_59_0 P) .nil .nil)))) (.node (boot_o_5 P) (.node (boot_o_9 P) (.node (ob_17_0 P) (.node (ob_33_0 P) (.node (ob_65_0 P) .nil .nil) .nil) (.node (ob_49_0 P) .nil .nil)) (.node (ob_25_0 P) (.node (ob_41_0 P) .nil .nil) (.node (ob_57_0 P) .nil .nil))) (.node (ob_13_0 P) (.node (ob_21_0 P) (.node (ob_37_0 P) (.node (ob_69_0 P) .nil .nil) .nil) (.node (ob_53_0 P) .nil .nil)) (.node (ob_29_0 P) (.node (ob_45_0 P) .nil .nil) (.node (ob_61_0 P) .nil .nil))))) (.node (ob_2_1 P) (.node (boot_o_4 P) (.node (boot_o_8 P) (.node (ob_16_0 P) (.node (ob_32_0 P) (.node (ob_64_0 P) .nil .nil) .nil) (.node (ob_48_0 P) .nil .nil)) (.node (ob_24_0 P) (.node (ob_40_0 P) .nil .nil) (.node (ob_56_0 P) .nil .nil))) (.node (ob_12_1 P) (.node (ob_20_0 P) (.node (ob_36_0 P) (.node (ob_68_0 P) .nil .nil) .nil) (.node (ob_52_0 P) .nil .nil)) (.node (ob_28_0 P) (.node (ob_44_0 P) .nil .nil) (.node (ob_60_0 P) .nil .nil)))) (.node (boot_o_6 P) (.node (boot_o_10 P) (.node (ob_18_0 P) (.node (ob_34_0 P) (.node (ob_66_0 P) .nil .nil) .nil) (.node (ob_50_0 P) .nil .nil)) (.node (ob_26_0 P) (.node (ob_42_0 P) .nil .nil) (.node (ob_58_0 P) .nil .nil))) (.node (ob_14_0 P) (.node (ob_22_0 P) (.node (ob_38_0 P) (.node (ob_70_0 P) .nil .nil) .nil) (.node (ob_54_0 P) .nil .nil)) (.node (ob_30_0 P) (.node (ob_46_0 P) .nil .nil) (.node (ob_62_0 P) .nil .nil))))))
noncomputable abbrev S_p5 (w : World) (os : OsState) : SharedT := ⟨T_p5 w.params, 72, {}, Array.mk [], {}, 271, os⟩
noncomputable def ob_3_2 (P : Params) : Obj := ⟨(.type "dict"),none,(.dict #[⟨(kh P "__name__"),(.str "__name__" 165),(.str "ledgerspeak.tokens" 287)⟩,⟨(kh P "__doc__"),(.str "__doc__" 166),.none⟩,⟨(kh P "__package__"),(.str "__package__" 167),.none⟩,⟨(kh P "__loader__"),(.str "__loader__" 168),(.builtin "__main__.__loader__#opaque")⟩,⟨(kh P "__spec__"),(.str "__spec__" 169),.none⟩,⟨(kh P "__annotations__"),(.str "__annotations__" 170),(.ref 6)⟩,⟨(kh P "__builtins__"),(.str "__builtins__" 171),(.ref 4)⟩,⟨(kh P "__file__"),(.str "__file__" 173),(.str "/claim/cut.py" 172)⟩,⟨(kh P "__cached__"),(.str "__cached__" 174),.none⟩,⟨(kh P "QUOTES"),(.str "QUOTES" 190),(.str "\"'" 189)⟩,⟨(kh P "Line"),(.str "Line" 228),(.ref 38)⟩,⟨(kh P "LedgerError"),(.str "LedgerError" 270),(.ref 68)⟩,⟨(kh P "TokenFault"),(.str "TokenFault" 286),(.ref 81)⟩,⟨(kh P "LETTERS"),(.str "LETTERS" 290),(.str "ABCDEFGHIJKLMNOPQRSTUVWXYZ" 289)⟩,⟨(kh P "FIGURES"),(.str "FIGURES" 292),(.str "0123456789" 291)⟩,⟨(kh P "WORD_SIGNS"),(.str "WORD_SIGNS" 296),(.str "ABCDEFGHIJKLMNOPQRSTUVWXYZ0123456789-" 295)⟩,⟨(kh P "SINGLE_SIGNS"),(.str "SINGLE_SIGNS" 298),(.str "():+-*/=<>" 297)⟩,⟨(kh P "DOUBLE_SIGNS"),(.str "DOUBLE_SIGNS" 300),(.str "** <= >=" 299)⟩,⟨(kh P "ENDS"),(.str "ENDS" 302),(.str ".,;" 301)⟩,⟨(kh P "MOST_WORD"),(.str "MOST_WORD" 304),(.int 30 303)⟩,⟨(kh P "MOST_FIGURES"),(.str "MOST_FIGURES" 306),(.int 18 305)⟩,⟨(kh P "MOST_LITERAL"),(.str "MOST_LITERAL" 308),(.int 160 307)⟩,⟨(kh P "Token"),(.str "Token" 352),(.ref 109)⟩] 23),#[]⟩
noncomputable def ob_12_2 (P : Params) : Obj := ⟨.none,none,(.fields #[(.int 3 0),(.int 0 0),(.ref 20),(.int 12 0),(.int 0 0),(.ref 48),(.int 21 0),(.int 0 0),(.ref 77),(.int 33 0),(.int 0 0),(.ref 89)]),#[]⟩
noncomputable def ob_68_1 (P : Params) : Obj := ⟨(.type "type"),none,(.cls ⟨"LedgerError",[(.type "Exception")],[(.ref 68),(.type "Exception"),(.type "BaseException"),(.type "object")],67,"LedgerError",true,[],[(.ref 81)],false,none,false⟩),#[(some (.ref 43)),none,(some (.str "LedgerError" 231)),(some (.str "LedgerError" 239)),(some (.builtin "Exception.__new__")),(some (.bool true))]⟩
noncomputable def ob_72_0 (P : Params) : Obj := ⟨(.type "tuple"),none,(.seq #[(.ref 68)] 0),#[]⟩
noncomputable def ob_73_0 (P : Params) : Obj := ⟨(.type "builtin_function_or_method"),none,(.fields #[(.builtin "type.__prepare__"),(.type "type")]),#[]⟩
noncomputable def ob_74_0 (P : Params) : Obj := ⟨(.type "dict"),none,(.dict #[⟨(kh P "__module__"),(.str "__module__" 278),(.str "ledgerspeak.errors" 229)⟩,⟨(kh P "__qualname__"),(.str "__qualname__" 280),(.str "TokenFault" 279)⟩,⟨(kh P "__firstlineno__"),(.str "__firstlineno__" 282),(.int 21 281)⟩,⟨(kh P "__static_attributes__"),(.str "__static_attributes__" 283),(.ref 79)⟩] 4),#[]⟩
noncomputable def ob_75_0 (P : Params) : Obj := ⟨(.type "tuple"),none,(.seq #[] 0),#[]⟩
noncomputable def ob_76_0 (P : Params) : Obj := ⟨.none,none,(.fields #[]),#[]⟩
noncomputable def ob_77_0 (P : Params) : Obj := ⟨(.type "code"),none,(.fields #[(.str "TokenFault" 273),(.str "TokenFault" 274),(.str "/claim/cut.py" 275),(.int 21 0),(.int 0 0),(.int 0 0),(.int 0 0),(.int 0 0),(.ref 75),(.bool false),(.int 181 0),(.ref 76),.none,.none,.none,.none,(.int 276 0),(.int 21 0),(.str "/claim/cut.py" 277)]),#[]⟩
noncomputable def ob_78_0 (P : Params) : Obj := ⟨(.type "frame"),none,.plain,#[(some (.ref 77)),(some (.ref 3)),(some (.ref 74)),none,(some (.str "ledgerspeak.errors" 229)),none,(some (.ref 0))]⟩
noncomputable def ob_79_0 (P : Params) : Obj := ⟨(.type "tuple"),none,(.seq #[] 0),#[]⟩
noncomputable def ob_80_0 (P : Params) : Obj := ⟨(.type "dict"),none,(.dict #[⟨(kh P "__module__"),(.str "__module__" 278),(.str "ledgerspeak.errors" 229)⟩,⟨(kh P "__firstlineno__"),(.str "__firstlineno__" 282),(.int 21 281)⟩,⟨(kh P "__static_attributes__"),(.str "__static_attributes__" 283),(.ref 79)⟩,⟨(kh P "__doc__"),(.str "__doc__" 284),.none⟩] 2),#[]⟩
noncomputable def ob_81_0 (P : Params) : Obj := ⟨(.type "type"),none,(.cls ⟨"TokenFault",[(.ref 68)],[(.ref 81),(.ref 68),(.type "Exception"),(.type "BaseException"),(.type "object")],80,"TokenFault",true,[],[],false,none,false⟩),#[(some (.ref 72)),none,(some (.str "TokenFault" 271)),(some (.str "TokenFault" 279)),(some (.builtin "Exception.__new__")),(some (.bool true))]⟩
noncomputable def ob_82_0 (P : Params) : Obj := ⟨(.type "super"),none,(.fields #[(.ref 81),(.ref 81),(.ref 81)]),#[]⟩
noncomputable def ob_83_0 (P : Params) : Obj := ⟨(.type "builtin_function_or_method"),none,(.fields #[(.builtin "object.__init_subclass__"),(.ref 81)]),#[]⟩
noncomputable def ob_84_0 (P : Params) : Obj := ⟨(.type "tuple"),none,(.seq #[] 0),#[]⟩
noncomputable def ob_85_0 (P : Params) : Obj := ⟨(.type "builtin_function_or_method"),none,(.fields #[(.builtin "type.__prepare__"),(.type "type")]),#[]⟩
noncomputable def ob_86_0 (P : Params) : Obj := ⟨(.type "dict"),none,(.dict #[⟨(kh P "__module__"),(.str "__module__" 316),(.str "ledgerspeak.tokens" 287)⟩,⟨(kh P "__qualname__"),(.str "__qualname__" 318),(.str "Token" 317)⟩,⟨(kh P "__firstlineno__"),(.str "__firstlineno__" 320),(.int 33 319)⟩,⟨(kh P "__init__"),(.str "__init__" 333),(.ref 99)⟩,⟨(kh P "told"),(.str "told" 340),(.ref 106)⟩,⟨(kh P "__static_attributes__"),(.str "__static_attributes__" 345),(.ref 107)⟩] 6),#[]⟩
noncomputable def ob_87_0 (P : Params) : Obj := ⟨(.type "tuple"),none,(.seq #[] 0),#[]⟩
noncomputable def ob_88_0 (P : Params) : Obj := ⟨.none,none,(.fields #[(.int 35 0),(.int 4 0),(.ref 98),(.int 41 0),(.int 4 0),(.ref 105)]),#[]⟩
noncomputable def ob_89_0 (P : Params) : Obj := ⟨(.type "code"),none,(.fields #[(.str "Token" 311),(.str "Token" 312),(.str "/claim/cut.py" 313),(.int 33 0),(.int 0 0),(.int 0 0),(.int 0 0),(.int 0 0),(.ref 87),(.bool false),(.int 181 0),(.ref 88),.none,.none,.none,.none,(.int 314 0),(.int 33 0),(.str "/claim/cut.py" 315)]),#[]⟩
noncomputable def ob_90_0 (P : Params) : Obj := ⟨(.type "frame"),none,.plain,#[(some (.ref 89)),(some (.ref 3)),(some (.ref 86)),none,(some (.str "ledgerspeak.tokens" 287)),none,(some (.ref 0))]⟩
noncomputable def ob_91_0 (P : Params) : Obj := ⟨(.type "tuple"),none,(.seq #[(.int 0 321),(.int 0 322)] 0),#[]⟩
noncomputable def ob_92_0 (P : Params) : Obj := ⟨(.type "tuple"),none,(.seq #[(.ref 91),(.bool false)] 0),#[]⟩
noncomputable def ob_93_0 (P : Params) : Obj := ⟨(.type "tuple"),none,(.seq #[] 0),#[]⟩
noncomputable def ob_94_0 (P : Params) : Obj := ⟨.none,none,(.fields #[]),#[]⟩
noncomputable def ob_95_0 (P : Params) : Obj := ⟨(.type "tuple"),none,(.seq #[(.str "self" 326),(.str "kind" 327),(.str "worth" 328),(.str "at" 329),(.str "is_in_a" 330)] 0),#[]⟩
noncomputable def ob_96_0 (P : Params) : Obj := ⟨(.type "tuple"),none,(.seq #[] 0),#[]⟩
noncomputable def ob_97_0 (P : Params) : Obj := cdO (mAt 16 0) "__init__" "Token.__init__"
noncomputable def ob_98_0 (P : Params) : Obj := ⟨(.type "code"),none,(.fields #[(.str "__init__" 323),(.str "Token.__init__" 324),(.str "/claim/cut.py" 325),(.int 35 0),(.int 5 0),(.int 0 0),(.int 0 0),(.int 3 0),(.ref 93),(.bool true),(.int 181 0),(.ref 94),.none,(.ref 95),(.ref 96),(.ref 97),(.int 331 0),(.int 35 0),(.str "/claim/cut.py" 332)]),#[]⟩
noncomputable def ob_99_0 (P : Params) : Obj := fnO (mAt 16 0) "__init__" "Token.__init__" (.ref 92) (.str "ledgerspeak.tokens" 287) 98
noncomputable def ob_100_0 (P : Params) : Obj := ⟨(.type "tuple"),none,(.seq #[] 0),#[]⟩
noncomputable def ob_101_0 (P : Params) : Obj := ⟨.none,none,(.fields #[]),#[]⟩
noncomputable def ob_102_0 (P : Params) : Obj := ⟨(.type "tuple"),none,(.seq #[(.str "self" 337)] 0),#[]⟩
noncomputable def ob_103_0 (P : Params) : Obj := ⟨(.type "tuple"),none,(.seq #[] 0),#[]⟩
noncomputable def ob_104_0 (P : Params) : Obj := cdO (mAt 16 1) "told" "Token.told"
noncomputable def ob_105_0 (P : Params) : Obj := ⟨(.type "code"),none,(.fields #[(.str "told" 334),(.str "Token.told" 335),(.str "/claim/cut.py" 336),(.int 41 0),(.int 1 0),(.int 0 0),(.int 0 0),(.int 3 0),(.ref 100),(.bool true),(.int 181 0),(.ref 101),.none,(.ref 102),(.ref 103),(.ref 104),(.int 338 0),(.int 41 0),(.str "/claim/cut.py" 339)]),#[]⟩
noncomputable def ob_106_0 (P : Params) : Obj := fnO (mAt 16 1) "told" "Token.told" .none (.str "ledgerspeak.tokens" 287) 105
noncomputable def ob_107_0 (P : Params) : Obj := ⟨(.type "tuple"),none,(.seq #[(.str "at" 341),(.str "is_in_a" 342),(.str "kind" 343),(.str "worth" 344)] 0),#[]⟩
noncomputable def ob_108_0 (P : Params) : Obj := ⟨(.type "dict"),none,(.dict #[⟨(kh P "__module__"),(.str "__module__" 316),(.str "ledgerspeak.tokens" 287)⟩,⟨(kh P "__firstlineno__"),(.str "__firstlineno__" 320),(.int 33 319)⟩,⟨(kh P "__init__"),(.str "__init__" 333),(.ref 99)⟩,⟨(kh P "told"),(.str "told" 340),(.ref 106)⟩,⟨(kh P "__static_attributes__"),(.str "__static_attributes__" 345),(.ref 107)⟩,⟨(kh P "__dict__"),(.str "__dict__" 347),(.ref 110)⟩,⟨(kh P "__weakref__"),(.str "__weakref__" 349),(.ref 111)⟩,⟨(kh P "__doc__"),(.str "__doc__" 350),.none⟩] 4),#[]⟩
noncomputable def ob_109_0 (P : Params) : Obj := ⟨(.type "type"),none,(.cls ⟨"Token",[(.type "object")],[(.ref 109),(.type "object")],108,"Token",true,[],[],false,none,false⟩),#[none,none,(some (.str "Token" 309)),(some (.str "Token" 317)),(some (.builtin "object.__new__")),(some (.bool true))]⟩
noncomputable def ob_110_0 (P : Params) : Obj := ⟨(.type "getset_descriptor"),none,(.fields #[(.str "__dict__" 346),(.ref 109),(.builtin "function.__dict__"),(.builtin "function.__dict__#set")]),#[]⟩
noncomputable def ob_111_0 (P : Params) : Obj := ⟨(.type "getset_descriptor"),none,(.fields #[(.str "__weakref__" 348),(.ref 109),(.builtin "ExceptionGroup.__weakref__"),.none]),#[]⟩
noncomputable def ob_112_0 (P : Params) : Obj := ⟨(.type "super"),none,(.fields #[(.ref 109),(.ref 109),(.ref 109)]),#[]⟩
noncomputable def ob_113_0 (P : Params) : Obj := ⟨(.type "builtin_function_or_method"),none,(.fields #[(.builtin "object.__init_subclass__"),(.ref 109)]),#[]⟩
noncomputable def T_p17 (P : Params) : BT := (.node (boot_o_0 P) (.node (boot_o_1 P) (.node (ob_3_2 P) (.node (boot_o_7 P) (.node (ob_15_0 P) (.node (ob_31_0 P) (.node (ob_63_0 P) .nil .nil) (.node (ob_95_0 P) .nil .nil)) (.node (ob_47_0 P) (.node (ob_79_0 P) .nil .nil) (.node (ob_111_0 P) .nil .nil))) (.node (ob_23_0 P) (.node (ob_39_0 P) (.node (ob_71_0 P) .nil .nil) (.node (ob_103_0 P) .nil .nil)) (.node (ob_55_0 P) (.node (ob_87_0 P) .nil .nil) .nil))) (.node (ob_11_0 P) (.node (ob_19_0 P) (.node (ob_35_0 P) (.node (ob_67_0 P) .nil .nil) (.node (ob_99_0 P) .nil .nil)) (.node (ob_51_0 P) (.node (ob_83_0 P) .nil .nil) .nil)) (.node (ob_27_0 P) (.node (ob_43_0 P) (.node (ob_75_0 P) .nil .nil) (.node (ob_107_0 P) .nil .nil)) (.node (ob_59_0 P) (.node (ob_91_0 P) .nil .nil) .nil)))) (.node (boot_o_5 P) (.node (boot_o_9 P) (.node (ob_17_0 P) (.node (ob_33_0 P) (.node (ob_65_0 P) .nil .nil) (.node (ob_97_0 P) .nil .nil)) (.node (ob_49_0 P) (.node (ob_81_0 P) .nil .nil) (.node (ob_113_0 P) .nil .nil))) (.node (ob_25_0 P) (.node (ob_41_0 P) (.node (ob_73_0 P) .nil .nil) (.node (ob_105_0 P) .nil .nil)) (.node (ob_57_0 P) (.node (ob_89_0 P) .nil .nil) .nil))) (.node (ob_13_0 P) (.node (ob_21_0 P) (.node (ob_37_0 P) (.node (ob_69_0 P) .nil .nil) (.node (ob_101_0 P) .nil .nil)) (.node (ob_53_0 P) (.node (ob_85_0 P) .nil .nil) .nil)) (.node (ob_29_0 P) (.node (ob_45_0 P) (.node (ob_77_0 P) .nil .nil) (.node (ob_109_0 P) .nil .nil)) (.node (ob_61_0 P) (.node (ob_93_0 P) .nil .nil) .nil))))) (.node (ob_2_1 P) (.node (boot_o_4 P) (.node (boot_o_8 P) (.node (ob_16_0 P) (.node (ob_32_0 P) (.node (ob_64_0 P) .nil .nil) (.node (ob_96_0 P) .nil .nil)) (.node (ob_48_0 P) (.node (ob_80_0 P) .nil .nil) (.node (ob_112_0 P) .nil .nil))) (.node (ob_24_0 P) (.node (ob_40_0 P) (.node (ob_72_0 P) .nil .nil) (.node (ob_104_0 P) .nil .nil)) (.node (ob_56_0 P) (.node (ob_88_0 P) .nil .nil) .nil))) (.node (ob_12_2 P) (.node (ob_20_0 P) (.node (ob_36_0 P) (.node (ob_68_1 P) .nil .nil) (.node (ob_100_0 P) .nil .nil)) (.node (ob_52_0 P) (.node (ob_84_0 P) .nil .nil) .nil)) (.node (ob_28_0 P) (.node (ob_44_0 P) (.node (ob_76_0 P) .nil .nil) (.node (ob_108_0 P) .nil .nil)) (.node (ob_60_0 P) (.node (ob_92_0 P) .nil .nil) .nil)))) (.node (boot_o_6 P) (.node (boot_o_10 P) (.node (ob_18_0 P) (.node (ob_34_0 P) (.node (ob_66_0 P) .nil .nil) (.node (ob_98_0 P) .nil .nil)) (.node (ob_50_0 P) (.node (ob_82_0 P) .nil .nil) .nil)) (.node (ob_26_0 P) (.node (ob_42_0 P) (.node (ob_74_0 P) .nil .nil) (.node (ob_106_0 P) .nil .nil)) (.node (ob_58_0 P) (.node (ob_90_0 P) .nil .nil) .nil))) (.node (ob_14_0 P) (.node (ob_22_0 P) (.node (ob_38_0 P) (.node (ob_70_0 P) .nil .nil) (.node (ob_102_0 P) .nil .nil)) (.node (ob_54_0 P) (.node (ob_86_0 P) .nil .nil) .nil)) (.node (ob_30_0 P) (.node (ob_46_0 P) (.node (ob_78_0 P) .nil .nil) (.node (ob_110_0 P) .nil .nil)) (.node (ob_62_0 P) (.node (ob_94_0 P) .nil .nil) .nil))))))
noncomputable abbrev S_p17 (w : World) (os : OsState) : SharedT := ⟨T_p17 w.params, 114, {}, Array.mk [], {}, 353, os⟩
noncomputable def ob_3_3 (P : Params) : Obj := ⟨(.type "dict"),none,(.dict #[⟨(kh P "__name__"),(.str "__name__" 165),(.str "ledgerspeak.tokens" 287)⟩,⟨(kh P "__doc__"),(.str "__doc__" 166),.none⟩,⟨(kh P "__package__"),(.str "__package__" 167),.none⟩,⟨(kh P "__loader__"),(.str "__loader__" 168),(.builtin "__main__.__loader__#opaque")⟩,⟨(kh P "__spec__"),(.str "__spec__" 169),.none⟩,⟨(kh P "__annotations__"),(.str "__annotations__" 170),(.ref 6)⟩,⟨(kh P "__builtins__"),(.str "__builtins__" 171),(.ref 4)⟩,⟨(kh P "__file__"),(.str "__file__" 173),(.str "/claim/cut.py" 172)⟩,⟨(kh P "__cached__"),(.str "__cached__" 174),.none⟩,⟨(kh P "QUOTES"),(.str "QUOTES" 190),(.str "\"'" 189)⟩,⟨(kh P "Line"),(.str "Line" 228),(.ref 38)⟩,⟨(kh P "LedgerError"),(.str "LedgerError" 270),(.ref 68)⟩,⟨(kh P "TokenFault"),(.str "TokenFault" 286),(.ref 81)⟩,⟨(kh P "LETTERS"),(.str "LETTERS" 290),(.str "ABCDEFGHIJKLMNOPQRSTUVWXYZ" 289)⟩,⟨(kh P "FIGURES"),(.str "FIGURES" 292),(.str "0123456789" 291)⟩,⟨(kh P "WORD_SIGNS"),(.str "WORD_SIGNS" 296),(.str "ABCDEFGHIJKLMNOPQRSTUVWXYZ0123456789-" 295)⟩,⟨(kh P "SINGLE_SIGNS"),(.str "SINGLE_SIGNS" 298),(.str "():+-*/=<>" 297)⟩,⟨(kh P "DOUBLE_SIGNS"),(.str "DOUBLE_SIGNS" 300),(.str "** <= >=" 299)⟩,⟨(kh P "ENDS"),(.str "ENDS" 302),(.str ".,;" 301)⟩,⟨(kh P "MOST_WORD"),(.str "MOST_WORD" 304),(.int 30 303)⟩,⟨(kh P "MOST_FIGURES"),(.str "MOST_FIGURES" 306),(.int 18 305)⟩,⟨(kh P "MOST_LITERAL"),(.str "MOST_LITERAL" 308),(.int 160 307)⟩,⟨(kh P "Token"),(.str "Token" 352),(.ref 109)⟩,⟨(kh P "capital_of"),(.str "capital_of" 359),(.ref 120)⟩,⟨(kh P "capitals"),(.str "capitals" 365),(.ref 125)⟩,⟨(kh P "is_word_sign"),(.str "is_word_sign" 372),(.ref 132)⟩,⟨(kh P "is_parted"),(.str "is_parted" 380),(.ref 139)⟩,⟨(kh P "line_fault"),(.str "line_fault" 389),(.ref 146)⟩,⟨(kh P "run_end"),(.str "run_end" 398),(.ref 153)⟩,⟨(kh P "number_end"),(.str "number_end" 407),(.ref 160)⟩,⟨(kh P "literal_end"),(.str "literal_end" 417),(.ref 167)⟩,⟨(kh P "picture_end"),(.str "picture_end" 426),(.ref 174)⟩,⟨(kh P "checked_word"),(.str "checked_word" 432),(.ref 179)⟩,⟨(kh P "checked_number"),(.str "checked_number" 442),(.ref 186)⟩,⟨(kh P "checked_literal"),(.str "checked_literal" 453),(.ref 193)⟩,⟨(kh P "checked_picture"),(.str "checked_picture" 462),(.ref 200)⟩,⟨(kh P "need_apart"),(.str "need_apart" 471),(.ref 207)⟩,⟨(kh P "mark_at"),(.str "mark_at" 481),(.ref 214)⟩,⟨(kh P "worth_at"),(.str "worth_at" 494),(.ref 221)⟩,⟨(kh P "is_blank_at"),(.str "is_blank_at" 502),(.ref 228)⟩] 40),#[]⟩
noncomputable def ob_12_3 (P : Params) : Obj := ⟨.none,none,(.fields #[(.int 3 0),(.int 0 0),(.ref 20),(.int 12 0),(.int 0 0),(.ref 48),(.int 21 0),(.int 0 0),(.ref 77),(.int 33 0),(.int 0 0),(.ref 89),(.int 43 0),(.int 0 0),(.ref 119),(.int 45 0),(.int 0 0),(.ref 124),(.int 47 0),(.int 0 0),(.ref 131),(.int 49 0),(.int 0 0),(.ref 138),(.int 51 0),(.int 0 0),(.ref 145),(.int 53 0),(.int 0 0),(.ref 152),(.int 57 0),(.int 0 0),(.ref 159),(.int 62 0),(.int 0 0),(.ref 166),(.int 73 0),(.int 0 0),(.ref 173),(.int 78 0),(.int 0 0),(.ref 178),(.int 87 0),(.int 0 0),(.ref 185),(.int 92 0),(.int 0 0),(.ref 192),(.int 98 0),(.int 0 0),(.ref 199),(.int 103 0),(.int 0 0),(.ref 206),(.int 111 0),(.int 0 0),(.ref 213),(.int 121 0),(.int 0 0),(.ref 220),(.int 141 0),(.int 0 0),(.ref 227)]),#[]⟩
noncomputable def ob_114_0 (P : Params) : Obj := ⟨(.type "tuple"),none,(.seq #[] 0),#[]⟩
noncomputable def ob_115_0 (P : Params) : Obj := ⟨.none,none,(.fields #[]),#[]⟩
noncomputable def ob_116_0 (P : Params) : Obj := ⟨(.type "tuple"),none,(.seq #[(.str "sign" 356)] 0),#[]⟩
noncomputable def ob_117_0 (P : Params) : Obj := ⟨(.type "tuple"),none,(.seq #[] 0),#[]⟩
noncomputable def ob_118_0 (P : Params) : Obj := cdO (dAt 17) "capital_of" "capital_of"
noncomputable def ob_119_0 (P : Params) : Obj := ⟨(.type "code"),none,(.fields #[(.str "capital_of" 353),(.str "capital_of" 354),(.str "/claim/cut.py" 355),(.int 43 0),(.int 1 0),(.int 0 0),(.int 0 0),(.int 3 0),(.ref 114),(.bool true),(.int 181 0),(.ref 115),.none,(.ref 116),(.ref 117),(.ref 118),(.int 357 0),(.int 43 0),(.str "/claim/cut.py" 358)]),#[]⟩
noncomputable def ob_120_0 (P : Params) : Obj := fnO (dAt 17) "capital_of" "capital_of" .none (.str "ledgerspeak.tokens" 287) 119
noncomputable def ob_121_0 (P : Params) : Obj := ⟨(.type "tuple"),none,(.seq #[] 0),#[]⟩
noncomputable def ob_122_0 (P : Params) : Obj := ⟨.none,none,(.fields #[]),#[]⟩
noncomputable def ob_123_0 (P : Params) : Obj := cdO (dAt 18) "capitals" "capitals"
noncomputable def ob_124_0 (P : Params) : Obj := ⟨(.type "code"),none,(.fields #[(.str "capitals" 360),(.str "capitals" 361),(.str "/claim/cut.py" 362),(.int 45 0),(.int 1 0),(.int 0 0),(.int 0 0),(.int 3 0),(.ref 121),(.bool true),(.int 181 0),(.ref 122),.none,.none,.none,(.ref 123),(.int 363 0),(.int 45 0),(.str "/claim/cut.py" 364)]),#[]⟩
noncomputable def ob_125_0 (P : Params) : Obj := fnO (dAt 18) "capitals" "capitals" .none (.str "ledgerspeak.tokens" 287) 124
noncomputable def ob_126_0 (P : Params) : Obj := ⟨(.type "tuple"),none,(.seq #[] 0),#[]⟩
noncomputable def ob_127_0 (P : Params) : Obj := ⟨.none,none,(.fields #[]),#[]⟩
noncomputable def ob_128_0 (P : Params) : Obj := ⟨(.type "tuple"),none,(.seq #[(.str "sign" 369)] 0),#[]⟩
noncomputable def ob_129_0 (P : Params) : Obj := ⟨(.type "tuple"),none,(.seq #[] 0),#[]⟩
noncomputable def ob_130_0 (P : Params) : Obj := cdO (dAt 19) "is_word_sign" "is_word_sign"
noncomputable def ob_131_0 (P : Params) : Obj := ⟨(.type "code"),none,(.fields #[(.str "is_word_sign" 366),(.str "is_word_sign" 367),(.str "/claim/cut.py" 368),(.int 47 0),(.int 1 0),(.int 0 0),(.int 0 0),(.int 3 0),(.ref 126),(.bool true),(.int 181 0),(.ref 127),.none,(.ref 128),(.ref 129),(.ref 130),(.int 370 0),(.int 47 0),(.str "/claim/cut.py" 371)]),#[]⟩
noncomputable def ob_132_0 (P : Params) : Obj := fnO (dAt 19) "is_word_sign" "is_word_sign" .none (.str "ledgerspeak.tokens" 287) 131
noncomputable def ob_133_0 (P : Params) : Obj := ⟨(.type "tuple"),none,(.seq #[] 0),#[]⟩
noncomputable def ob_134_0 (P : Params) : Obj := ⟨.none,none,(.fields #[]),#[]⟩
noncomputable def ob_135_0 (P : Params) : Obj := ⟨(.type "tuple"),none,(.seq #[(.str "text" 376),(.str "at" 377)] 0),#[]⟩
noncomputable def ob_136_0 (P : Params) : Obj := ⟨(.type "tuple"),none,(.seq #[] 0),#[]⟩
noncomputable def ob_137_0 (P : Params) : Obj := cdO (dAt 20) "is_parted" "is_parted"
noncomputable def ob_138_0 (P : Params) : Obj := ⟨(.type "code"),none,(.fields #[(.str "is_parted" 373),(.str "is_parted" 374),(.str "/claim/cut.py" 375),(.int 49 0),(.int 2 0),(.int 0 0),(.int 0 0),(.int 3 0),(.ref 133),(.bool true),(.int 181 0),(.ref 134),.none,(.ref 135),(.ref 136),(.ref 137),(.int 378 0),(.int 49 0),(.str "/claim/cut.py" 379)]),#[]⟩
noncomputable def ob_139_0 (P : Params) : Obj := fnO (dAt 20) "is_parted" "is_parted" .none (.str "ledgerspeak.tokens" 287) 138
noncomputable def ob_140_0 (P : Params) : Obj := ⟨(.type "tuple"),none,(.seq #[] 0),#[]⟩
noncomputable def ob_141_0 (P : Params) : Obj := ⟨.none,none,(.fields #[]),#[]⟩
noncomputable def ob_142_0 (P : Params) : Obj := ⟨(.type "tuple"),none,(.seq #[(.str "line" 384),(.str "at" 385),(.str "what" 386)] 0),#[]⟩
noncomputable def ob_143_0 (P : Params) : Obj := ⟨(.type "tuple"),none,(.seq #[] 0),#[]⟩
noncomputable def ob_144_0 (P : Params) : Obj := cdO (dAt 21) "line_fault" "line_fault"
noncomputable def ob_145_0 (P : Params) : Obj := ⟨(.type "code"),none,(.fields #[(.str "line_fault" 381),(.str "line_fault" 382),(.str "/claim/cut.py" 383),(.int 51 0),(.int 3 0),(.int 0 0),(.int 0 0),(.int 3 0),(.ref 140),(.bool true),(.int 181 0),(.ref 141),.none,(.ref 142),(.ref 143),(.ref 144),(.int 387 0),(.int 51 0),(.str "/claim/cut.py" 388)]),#[]⟩
noncomputable def ob_146_0 (P : Params) : Obj := fnO (dAt 21) "line_fault" "line_fault" .none (.str "ledgerspeak.tokens" 287) 145
noncomputable def ob_147_0 (P : Params) : Obj := ⟨(.type "tuple"),none,(.seq #[] 0),#[]⟩
noncomputable def ob_148_0 (P : Params) : Obj := ⟨.none,none,(.fields #[]),#[]⟩
noncomputable def ob_149_0 (P : Params) : Obj := ⟨(.type "tuple"),none,(.seq #[(.str "text" 393),(.str "at" 394),(.str "signs" 395)] 0),#[]⟩
noncomputable def ob_150_0 (P : Params) : Obj := ⟨(.type "tuple"),none,(.seq #[] 0),#[]⟩
noncomputable def ob_151_0 (P : Params) : Obj := cdO (dAt 22) "run_end" "run_end"
noncomputable def ob_152_0 (P : Params) : Obj := ⟨(.type "code"),none,(.fields #[(.str "run_end" 390),(.str "run_end" 391),(.str "/claim/cut.py" 392),(.int 53 0),(.int 3 0),(.int 0 0),(.int 0 0),(.int 3 0),(.ref 147),(.bool true),(.int 181 0),(.ref 148),.none,(.ref 149),(.ref 150),(.ref 151),(.int 396 0),(.int 53 0),(.str "/claim/cut.py" 397)]),#[]⟩
noncomputable def ob_153_0 (P : Params) : Obj := fnO (dAt 22) "run_end" "run_end" .none (.str "ledgerspeak.tokens" 287) 152
noncomputable def ob_154_0 (P : Params) : Obj := ⟨(.type "tuple"),none,(.seq #[] 0),#[]⟩
noncomputable def ob_155_0 (P : Params) : Obj := ⟨.none,none,(.fields #[]),#[]⟩
noncomputable def ob_156_0 (P : Params) : Obj := ⟨(.type "tuple"),none,(.seq #[(.str "text" 402),(.str "at" 403),(.str "end" 404)] 0),#[]⟩
noncomputable def ob_157_0 (P : Params) : Obj := ⟨(.type "tuple"),none,(.seq #[] 0),#[]⟩
noncomputable def ob_158_0 (P : Params) : Obj := cdO (dAt 23) "number_end" "number_end"
noncomputable def ob_159_0 (P : Params) : Obj := ⟨(.type "code"),none,(.fields #[(.str "number_end" 399),(.str "number_end" 400),(.str "/claim/cut.py" 401),(.int 57 0),(.int 2 0),(.int 0 0),(.int 0 0),(.int 3 0),(.ref 154),(.bool true),(.int 181 0),(.ref 155),.none,(.ref 156),(.ref 157),(.ref 158),(.int 405 0),(.int 57 0),(.str "/claim/cut.py" 406)]),#[]⟩
noncomputable def ob_160_0 (P : Params) : Obj := fnO (dAt 23) "number_end" "number_end" .none (.str "ledgerspeak.tokens" 287) 159
noncomputable def ob_161_0 (P : Params) : Obj := ⟨(.type "tuple"),none,(.seq #[] 0),#[]⟩
noncomputable def ob_162_0 (P : Params) : Obj := ⟨.none,none,(.fields #[]),#[]⟩
noncomputable def ob_163_0 (P : Params) : Obj := ⟨(.type "tuple"),none,(.seq #[(.str "line" 411),(.str "at" 412),(.str "quote" 413),(.str "end" 414)] 0),#[]⟩
noncomputable def ob_164_0 (P : Params) : Obj := ⟨(.type "tuple"),none,(.seq #[] 0),#[]⟩
noncomputable def ob_165_0 (P : Params) : Obj := cdO (dAt 24) "literal_end" "literal_end"
noncomputable def ob_166_0 (P : Params) : Obj := ⟨(.type "code"),none,(.fields #[(.str "literal_end" 408),(.str "literal_end" 409),(.str "/claim/cut.py" 410),(.int 62 0),(.int 2 0),(.int 0 0),(.int 0 0),(.int 3 0),(.ref 161),(.bool true),(.int 181 0),(.ref 162),.none,(.ref 163),(.ref 164),(.ref 165),(.int 415 0),(.int 62 0),(.str "/claim/cut.py" 416)]),#[]⟩
noncomputable def ob_167_0 (P : Params) : Obj := fnO (dAt 24) "literal_end" "literal_end" .none (.str "ledgerspeak.tokens" 287) 166
noncomputable def ob_168_0 (P : Params) : Obj := ⟨(.type "tuple"),none,(.seq #[] 0),#[]⟩
noncomputable def ob_169_0 (P : Params) : Obj := ⟨.none,none,(.fields #[]),#[]⟩
noncomputable def ob_170_0 (P : Params) : Obj := ⟨(.type "tuple"),none,(.seq #[(.str "text" 421),(.str "at" 422),(.str "end" 423)] 0),#[]⟩
noncomputable def ob_171_0 (P : Params) : Obj := ⟨(.type "tuple"),none,(.seq #[] 0),#[]⟩
noncomputable def ob_172_0 (P : Params) : Obj := cdO (dAt 25) "picture_end" "picture_end"
noncomputable def ob_173_0 (P : Params) : Obj := ⟨(.type "code"),none,(.fields #[(.str "picture_end" 418),(.str "picture_end" 419),(.str "/claim/cut.py" 420),(.int 73 0),(.int 2 0),(.int 0 0),(.int 0 0),(.int 3 0),(.ref 168),(.bool true),(.int 181 0),(.ref 169),.none,(.ref 170),(.ref 171),(.ref 172),(.int 424 0),(.int 73 0),(.str "/claim/cut.py" 425)]),#[]⟩
noncomputable def ob_174_0 (P : Params) : Obj := fnO (dAt 25) "picture_end" "picture_end" .none (.str "ledgerspeak.tokens" 287) 173
noncomputable def ob_175_0 (P : Params) : Obj := ⟨(.type "tuple"),none,(.seq #[] 0),#[]⟩
noncomputable def ob_176_0 (P : Params) : Obj := ⟨.none,none,(.fields #[]),#[]⟩
noncomputable def ob_177_0 (P : Params) : Obj := cdO (dAt 26) "checked_word" "checked_word"
noncomputable def ob_178_0 (P : Params) : Obj := ⟨(.type "code"),none,(.fields #[(.str "checked_word" 427),(.str "checked_word" 428),(.str "/claim/cut.py" 429),(.int 78 0),(.int 3 0),(.int 0 0),(.int 0 0),(.int 3 0),(.ref 175),(.bool true),(.int 181 0),(.ref 176),.none,.none,.none,(.ref 177),(.int 430 0),(.int 78 0),(.str "/claim/cut.py" 431)]),#[]⟩
noncomputable def ob_179_0 (P : Params) : Obj := fnO (dAt 26) "checked_word" "checked_word" .none (.str "ledgerspeak.tokens" 287) 178
noncomputable def ob_180_0 (P : Params) : Obj := ⟨(.type "tuple"),none,(.seq #[] 0),#[]⟩
noncomputable def ob_181_0 (P : Params) : Obj := ⟨.none,none,(.fields #[]),#[]⟩
noncomputable def ob_182_0 (P : Params) : Obj := ⟨(.type "tuple"),none,(.seq #[(.str "line" 436),(.str "at" 437),(.str "end" 438),(.str "worth" 439)] 0),#[]⟩
noncomputable def ob_183_0 (P : Params) : Obj := ⟨(.type "tuple"),none,(.seq #[] 0),#[]⟩
noncomputable def ob_184_0 (P : Params) : Obj := cdO (dAt 27) "checked_number" "checked_number"
noncomputable def ob_185_0 (P : Params) : Obj := ⟨(.type "code"),none,(.fields #[(.str "checked_number" 433),(.str "checked_number" 434),(.str "/claim/cut.py" 435),(.int 87 0),(.int 3 0),(.int 0 0),(.int 0 0),(.int 3 0),(.ref 180),(.bool true),(.int 181 0),(.ref 181),.none,(.ref 182),(.ref 183),(.ref 184),(.int 440 0),(.int 87 0),(.str "/claim/cut.py" 441)]),#[]⟩
noncomputable def ob_186_0 (P : Params) : Obj := fnO (dAt 27) "checked_number" "checked_number" .none (.str "ledgerspeak.tokens" 287) 185
noncomputable def ob_187_0 (P : Params) : Obj := ⟨(.type "tuple"),none,(.seq #[] 0),#[]⟩
noncomputable def ob_188_0 (P : Params) : Obj := ⟨.none,none,(.fields #[]),#[]⟩
noncomputable def ob_189_0 (P : Params) : Obj := ⟨(.type "tuple"),none,(.seq #[(.str "line" 446),(.str "at" 447),(.str "end" 448),(.str "quote" 449),(.str "worth" 450)] 0),#[]⟩
noncomputable def ob_190_0 (P : Params) : Obj := ⟨(.type "tuple"),none,(.seq #[] 0),#[]⟩
noncomputable def ob_191_0 (P : Params) : Obj := cdO (dAt 28) "checked_literal" "checked_literal"
noncomputable def ob_192_0 (P : Params) : Obj := ⟨(.type "code"),none,(.fields #[(.str "checked_literal" 443),(.str "checked_literal" 444),(.str "/claim/cut.py" 445),(.int 92 0),(.int 3 0),(.int 0 0),(.int 0 0),(.int 3 0),(.ref 187),(.bool true),(.int 181 0),(.ref 188),.none,(.ref 189),(.ref 190),(.ref 191),(.int 451 0),(.int 92 0),(.str "/claim/cut.py" 452)]),#[]⟩
noncomputable def ob_193_0 (P : Params) : Obj := fnO (dAt 28) "checked_literal" "checked_literal" .none (.str "ledgerspeak.tokens" 287) 192
noncomputable def ob_194_0 (P : Params) : Obj := ⟨(.type "tuple"),none,(.seq #[] 0),#[]⟩
noncomputable def ob_195_0 (P : Params) : Obj := ⟨.none,none,(.fields #[]),#[]⟩
noncomputable def ob_196_0 (P : Params) : Obj := ⟨(.type "tuple"),none,(.seq #[(.str "line" 457),(.str "at" 458),(.str "end" 459)] 0),#[]⟩
noncomputable def ob_197_0 (P : Params) : Obj := ⟨(.type "tuple"),none,(.seq #[] 0),#[]⟩
noncomputable def ob_198_0 (P : Params) : Obj := cdO (dAt 29) "checked_picture" "checked_picture"
noncomputable def ob_199_0 (P : Params) : Obj := ⟨(.type "code"),none,(.fields #[(.str "checked_picture" 454),(.str "checked_picture" 455),(.str "/claim/cut.py" 456),(.int 98 0),(.int 2 0),(.int 0 0),(.int 0 0),(.int 3 0),(.ref 194),(.bool true),(.int 181 0),(.ref 195),.none,(.ref 196),(.ref 197),(.ref 198),(.int 460 0),(.int 98 0),(.str "/claim/cut.py" 461)]),#[]⟩
noncomputable def ob_200_0 (P : Params) : Obj := fnO (dAt 29) "checked_picture" "checked_picture" .none (.str "ledgerspeak.tokens" 287) 199
noncomputable def ob_201_0 (P : Params) : Obj := ⟨(.type "tuple"),none,(.seq #[] 0),#[]⟩
noncomputable def ob_202_0 (P : Params) : Obj := ⟨.none,none,(.fields #[]),#[]⟩
noncomputable def ob_203_0 (P : Params) : Obj := ⟨(.type "tuple"),none,(.seq #[(.str "line" 466),(.str "end" 467),(.str "behind" 468)] 0),#[]⟩
noncomputable def ob_204_0 (P : Params) : Obj := ⟨(.type "tuple"),none,(.seq #[] 0),#[]⟩
noncomputable def ob_205_0 (P : Params) : Obj := cdO (dAt 30) "need_apart" "need_apart"
noncomputable def ob_206_0 (P : Params) : Obj := ⟨(.type "code"),none,(.fields #[(.str "need_apart" 463),(.str "need_apart" 464),(.str "/claim/cut.py" 465),(.int 103 0),(.int 2 0),(.int 0 0),(.int 0 0),(.int 3 0),(.ref 201),(.bool true),(.int 181 0),(.ref 202),.none,(.ref 203),(.ref 204),(.ref 205),(.int 469 0),(.int 103 0),(.str "/claim/cut.py" 470)]),#[]⟩
noncomputable def ob_207_0 (P : Params) : Obj := fnO (dAt 30) "need_apart" "need_apart" .none (.str "ledgerspeak.tokens" 287) 206
noncomputable def ob_208_0 (P : Params) : Obj := ⟨(.type "tuple"),none,(.seq #[] 0),#[]⟩
noncomputable def ob_209_0 (P : Params) : Obj := ⟨.none,none,(.fields #[]),#[]⟩
noncomputable def ob_210_0 (P : Params) : Obj := ⟨(.type "tuple"),none,(.seq #[(.str "line" 475),(.str "at" 476),(.str "pair" 477),(.str "sign" 478)] 0),#[]⟩
noncomputable def ob_211_0 (P : Params) : Obj := ⟨(.type "tuple"),none,(.seq #[] 0),#[]⟩
noncomputable def ob_212_0 (P : Params) : Obj := cdO (dAt 31) "mark_at" "mark_at"
noncomputable def ob_213_0 (P : Params) : Obj := ⟨(.type "code"),none,(.fields #[(.str "mark_at" 472),(.str "mark_at" 473),(.str "/claim/cut.py" 474),(.int 111 0),(.int 2 0),(.int 0 0),(.int 0 0),(.int 3 0),(.ref 208),(.bool true),(.int 181 0),(.ref 209),.none,(.ref 210),(.ref 211),(.ref 212),(.int 479 0),(.int 111 0),(.str "/claim/cut.py" 480)]),#[]⟩
noncomputable def ob_214_0 (P : Params) : Obj := fnO (dAt 31) "mark_at" "mark_at" .none (.str "ledgerspeak.tokens" 287) 213
noncomputable def ob_215_0 (P : Params) : Obj := ⟨(.type "tuple"),none,(.seq #[] 0),#[]⟩
noncomputable def ob_216_0 (P : Params) : Obj := ⟨.none,none,(.fields #[]),#[]⟩
noncomputable def ob_217_0 (P : Params) : Obj := ⟨(.type "tuple"),none,(.seq #[(.str "line" 485),(.str "at" 486),(.str "sign" 487),(.str "end" 488),(.str "behind" 489),(.str "kind" 490),(.str "worth" 491)] 0),#[]⟩
noncomputable def ob_218_0 (P : Params) : Obj := ⟨(.type "tuple"),none,(.seq #[] 0),#[]⟩
noncomputable def ob_219_0 (P : Params) : Obj := cdO (dAt 32) "worth_at" "worth_at"
noncomputable def ob_220_0 (P : Params) : Obj := ⟨(.type "code"),none,(.fields #[(.str "worth_at" 482),(.str "worth_at" 483),(.str "/claim/cut.py" 484),(.int 121 0),(.int 2 0),(.int 0 0),(.int 0 0),(.int 3 0),(.ref 215),(.bool true),(.int 181 0),(.ref 216),.none,(.ref 217),(.ref 218),(.ref 219),(.int 492 0),(.int 121 0),(.str "/claim/cut.py" 493)]),#[]⟩
noncomputable def ob_221_0 (P : Params) : Obj := fnO (dAt 32) "worth_at" "worth_at" .none (.str "ledgerspeak.tokens" 287) 220
noncomputable def ob_222_0 (P : Params) : Obj := ⟨(.type "tuple"),none,(.seq #[] 0),#[]⟩
noncomputable def ob_223_0 (P : Params) : Obj := ⟨.none,none,(.fields #[]),#[]⟩
noncomputable def ob_224_0 (P : Params) : Obj := ⟨(.type "tuple"),none,(.seq #[(.str "text" 498),(.str "at" 499)] 0),#[]⟩
noncomputable def ob_225_0 (P : Params) : Obj := ⟨(.type "tuple"),none,(.seq #[] 0),#[]⟩
noncomputable def ob_226_0 (P : Params) : Obj := cdO (dAt 33) "is_blank_at" "is_blank_at"
noncomputable def ob_227_0 (P : Params) : Obj := ⟨(.type "code"),none,(.fields #[(.str "is_blank_at" 495),(.str "is_blank_at" 496),(.str "/claim/cut.py" 497),(.int 141 0),(.int 2 0),(.int 0 0),(.int 0 0),(.int 3 0),(.ref 222),(.bool true),(.int 181 0),(.ref 223),.none,(.ref 224),(.ref 225),(.ref 226),(.int 500 0),(.int 141 0),(.str "/claim/cut.py" 501)]),#[]⟩
noncomputable def ob_228_0 (P : Params) : Obj := fnO (dAt 33) "is_blank_at" "is_blank_at" .none (.str "ledgerspeak.tokens" 287) 227
noncomputable def T_p34 (P : Params) : BT := (.node (boot_o_0 P) (.node (boot_o_1 P) (.node (ob_3_3 P) (.node (boot_o_7 P) (.node (ob_15_0 P) (.node (ob_31_0 P) (.node (ob_63_0 P) (.node (ob_127_0 P) .nil .nil) (.node (ob_191_0 P) .nil .nil)) (.node (ob_95_0 P) (.node (ob_159_0 P) .nil .nil) (.node (ob_223_0 P) .nil .nil))) (.node (ob_47_0 P) (.node (ob_79_0 P) (.node (ob_143_0 P) .nil .nil) (.node (ob_207_0 P) .nil .nil)) (.node (ob_111_0 P) (.node (ob_175_0 P) .nil .nil) .nil))) (.node (ob_23_0 P) (.node (ob_39_0 P) (.node (ob_71_0 P) (.node (ob_135_0 P) .nil .nil) (.node (ob_199_0 P) .nil .nil)) (.node (ob_103_0 P) (.node (ob_167_0 P) .nil .nil) .nil)) (.node (ob_55_0 P) (.node (ob_87_0 P) (.node (ob_151_0 P) .nil .nil) (.node (ob_215_0 P) .nil .nil)) (.node (ob_119_0 P) (.node (ob_183_0 P) .nil .nil) .nil)))) (.node (ob_11_0 P) (.node (ob_19_0 P) (.node (ob_35_0 P) (.node (ob_67_0 P) (.node (ob_131_0 P) .nil .nil) (.node (ob_195_0 P) .nil .nil)) (.node (ob_99_0 P) (.node (ob_163_0 P) .nil .nil) (.node (ob_227_0 P) .nil .nil))) (.node (ob_51_0 P) (.node (ob_83_0 P) (.node (ob_147_0 P) .nil .nil) (.node (ob_211_0 P) .nil .nil)) (.node (ob_115_0 P) (.node (ob_179_0 P) .nil .nil) .nil))) (.node (ob_27_0 P) (.node (ob_43_0 P) (.node (ob_75_0 P) (.node (ob_139_0 P) .nil .nil) (.node (ob_203_0 P) .nil .nil)) (.node (ob_107_0 P) (.node (ob_171_0 P) .nil .nil) .nil)) (.node (ob_59_0 P) (.node (ob_91_0 P) (.node (ob_155_0 P) .nil .nil) (.node (ob_219_0 P) .nil .nil)) (.node (ob_123_0 P) (.node (ob_187_0 P) .nil .nil) .nil))))) (.node (boot_o_5 P) (.node (boot_o_9 P) (.node (ob_17_0 P) (.node (ob_33_0 P) (.node (ob_65_0 P) (.node (ob_129_0 P) .nil .nil) (.node (ob_193_0 P) .nil .nil)) (.node (ob_97_0 P) (.node (ob_161_0 P) .nil .nil) (.node (ob_225_0 P) .nil .nil))) (.node (ob_49_0 P) (.node (ob_81_0 P) (.node (ob_145_0 P) .nil .nil) (.node (ob_209_0 P) .nil .nil)) (.node (ob_113_0 P) (.node (ob_177_0 P) .nil .nil) .nil))) (.node (ob_25_0 P) (.node (ob_41_0 P) (.node (ob_73_0 P) (.node (ob_137_0 P) .nil .nil) (.node (ob_201_0 P) .nil .nil)) (.node (ob_105_0 P) (.node (ob_169_0 P) .nil .nil) .nil)) (.node (ob_57_0 P) (.node (ob_89_0 P) (.node (ob_153_0 P) .nil .nil) (.node (ob_217_0 P) .nil .nil)) (.node (ob_121_0 P) (.node (ob_185_0 P) .nil .nil) .nil)))) (.node (ob_13_0 P) (.node (ob_21_0 P) (.node (ob_37_0 P) (.node (ob_69_0 P) (.node (ob_133_0 P) .nil .nil) (.node (ob_197_0 P) .nil .nil)) (.node (ob_101_0 P) (.node (ob_165_0 P) .nil .nil) .nil)) (.node (ob_53_0 P) (.node (ob_85_0 P) (.node (ob_149_0 P) .nil .nil) (.node (ob_213_0 P) .nil .nil)) (.node (ob_117_0 P) (.node (ob_181_0 P) .nil .nil) .nil))) (.node (ob_29_0 P) (.node (ob_45_0 P) (.node (ob_77_0 P) (.node (ob_141_0 P) .nil .nil) (.node (ob_205_0 P) .nil .nil)) (.node (ob_109_0 P) (.node (ob_173_0 P) .nil .nil) .nil)) (.node (ob_61_0 P) (.node (ob_93_0 P) (.node (ob_157_0 P) .nil .nil) (.node (ob_221_0 P) .nil .nil)) (.node (ob_125_0 P) (.node (ob_189_0 P) .nil .nil) .nil)))))) (.node (ob_2_1 P) (.node (boot_o_4 P) (.node (boot_o_8 P) (.node (ob_16_0 P) (.node (ob_32_0 P) (.node (ob_64_0 P) (.node (ob_128_0 P) .nil .nil) (.node (ob_192_0 P) .nil .nil)) (.node (ob_96_0 P) (.node (ob_160_0 P) .nil .nil) (.node (ob_224_0 P) .nil .nil))) (.node (ob_48_0 P) (.node (ob_80_0 P) (.node (ob_144_0 P) .nil .nil) (.node (ob_208_0 P) .nil .nil)) (.node (ob_112_0 P) (.node (ob_176_0 P) .nil .nil) .nil))) (.node (ob_24_0 P) (.node (ob_40_0 P) (.node (ob_72_0 P) (.node (ob_136_0 P) .nil .nil) (.node (ob_200_0 P) .nil .nil)) (.node (ob_104_0 P) (.node (ob_168_0 P) .nil .nil) .nil)) (.node (ob_56_0 P) (.node (ob_88_0 P) (.node (ob_152_0 P) .nil .nil) (.node (ob_216_0 P) .nil .nil)) (.node (ob_120_0 P) (.node (ob_184_0 P) .nil .nil) .nil)))) (.node (ob_12_3 P) (.node (ob_20_0 P) (.node (ob_36_0 P) (.node (ob_68_1 P) (.node (ob_132_0 P) .nil .nil) (.node (ob_196_0 P) .nil .nil)) (.node (ob_100_0 P) (.node (ob_164_0 P) .nil .nil) (.node (ob_228_0 P) .nil .nil))) (.node (ob_52_0 P) (.node (ob_84_0 P) (.node (ob_148_0 P) .nil .nil) (.node (ob_212_0 P) .nil .nil)) (.node (ob_116_0 P) (.node (ob_180_0 P) .nil .nil) .nil))) (.node (ob_28_0 P) (.node (ob_44_0 P) (.node (ob_76_0 P) (.node (ob_140_0 P) .nil .nil) (.node (ob_204_0 P) .nil .nil)) (.node (ob_108_0 P) (.node (ob_172_0 P) .nil .nil) .nil)) (.node (ob_60_0 P) (.node (ob_92_0 P) (.node (ob_156_0 P) .nil .nil) (.node (ob_220_0 P) .nil .nil)) (.node (ob_124_0 P) (.node (ob_188_0 P) .nil .nil) .nil))))) (.node (boot_o_6 P) (.node (boot_o_10 P) (.node (ob_18_0 P) (.node (ob_34_0 P) (.node (ob_66_0 P) (.node (ob_130_0 P) .nil .nil) (.node (ob_194_0 P) .nil .nil)) (.node (ob_98_0 P) (.node (ob_162_0 P) .nil .nil) (.node (ob_226_0 P) .nil .nil))) (.node (ob_50_0 P) (.node (ob_82_0 P) (.node (ob_146_0 P) .nil .nil) (.node (ob_210_0 P) .nil .nil)) (.node (ob_114_0 P) (.node (ob_178_0 P) .nil .nil) .nil))) (.node (ob_26_0 P) (.node (ob_42_0 P) (.node (ob_74_0 P) (.node (ob_138_0 P) .nil .nil) (.node (ob_202_0 P) .nil .nil)) (.node (ob_106_0 P) (.node (ob_170_0 P) .nil .nil) .nil)) (.node (ob_58_0 P) (.node (ob_90_0 P) (.node (ob_154_0 P) .nil .nil) (.node (ob_218_0 P) .nil .nil)) (.node (ob_122_0 P) (.node (ob_186_0 P) .nil .nil) .nil)))) (.node (ob_14_0 P) (.node (ob_22_0 P) (.node (ob_38_0 P) (.node (ob_70_0 P) (.node (ob_134_0 P) .nil .nil) (.node (ob_198_0 P) .nil .nil)) (.node (ob_102_0 P) (.node (ob_166_0 P) .nil .nil) .nil)) (.node (ob_54_0 P) (.node (ob_86_0 P) (.node (ob_150_0 P) .nil .nil) (.node (ob_214_0 P) .nil .nil)) (.node (ob_118_0 P) (.node (ob_182_0 P) .nil .nil) .nil))) (.node (ob_30_0 P) (.node (ob_46_0 P) (.node (ob_78_0 P) (.node (ob_142_0 P) .nil .nil) (.node (ob_206_0 P) .nil .nil)) (.node (ob_110_0 P) (.node (ob_174_0 P) .nil .nil) .nil)) (.node (ob_62_0 P) (.node (ob_94_0 P) (.node (ob_158_0 P) .nil .nil) (.node (ob_222_0 P) .nil .nil)) (.node (ob_126_0 P) (.node (ob_190_0 P) .nil .nil) .nil)))))))
noncomputable abbrev S_p34 (w : World) (os : OsState) : SharedT := ⟨T_p34 w.params, 229, {}, Array.mk [], {}, 503, os⟩
noncomputable def ob_3_4 (P : Params) : Obj := ⟨(.type "dict"),none,(.dict #[⟨(kh P "__name__"),(.str "__name__" 165),(.str "law_og0086_01" 541)⟩,⟨(kh P "__doc__"),(.str "__doc__" 166),.none⟩,⟨(kh P "__package__"),(.str "__package__" 167),.none⟩,⟨(kh P "__loader__"),(.str "__loader__" 168),(.builtin "__main__.__loader__#opaque")⟩,⟨(kh P "__spec__"),(.str "__spec__" 169),.none⟩,⟨(kh P "__annotations__"),(.str "__annotations__" 170),(.ref 6)⟩,⟨(kh P "__builtins__"),(.str "__builtins__" 171),(.ref 4)⟩,⟨(kh P "__file__"),(.str "__file__" 173),(.str "/claim/cut.py" 172)⟩,⟨(kh P "__cached__"),(.str "__cached__" 174),.none⟩,⟨(kh P "QUOTES"),(.str "QUOTES" 190),(.str "\"'" 189)⟩,⟨(kh P "Line"),(.str "Line" 228),(.ref 38)⟩,⟨(kh P "LedgerError"),(.str "LedgerError" 270),(.ref 68)⟩,⟨(kh P "TokenFault"),(.str "TokenFault" 286),(.ref 81)⟩,⟨(kh P "LETTERS"),(.str "LETTERS" 290),(.str "ABCDEFGHIJKLMNOPQRSTUVWXYZ" 289)⟩,⟨(kh P "FIGURES"),(.str "FIGURES" 292),(.str "0123456789" 291)⟩,⟨(kh P "WORD_SIGNS"),(.str "WORD_SIGNS" 296),(.str "ABCDEFGHIJKLMNOPQRSTUVWXYZ0123456789-" 295)⟩,⟨(kh P "SINGLE_SIGNS"),(.str "SINGLE_SIGNS" 298),(.str "():+-*/=<>" 297)⟩,⟨(kh P "DOUBLE_SIGNS"),(.str "DOUBLE_SIGNS" 300),(.str "** <= >=" 299)⟩,⟨(kh P "ENDS"),(.str "ENDS" 302),(.str ".,;" 301)⟩,⟨(kh P "MOST_WORD"),(.str "MOST_WORD" 304),(.int 30 303)⟩,⟨(kh P "MOST_FIGURES"),(.str "MOST_FIGURES" 306),(.int 18 305)⟩,⟨(kh P "MOST_LITERAL"),(.str "MOST_LITERAL" 308),(.int 160 307)⟩,⟨(kh P "Token"),(.str "Token" 352),(.ref 109)⟩,⟨(kh P "capital_of"),(.str "capital_of" 359),(.ref 120)⟩,⟨(kh P "capitals"),(.str "capitals" 365),(.ref 125)⟩,⟨(kh P "is_word_sign"),(.str "is_word_sign" 372),(.ref 132)⟩,⟨(kh P "is_parted"),(.str "is_parted" 380),(.ref 139)⟩,⟨(kh P "line_fault"),(.str "line_fault" 389),(.ref 146)⟩,⟨(kh P "run_end"),(.str "run_end" 398),(.ref 153)⟩,⟨(kh P "number_end"),(.str "number_end" 407),(.ref 160)⟩,⟨(kh P "literal_end"),(.str "literal_end" 417),(.ref 167)⟩,⟨(kh P "picture_end"),(.str "picture_end" 426),(.ref 174)⟩,⟨(kh P "checked_word"),(.str "checked_word" 432),(.ref 179)⟩,⟨(kh P "checked_number"),(.str "checked_number" 442),(.ref 186)⟩,⟨(kh P "checked_literal"),(.str "checked_literal" 453),(.ref 193)⟩,⟨(kh P "checked_picture"),(.str "checked_picture" 462),(.ref 200)⟩,⟨(kh P "need_apart"),(.str "need_apart" 471),(.ref 207)⟩,⟨(kh P "mark_at"),(.str "mark_at" 481),(.ref 214)⟩,⟨(kh P "worth_at"),(.str "worth_at" 494),(.ref 221)⟩,⟨(kh P "is_blank_at"),(.str "is_blank_at" 502),(.ref 228)⟩,⟨(kh P "is_picture_next"),(.str "is_picture_next" 509),(.ref 235)⟩,⟨(kh P "add_tokens"),(.str "add_tokens" 523),(.ref 242)⟩,⟨(kh P "is_word_is"),(.str "is_word_is" 531),(.ref 249)⟩,⟨(kh P "tokens_of"),(.str "tokens_of" 540),(.ref 256)⟩,⟨(kh P "_law_figures"),(.str "_law_figures" 544),(.str "0123456789" 543)⟩,⟨(kh P "_law_letters"),(.str "_law_letters" 546),(.str "ABCDEFGHIJKLMNOPQRSTUVWXYZ" 545)⟩,⟨(kh P "_law_piece"),(.str "_law_piece" 555),(.ref 263)⟩,⟨(kh P "_law_text"),(.str "_law_text" 566),(.ref 270)⟩,⟨(kh P "_law_run"),(.str "_law_run" 575),(.ref 277)⟩,⟨(kh P "_law_apart"),(.str "_law_apart" 583),(.ref 284)⟩,⟨(kh P "_law_quoted"),(.str "_law_quoted" 594),(.ref 291)⟩,⟨(kh P "_law_next"),(.str "_law_next" 600),(.ref 296)⟩,⟨(kh P "_law_read"),(.str "_law_read" 613),(.ref 303)⟩,⟨(kh P "_law_right"),(.str "_law_right" 619),(.ref 308)⟩,⟨(kh P "law"),(.str "law" 628),(.ref 315)⟩] 55),#[]⟩
noncomputable def ob_12_4 (P : Params) : Obj := ⟨.none,none,(.fields #[(.int 3 0),(.int 0 0),(.ref 20),(.int 12 0),(.int 0 0),(.ref 48),(.int 21 0),(.int 0 0),(.ref 77),(.int 33 0),(.int 0 0),(.ref 89),(.int 43 0),(.int 0 0),(.ref 119),(.int 45 0),(.int 0 0),(.ref 124),(.int 47 0),(.int 0 0),(.ref 131),(.int 49 0),(.int 0 0),(.ref 138),(.int 51 0),(.int 0 0),(.ref 145),(.int 53 0),(.int 0 0),(.ref 152),(.int 57 0),(.int 0 0),(.ref 159),(.int 62 0),(.int 0 0),(.ref 166),(.int 73 0),(.int 0 0),(.ref 173),(.int 78 0),(.int 0 0),(.ref 178),(.int 87 0),(.int 0 0),(.ref 185),(.int 92 0),(.int 0 0),(.ref 192),(.int 98 0),(.int 0 0),(.ref 199),(.int 103 0),(.int 0 0),(.ref 206),(.int 111 0),(.int 0 0),(.ref 213),(.int 121 0),(.int 0 0),(.ref 220),(.int 141 0),(.int 0 0),(.ref 227),(.int 143 0),(.int 0 0),(.ref 234),(.int 145 0),(.int 0 0),(.ref 241),(.int 165 0),(.int 0 0),(.ref 248),(.int 167 0),(.int 0 0),(.ref 255),(.int 175 0),(.int 0 0),(.ref 262),(.int 179 0),(.int 0 0),(.ref 269),(.int 188 0),(.int 0 0),(.ref 276),(.int 192 0),(.int 0 0),(.ref 283),(.int 198 0),(.int 0 0),(.ref 290),(.int 210 0),(.int 0 0),(.ref 295),(.int 244 0),(.int 0 0),(.ref 302),(.int 267 0),(.int 0 0),(.ref 307),(.int 276 0),(.int 0 0),(.ref 314)]),#[]⟩
noncomputable def ob_229_0 (P : Params) : Obj := ⟨(.type "tuple"),none,(.seq #[] 0),#[]⟩
noncomputable def ob_230_0 (P : Params) : Obj := ⟨.none,none,(.fields #[]),#[]⟩
noncomputable def ob_231_0 (P : Params) : Obj := ⟨(.type "tuple"),none,(.seq #[(.str "tokens" 506)] 0),#[]⟩
noncomputable def ob_232_0 (P : Params) : Obj := ⟨(.type "tuple"),none,(.seq #[] 0),#[]⟩
noncomputable def ob_233_0 (P : Params) : Obj := cdO (dAt 34) "is_picture_next" "is_picture_next"
noncomputable def ob_234_0 (P : Params) : Obj := ⟨(.type "code"),none,(.fields #[(.str "is_picture_next" 503),(.str "is_picture_next" 504),(.str "/claim/cut.py" 505),(.int 143 0),(.int 1 0),(.int 0 0),(.int 0 0),(.int 3 0),(.ref 229),(.bool true),(.int 181 0),(.ref 230),.none,(.ref 231),(.ref 232),(.ref 233),(.int 507 0),(.int 143 0),(.str "/claim/cut.py" 508)]),#[]⟩
noncomputable def ob_235_0 (P : Params) : Obj := fnO (dAt 34) "is_picture_next" "is_picture_next" .none (.str "ledgerspeak.tokens" 287) 234
noncomputable def ob_236_0 (P : Params) : Obj := ⟨(.type "tuple"),none,(.seq #[] 0),#[]⟩
noncomputable def ob_237_0 (P : Params) : Obj := ⟨.none,none,(.fields #[]),#[]⟩
noncomputable def ob_238_0 (P : Params) : Obj := ⟨(.type "tuple"),none,(.seq #[(.str "tokens" 513),(.str "line" 514),(.str "at" 515),(.str "was_is" 516),(.str "place" 517),(.str "kind" 518),(.str "worth" 519),(.str "end" 520)] 0),#[]⟩
noncomputable def ob_239_0 (P : Params) : Obj := ⟨(.type "tuple"),none,(.seq #[] 0),#[]⟩
noncomputable def ob_240_0 (P : Params) : Obj := cdO (dAt 35) "add_tokens" "add_tokens"
noncomputable def ob_241_0 (P : Params) : Obj := ⟨(.type "code"),none,(.fields #[(.str "add_tokens" 510),(.str "add_tokens" 511),(.str "/claim/cut.py" 512),(.int 145 0),(.int 2 0),(.int 0 0),(.int 0 0),(.int 3 0),(.ref 236),(.bool true),(.int 181 0),(.ref 237),.none,(.ref 238),(.ref 239),(.ref 240),(.int 521 0),(.int 145 0),(.str "/claim/cut.py" 522)]),#[]⟩
noncomputable def ob_242_0 (P : Params) : Obj := fnO (dAt 35) "add_tokens" "add_tokens" .none (.str "ledgerspeak.tokens" 287) 241
noncomputable def ob_243_0 (P : Params) : Obj := ⟨(.type "tuple"),none,(.seq #[] 0),#[]⟩
noncomputable def ob_244_0 (P : Params) : Obj := ⟨.none,none,(.fields #[]),#[]⟩
noncomputable def ob_245_0 (P : Params) : Obj := ⟨(.type "tuple"),none,(.seq #[(.str "text" 527),(.str "at" 528)] 0),#[]⟩
noncomputable def ob_246_0 (P : Params) : Obj := ⟨(.type "tuple"),none,(.seq #[] 0),#[]⟩
noncomputable def ob_247_0 (P : Params) : Obj := cdO (dAt 36) "is_word_is" "is_word_is"
noncomputable def ob_248_0 (P : Params) : Obj := ⟨(.type "code"),none,(.fields #[(.str "is_word_is" 524),(.str "is_word_is" 525),(.str "/claim/cut.py" 526),(.int 165 0),(.int 2 0),(.int 0 0),(.int 0 0),(.int 3 0),(.ref 243),(.bool true),(.int 181 0),(.ref 244),.none,(.ref 245),(.ref 246),(.ref 247),(.int 529 0),(.int 165 0),(.str "/claim/cut.py" 530)]),#[]⟩
noncomputable def ob_249_0 (P : Params) : Obj := fnO (dAt 36) "is_word_is" "is_word_is" .none (.str "ledgerspeak.tokens" 287) 248
noncomputable def ob_250_0 (P : Params) : Obj := ⟨(.type "tuple"),none,(.seq #[] 0),#[]⟩
noncomputable def ob_251_0 (P : Params) : Obj := ⟨.none,none,(.fields #[]),#[]⟩
noncomputable def ob_252_0 (P : Params) : Obj := ⟨(.type "tuple"),none,(.seq #[(.str "lines" 535),(.str "tokens" 536),(.str "line" 537)] 0),#[]⟩
noncomputable def ob_253_0 (P : Params) : Obj := ⟨(.type "tuple"),none,(.seq #[] 0),#[]⟩
noncomputable def ob_254_0 (P : Params) : Obj := cdO (dAt 37) "tokens_of" "tokens_of"
noncomputable def ob_255_0 (P : Params) : Obj := ⟨(.type "code"),none,(.fields #[(.str "tokens_of" 532),(.str "tokens_of" 533),(.str "/claim/cut.py" 534),(.int 167 0),(.int 1 0),(.int 0 0),(.int 0 0),(.int 3 0),(.ref 250),(.bool true),(.int 181 0),(.ref 251),.none,(.ref 252),(.ref 253),(.ref 254),(.int 538 0),(.int 167 0),(.str "/claim/cut.py" 539)]),#[]⟩
noncomputable def ob_256_0 (P : Params) : Obj := fnO (dAt 37) "tokens_of" "tokens_of" .none (.str "ledgerspeak.tokens" 287) 255
noncomputable def ob_257_0 (P : Params) : Obj := ⟨(.type "tuple"),none,(.seq #[] 0),#[]⟩
noncomputable def ob_258_0 (P : Params) : Obj := ⟨.none,none,(.fields #[]),#[]⟩
noncomputable def ob_259_0 (P : Params) : Obj := ⟨(.type "tuple"),none,(.seq #[(.str "pick" 550),(.str "number" 551),(.str "some" 552)] 0),#[]⟩
noncomputable def ob_260_0 (P : Params) : Obj := ⟨(.type "tuple"),none,(.seq #[] 0),#[]⟩
noncomputable def ob_261_0 (P : Params) : Obj := cdO (dAt 41) "_law_piece" "_law_piece"
noncomputable def ob_262_0 (P : Params) : Obj := ⟨(.type "code"),none,(.fields #[(.str "_law_piece" 547),(.str "_law_piece" 548),(.str "/claim/cut.py" 549),(.int 175 0),(.int 2 0),(.int 0 0),(.int 0 0),(.int 3 0),(.ref 257),(.bool true),(.int 181 0),(.ref 258),.none,(.ref 259),(.ref 260),(.ref 261),(.int 553 0),(.int 175 0),(.str "/claim/cut.py" 554)]),#[]⟩
noncomputable def ob_263_0 (P : Params) : Obj := fnO (dAt 41) "_law_piece" "_law_piece" .none (.str "law_og0086_01" 541) 262
noncomputable def ob_264_0 (P : Params) : Obj := ⟨(.type "tuple"),none,(.seq #[] 0),#[]⟩
noncomputable def ob_265_0 (P : Params) : Obj := ⟨.none,none,(.fields #[]),#[]⟩
noncomputable def ob_266_0 (P : Params) : Obj := ⟨(.type "tuple"),none,(.seq #[(.str "script" 559),(.str "found" 560),(.str "cell" 561),(.str "number" 562),(.str "turn" 563)] 0),#[]⟩
noncomputable def ob_267_0 (P : Params) : Obj := ⟨(.type "tuple"),none,(.seq #[] 0),#[]⟩
noncomputable def ob_268_0 (P : Params) : Obj := cdO (dAt 42) "_law_text" "_law_text"
noncomputable def ob_269_0 (P : Params) : Obj := ⟨(.type "code"),none,(.fields #[(.str "_law_text" 556),(.str "_law_text" 557),(.str "/claim/cut.py" 558),(.int 179 0),(.int 1 0),(.int 0 0),(.int 0 0),(.int 3 0),(.ref 264),(.bool true),(.int 181 0),(.ref 265),.none,(.ref 266),(.ref 267),(.ref 268),(.int 564 0),(.int 179 0),(.str "/claim/cut.py" 565)]),#[]⟩
noncomputable def ob_270_0 (P : Params) : Obj := fnO (dAt 42) "_law_text" "_law_text" .none (.str "law_og0086_01" 541) 269
noncomputable def ob_271_0 (P : Params) : Obj := ⟨(.type "tuple"),none,(.seq #[] 0),#[]⟩
noncomputable def ob_272_0 (P : Params) : Obj := ⟨.none,none,(.fields #[]),#[]⟩
noncomputable def ob_273_0 (P : Params) : Obj := ⟨(.type "tuple"),none,(.seq #[(.str "text" 570),(.str "at" 571),(.str "signs" 572)] 0),#[]⟩
noncomputable def ob_274_0 (P : Params) : Obj := ⟨(.type "tuple"),none,(.seq #[] 0),#[]⟩
noncomputable def ob_275_0 (P : Params) : Obj := cdO (dAt 43) "_law_run" "_law_run"
noncomputable def ob_276_0 (P : Params) : Obj := ⟨(.type "code"),none,(.fields #[(.str "_law_run" 567),(.str "_law_run" 568),(.str "/claim/cut.py" 569),(.int 188 0),(.int 3 0),(.int 0 0),(.int 0 0),(.int 3 0),(.ref 271),(.bool true),(.int 181 0),(.ref 272),.none,(.ref 273),(.ref 274),(.ref 275),(.int 573 0),(.int 188 0),(.str "/claim/cut.py" 574)]),#[]⟩
noncomputable def ob_277_0 (P : Params) : Obj := fnO (dAt 43) "_law_run" "_law_run" .none (.str "law_og0086_01" 541) 276
noncomputable def ob_278_0 (P : Params) : Obj := ⟨(.type "tuple"),none,(.seq #[] 0),#[]⟩
noncomputable def ob_279_0 (P : Params) : Obj := ⟨.none,none,(.fields #[]),#[]⟩
noncomputable def ob_280_0 (P : Params) : Obj := ⟨(.type "tuple"),none,(.seq #[(.str "text" 579),(.str "end" 580)] 0),#[]⟩
noncomputable def ob_281_0 (P : Params) : Obj := ⟨(.type "tuple"),none,(.seq #[] 0),#[]⟩
noncomputable def ob_282_0 (P : Params) : Obj := cdO (dAt 44) "_law_apart" "_law_apart"
noncomputable def ob_283_0 (P : Params) : Obj := ⟨(.type "code"),none,(.fields #[(.str "_law_apart" 576),(.str "_law_apart" 577),(.str "/claim/cut.py" 578),(.int 192 0),(.int 2 0),(.int 0 0),(.int 0 0),(.int 3 0),(.ref 278),(.bool true),(.int 181 0),(.ref 279),.none,(.ref 280),(.ref 281),(.ref 282),(.int 581 0),(.int 192 0),(.str "/claim/cut.py" 582)]),#[]⟩
noncomputable def ob_284_0 (P : Params) : Obj := fnO (dAt 44) "_law_apart" "_law_apart" .none (.str "law_og0086_01" 541) 283
noncomputable def ob_285_0 (P : Params) : Obj := ⟨(.type "tuple"),none,(.seq #[] 0),#[]⟩
noncomputable def ob_286_0 (P : Params) : Obj := ⟨.none,none,(.fields #[]),#[]⟩
noncomputable def ob_287_0 (P : Params) : Obj := ⟨(.type "tuple"),none,(.seq #[(.str "text" 587),(.str "at" 588),(.str "mark" 589),(.str "end" 590),(.str "worth" 591)] 0),#[]⟩
noncomputable def ob_288_0 (P : Params) : Obj := ⟨(.type "tuple"),none,(.seq #[] 0),#[]⟩
noncomputable def ob_289_0 (P : Params) : Obj := cdO (dAt 45) "_law_quoted" "_law_quoted"
noncomputable def ob_290_0 (P : Params) : Obj := ⟨(.type "code"),none,(.fields #[(.str "_law_quoted" 584),(.str "_law_quoted" 585),(.str "/claim/cut.py" 586),(.int 198 0),(.int 2 0),(.int 0 0),(.int 0 0),(.int 3 0),(.ref 285),(.bool true),(.int 181 0),(.ref 286),.none,(.ref 287),(.ref 288),(.ref 289),(.int 592 0),(.int 198 0),(.str "/claim/cut.py" 593)]),#[]⟩
noncomputable def ob_291_0 (P : Params) : Obj := fnO (dAt 45) "_law_quoted" "_law_quoted" .none (.str "law_og0086_01" 541) 290
noncomputable def ob_292_0 (P : Params) : Obj := ⟨(.type "tuple"),none,(.seq #[] 0),#[]⟩
noncomputable def ob_293_0 (P : Params) : Obj := ⟨.none,none,(.fields #[]),#[]⟩
noncomputable def ob_294_0 (P : Params) : Obj := cdO (dAt 46) "_law_next" "_law_next"
noncomputable def ob_295_0 (P : Params) : Obj := ⟨(.type "code"),none,(.fields #[(.str "_law_next" 595),(.str "_law_next" 596),(.str "/claim/cut.py" 597),(.int 210 0),(.int 2 0),(.int 0 0),(.int 0 0),(.int 3 0),(.ref 292),(.bool true),(.int 181 0),(.ref 293),.none,.none,.none,(.ref 294),(.int 598 0),(.int 210 0),(.str "/claim/cut.py" 599)]),#[]⟩
noncomputable def ob_296_0 (P : Params) : Obj := fnO (dAt 46) "_law_next" "_law_next" .none (.str "law_og0086_01" 541) 295
noncomputable def ob_297_0 (P : Params) : Obj := ⟨(.type "tuple"),none,(.seq #[] 0),#[]⟩
noncomputable def ob_298_0 (P : Params) : Obj := ⟨.none,none,(.fields #[]),#[]⟩
noncomputable def ob_299_0 (P : Params) : Obj := ⟨(.type "tuple"),none,(.seq #[(.str "text" 604),(.str "found" 605),(.str "at" 606),(.str "is_after" 607),(.str "is_due" 608),(.str "end" 609),(.str "told" 610)] 0),#[]⟩
noncomputable def ob_300_0 (P : Params) : Obj := ⟨(.type "tuple"),none,(.seq #[] 0),#[]⟩
noncomputable def ob_301_0 (P : Params) : Obj := cdO (dAt 47) "_law_read" "_law_read"
noncomputable def ob_302_0 (P : Params) : Obj := ⟨(.type "code"),none,(.fields #[(.str "_law_read" 601),(.str "_law_read" 602),(.str "/claim/cut.py" 603),(.int 244 0),(.int 1 0),(.int 0 0),(.int 0 0),(.int 3 0),(.ref 297),(.bool true),(.int 181 0),(.ref 298),.none,(.ref 299),(.ref 300),(.ref 301),(.int 611 0),(.int 244 0),(.str "/claim/cut.py" 612)]),#[]⟩
noncomputable def ob_303_0 (P : Params) : Obj := fnO (dAt 47) "_law_read" "_law_read" .none (.str "law_og0086_01" 541) 302
noncomputable def ob_304_0 (P : Params) : Obj := ⟨(.type "tuple"),none,(.seq #[] 0),#[]⟩
noncomputable def ob_305_0 (P : Params) : Obj := ⟨.none,none,(.fields #[]),#[]⟩
noncomputable def ob_306_0 (P : Params) : Obj := cdO (dAt 48) "_law_right" "_law_right"
noncomputable def ob_307_0 (P : Params) : Obj := ⟨(.type "code"),none,(.fields #[(.str "_law_right" 614),(.str "_law_right" 615),(.str "/claim/cut.py" 616),(.int 267 0),(.int 3 0),(.int 0 0),(.int 0 0),(.int 3 0),(.ref 304),(.bool true),(.int 181 0),(.ref 305),.none,.none,.none,(.ref 306),(.int 617 0),(.int 267 0),(.str "/claim/cut.py" 618)]),#[]⟩
noncomputable def ob_308_0 (P : Params) : Obj := fnO (dAt 48) "_law_right" "_law_right" .none (.str "law_og0086_01" 541) 307
noncomputable def ob_309_0 (P : Params) : Obj := ⟨(.type "tuple"),none,(.seq #[] 0),#[]⟩
noncomputable def ob_310_0 (P : Params) : Obj := ⟨.none,none,(.fields #[]),#[]⟩
noncomputable def ob_311_0 (P : Params) : Obj := ⟨(.type "tuple"),none,(.seq #[(.str "script" 623),(.str "written" 624),(.str "text" 625)] 0),#[]⟩
noncomputable def ob_312_0 (P : Params) : Obj := ⟨(.type "tuple"),none,(.seq #[] 0),#[]⟩
noncomputable def ob_313_0 (P : Params) : Obj := cdO (dAt 49) "law" "law"
noncomputable def ob_314_0 (P : Params) : Obj := ⟨(.type "code"),none,(.fields #[(.str "law" 620),(.str "law" 621),(.str "/claim/cut.py" 622),(.int 276 0),(.int 1 0),(.int 0 0),(.int 0 0),(.int 3 0),(.ref 309),(.bool true),(.int 181 0),(.ref 310),.none,(.ref 311),(.ref 312),(.ref 313),(.int 626 0),(.int 276 0),(.str "/claim/cut.py" 627)]),#[]⟩
noncomputable def ob_315_0 (P : Params) : Obj := fnO (dAt 49) "law" "law" .none (.str "law_og0086_01" 541) 314
noncomputable def T_p50 (P : Params) : BT := (.node (boot_o_0 P) (.node (boot_o_1 P) (.node (ob_3_4 P) (.node (boot_o_7 P) (.node (ob_15_0 P) (.node (ob_31_0 P) (.node (ob_63_0 P) (.node (ob_127_0 P) (.node (ob_255_0 P) .nil .nil) .nil) (.node (ob_191_0 P) .nil .nil)) (.node (ob_95_0 P) (.node (ob_159_0 P) (.node (ob_287_0 P) .nil .nil) .nil) (.node (ob_223_0 P) .nil .nil))) (.node (ob_47_0 P) (.node (ob_79_0 P) (.node (ob_143_0 P) (.node (ob_271_0 P) .nil .nil) .nil) (.node (ob_207_0 P) .nil .nil)) (.node (ob_111_0 P) (.node (ob_175_0 P) (.node (ob_303_0 P) .nil .nil) .nil) (.node (ob_239_0 P) .nil .nil)))) (.node (ob_23_0 P) (.node (ob_39_0 P) (.node (ob_71_0 P) (.node (ob_135_0 P) (.node (ob_263_0 P) .nil .nil) .nil) (.node (ob_199_0 P) .nil .nil)) (.node (ob_103_0 P) (.node (ob_167_0 P) (.node (ob_295_0 P) .nil .nil) .nil) (.node (ob_231_0 P) .nil .nil))) (.node (ob_55_0 P) (.node (ob_87_0 P) (.node (ob_151_0 P) (.node (ob_279_0 P) .nil .nil) .nil) (.node (ob_215_0 P) .nil .nil)) (.node (ob_119_0 P) (.node (ob_183_0 P) (.node (ob_311_0 P) .nil .nil) .nil) (.node (ob_247_0 P) .nil .nil))))) (.node (ob_11_0 P) (.node (ob_19_0 P) (.node (ob_35_0 P) (.node (ob_67_0 P) (.node (ob_131_0 P) (.node (ob_259_0 P) .nil .nil) .nil) (.node (ob_195_0 P) .nil .nil)) (.node (ob_99_0 P) (.node (ob_163_0 P) (.node (ob_291_0 P) .nil .nil) .nil) (.node (ob_227_0 P) .nil .nil))) (.node (ob_51_0 P) (.node (ob_83_0 P) (.node (ob_147_0 P) (.node (ob_275_0 P) .nil .nil) .nil) (.node (ob_211_0 P) .nil .nil)) (.node (ob_115_0 P) (.node (ob_179_0 P) (.node (ob_307_0 P) .nil .nil) .nil) (.node (ob_243_0 P) .nil .nil)))) (.node (ob_27_0 P) (.node (ob_43_0 P) (.node (ob_75_0 P) (.node (ob_139_0 P) (.node (ob_267_0 P) .nil .nil) .nil) (.node (ob_203_0 P) .nil .nil)) (.node (ob_107_0 P) (.node (ob_171_0 P) (.node (ob_299_0 P) .nil .nil) .nil) (.node (ob_235_0 P) .nil .nil))) (.node (ob_59_0 P) (.node (ob_91_0 P) (.node (ob_155_0 P) (.node (ob_283_0 P) .nil .nil) .nil) (.node (ob_219_0 P) .nil .nil)) (.node (ob_123_0 P) (.node (ob_187_0 P) (.node (ob_315_0 P) .nil .nil) .nil) (.node (ob_251_0 P) .nil .nil)))))) (.node (boot_o_5 P) (.node (boot_o_9 P) (.node (ob_17_0 P) (.node (ob_33_0 P) (.node (ob_65_0 P) (.node (ob_129_0 P) (.node (ob_257_0 P) .nil .nil) .nil) (.node (ob_193_0 P) .nil .nil)) (.node (ob_97_0 P) (.node (ob_161_0 P) (.node (ob_289_0 P) .nil .nil) .nil) (.node (ob_225_0 P) .nil .nil))) (.node (ob_49_0 P) (.node (ob_81_0 P) (.node (ob_145_0 P) (.node (ob_273_0 P) .nil .nil) .nil) (.node (ob_209_0 P) .nil .nil)) (.node (ob_113_0 P) (.node (ob_177_0 P) (.node (ob_305_0 P) .nil .nil) .nil) (.node (ob_241_0 P) .nil .nil)))) (.node (ob_25_0 P) (.node (ob_41_0 P) (.node (ob_73_0 P) (.node (ob_137_0 P) (.node (ob_265_0 P) .nil .nil) .nil) (.node (ob_201_0 P) .nil .nil)) (.node (ob_105_0 P) (.node (ob_169_0 P) (.node (ob_297_0 P) .nil .nil) .nil) (.node (ob_233_0 P) .nil .nil))) (.node (ob_57_0 P) (.node (ob_89_0 P) (.node (ob_153_0 P) (.node (ob_281_0 P) .nil .nil) .nil) (.node (ob_217_0 P) .nil .nil)) (.node (ob_121_0 P) (.node (ob_185_0 P) (.node (ob_313_0 P) .nil .nil) .nil) (.node (ob_249_0 P) .nil .nil))))) (.node (ob_13_0 P) (.node (ob_21_0 P) (.node (ob_37_0 P) (.node (ob_69_0 P) (.node (ob_133_0 P) (.node (ob_261_0 P) .nil .nil) .nil) (.node (ob_197_0 P) .nil .nil)) (.node (ob_101_0 P) (.node (ob_165_0 P) (.node (ob_293_0 P) .nil .nil) .nil) (.node (ob_229_0 P) .nil .nil))) (.node (ob_53_0 P) (.node (ob_85_0 P) (.node (ob_149_0 P) (.node (ob_277_0 P) .nil .nil) .nil) (.node (ob_213_0 P) .nil .nil)) (.node (ob_117_0 P) (.node (ob_181_0 P) (.node (ob_309_0 P) .nil .nil) .nil) (.node (ob_245_0 P) .nil .nil)))) (.node (ob_29_0 P) (.node (ob_45_0 P) (.node (ob_77_0 P) (.node (ob_141_0 P) (.node (ob_269_0 P) .nil .nil) .nil) (.node (ob_205_0 P) .nil .nil)) (.node (ob_109_0 P) (.node (ob_173_0 P) (.node (ob_301_0 P) .nil .nil) .nil) (.node (ob_237_0 P) .nil .nil))) (.node (ob_61_0 P) (.node (ob_93_0 P) (.node (ob_157_0 P) (.node (ob_285_0 P) .nil .nil) .nil) (.node (ob_221_0 P) .nil .nil)) (.node (ob_125_0 P) (.node (ob_189_0 P) .nil .nil) (.node (ob_253_0 P) .nil .nil))))))) (.node (ob_2_1 P) (.node (boot_o_4 P) (.node (boot_o_8 P) (.node (ob_16_0 P) (.node (ob_32_0 P) (.node (ob_64_0 P) (.node (ob_128_0 P) (.node (ob_256_0 P) .nil .nil) .nil) (.node (ob_192_0 P) .nil .nil)) (.node (ob_96_0 P) (.node (ob_160_0 P) (.node (ob_288_0 P) .nil .nil) .nil) (.node (ob_224_0 P) .nil .nil))) (.node (ob_48_0 P) (.node (ob_80_0 P) (.node (ob_144_0 P) (.node (ob_272_0 P) .nil .nil) .nil) (.node (ob_208_0 P) .nil .nil)) (.node (ob_112_0 P) (.node (ob_176_0 P) (.node (ob_304_0 P) .nil .nil) .nil) (.node (ob_240_0 P) .nil .nil)))) (.node (ob_24_0 P) (.node (ob_40_0 P) (.node (ob_72_0 P) (.node (ob_136_0 P) (.node (ob_264_0 P) .nil .nil) .nil) (.node (ob_200_0 P) .nil .nil)) (.node (ob_104_0 P) (.node (ob_168_0 P) (.node (ob_296_0 P) .nil .nil) .nil) (.node (ob_232_0 P) .nil .nil))) (.node (ob_56_0 P) (.node (ob_88_0 P) (.node (ob_152_0 P) (.node (ob_280_0 P) .nil .nil) .nil) (.node (ob_216_0 P) .nil .nil)) (.node (ob_120_0 P) (.node (ob_184_0 P) (.node (ob_312_0 P) .nil .nil) .nil) (.node (ob_248_0 P) .nil .nil))))) (.node (ob_12_4 P) (.node (ob_20_0 P) (.node (ob_36_0 P) (.node (ob_68_1 P) (.node (ob_132_0 P) (.node (ob_260_0 P) .nil .nil) .nil) (.node (ob_196_0 P) .nil .nil)) (.node (ob_100_0 P) (.node (ob_164_0 P) (.node (ob_292_0 P) .nil .nil) .nil) (.node (ob_228_0 P) .nil .nil))) (.node (ob_52_0 P) (.node (ob_84_0 P) (.node (ob_148_0 P) (.node (ob_276_0 P) .nil .nil) .nil) (.node (ob_212_0 P) .nil .nil)) (.node (ob_116_0 P) (.node (ob_180_0 P) (.node (ob_308_0 P) .nil .nil) .nil) (.node (ob_244_0 P) .nil .nil)))) (.node (ob_28_0 P) (.node (ob_44_0 P) (.node (ob_76_0 P) (.node (ob_140_0 P) (.node (ob_268_0 P) .nil .nil) .nil) (.node (ob_204_0 P) .nil .nil)) (.node (ob_108_0 P) (.node (ob_172_0 P) (.node (ob_300_0 P) .nil .nil) .nil) (.node (ob_236_0 P) .nil .nil))) (.node (ob_60_0 P) (.node (ob_92_0 P) (.node (ob_156_0 P) (.node (ob_284_0 P) .nil .nil) .nil) (.node (ob_220_0 P) .nil .nil)) (.node (ob_124_0 P) (.node (ob_188_0 P) .nil .nil) (.node (ob_252_0 P) .nil .nil)))))) (.node (boot_o_6 P) (.node (boot_o_10 P) (.node (ob_18_0 P) (.node (ob_34_0 P) (.node (ob_66_0 P) (.node (ob_130_0 P) (.node (ob_258_0 P) .nil .nil) .nil) (.node (ob_194_0 P) .nil .nil)) (.node (ob_98_0 P) (.node (ob_162_0 P) (.node (ob_290_0 P) .nil .nil) .nil) (.node (ob_226_0 P) .nil .nil))) (.node (ob_50_0 P) (.node (ob_82_0 P) (.node (ob_146_0 P) (.node (ob_274_0 P) .nil .nil) .nil) (.node (ob_210_0 P) .nil .nil)) (.node (ob_114_0 P) (.node (ob_178_0 P) (.node (ob_306_0 P) .nil .nil) .nil) (.node (ob_242_0 P) .nil .nil)))) (.node (ob_26_0 P) (.node (ob_42_0 P) (.node (ob_74_0 P) (.node (ob_138_0 P) (.node (ob_266_0 P) .nil .nil) .nil) (.node (ob_202_0 P) .nil .nil)) (.node (ob_106_0 P) (.node (ob_170_0 P) (.node (ob_298_0 P) .nil .nil) .nil) (.node (ob_234_0 P) .nil .nil))) (.node (ob_58_0 P) (.node (ob_90_0 P) (.node (ob_154_0 P) (.node (ob_282_0 P) .nil .nil) .nil) (.node (ob_218_0 P) .nil .nil)) (.node (ob_122_0 P) (.node (ob_186_0 P) (.node (ob_314_0 P) .nil .nil) .nil) (.node (ob_250_0 P) .nil .nil))))) (.node (ob_14_0 P) (.node (ob_22_0 P) (.node (ob_38_0 P) (.node (ob_70_0 P) (.node (ob_134_0 P) (.node (ob_262_0 P) .nil .nil) .nil) (.node (ob_198_0 P) .nil .nil)) (.node (ob_102_0 P) (.node (ob_166_0 P) (.node (ob_294_0 P) .nil .nil) .nil) (.node (ob_230_0 P) .nil .nil))) (.node (ob_54_0 P) (.node (ob_86_0 P) (.node (ob_150_0 P) (.node (ob_278_0 P) .nil .nil) .nil) (.node (ob_214_0 P) .nil .nil)) (.node (ob_118_0 P) (.node (ob_182_0 P) (.node (ob_310_0 P) .nil .nil) .nil) (.node (ob_246_0 P) .nil .nil)))) (.node (ob_30_0 P) (.node (ob_46_0 P) (.node (ob_78_0 P) (.node (ob_142_0 P) (.node (ob_270_0 P) .nil .nil) .nil) (.node (ob_206_0 P) .nil .nil)) (.node (ob_110_0 P) (.node (ob_174_0 P) (.node (ob_302_0 P) .nil .nil) .nil) (.node (ob_238_0 P) .nil .nil))) (.node (ob_62_0 P) (.node (ob_94_0 P) (.node (ob_158_0 P) (.node (ob_286_0 P) .nil .nil) .nil) (.node (ob_222_0 P) .nil .nil)) (.node (ob_126_0 P) (.node (ob_190_0 P) .nil .nil) (.node (ob_254_0 P) .nil .nil))))))))
noncomputable abbrev S_p50 (w : World) (os : OsState) : SharedT := ⟨T_p50 w.params, 316, {}, Array.mk [], {}, 629, os⟩
noncomputable def H_end (P : Params) : Heap := ⟨Array.mk [boot_o_0 P, boot_o_1 P, ob_2_1 P, ob_3_4 P, boot_o_4 P, boot_o_5 P, boot_o_6 P, boot_o_7 P, boot_o_8 P, boot_o_9 P, boot_o_10 P, ob_11_0 P, ob_12_4 P, ob_13_0 P, ob_14_0 P, ob_15_0 P, ob_16_0 P, ob_17_0 P, ob_18_0 P, ob_19_0 P, ob_20_0 P, ob_21_0 P, ob_22_0 P, ob_23_0 P, ob_24_0 P, ob_25_0 P, ob_26_0 P, ob_27_0 P, ob_28_0 P, ob_29_0 P, ob_30_0 P, ob_31_0 P, ob_32_0 P, ob_33_0 P, ob_34_0 P, ob_35_0 P, ob_36_0 P, ob_37_0 P, ob_38_0 P, ob_39_0 P, ob_40_0 P, ob_41_0 P, ob_42_0 P, ob_43_0 P, ob_44_0 P, ob_45_0 P, ob_46_0 P, ob_47_0 P, ob_48_0 P, ob_49_0 P, ob_50_0 P, ob_51_0 P, ob_52_0 P, ob_53_0 P, ob_54_0 P, ob_55_0 P, ob_56_0 P, ob_57_0 P, ob_58_0 P, ob_59_0 P, ob_60_0 P, ob_61_0 P, ob_62_0 P, ob_63_0 P, ob_64_0 P, ob_65_0 P, ob_66_0 P, ob_67_0 P, ob_68_1 P, ob_69_0 P, ob_70_0 P, ob_71_0 P, ob_72_0 P, ob_73_0 P, ob_74_0 P, ob_75_0 P, ob_76_0 P, ob_77_0 P, ob_78_0 P, ob_79_0 P, ob_80_0 P, ob_81_0 P, ob_82_0 P, ob_83_0 P, ob_84_0 P, ob_85_0 P, ob_86_0 P, ob_87_0 P, ob_88_0 P, ob_89_0 P, ob_90_0 P, ob_91_0 P, ob_92_0 P, ob_93_0 P, ob_94_0 P, ob_95_0 P, ob_96_0 P, ob_97_0 P, ob_98_0 P, ob_99_0 P, ob_100_0 P, ob_101_0 P, ob_102_0 P, ob_103_0 P, ob_104_0 P, ob_105_0 P, ob_106_0 P, ob_107_0 P, ob_108_0 P, ob_109_0 P, ob_110_0 P, ob_111_0 P, ob_112_0 P, ob_113_0 P, ob_114_0 P, ob_115_0 P, ob_116_0 P, ob_117_0 P, ob_118_0 P, ob_119_0 P, ob_120_0 P, ob_121_0 P, ob_122_0 P, ob_123_0 P, ob_124_0 P, ob_125_0 P, ob_126_0 P, ob_127_0 P, ob_128_0 P, ob_129_0 P, ob_130_0 P, ob_131_0 P, ob_132_0 P, ob_133_0 P, ob_134_0 P, ob_135_0 P, ob_136_0 P, ob_137_0 P, ob_138_0 P, ob_139_0 P, ob_140_0 P, ob_141_0 P, ob_142_0 P, ob_143_0 P, ob_144_0 P, ob_145_0 P, ob_146_0 P, ob_147_0 P, ob_148_0 P, ob_149_0 P, ob_150_0 P, ob_151_0 P, ob_152_0 P, ob_153_0 P, ob_154_0 P, ob_155_0 P, ob_156_0 P, ob_157_0 P, ob_158_0 P, ob_159_0 P, ob_160_0 P, ob_161_0 P, ob_162_0 P, ob_163_0 P, ob_164_0 P, ob_165_0 P, ob_166_0 P, ob_167_0 P, ob_168_0 P, ob_169_0 P, ob_170_0 P, ob_171_0 P, ob_172_0 P, ob_173_0 P, ob_174_0 P, ob_175_0 P, ob_176_0 P, ob_177_0 P, ob_178_0 P, ob_179_0 P, ob_180_0 P, ob_181_0 P, ob_182_0 P, ob_183_0 P, ob_184_0 P, ob_185_0 P, ob_186_0 P, ob_187_0 P, ob_188_0 P, ob_189_0 P, ob_190_0 P, ob_191_0 P, ob_192_0 P, ob_193_0 P, ob_194_0 P, ob_195_0 P, ob_196_0 P, ob_197_0 P, ob_198_0 P, ob_199_0 P, ob_200_0 P, ob_201_0 P, ob_202_0 P, ob_203_0 P, ob_204_0 P, ob_205_0 P, ob_206_0 P, ob_207_0 P, ob_208_0 P, ob_209_0 P, ob_210_0 P, ob_211_0 P, ob_212_0 P, ob_213_0 P, ob_214_0 P, ob_215_0 P, ob_216_0 P, ob_217_0 P, ob_218_0 P, ob_219_0 P, ob_220_0 P, ob_221_0 P, ob_222_0 P, ob_223_0 P, ob_224_0 P, ob_225_0 P, ob_226_0 P, ob_227_0 P, ob_228_0 P, ob_229_0 P, ob_230_0 P, ob_231_0 P, ob_232_0 P, ob_233_0 P, ob_234_0 P, ob_235_0 P, ob_236_0 P, ob_237_0 P, ob_238_0 P, ob_239_0 P, ob_240_0 P, ob_241_0 P, ob_242_0 P, ob_243_0 P, ob_244_0 P, ob_245_0 P, ob_246_0 P, ob_247_0 P, ob_248_0 P, ob_249_0 P, ob_250_0 P, ob_251_0 P, ob_252_0 P, ob_253_0 P, ob_254_0 P, ob_255_0 P, ob_256_0 P, ob_257_0 P, ob_258_0 P, ob_259_0 P, ob_260_0 P, ob_261_0 P, ob_262_0 P, ob_263_0 P, ob_264_0 P, ob_265_0 P, ob_266_0 P, ob_267_0 P, ob_268_0 P, ob_269_0 P, ob_270_0 P, ob_271_0 P, ob_272_0 P, ob_273_0 P, ob_274_0 P, ob_275_0 P, ob_276_0 P, ob_277_0 P, ob_278_0 P, ob_279_0 P, ob_280_0 P, ob_281_0 P, ob_282_0 P, ob_283_0 P, ob_284_0 P, ob_285_0 P, ob_286_0 P, ob_287_0 P, ob_288_0 P, ob_289_0 P, ob_290_0 P, ob_291_0 P, ob_292_0 P, ob_293_0 P, ob_294_0 P, ob_295_0 P, ob_296_0 P, ob_297_0 P, ob_298_0 P, ob_299_0 P, ob_300_0 P, ob_301_0 P, ob_302_0 P, ob_303_0 P, ob_304_0 P, ob_305_0 P, ob_306_0 P, ob_307_0 P, ob_308_0 P, ob_309_0 P, ob_310_0 P, ob_311_0 P, ob_312_0 P, ob_313_0 P, ob_314_0 P, ob_315_0 P], {}⟩
noncomputable abbrev bs : List Stmt := behindTheImports pr
noncomputable abbrev nv : Env := { scope := pr.main.scope, locals := mainNs, globals := mainNs, cells := [], code := .ref 13, frame := some 14 }
noncomputable abbrev cE : Code := .body bs nv
noncomputable abbrev p0 : Pos := ⟨0, 0, 0, 0⟩
noncomputable abbrev an : Option Value := some (.ref 6)
theorem l_pre (w : World) (os : OsState) : topGo treeTable pr w 11 an 12 ⟨boot_heap w.params, Array.mk [], boot_drawn, boot_toks, os⟩ (topStub pr) = some ((S_pre w os).abs, ⟨denote treeTable cE, cE, p0, [topFrame p0]⟩) := by kernel_rfl
theorem l_block (w : World) (os : OsState) : segRun treeTable pr w 11 an 1 1 (S_pre w os).abs (blockOf bs nv cE p0 [topFrame p0]) = some (.next, (S_pre w os).abs, cE, p0) := by kernel_rfl
noncomputable def g0 : List Stmt := (bs.drop 0).take 5
theorem l_0 (w : World) (os : OsState) : segRunT treeTable pr w 11 an 1 549 (S_pre w os) (piecesOf g0 nv cE ⟨0,0,0,0⟩ [topFrame p0]) = some (.next, S_p5 w os, cE, ⟨12,0,20,35⟩) := by kernel_rfl
noncomputable def g1 : List Stmt := (bs.drop 5).take 12
theorem l_1 (w : World) (os : OsState) : segRunT treeTable pr w 11 an 1 584 (S_p5 w os) (piecesOf g1 nv cE ⟨12,0,20,35⟩ [topFrame p0]) = some (.next, S_p17 w os, cE, ⟨33,0,42,38⟩) := by kernel_rfl
noncomputable def g2 : List Stmt := (bs.drop 17).take 17
theorem l_2 (w : World) (os : OsState) : segRunT treeTable pr w 11 an 1 521 (S_p17 w os) (piecesOf g2 nv cE ⟨33,0,42,38⟩ [topFrame p0]) = some (.next, S_p34 w os, cE, ⟨141,0,142,76⟩) := by kernel_rfl
noncomputable def g3 : List Stmt := (bs.drop 34).take 16
theorem l_3 (w : World) (os : OsState) : segRunT treeTable pr w 11 an 1 430 (S_p34 w os) (piecesOf g3 nv cE ⟨141,0,142,76⟩ [topFrame p0]) = some (.next, S_p50 w os, cE, ⟨276,0,281,78⟩) := by kernel_rfl
theorem l_fin (w : World) (os : OsState) : topRun treeTable pr w 11 an 2 (S_p50 w os).abs ⟨doneF .next, cE, ⟨276,0,281,78⟩, [topFrame p0]⟩ = some ⟨H_end w.params, Array.mk [], {}, 629, os⟩ := by kernel_rfl
theorem l_bs : bs = g0 ++ (g1 ++ (g2 ++ (g3 ++ ([])))) := by kernel_rfl
theorem l_run (w : World) (os : OsState) : topRun treeTable pr w 11 an (12 + (1 + (549 + (584 + (521 + (430 + 2)))))) ⟨boot_heap w.params, Array.mk [], boot_drawn, boot_toks, os⟩ (topStub pr) = some ⟨H_end w.params, Array.mk [], {}, 629, os⟩ := by
  refine go_top (l_pre w os) (piece_block (l_block w os) ?_)
  have h := piece_app (segRun_of (l_0 w os)) (piece_app (segRun_of (l_1 w os)) (piece_app (segRun_of (l_2 w os)) (piece_app (segRun_of (l_3 w os)) (piece_nil (l_fin w os)))))
  rw [← l_bs] at h
  exact h
theorem l_op : opening pr = plainProg pr.main.scope.names := by kernel_rfl
theorem l_fence (s : Shared) : fenceModules? pr s = some s := by kernel_rfl
theorem l_size (w : World) : ((boot_heap w.params).isNs mainGlobals && (Array.mk [] : Array GenState).size == 0, (boot_heap w.params).objs.size, (boot_heap w.params).nsMap mainGlobals "__annotations__") = (true, 11, an) := by kernel_rfl
theorem l_look1 (w : World) : (fun os => (staticsOk (importedModules pr.main.body) (boot_heap w.params) (H_end w.params) && namesBound pr (H_end w.params) && gensDone ⟨H_end w.params, Array.mk [], {}, 629, os⟩ && laidKept (boot_heap w.params) (H_end w.params))) = fun (_ : OsState) => true := by kernel_rfl
theorem l_look2 (w : World) : (fun os => openSeen vq lse (importedModules pr.main.body) (fun s => recOk [] s) true ⟨H_end w.params, Array.mk [], {}, 629, os⟩) = fun (_ : OsState) => openGood vq lse := by kernel_rfl
theorem l_look3 (w : World) : (fun os => (kHook KK as as_eq).obs ⟨H_end w.params, Array.mk [], {}, 629, os⟩) = fun (_ : OsState) => (kHook KK as as_eq).val w := by kernel_rfl
theorem left : LeftO pr vq lse (fun s => recOk [] s) (kHook KK as as_eq).obs (kHook KK as as_eq).val 4286 :=
  LeftO.of_pieces (boot_open l_op (by decide) l_fence) l_size l_run (by decide) fun w => funext fun os => looks_pair (congrFun (l_look1 w) os) (looks_pair (congrFun (l_look2 w) os) (congrFun (l_look3 w) os))
end Mine
namespace Mine
theorem ws : PySem.Challenge.rw_og0086_01.wellSaid = true := by
  unfold OpenLaw.wellSaid
  repeat' with_reducible refine look_both ?_ ?_
  all_goals try unfold OpenRow.wellSaid
  all_goals try (repeat' with_reducible refine look_both ?_ ?_)
  all_goals try unfold OpenRow.partSaid
  all_goals try (repeat' with_reducible refine look_both ?_ ?_)
  all_goals try unfold looksOpen
  all_goals try (repeat' with_reducible refine look_both ?_ ?_)
  all_goals decide +kernel
end Mine
namespace Mine
noncomputable abbrev lawS : Stmt := dAt 49
noncomputable def lawD : DefRec := ⟨"law", fPar lawS, fBody lawS, fScope lawS, match lawS with | .FunctionDef _ _ _ _ _ _ _ _ _ p => p | _ => default⟩
noncomputable abbrev rw_ : OpenRow := PySem.Challenge.rw_og0086_01.row
theorem hd (walk : WalkO vq lse (fun _ _ => True) (kHook KK as as_eq).says rw_.toRowW lawD [] (fun f vs => PySem.call f vs)) : PySem.Challenge.rw_og0086_01.Holds :=
  holds_law ws fun said => holds_open (r := rw_) (q := vq) (loose := lse) (Xt := fun s => recOk rw_.records s) (XP := fun _ _ => True) (Yf := (kHook KK as as_eq).obs) (Ya := (kHook KK as as_eq).val) (YP := (kHook KK as as_eq).says) (d := lawD) (kwd := []) (N := 4286)
    left (kHook KK as as_eq).of (kHook KK as as_eq).keeps (fun _ _ => trivial) (fun _ _ _ _ _ => trivial) (by kernel_rfl) (by kernel_rfl) (by kernel_rfl) (fun s e => recFacts_of e) (by kernel_rfl) said (by kernel_rfl) ⟨by kernel_rfl, by kernel_rfl, by kernel_rfl, by kernel_rfl, by kernel_rfl, by decide +kernel⟩ ⟨[.list [.int 3, .int 1]], by decide +kernel, by decide +kernel⟩ walk
end Mine
namespace Mine
set_option genSizeOf false
/-- what a value is, as plain data -/
inductive V where
  | none
  | bool (b : Bool)
  | int (i : Int)
  | str (s : List Nat)
  | tup (l : List V)
  | list (l : List V)
  | inst (C : Addr) (ns : List Str) (vs : List V)
  | loc (k : Nat)
  | obj (v : Value)
noncomputable def okS (s : List Nat) : Prop := (∀ c ∈ s, c < 128) ∧ s.length ≤ 65536
mutual
inductive VR (I : Heap) (μ : List Addr) : V → Value → Prop
  | none : VR I μ .none .none
  | bool (b) : VR I μ (.bool b) (.bool b)
  | int (i t) : VR I μ (.int i) (.int i t)
  | str {s : List Nat} {x : Str} (t) : x.cps.toList = s → okS s → VR I μ (.str s) (.str x t)
  | tup {l a o vs n} : I.get? a = some o → o.cls = .type "tuple" → o.data = .seq vs n → VRs I μ l vs.toList → VR I μ (.tup l) (.ref a)
  | list {l a vs n} : I.get? a = some (listOf vs n) → VRs I μ l vs.toList → VR I μ (.list l) (.ref a)
  | inst {C ns vs a d es n xs} : I.get? a = some (instObj C d) → I.get? d = some (dictOf es n) → ns.map (fun p => getL p es) = xs.map (fun x => some (some x)) → VRs I μ vs xs → (∀ b, b ∉ ns → getL b es = some none) → VR I μ (.inst C ns vs) (.ref a)
  | loc {k a} : μ[k]? = some a → VR I μ (.loc k) (.ref a)
  | obj (v) : VR I μ (.obj v) v
inductive VRs (I : Heap) (μ : List Addr) : List V → List Value → Prop
  | nil : VRs I μ [] []
  | cons {v x l xs} : VR I μ v x → VRs I μ l xs → VRs I μ (v :: l) (x :: xs)
end
theorem pre_get {μ μ' : List Addr} (p : μ <+: μ') {k : Nat} {a : Addr} (h : μ[k]? = some a) : μ'[k]? = some a := by
  obtain ⟨r, rfl⟩ := p
  rw [List.getElem?_append_left (List.getElem?_eq_some_iff.mp h).1]; exact h
theorem VR.upBoth {I I' : Heap} {μ μ' : List Addr} (k : I.StaysIn I') (p : μ <+: μ') : (∀ {v x}, VR I μ v x → VR I' μ' v x) ∧ (∀ {l xs}, VRs I μ l xs → VRs I' μ' l xs) :=
  ⟨fun h => VR.rec (motive_1 := fun v x _ => VR I' μ' v x) (motive_2 := fun l xs _ => VRs I' μ' l xs) .none .bool .int (fun t h ok => .str t h ok) (fun a b c _ d => .tup (k _ _ a) b c d) (fun a _ d => .list (k _ _ a) d) (fun a b c _ e d => .inst (k _ _ a) (k _ _ b) c d e) (fun h => .loc (pre_get p h)) .obj .nil (fun _ _ a b => .cons a b) h,
   fun h => VRs.rec (motive_1 := fun v x _ => VR I' μ' v x) (motive_2 := fun l xs _ => VRs I' μ' l xs) .none .bool .int (fun t h ok => .str t h ok) (fun a b c _ d => .tup (k _ _ a) b c d) (fun a _ d => .list (k _ _ a) d) (fun a b c _ e d => .inst (k _ _ a) (k _ _ b) c d e) (fun h => .loc (pre_get p h)) .obj .nil (fun _ _ a b => .cons a b) h⟩
theorem VR.up {I I' : Heap} {μ μ' : List Addr} (k : I.StaysIn I') (p : μ <+: μ') {v x} (h : VR I μ v x) : VR I' μ' v x := (VR.upBoth k p).1 h
theorem VRs.up {I I' : Heap} {μ μ' : List Addr} (k : I.StaysIn I') (p : μ <+: μ') {l xs} (h : VRs I μ l xs) : VRs I' μ' l xs := (VR.upBoth k p).2 h
structure Exc where
  what : List Nat
  at_ : V
/-- the lists that are turned, and the exception made last -/
structure Led where
  ls : List (List V)
  pend : Option (Addr × Exc) := none
structure St where
  vars : List (Option V)
  σ : Led
  cv : List (Option V) := []
/-- where a name stands among a def's own names -/
noncomputable def idxIn (names : List (Str × NameKind)) (x : Str) : Option Nat := match names with
  | [] => none
  | (y, k) :: r => if x = y then (if k = .local then some 0 else none) else (idxIn r x).map (· + 1)
theorem idxIn_name : ∀ {names : List (Str × NameKind)} {x : Str} {i : Nat}, idxIn names x = some i → (names.map (·.1))[i]? = some x
  | [], _, _, h => nomatch h
  | (y, k) :: r, x, i, h => by
    unfold idxIn at h
    split at h
    · rename_i e
      split at h
      · cases h; simp [e]
      · cases h
    · obtain ⟨j, hj, rfl⟩ := Option.map_eq_some_iff.mp h
      simpa using idxIn_name hj
/-- where a cell's name stands -/
noncomputable def cidx (names : List (Str × NameKind)) (x : Str) : Option Nat := match names with
  | [] => none
  | (y, k) :: r => if x = y then (if k = .cell then some 0 else none) else (cidx r x).map (· + 1)
theorem idxIn_inj {names : List (Str × NameKind)} {x y : Str} {i : Nat} (a : idxIn names x = some i) (b : idxIn names y = some i) : x = y :=
  Option.some.inj ((idxIn_name a).symm.trans (idxIn_name b))
set_option genInjectivity false in
set_option genSizeOf false in
/-- a frame at hand: L holds the names of the scope at hand, fp those of the def whose frame it is -/
structure Cx where
  prog : Program
  w : World
  p : Program
  loose : List Str
  mean : ExcName → Option Value
  mg : Str → Option Value
  mb : Str → Option Value
  qual : Str
  func : Option Addr
  ffunc : Option Addr
  scope : Scope
  fscope : Scope
  cells : List (Str × Addr)
  fcells : List (Str × Addr)
  L : Addr
  fp : Addr
  cd : Value
  A₀ : Around
  outer : List Env
  h₀ : Heap
  room : Nat
  avoid : List Addr
  snap : Heap
  shy : List Addr
  hd : Option Value
noncomputable abbrev Cx.env (c : Cx) : Env := { scope := c.scope, locals := c.L, globals := mainGlobals, cells := c.cells, qual := c.qual, func := c.func, code := c.cd, frame := some c.fp, builtins := builtinsNs }
noncomputable abbrev Cx.fenv (c : Cx) : Env := { scope := c.fscope, locals := c.fp, globals := mainGlobals, cells := c.fcells, qual := c.qual, func := c.ffunc, code := c.cd, frame := some c.fp, builtins := builtinsNs }
noncomputable abbrev Cx.A (c : Cx) : Around := (c.A₀.deeper c.fenv).mark c.hd
structure Good (c : Cx) : Prop where
  stack : c.A₀.frames = some c.outer
  frames : ∀ env ∈ c.outer, env.scope.kind ≠ .module ∧ ∃ L, env.frame = some L ∧ L ∈ c.avoid
  K : (KK c.w.params).In c.h₀
  top : Top c.p c.loose c.mean c.mg c.mb c.h₀
  fn : c.scope.kind = .function
  ffn : c.fscope.kind = .function
  lav : c.L ∉ c.avoid
  hid : ∀ a ∈ c.fp :: c.avoid, c.h₀.get? a = none
  handled : c.A₀.handled = none
  hd : c.hd = none ∨ c.room = 0
  depth : c.A₀.depth + c.room + 2 < recursionLimit
  units : c.A₀.units + 10 * (c.room + 10) < cLine
structure Fm (h₀ : Heap) (L : Addr) (h : Heap) (m : Str → Option Value) : Prop where
  ns : h.Ns L m
  keep : ∀ b o, h₀.get? b = some o → h.get? b = some o
  off : h₀.get? L = none
theorem Fm.set {h₀ h h' : Heap} {L : Addr} {m m' : Str → Option Value} (F : Fm h₀ L h m) (hn : h'.Ns L m') (hs : Heap.SameBut L h h') : Fm h₀ L h' m' :=
  ⟨hn, fun b o e => (hs.2 b fun q => by rw [q, F.off] at e; cases e).trans (F.keep b o e), F.off⟩
theorem Fm.grownK {h₀ h h' : Heap} {L : Addr} {m : Str → Option Value} (F : Fm h₀ L h m) (hk : ∀ b o, h.get? b = some o → h'.get? b = some o) : Fm h₀ L h' m :=
  ⟨F.ns.keeps hk, fun b o e => hk b o (F.keep b o e), F.off⟩
noncomputable def LocRel (scope : Scope) (I : Heap) (μ : List Addr) (vars : List (Option V)) (m : Str → Option Value) : Prop :=
  ∀ x i v, idxIn scope.names x = some i → vars[i]? = some (some v) → ∃ val, m x = some val ∧ VR I μ v val
/-- the lists that are turned -/
noncomputable def LedRel (h₀ : Heap) (L : Addr) (I : Heap) (μ : List Addr) (σ : List (List V)) (h : Heap) : Prop :=
  μ.length = σ.length ∧ μ.Nodup ∧ ∀ (i : Nat) a l, μ[i]? = some a → σ[i]? = some l → ∃ vs n, h.get? a = some (listOf vs n) ∧ VRs I [] l vs.toList ∧ a ≠ L ∧ h₀.get? a = none ∧ I.get? a = none
noncomputable abbrev excNames : List Str := [Str.ofString "what", Str.ofString "at"]
/-- an exception of the text's own: its trace, its dictionary -/
noncomputable def Trc (h₀ : Heap) (e : Addr) (vs : Array Value) (h : Heap) (P : Option Value → Prop) : Prop :=
  (vs[1]? = some .none ∧ P none) ∨ ∃ T oT ts fl, vs[1]? = some (.ref T) ∧ T ≠ e ∧ h₀.get? T = none ∧ h.get? T = some oT ∧ oT.data = .fields ts ∧ ts[3]? = some fl ∧ P (some fl)
noncomputable def ExcObj (h₀ : Heap) (I : Heap) (e : Addr) (x : Exc) (h : Heap) (P : Option Value → Prop) : Prop :=
  h₀.get? e = none ∧ ∃ d vs sl es n xs, h.get? e = some ⟨.ref 81, some d, .fields vs, sl⟩ ∧ vs[2]? = some .none ∧ I.get? d = some (dictOf es n) ∧ excNames.map (fun p => getL p es) = xs.map (fun x => some (some x)) ∧ VRs I [] [.str x.what, x.at_] xs ∧ Trc h₀ e vs h P
noncomputable def UpS (o o' : Obj) : Prop := ∃ sl, o' = { o with slots := sl }
theorem UpS.refl (o : Obj) : UpS o o := ⟨o.slots, rfl⟩
theorem UpS.trans {a b c : Obj} (x : UpS a b) (y : UpS b c) : UpS a c := by
  obtain ⟨s, rfl⟩ := x; obtain ⟨t, rfl⟩ := y; exact ⟨t, rfl⟩
theorem UpS.data {a b : Obj} (x : UpS a b) : b.data = a.data := by obtain ⟨s, rfl⟩ := x; rfl
structure InvR (R : Obj → Obj → Prop) (c : Cx) (I : Heap) (μ : List Addr) (st : St) (h : Heap) : Prop where
  fr : ∃ m, Fm c.h₀ c.L h m ∧ LocRel c.scope I μ st.vars m
  led : LedRel c.h₀ c.L I μ st.σ.ls h
  stays : I.StaysIn h
  own : I.get? c.L = none
  nof : ∀ a o, I.get? a = some o → ∀ vs, o.data ≠ .fields vs
  avoid : ∀ a ∈ c.avoid, I.get? a = none ∧ ∃ o o' es n, c.snap.get? a = some o ∧ h.get? a = some o' ∧ R o o' ∧ o'.data = .dict es n
  shy : ∀ a ∈ c.shy, I.get? a = none ∧ ∃ o, h.get? a = some o ∧ ∀ vs, o.data ≠ .fields vs
  frame : I.get? c.fp = none ∧ ∃ o es n, h.get? c.fp = some o ∧ o.data = .dict es n
  cells : ∀ x i v, cidx c.scope.names x = some i → st.cv[i]? = some (some v) → ∃ a o val, c.cells.lookup x = some a ∧ I.get? a = some o ∧ o.data = .cell (some val) ∧ VR I μ v val
  pend : ∀ e x, st.σ.pend = some (e, x) → ExcObj c.h₀ I e x h (fun fl => fl = none ∨ fl = some .none)
  hdl : ∀ v, c.hd = some v → ∃ e o vs, v = .ref e ∧ h.get? e = some o ∧ o.data = .fields vs ∧ vs[2]? = some .none
noncomputable abbrev Inv := InvR UpS
structure ExF (c : Cx) (I : Heap) (μ : List Addr) (st : St) (x : Exc) (e : Addr) (h : Heap) : Prop where
  inv : InvR UpS c I μ st h
  nohd : c.hd = none
  nop : st.σ.pend = none
  exc : ExcObj c.h₀ I e x h (fun fl => fl = none ∨ fl = some .none ∨ fl = some (rawInt c.fp))
noncomputable def OkQ (c : Cx) (I : Heap) (μ : List Addr) (s : Shared) {α β : Type} (R : Heap → List Addr → α → β → Prop) (Q : α → St → Prop) (Q' : β → Shared → Prop) : Prop :=
  ∀ v val st' I' μ' h' tk, Q v st' → Inv c I' μ' st' h' → I.StaysIn I' → μ <+: μ' → R I' μ' v val → Q' val { s with heap := h', toks := tk }
noncomputable def ExQ (c : Cx) (I : Heap) (μ : List Addr) (s : Shared) (X : Exc → St → Prop) (E' : Value → Shared → Prop) : Prop :=
  ∀ x e st' I' μ' h' tk, X x st' → ExF c I' μ' st' x e h' → I.StaysIn I' → μ <+: μ' → E' (.ref e) { s with heap := h', toks := tk }
noncomputable def OkP (c : Cx) (I : Heap) (μ : List Addr) (s : Shared) {α β : Type} (R : Heap → List Addr → α → β → Prop) (Q : α → St → Prop) (Q' : β → Shared → Prop) : Prop :=
  ∀ v val st' I' μ' h' tk, Q v st' → Inv c I' μ' st' h' → I.StaysIn I' → μ <+: μ' → R I' μ' v val → 0 < tk → Q' val { s with heap := h', toks := tk }
theorem stays_trans {a b c : Heap} (x : a.StaysIn b) (y : b.StaysIn c) : a.StaysIn c := fun p o e => y p o (x p o e)
theorem OkQ.up {c : Cx} {I I₁ : Heap} {μ μ₁ : List Addr} {s : Shared} {α β : Type} {R : Heap → List Addr → α → β → Prop} {Q : α → St → Prop} {Q' : β → Shared → Prop} (h : OkQ c I μ s R Q Q') (k : I.StaysIn I₁) (p : μ <+: μ₁) {h₁ : Heap} {t₁ : Nat} :
    OkQ c I₁ μ₁ { s with heap := h₁, toks := t₁ } R Q Q' := fun v val st' I' μ' h' tk q i a b r => h v val st' I' μ' h' tk q i (stays_trans k a) (p.trans b) r
theorem ExQ.up {c : Cx} {I I₁ : Heap} {μ μ₁ : List Addr} {s : Shared} {X : Exc → St → Prop} {E' : Value → Shared → Prop} (h : ExQ c I μ s X E') (k : I.StaysIn I₁) (p : μ <+: μ₁) {h₁ : Heap} {t₁ : Nat} :
    ExQ c I₁ μ₁ { s with heap := h₁, toks := t₁ } X E' := fun x e st' I' μ' h' tk q i a b => h x e st' I' μ' h' tk q i (stays_trans k a) (p.trans b)
/-- what a tree comes to -/
noncomputable abbrev Tr (α : Type) := (α → St → Prop) → (Exc → St → Prop) → St → Prop
noncomputable def Sd (sc : Scope) (rm : Nat) {α β : Type} (R : Heap → List Addr → α → β → Prop) (t : Env → Sem β) (T : Tr α) : Prop :=
  ∀ (c : Cx), Good c → c.scope = sc ∧ rm ≤ c.room → ∀ Q X st I μ s Q' E', 0 < s.toks → T Q X st → Inv c I μ st s.heap → OkQ c I μ s R Q Q' → ExQ c I μ s X E' → wpAny (model c.prog c.w) c.A (t c.env) Q' E' s
theorem Sd.use {sc : Scope} {rm : Nat} {α β : Type} {R : Heap → List Addr → α → β → Prop} {t : Env → Sem β} {T : Tr α} (h : Sd sc rm R t T) {c : Cx} (G : Good c) (hs : c.scope = sc ∧ rm ≤ c.room) {Q : α → St → Prop} {X : Exc → St → Prop} {st : St} {I : Heap} {μ : List Addr} {s : Shared} {Q' : β → Shared → Prop} {E' : Value → Shared → Prop}
    (z : 0 < s.toks) (a : T Q X st) (i : Inv c I μ st s.heap) (q : OkP c I μ s R Q Q') (x : ExQ c I μ s X E') : wpAny (model c.prog c.w) c.A (t c.env) Q' E' s :=
  wpAny_with_toks (n := 1) z (h c G hs Q X st I μ s _ _ z a i (fun v val st' I' μ' h' tk b1 b2 b3 b4 b5 b6 => q v val st' I' μ' h' tk b1 b2 b3 b4 b5 b6) (fun v e st' I' μ' h' tk b1 b2 b3 b4 _ => x v e st' I' μ' h' tk b1 b2 b3 b4))
noncomputable abbrev Rb : Heap → List Addr → Bool → Bool → Prop := fun _ _ a b => a = b
noncomputable abbrev Ev (sc : Scope) (rm : Nat) (e : PySem.Expr) (T : Tr V) : Prop := Sd sc rm VR (eval e) T
noncomputable abbrev Evs (sc : Scope) (rm : Nat) (pos : Pos) (es : List PySem.Expr) (T : Tr (List V)) : Prop := Sd sc rm VRs (fun env => spliced (backTo pos (starEach es env))) T
noncomputable abbrev Tst (sc : Scope) (rm : Nat) (e : PySem.Expr) (T : Tr Bool) : Prop := Sd sc rm Rb (fun env => isTrue e env (eval e env)) T
inductive Fl where
  | next | brk | cont
  | ret (v : V)
inductive FR (I : Heap) (μ : List Addr) : Fl → Flow → Prop
  | next : FR I μ .next .next
  | brk : FR I μ .brk .brk
  | cont : FR I μ .cont .cont
  | ret {v x} : VR I μ v x → FR I μ (.ret v) (.ret x)
noncomputable abbrev Ex (sc : Scope) (rm : Nat) (s : Stmt) (T : Tr Fl) : Prop := Sd sc rm FR (exec s) T
noncomputable abbrev Exs (sc : Scope) (rm : Nat) (l : List Stmt) (T : Tr Fl) : Prop := Sd sc rm FR (execs l) T
section
variable {sc : Scope} {rm : Nat} {pos : Pos}
theorem ev_none {k} : Ev sc rm (.Constant .none k pos) (fun Q _ st => Q .none st) :=
  fun _ _ _ _ _ _ _ _ s _ _ _ t i q _ => wpAny_Constant_none (q _ _ _ _ _ _ s.toks t i (fun _ _ e => e) (List.prefix_refl _) .none)
theorem ev_bool {k b} : Ev sc rm (.Constant (.bool b) k pos) (fun Q _ st => Q (.bool b) st) :=
  fun _ _ _ _ _ _ _ _ s _ _ _ t i q _ => wpAny_Constant_bool (q _ _ _ _ _ _ s.toks t i (fun _ _ e => e) (List.prefix_refl _) (.bool b))
theorem ev_int {k n} : Ev sc rm (.Constant (.int n) k pos) (fun Q _ st => Q (.int n) st) :=
  fun _ _ _ _ _ _ _ _ s _ _ _ t i q _ => wpAny_Constant_int (q _ _ _ _ _ _ _ t i (fun _ _ e => e) (List.prefix_refl _) (.int n _))
noncomputable def strL (x : Str) : List Nat := x.cps.toList
noncomputable def okB (l : List Nat) : Bool := l.all (fun c => decide (c < 128)) && decide (l.length ≤ 65536)
theorem okS_of {l : List Nat} (h : okB l = true) : okS l := by
  unfold okB at h
  rw [Bool.and_eq_true, List.all_eq_true] at h
  exact ⟨fun c hc => of_decide_eq_true (h.1 c hc), of_decide_eq_true h.2⟩
theorem ev_str {k x} (h : okB (strL x) = true) : Ev sc rm (.Constant (.str x) k pos) (fun Q _ st => Q (.str (strL x)) st) :=
  fun _ _ _ _ _ _ _ _ s _ _ _ t i q _ => wpAny_Constant_str (q _ _ _ _ _ _ _ t i (fun _ _ e => e) (List.prefix_refl _) (.str _ rfl (okS_of h)))
theorem ev_var {x : Str} {i : Nat} (hi : idxIn sc.names x = some i) (hl : sc.names.lookup x = some .local) (hd : (x == ("__debug__" : Str)) = false := by decide) :
    Ev sc rm (.Name x pos) (fun Q _ st => match st.vars[i]? with | some (some v) => Q v st | _ => False) := by
  intro c G hs Q X st I μ s Q' E' z t inv q _
  obtain ⟨rfl, hrm⟩ := hs
  obtain ⟨m, F, L⟩ := inv.fr
  split at t
  · rename_i v hv
    obtain ⟨val, hm, hr⟩ := L x i v hi hv
    exact wpAny_Name (wpAny_loadName_local G.fn hl F.ns hm (q _ _ _ _ _ _ s.toks t inv (fun _ _ e => e) (List.prefix_refl _) hr)) hd
  · exact t.elim
theorem ev_cell {x : Str} {i : Nat} (hi : cidx sc.names x = some i) (hl : sc.names.lookup x = some .cell) (hd : (x == ("__debug__" : Str)) = false := by decide) :
    Ev sc rm (.Name x pos) (fun Q _ st => match st.cv[i]? with | some (some v) => Q v st | _ => False) := by
  intro c G hs Q X st I μ s Q' E' z t inv q _
  obtain ⟨rfl, hrm⟩ := hs
  split at t
  · rename_i v hv
    obtain ⟨a, o, val, h1, h2, h3, hr⟩ := inv.cells x i v hi hv
    exact wpAny_Name (wpAny_loadName_cell G.fn hl h1 ⟨o, inv.stays _ _ h2, h3⟩ (q _ _ _ _ _ _ s.toks t inv (fun _ _ e => e) (List.prefix_refl _) hr)) hd
  · exact t.elim
theorem ev_glob {x : Str} {v : V} (hk : sc.names.lookup x = some .globalImplicit) (hn : ∀ P, ∃ val, nsIn (KK P) mainGlobals x = some (some val) ∧ ∀ I μ, VR I μ v val) (hd : (x == ("__debug__" : Str)) = false := by decide) :
    Ev sc rm (.Name x pos) (fun Q _ st => Q v st) := by
  intro c G hs Q X st I μ s Q' E' z t inv q _
  obtain ⟨rfl, hrm⟩ := hs
  obtain ⟨m, F, L⟩ := inv.fr
  obtain ⟨val, e, r⟩ := hn c.w.params
  exact Name_function_global G.fn hk (loadGlobal_global (env := c.env) (G.top.g.keeps F.keep) (mg_of G.K G.top.g e) (q _ _ _ _ _ _ s.toks t inv (fun _ _ e => e) (List.prefix_refl _) (r _ _))) hd
theorem ev_builtin {x : Str} {v : Value} (hk : sc.names.lookup x = some .globalImplicit) (hn : ∀ P, nsIn (KK P) mainGlobals x = some none) (hv : bootBuiltins x = some v) (hne : x ≠ "__name__") (hd : (x == ("__debug__" : Str)) = false := by decide) :
    Ev sc rm (.Name x pos) (fun Q _ st => Q (.obj v) st) := by
  intro c G hs Q X st I μ s Q' E' z t inv q _
  obtain ⟨rfl, hrm⟩ := hs
  obtain ⟨m, F, L⟩ := inv.fr
  exact Name_function_global G.fn hk (loadGlobal_builtin (env := c.env) (G.top.g.keeps F.keep) (mg_none_of G.K G.top.g (hn _)) (G.top.b.keeps F.keep) ((G.top.builtins x hne).trans hv) (q _ _ _ _ _ _ s.toks t inv (fun _ _ e => e) (List.prefix_refl _) (.obj _))) hd
/-- a step by two values -/
theorem ev_bin {l r : PySem.Expr} {op : Operator} {T₁ T₂ : Tr V} {o : V → V → (V → Prop) → Prop} (h₁ : Ev sc rm l T₁) (h₂ : Ev sc rm r T₂)
    (ho : ∀ (c : Cx), Good c → ∀ va vb a b (Q : V → St → Prop) st I μ s Q' E', 0 < s.toks → o va vb (fun v => Q v st) → Inv c I μ st s.heap → VR I μ va a → VR I μ vb b → OkQ c I μ s VR Q Q' → wpAny (model c.prog c.w) c.A (binaryOp op a b) Q' E' s) :
    Ev sc rm (.BinOp l op r pos) (fun Q X st => T₁ (fun va st₁ => T₂ (fun vb st₂ => o va vb (fun v => Q v st₂)) X st₁) X st) := by
  intro c G hs Q X st I μ s Q' E' z t inv q x
  refine wpAny_BinOp (h₁.use G hs z t inv ?_ x)
  intro va a st₁ I₁ μ₁ h₁' tk₁ t₁ inv₁ k₁ p₁ r₁ z₁
  refine h₂.use G hs (st := st₁) z₁ t₁ inv₁ ?_ (x.up k₁ p₁)
  intro vb b st₂ I₂ μ₂ h₂' tk₂ t₂ inv₂ k₂ p₂ r₂ z₂
  exact ho c G va vb a b Q st₂ I₂ μ₂ _ Q' E' z₂ t₂ inv₂ (r₁.up k₂ p₂) r₂ ((q.up k₁ p₁).up k₂ p₂)
noncomputable def withNat (v : V) (Q : Nat → Prop) : Prop := match v with
  | .int (.ofNat a) => Q a
  | _ => False
theorem withNat_inv {v : V} {Q : Nat → Prop} (h : withNat v Q) : ∃ a : Nat, v = .int a ∧ Q a := by
  unfold withNat at h; split at h; exact ⟨_, rfl, h⟩; exact h.elim
noncomputable def withStr (v : V) (Q : List Nat → Prop) : Prop := match v with
  | .str l => Q l
  | _ => False
theorem withStr_inv {v : V} {Q : List Nat → Prop} (h : withStr v Q) : ∃ l, v = .str l ∧ Q l := by
  unfold withStr at h; split at h; exact ⟨_, rfl, h⟩; exact h.elim
noncomputable def opAdd (a b : V) (Q : V → Prop) : Prop := match a with
  | .str x => withStr b fun y => (x ++ y).length ≤ 65536 ∧ Q (.str (x ++ y))
  | a => withNat a fun i => withNat b fun j => Q (.int ((i + j : Nat) : Int))
theorem VR.intI {I : Heap} {μ : List Addr} {i : Int} {x : Value} (r : VR I μ (.int i) x) : ∃ t, x = .int i t := by cases r; exact ⟨_, rfl⟩
theorem VR.boolI {I : Heap} {μ : List Addr} {b : Bool} {x : Value} (r : VR I μ (.bool b) x) : x = .bool b := by cases r; rfl
theorem VR.strI {I : Heap} {μ : List Addr} {l : List Nat} {x : Value} (r : VR I μ (.str l) x) : ∃ y t, x = .str y t ∧ y.cps.toList = l ∧ okS l := by cases r; exact ⟨_, _, rfl, by assumption, by assumption⟩
theorem VR.objI {I : Heap} {μ : List Addr} {v x : Value} (r : VR I μ (.obj v) x) : x = v := by cases r; rfl
theorem VR.locI {I : Heap} {μ : List Addr} {k : Nat} {x : Value} (r : VR I μ (.loc k) x) : ∃ a, x = .ref a ∧ μ[k]? = some a := by cases r; exact ⟨_, rfl, by assumption⟩
theorem VR.listI {I : Heap} {μ : List Addr} {l : List V} {x : Value} (r : VR I μ (.list l) x) : ∃ a vs n, x = .ref a ∧ I.get? a = some (listOf vs n) ∧ VRs I μ l vs.toList := by cases r; exact ⟨_, _, _, rfl, by assumption, by assumption⟩
theorem VR.tupI {I : Heap} {μ : List Addr} {l : List V} {x : Value} (r : VR I μ (.tup l) x) : ∃ a o vs n, x = .ref a ∧ I.get? a = some o ∧ o.cls = .type "tuple" ∧ o.data = .seq vs n ∧ VRs I μ l vs.toList := by cases r; exact ⟨_, _, _, _, rfl, by assumption, by assumption, by assumption, by assumption⟩
theorem VRs.consI {I : Heap} {μ : List Addr} {v : V} {l : List V} {xs : List Value} (r : VRs I μ (v :: l) xs) : ∃ x ys, xs = x :: ys ∧ VR I μ v x ∧ VRs I μ l ys := by cases r; exact ⟨_, _, rfl, by assumption, by assumption⟩
theorem VRs.nilI {I : Heap} {μ : List Addr} {xs : List Value} (r : VRs I μ [] xs) : xs = [] := by cases r; rfl
theorem VRs.oneI {I : Heap} {μ : List Addr} {v : V} {xs : List Value} (r : VRs I μ [v] xs) : ∃ x, xs = [x] ∧ VR I μ v x := by
  obtain ⟨x, ys, rfl, a, b⟩ := r.consI
  exact ⟨x, by rw [b.nilI], a⟩
theorem VRs.twoI {I : Heap} {μ : List Addr} {v w : V} {xs : List Value} (r : VRs I μ [v, w] xs) : ∃ x y, xs = [x, y] ∧ VR I μ v x ∧ VR I μ w y := by
  obtain ⟨x, ys, rfl, a, b⟩ := r.consI
  obtain ⟨y, rfl, d⟩ := b.oneI
  exact ⟨x, y, rfl, a, d⟩
theorem okS_app {a b : List Nat} (ha : okS a) (hb : okS b) (h : (a ++ b).length ≤ 65536) : okS (a ++ b) := ⟨fun c hc => (List.mem_append.mp hc).elim (ha.1 c) (hb.1 c), h⟩
theorem add_ok {c : Cx} {A : Around} {va vb : Str} {ta tb : Tok} {a b : List Nat} {Q' : Value → Shared → Prop} {E' : Value → Shared → Prop} {s : Shared} (ha : va.cps.toList = a) (hb : vb.cps.toList = b) (hl : (a ++ b).length ≤ 65536)
    (h : ∀ x t tk, x.cps.toList = a ++ b → Q' (.str x t) { s with toks := tk }) : wpAny (model c.prog c.w) A (binaryOp .Add (.str va ta) (.str vb tb)) Q' E' s := by
  refine SBL.add (fun t' k _ => h _ _ _ ?_) ?_
  · show (va.cps ++ vb.cps).toList = _
    rw [Array.toList_append, ha, hb]
  · rw [sizeLine_eq]
    have h1 : va.length = a.length := by rw [← ha]; exact Array.length_toList.symm
    have h2 : vb.length = b.length := by rw [← hb]; exact Array.length_toList.symm
    rw [h1, h2, ← List.length_append]; exact Nat.le_trans hl (by decide)
theorem ev_add {l r : PySem.Expr} {T₁ T₂ : Tr V} (h₁ : Ev sc rm l T₁) (h₂ : Ev sc rm r T₂) :
    Ev sc rm (.BinOp l .Add r pos) (fun Q X st => T₁ (fun va st₁ => T₂ (fun vb st₂ => opAdd va vb (fun v => Q v st₂)) X st₁) X st) := by
  refine ev_bin h₁ h₂ ?_
  intro c G va vb a b Q st I μ s Q' E' z t inv ra rb q
  unfold opAdd at t
  split at t
  · obtain ⟨y, rfl, t'⟩ := withStr_inv t
    obtain ⟨_, _, rfl, ha, oka⟩ := ra.strI; obtain ⟨_, _, rfl, hb, okb⟩ := rb.strI
    exact add_ok ha hb t'.1 fun x u tk e => q _ _ _ _ _ _ _ t'.2 inv (fun _ _ e => e) (List.prefix_refl _) (.str _ e (okS_app oka okb t'.1))
  · obtain ⟨i, rfl, t'⟩ := withNat_inv t
    obtain ⟨j, rfl, t''⟩ := withNat_inv t'
    obtain ⟨_, rfl⟩ := ra.intI; obtain ⟨_, rfl⟩ := rb.intI
    exact add_int (q _ _ _ _ _ _ _ t'' inv (fun _ _ e => e) (List.prefix_refl _) (.int _ _))
end
end Mine
namespace Mine
theorem str_of {x : Str} {s : List Nat} (h : x.cps.toList = s) : x = ⟨s.toArray⟩ := by
  subst h; cases x; simp
theorem len_of {x : Str} {s : List Nat} (h : x.cps.toList = s) : x.length = s.length := by
  rw [← h]; exact Array.length_toList.symm
theorem Trc.keeps {h₀ : Heap} {e : Addr} {vs : Array Value} {h h' : Heap} {P P' : Option Value → Prop} (t : Trc h₀ e vs h P) (hk : ∀ b o vs, h.get? b = some o → o.data = .fields vs → h'.get? b = some o) (hp : ∀ x, P x → P' x) : Trc h₀ e vs h' P' := by
  rcases t with ⟨a, b⟩ | ⟨T, oT, ts, fl, a, b, c, d, f, g, i⟩
  · exact .inl ⟨a, hp _ b⟩
  · exact .inr ⟨T, oT, ts, fl, a, b, c, hk _ _ _ d f, f, g, hp _ i⟩
theorem ExcObj.keeps {h₀ I : Heap} {e : Addr} {x : Exc} {h h' : Heap} {P P' : Option Value → Prop} (t : ExcObj h₀ I e x h P) (hk : ∀ b o vs, h.get? b = some o → o.data = .fields vs → h'.get? b = some o) (hp : ∀ x, P x → P' x) : ExcObj h₀ I e x h' P' := by
  obtain ⟨a, d, vs, sl, es, n, xs, h1, h2, h3, h4, h5, h6⟩ := t
  exact ⟨a, d, vs, sl, es, n, xs, hk _ _ _ h1 rfl, h2, h3, h4, h5, h6.keeps hk hp⟩
theorem ExcObj.up {h₀ I I' : Heap} {e : Addr} {x : Exc} {h : Heap} {P : Option Value → Prop} (t : ExcObj h₀ I e x h P) (hk : I.StaysIn I') : ExcObj h₀ I' e x h P := by
  obtain ⟨a, d, vs, sl, es, n, xs, h1, h2, h3, h4, h5, h6⟩ := t
  exact ⟨a, d, vs, sl, es, n, xs, h1, h2, hk _ _ h3, h4, h5.up hk (List.prefix_refl _), h6⟩
theorem ExcObj.low {h₀ h₀' I : Heap} {e : Addr} {x : Exc} {h : Heap} {P : Option Value → Prop} (t : ExcObj h₀ I e x h P) (hk : h₀'.StaysIn h₀) : ExcObj h₀' I e x h P := by
  have low : ∀ a, h₀.get? a = none → h₀'.get? a = none := fun a q => by
    cases w : h₀'.get? a with
    | none => rfl
    | some o => rw [hk _ _ w] at q; cases q
  obtain ⟨a, d, vs, sl, es, n, xs, h1, h2, h3, h4, h5, h6⟩ := t
  refine ⟨low _ a, d, vs, sl, es, n, xs, h1, h2, h3, h4, h5, ?_⟩
  rcases h6 with ⟨a, b⟩ | ⟨T, oT, ts, fl, a, b, c, d, f, g, i⟩
  · exact .inl ⟨a, b⟩
  · exact .inr ⟨T, oT, ts, fl, a, b, low _ c, d, f, g, i⟩
theorem InvR.keeps {R : Obj → Obj → Prop} {c : Cx} {I : Heap} {μ : List Addr} {st : St} {h h' : Heap} (i : InvR R c I μ st h) (hk : ∀ b o, h.get? b = some o → h'.get? b = some o) : InvR R c I μ st h' where
  fr := let ⟨m, F, L⟩ := i.fr; ⟨m, F.grownK hk, L⟩
  led := ⟨i.led.1, i.led.2.1, fun k a l e1 e2 => let ⟨vs, n, q1, q2⟩ := i.led.2.2 k a l e1 e2; ⟨vs, n, hk _ _ q1, q2⟩⟩
  stays := fun b x e => hk _ _ (i.stays b x e)
  own := i.own
  nof := i.nof
  avoid := fun a ha => ⟨(i.avoid a ha).1, let ⟨x, x', es, n, e, e', r, d⟩ := (i.avoid a ha).2; ⟨x, x', es, n, e, hk _ _ e', r, d⟩⟩
  shy := fun a ha => ⟨(i.shy a ha).1, let ⟨o, e, d⟩ := (i.shy a ha).2; ⟨o, hk _ _ e, d⟩⟩
  frame := let ⟨f1, x, es, n, f2, f3⟩ := i.frame; ⟨f1, x, es, n, hk _ _ f2, f3⟩
  cells := i.cells
  pend := fun e x q => (i.pend e x q).keeps (fun b o _ a _ => hk b o a) fun _ a => a
  hdl := fun v q => let ⟨e, o, vs, a, b, d⟩ := i.hdl v q; ⟨e, o, vs, a, hk _ _ b, d⟩
theorem Inv.keeps {c : Cx} {I : Heap} {μ : List Addr} {st : St} {h h' : Heap} (i : Inv c I μ st h) (hk : ∀ b o, h.get? b = some o → h'.get? b = some o) : Inv c I μ st h' := InvR.keeps i hk
theorem Inv.push {c : Cx} {I : Heap} {μ : List Addr} {st : St} {h : Heap} (i : Inv c I μ st h) (o : Obj) : Inv c I μ st (h.push o) := InvR.keeps i fun _ _ e => Heap.get?_push_of_some _ e
theorem Inv.kept {c : Cx} {I : Heap} {μ : List Addr} {st : St} : KeptH (fun h => Inv c I μ st h) := fun h o i => Inv.push i o
/-- all that is not turned -/
noncomputable def recs (h : Heap) : List Addr := (List.range h.objs.size).filter fun a => match h.get? a with | some o => (match o.data with | .fields _ => true | _ => false) | none => false
theorem mem_recs {h : Heap} {a : Addr} {o : Obj} (e : h.get? a = some o) : a ∈ recs h ↔ ∃ vs, o.data = .fields vs := by
  unfold recs
  rw [List.mem_filter, List.mem_range, e]
  constructor
  · rintro ⟨_, q⟩
    dsimp only at q
    split at q
    · exact ⟨_, by assumption⟩
    · cases q
  · rintro ⟨vs, q⟩
    exact ⟨Heap.lt_size e, by dsimp only; rw [q]⟩
noncomputable def still (c : Cx) (μ : List Addr) (h : Heap) : Heap := hideAll h ((c.L :: c.fp :: c.avoid ++ μ) ++ c.shy ++ recs h)
theorem Inv.widen {c : Cx} {I : Heap} {μ : List Addr} {st : St} {h : Heap} (i : Inv c I μ st h) : Inv c (still c μ h) μ st h ∧ I.StaysIn (still c μ h) ∧ ∀ a o, h.get? a = some o → a ≠ c.L → a ≠ c.fp → a ∉ c.avoid → a ∉ μ → a ∉ c.shy → (∀ vs, o.data ≠ .fields vs) → (still c μ h).get? a = some o := by
  have hm : ∀ k a, μ[k]? = some a → ∃ o, h.get? a = some o ∧ I.get? a = none := fun k a e => by
    have hlt := (List.getElem?_eq_some_iff.mp e).1
    rw [i.led.1] at hlt
    obtain ⟨vs, n, q1, _, _, _, q2⟩ := i.led.2.2 k a _ e (List.getElem?_eq_getElem hlt)
    exact ⟨_, q1, q2⟩
  have hst : I.StaysIn (still c μ h) := fun b o e => hideAll_get _ (i.stays b o e) fun hb => by
    rcases List.mem_append.mp hb with hb | hb
    · rcases List.mem_append.mp hb with hb | hb
      · rcases List.mem_append.mp hb with hb | hb
        · rcases List.mem_cons.mp hb with rfl | hb
          · rw [i.own] at e; cases e
          · rcases List.mem_cons.mp hb with rfl | hb
            · rw [i.frame.1] at e; cases e
            · rw [(i.avoid b hb).1] at e; cases e
        · obtain ⟨k, hk⟩ := List.getElem?_of_mem hb
          obtain ⟨_, _, q⟩ := hm k b hk
          rw [q] at e; cases e
      · rw [(i.shy b hb).1] at e; cases e
    · obtain ⟨vs, q⟩ := (mem_recs (i.stays b o e)).mp hb
      exact i.nof _ _ e _ q
  refine ⟨⟨?_, ⟨i.led.1, i.led.2.1, fun k a l e1 e2 => ?_⟩, fun b o e => of_hideAll _ e, hideAll_none _ (by simp), fun a o e vs q => ?_, fun a ha => ⟨hideAll_none _ (by simp [ha]), (i.avoid a ha).2⟩, fun a ha => ⟨hideAll_none _ (by simp [ha]), (i.shy a ha).2⟩, ⟨hideAll_none _ (by simp), i.frame.2⟩, fun x k v a b => let ⟨a, o, val, h1, h2, h3, h4⟩ := i.cells x k v a b; ⟨a, o, val, h1, hst _ _ h2, h3, h4.up hst (List.prefix_refl _)⟩, fun e x q => (i.pend e x q).up hst, i.hdl⟩, hst, fun a o e n1 n2 n3 n4 n6 n5 => hideAll_get _ e (by
    intro hb
    rcases List.mem_append.mp hb with hb | hb
    · simp [n1, n2, n3, n4, n6] at hb
    · obtain ⟨vs, q⟩ := (mem_recs e).mp hb
      exact n5 vs q)⟩
  · obtain ⟨m, F, L⟩ := i.fr
    exact ⟨m, F, fun x k v a b => let ⟨w, p1, p2⟩ := L x k v a b; ⟨w, p1, p2.up hst (List.prefix_refl _)⟩⟩
  · obtain ⟨vs, n, q1, q2, q3, q4, _⟩ := i.led.2.2 k a l e1 e2
    exact ⟨vs, n, q1, q2.up hst (List.prefix_refl _), q3, q4, hideAll_none _ (by simp [List.mem_of_getElem? e1])⟩
  · have hn : (still c μ h).get? a = none := hideAll_none _ (List.mem_append_right _ ((mem_recs (of_hideAll _ e)).mpr ⟨vs, q⟩))
    rw [hn] at e; cases e
theorem Inv.fresh {c : Cx} {I : Heap} {μ : List Addr} {st : St} {h : Heap} (i : Inv c I μ st h) {a : Addr} (ha : h.get? a = none) : a ≠ c.L ∧ a ≠ c.fp ∧ a ∉ c.avoid ∧ a ∉ μ ∧ a ∉ c.shy := by
  refine ⟨fun e => ?_, fun e => ?_, fun e => ?_, fun e => ?_, fun e => ?_⟩
  · obtain ⟨m, F, _⟩ := i.fr
    obtain ⟨oL, _, _, hL, _⟩ := F.ns
    rw [e, hL] at ha; cases ha
  · obtain ⟨o, _, _, q, _⟩ := i.frame.2
    rw [e, q] at ha; cases ha
  · obtain ⟨_, o, _, _, _, q, _⟩ := (i.avoid a e).2
    rw [q] at ha; cases ha
  · obtain ⟨k, hk⟩ := List.getElem?_of_mem e
    have hlt := (List.getElem?_eq_some_iff.mp hk).1
    rw [i.led.1] at hlt
    obtain ⟨vs, n, q1, _⟩ := i.led.2.2 k a _ hk (List.getElem?_eq_getElem hlt)
    rw [q1] at ha; cases ha
  · obtain ⟨_, o, q, _⟩ := i.shy a e
    rw [q] at ha; cases ha
/-- a new object that stays as it is -/
theorem Inv.grow {c : Cx} {I : Heap} {μ : List Addr} {st : St} {h : Heap} (i : Inv c I μ st h) {o : Obj} (ho : o.isFreed = false) (hf : ∀ vs, o.data ≠ .fields vs) :
    ∃ I', Inv c I' μ st (h.push o) ∧ I.StaysIn I' ∧ I'.get? h.objs.size = some o := by
  have i' := i.push o
  obtain ⟨w1, w2, w3⟩ := i'.widen
  have hn : h.get? h.objs.size = none := by
    cases q : h.get? h.objs.size with
    | none => rfl
    | some x => exact absurd (Heap.lt_size q) (Nat.lt_irrefl _)
  obtain ⟨f1, f2, f3, f4, f5⟩ := i.fresh hn
  exact ⟨_, w1, w2, w3 _ _ (Heap.get?_push_size _ ho) f1 f2 f3 f4 f5 hf⟩
mutual
noncomputable def toD : V → PyData
  | .none => .none
  | .bool b => .bool b
  | .int i => .int i
  | .str s => .str ⟨s.toArray⟩
  | .tup l => .tuple (toDs l)
  | .list l => .list (toDs l)
  | .inst _ _ _ => .none
  | .loc _ => .none
  | .obj _ => .none
noncomputable def toDs : List V → List PyData
  | [] => []
  | v :: r => toD v :: toDs r
end
mutual
noncomputable def isD : V → Bool
  | .none => true
  | .bool _ => true
  | .int _ => true
  | .str _ => true
  | .tup l => isDs l
  | .list l => isDs l
  | .inst _ _ _ => false
  | .loc _ => false
  | .obj _ => false
noncomputable def isDs : List V → Bool
  | [] => true
  | v :: r => isD v && isDs r
end
theorem strOk_of {x : Str} {s : List Nat} (h : x.cps.toList = s) (ok : okS s) : PyData.strOk x = true := by
  unfold PyData.strOk
  rw [← Array.all_toList, h, List.all_eq_true]
  intro c hc
  have := ok.1 c hc
  exact decide_eq_true (by omega)
theorem VR.reads {I : Heap} {μ : List Addr} {v : V} {x : Value} (h : VR I μ v x) : isD v = true → ∃ as, Reads I x (toD v) as ∧ (toD v).canLay0 = true :=
  @VR.rec I μ (fun v x _ => isD v = true → ∃ as, Reads I x (toD v) as ∧ (toD v).canLay0 = true) (fun l xs _ => isDs l = true → ∃ as, ReadsAll I xs (toDs l) as ∧ PyData.canLayAll0 (toDs l) = true)
    (fun _ => ⟨_, .none, rfl⟩) (fun b _ => ⟨_, .bool b, rfl⟩) (fun i t _ => ⟨_, .int i t, rfl⟩)
    (fun {s x} t h ok _ => ⟨[], (show Reads I (.str x t) (.str ⟨s.toArray⟩) [] by rw [← str_of h]; exact .str _ t), (show PyData.strOk ⟨s.toArray⟩ = true by rw [← str_of h]; exact strOk_of h ok)⟩)
    (fun a b c _ d e => let ⟨as, r, q⟩ := d e; ⟨as, .tuple a b c r, q⟩) (fun a _ d e => let ⟨as, r, q⟩ := d e; ⟨_, .list a rfl rfl r, q⟩) (fun _ _ _ _ _ _ e => nomatch e) (fun _ e => nomatch e) (fun _ e => nomatch e)
    (fun _ => ⟨_, .nil, rfl⟩) (fun {v x l xs} _ _ a b e => by
      rw [isDs, Bool.and_eq_true] at e
      obtain ⟨as, r, q⟩ := a e.1
      obtain ⟨bs, r', q'⟩ := b e.2
      exact ⟨_, .cons r r', by rw [toDs, PyData.canLayAll0, q, q']; rfl⟩) v x h
theorem VRs.reads {I : Heap} {μ : List Addr} : ∀ {l : List V} {xs : List Value}, VRs I μ l xs → isDs l = true → ∃ as, ReadsAll I xs (toDs l) as ∧ PyData.canLayAll0 (toDs l) = true
  | [], xs, h, _ => by rw [h.nilI]; exact ⟨_, .nil, rfl⟩
  | v :: l, xs, h, e => by
    obtain ⟨x, ys, rfl, h1, h2⟩ := h.consI
    rw [isDs, Bool.and_eq_true] at e
    obtain ⟨as, r, q⟩ := h1.reads e.1
    obtain ⟨bs, r', q'⟩ := VRs.reads h2 e.2
    exact ⟨_, .cons r r', by rw [toDs, PyData.canLayAll0, q, q']; rfl⟩
/-- a turned list looked at as data -/
noncomputable def rv (σ : Led) : V → V
  | .loc k => .list (σ.ls.getD k [])
  | v => v
theorem Inv.reads {c : Cx} {I : Heap} {μ : List Addr} {st : St} {h : Heap} (i : Inv c I μ st h) {v : V} {x : Value} (r : VR I μ v x) (e : isD (rv st.σ v) = true) :
    ∃ as, Reads h x (toD (rv st.σ v)) as ∧ (toD (rv st.σ v)).canLay0 = true := by
  cases v with
  | loc k =>
    obtain ⟨a, rfl, hk⟩ := r.locI
    have hlt : k < st.σ.ls.length := i.led.1 ▸ (List.getElem?_eq_some_iff.mp hk).1
    have hg : st.σ.ls[k]? = some (st.σ.ls.getD k []) := by rw [List.getD_eq_getElem?_getD, List.getElem?_eq_getElem hlt]; rfl
    obtain ⟨vs, n, q1, q2, _⟩ := i.led.2.2 k a _ hk hg
    obtain ⟨as, r, q⟩ := VRs.reads q2 e
    exact ⟨_, .list q1 rfl rfl (ReadsAll.keeps i.stays r), q⟩
  | _ => exact let ⟨as, a, b⟩ := VR.reads r e; ⟨as, Reads.keeps i.stays a, b⟩
/-- a comparison -/
noncomputable def sp (p : Prop) (Q : Bool → Prop) : Prop := (p → Q true) ∧ (¬ p → Q false)
theorem sp_at {p : Prop} {Q : Bool → Prop} {b : Bool} (t : sp p Q) (h : b = true ↔ p) : Q b := by
  cases b with
  | true => exact t.1 (h.mp rfl)
  | false => exact t.2 fun q => Bool.noConfusion (h.mpr q)
noncomputable def eqS : List Nat → List Nat → Prop
  | [a], [b] => a = b
  | a, b => a = b
theorem eqS_iff {a b : List Nat} : eqS a b ↔ a = b := by
  unfold eqS
  split
  · exact ⟨fun h => by rw [h], fun h => (List.cons.inj h).1⟩
  · exact Iff.rfl
noncomputable def cLt (a b : V) (Q : Bool → Prop) : Prop := withNat a fun i => withNat b fun j => sp (i < j) Q
noncomputable def cLe (a b : V) (Q : Bool → Prop) : Prop := withNat a fun i => withNat b fun j => sp (i ≤ j) Q
noncomputable def cLes (a b : V) (Q : Bool → Prop) : Prop := match a with
  | .str a => withStr b fun b => sp (¬ b < a) Q
  | a => cLe a b Q
noncomputable def cEqD (σ : Led) (a b : V) (Q : Bool → Prop) : Prop :=
  isD (rv σ a) = true ∧ isD (rv σ b) = true ∧ (toD (rv σ b)).depth ≤ 8 ∧ sp (PyData.eqv (toD (rv σ a)) (toD (rv σ b)) = true) Q
noncomputable def cEq (σ : Led) (a b : V) (Q : Bool → Prop) : Prop := match a with
  | .int i => withNat (.int i) fun i => withNat b fun j => sp (i = j) Q
  | .str x => withStr b fun y => sp (eqS x y) Q
  | a => cEqD σ a b Q
noncomputable def cInD (a : V) (l : List V) (Q : Bool → Prop) : Prop := isD a = true ∧ isDs l = true ∧ (toD a).depth ≤ 8 ∧ sp ((toDs l).any (fun y => PyData.eqv y (toD a)) = true) Q
noncomputable def cIn (a b : V) (Q : Bool → Prop) : Prop := match b with
  | .str y => (match a with | .str [k] => sp (k ∈ y) Q | _ => False)
  | .tup l => cInD a l Q
  | .list l => cInD a l Q
  | _ => False
noncomputable def cNin (a b : V) (Q : Bool → Prop) : Prop := withStr b fun y => match a with
  | .str [k] => sp (k ∈ y) fun b => Q (!b)
  | _ => False
noncomputable def opCmp (σ : Led) (op : CmpOp) (a b : V) (Q : Bool → Prop) : Prop := match op with
  | .Lt => cLt a b Q
  | .LtE => cLes a b Q
  | .Gt => cLt b a Q
  | .GtE => cLe b a Q
  | .Eq => cEq σ a b Q
  | .NotEq => cEq σ a b fun b => Q (!b)
  | .In => cIn a b Q
  | .NotIn => cNin a b Q
  | _ => False
section
variable {c : Cx} {I : Heap} {μ : List Addr} {st : St} {s : Shared} {E' : Value → Shared → Prop} {Q' : Value → Shared → Prop} {va vb : V} {a b : Value} {R : Bool → Prop}
theorem units_ok (G : Good c) : c.A.units + 20 < cLine := by
  have h := G.units
  show c.A₀.units + 3 + 20 < cLine
  have : cLine = 9900 := rfl
  omega
theorem units_at (G : Good c) {n : Nat} (h : n ≤ 8) (k : Nat) (hk : k ≤ 5) : c.A.units + k + n < cLine := Nat.lt_of_le_of_lt (by omega) (units_ok G)
theorem cmp_eq (G : Good c) (inv : Inv c I μ st s.heap) (ra : VR I μ va a) (rb : VR I μ vb b) (t : cEqD st.σ va vb R) (q : ∀ b, R b → Q' (.bool b) s) : wpAny (model c.prog c.w) c.A (compareOp .Eq a b) Q' E' s := by
  obtain ⟨d1, d2, dp, t⟩ := t
  obtain ⟨as, x1, y1⟩ := inv.reads ra d1
  obtain ⟨bs, x2, y2⟩ := inv.reads rb d2
  exact SeqAt.compareEq_reads x1 x2 y1 y2 (units_at G (Nat.le_trans (Nat.min_le_right _ _) dp) 0 (by decide)) (q _ (sp_at t Iff.rfl))
theorem cmp_ne (G : Good c) (inv : Inv c I μ st s.heap) (ra : VR I μ va a) (rb : VR I μ vb b) (t : cEqD st.σ va vb fun b => R (!b)) (q : ∀ b, R b → Q' (.bool b) s) : wpAny (model c.prog c.w) c.A (compareOp .NotEq a b) Q' E' s := by
  obtain ⟨d1, d2, dp, t⟩ := t
  obtain ⟨as, x1, y1⟩ := inv.reads ra d1
  obtain ⟨bs, x2, y2⟩ := inv.reads rb d2
  exact SeqAt.compareNe_reads x1 x2 y1 y2 (units_at G (Nat.le_trans (Nat.min_le_right _ _) dp) 0 (by decide)) (q _ (sp_at (Q := fun b => R (!b)) t Iff.rfl))
theorem cmp_inT {l : List V} (G : Good c) (inv : Inv c I μ st s.heap) (ra : VR I μ va a) (rb : VR I μ (.tup l) b) (t : cInD va l R) (q : ∀ b, R b → Q' (.bool b) s) : wpAny (model c.prog c.w) c.A (compareOp .In a b) Q' E' s := by
  obtain ⟨d1, d2, dp, t⟩ := t
  obtain ⟨as, x1, y1⟩ := ra.reads d1
  obtain ⟨bs, x2, y2⟩ := rb.reads d2
  exact SeqAt.in_tuple_reads (Reads.keeps inv.stays x2) (Reads.keeps inv.stays x1) y2 y1 (units_at G (Nat.le_trans (Nat.min_le_right _ _) dp) 1 (by decide)) (q _ (sp_at t Iff.rfl))
theorem cmp_inL {l : List V} (G : Good c) (inv : Inv c I μ st s.heap) (ra : VR I μ va a) (rb : VR I μ (.list l) b) (t : cInD va l R) (q : ∀ b, R b → Q' (.bool b) s) : wpAny (model c.prog c.w) c.A (compareOp .In a b) Q' E' s := by
  obtain ⟨d1, d2, dp, t⟩ := t
  obtain ⟨as, x1, y1⟩ := ra.reads d1
  obtain ⟨bs, x2, y2⟩ := rb.reads d2
  exact SeqAt.in_list_reads (Reads.keeps inv.stays x2) (Reads.keeps inv.stays x1) y2 y1 (units_at G (Nat.le_trans (Nat.min_le_right _ _) dp) 1 (by decide)) (q _ (sp_at t Iff.rfl))
theorem beq_of {x y : Str} {a b : List Nat} (hx : x.cps.toList = a) (hy : y.cps.toList = b) : (x == y) = true ↔ a = b := by
  rw [str_of hx, str_of hy, beq_iff_eq]
  exact ⟨fun h => by simpa using congrArg (fun z : Str => z.cps.toList) h, fun h => by rw [h]⟩
theorem found_at {x y : Str} {b : List Nat} {k : Nat} (hx : x.cps.toList = [k]) (hy : y.cps.toList = b) : (!(Builtin.Str.occurrences y x 0 y.length 1).isEmpty) = true ↔ k ∈ b := by
  rw [str_of hx, StrLaws.found_one, hy]; exact decide_eq_true_iff
end
end Mine
namespace Mine
section
variable {c : Cx} {I : Heap} {μ : List Addr} {st : St} {s : Shared} {E' : Value → Shared → Prop} {Q' : Value → Shared → Prop} {va vb : V} {a b : Value} {R : Bool → Prop}
theorem nats_of {R : Nat → Nat → Prop} (h : withNat va fun i => withNat vb fun j => R i j) (ra : VR I μ va a) (rb : VR I μ vb b) : ∃ (i j : Nat) (t u : Tok), a = .int i t ∧ b = .int j u ∧ R i j := by
  obtain ⟨i, e1, h1⟩ := withNat_inv h
  obtain ⟨j, e2, h2⟩ := withNat_inv h1
  rw [e1] at ra; rw [e2] at rb
  obtain ⟨t, e3⟩ := ra.intI; obtain ⟨u, e4⟩ := rb.intI
  exact ⟨i, j, t, u, e3, e4, h2⟩
theorem strs_of {x y : List Nat} (ra : VR I μ (.str x) a) (rb : VR I μ (.str y) b) : ∃ x' t y' u, a = .str x' t ∧ b = .str y' u ∧ ((x' == y') = true ↔ eqS x y) := by
  obtain ⟨x', t, e1, ha, _⟩ := ra.strI; obtain ⟨y', u, e2, hb, _⟩ := rb.strI
  exact ⟨x', t, y', u, e1, e2, (beq_of ha hb).trans eqS_iff.symm⟩
theorem cmp_eq' (G : Good c) (inv : Inv c I μ st s.heap) (ra : VR I μ va a) (rb : VR I μ vb b) (t : cEq st.σ va vb R) (q : ∀ b, R b → Q' (.bool b) s) : wpAny (model c.prog c.w) c.A (compareOp .Eq a b) Q' E' s := by
  unfold cEq at t
  split at t
  · obtain ⟨i, j, _, _, rfl, rfl, h⟩ := nats_of t ra rb
    exact eq_int (q _ (sp_at h (beq_iff_eq.trans Int.ofNat_inj)))
  · obtain ⟨y, e, t'⟩ := withStr_inv t
    rw [e] at rb
    obtain ⟨x', _, y', _, rfl, rfl, h⟩ := strs_of ra rb
    exact eq_str (q _ (sp_at t' h))
  · exact cmp_eq G inv ra rb t q
theorem cmp_ne' (G : Good c) (inv : Inv c I μ st s.heap) (ra : VR I μ va a) (rb : VR I μ vb b) (t : cEq st.σ va vb fun b => R (!b)) (q : ∀ b, R b → Q' (.bool b) s) : wpAny (model c.prog c.w) c.A (compareOp .NotEq a b) Q' E' s := by
  unfold cEq at t
  split at t
  · obtain ⟨i, j, _, _, rfl, rfl, h⟩ := nats_of t ra rb
    exact ne_int (q _ (sp_at (Q := fun b => R (!b)) h (beq_iff_eq.trans Int.ofNat_inj)))
  · obtain ⟨y, e, t'⟩ := withStr_inv t
    rw [e] at rb
    obtain ⟨x', _, y', _, rfl, rfl, h⟩ := strs_of ra rb
    exact ne_str (q _ (sp_at (Q := fun b => R (!b)) t' h))
  · exact cmp_ne G inv ra rb t q
theorem cmp_le' (ra : VR I μ va a) (rb : VR I μ vb b) (t : cLes va vb R) (q : ∀ b, R b → Q' (.bool b) s) : wpAny (model c.prog c.w) c.A (compareOp .LtE a b) Q' E' s := by
  unfold cLes at t
  split at t
  · obtain ⟨y, e, t'⟩ := withStr_inv t
    rw [e] at rb
    obtain ⟨_, _, rfl, ha, _⟩ := ra.strI; obtain ⟨_, _, rfl, hb, _⟩ := rb.strI
    exact P.le_str (q _ (sp_at t' (by rw [ha, hb]; simp)))
  · obtain ⟨i, j, _, _, rfl, rfl, h⟩ := nats_of t ra rb
    exact le_int (q _ (sp_at h (decide_eq_true_iff.trans Int.ofNat_le)))
theorem cmp_in' (G : Good c) (inv : Inv c I μ st s.heap) (ra : VR I μ va a) (rb : VR I μ vb b) (t : cIn va vb R) (q : ∀ b, R b → Q' (.bool b) s) : wpAny (model c.prog c.w) c.A (compareOp .In a b) Q' E' s := by
  unfold cIn at t
  split at t
  · split at t
    · obtain ⟨_, _, rfl, ha, _⟩ := ra.strI; obtain ⟨_, _, rfl, hb, _⟩ := rb.strI
      exact in_str (q _ (sp_at t (found_at ha hb)))
    · exact t.elim
  · exact cmp_inT G inv ra rb t q
  · exact cmp_inL G inv ra rb t q
  · exact t.elim
theorem cmp_nin' (ra : VR I μ va a) (rb : VR I μ vb b) (t : cNin va vb R) (q : ∀ b, R b → Q' (.bool b) s) : wpAny (model c.prog c.w) c.A (compareOp .NotIn a b) Q' E' s := by
  obtain ⟨y, e, t'⟩ := withStr_inv t
  rw [e] at rb
  split at t'
  · obtain ⟨_, _, rfl, ha, _⟩ := ra.strI; obtain ⟨_, _, rfl, hb, _⟩ := rb.strI
    exact notIn_str (q _ (sp_at (Q := fun b => R (!b)) t' (found_at ha hb)))
  · exact t'.elim
theorem cmp_ok {op : CmpOp} (G : Good c) (t : opCmp st.σ op va vb R) (inv : Inv c I μ st s.heap) (ra : VR I μ va a) (rb : VR I μ vb b) (q : ∀ b, R b → Q' (.bool b) s) :
    wpAny (model c.prog c.w) c.A (compareOp op a b) Q' E' s := by
  cases op with
  | Lt =>
    obtain ⟨i, j, _, _, rfl, rfl, h⟩ := nats_of t ra rb
    exact lt_int (q _ (sp_at h (decide_eq_true_iff.trans Int.ofNat_lt)))
  | LtE => exact cmp_le' ra rb t q
  | Gt =>
    obtain ⟨i, j, _, _, rfl, rfl, h⟩ := nats_of t rb ra
    exact gt_int (q _ (sp_at h (decide_eq_true_iff.trans Int.ofNat_lt)))
  | GtE =>
    obtain ⟨i, j, _, _, rfl, rfl, h⟩ := nats_of t rb ra
    exact ge_int (q _ (sp_at h (decide_eq_true_iff.trans Int.ofNat_le)))
  | Eq => exact cmp_eq' G inv ra rb t q
  | NotEq => exact cmp_ne' G inv ra rb t q
  | In => exact cmp_in' G inv ra rb t q
  | NotIn => exact cmp_nin' ra rb t q
  | _ => exact t.elim
end
noncomputable def truth (v : V) (Q : Bool → Prop) : Prop := match v with
  | .bool b => Q b
  | _ => False
theorem truth_inv {v : V} {Q : Bool → Prop} (h : truth v Q) : ∃ b, v = .bool b ∧ Q b := by
  unfold truth at h
  split at h
  · exact ⟨_, rfl, h⟩
  · exact h.elim
noncomputable def bIf (c : Bool) (A B : Prop) : Prop := match c with
  | true => A
  | false => B
section
variable {sc : Scope} {rm : Nat} {pos : Pos}
theorem same_heap {c : Cx} {I : Heap} {μ : List Addr} {s : Shared} {α β : Type} {R : Heap → List Addr → α → β → Prop} {Q : α → St → Prop} {Q' : β → Shared → Prop} (q : OkQ c I μ s R Q Q') {v : α} {val : β} {st : St} (t : Q v st) (i : Inv c I μ st s.heap) (r : R I μ v val) : Q' val s :=
  q v val st I μ s.heap s.toks t i (fun _ _ e => e) (List.prefix_refl _) r
theorem same_heapT {c : Cx} {I : Heap} {μ : List Addr} {s : Shared} {α β : Type} {R : Heap → List Addr → α → β → Prop} {Q : α → St → Prop} {Q' : β → Shared → Prop} (q : OkQ c I μ s R Q Q') {v : α} {val : β} {st : St} (tk : Nat) (t : Q v st) (i : Inv c I μ st s.heap) (r : R I μ v val) : Q' val { s with toks := tk } :=
  q v val st I μ s.heap tk t i (fun _ _ e => e) (List.prefix_refl _) r
theorem ev_cmp {l r : PySem.Expr} {op : CmpOp} {T₁ T₂ : Tr V} (h₁ : Ev sc rm l T₁) (h₂ : Ev sc rm r T₂) (hm : behindInMarks op r = false) :
    Ev sc rm (.Compare l [op] [r] pos) (fun Q X st => T₁ (fun va st₁ => T₂ (fun vb st₂ => opCmp st₂.σ op va vb (fun b => Q (.bool b) st₂)) X st₁) X st) := by
  intro c G hs Q X st I μ s Q' E' z t inv q x
  refine wpAny_Compare1 (h₁.use G hs z t inv ?_ x) hm
  intro va a st₁ I₁ μ₁ h₁' tk₁ t₁ inv₁ k₁ p₁ r₁ z₁
  refine h₂.use G hs (st := st₁) z₁ t₁ inv₁ ?_ (x.up k₁ p₁)
  intro vb b st₂ I₂ μ₂ h₂' tk₂ t₂ inv₂ k₂ p₂ r₂ z₂
  exact cmp_ok G t₂ inv₂ (r₁.up k₂ p₂) r₂ fun b hb => same_heap ((q.up k₁ p₁).up k₂ p₂) hb inv₂ (.bool b)
theorem tst_cmp {l r : PySem.Expr} {op : CmpOp} {T₁ T₂ : Tr V} (h₁ : Ev sc rm l T₁) (h₂ : Ev sc rm r T₂) (hm : behindInMarks op r = false) :
    Tst sc rm (.Compare l [op] [r] pos) (fun Q X st => T₁ (fun va st₁ => T₂ (fun vb st₂ => opCmp st₂.σ op va vb (fun b => Q b st₂)) X st₁) X st) := by
  intro c G hs Q X st I μ s Q' E' z t inv q x
  refine wpAny_isTrue_Compare1 (h₁.use G hs z t inv ?_ x) hm
  intro va a st₁ I₁ μ₁ h₁' tk₁ t₁ inv₁ k₁ p₁ r₁ z₁
  refine h₂.use G hs (st := st₁) z₁ t₁ inv₁ ?_ (x.up k₁ p₁)
  intro vb b st₂ I₂ μ₂ h₂' tk₂ t₂ inv₂ k₂ p₂ r₂ z₂
  exact cmp_ok G t₂ inv₂ (r₁.up k₂ p₂) r₂ fun b hb => wpAny_truthy_bool (same_heap ((q.up k₁ p₁).up k₂ p₂) hb inv₂ rfl)
theorem ev_chain2 {l r₁ r₂ : PySem.Expr} {op₁ op₂ : CmpOp} {T₀ T₁ T₂ : Tr V} (h₀ : Ev sc rm l T₀) (h₁ : Ev sc rm r₁ T₁) (h₂ : Ev sc rm r₂ T₂) (hm : lastMarks [op₁, op₂] [r₁, r₂] = false) :
    Ev sc rm (.Compare l [op₁, op₂] [r₁, r₂] pos) (fun Q X st => T₀ (fun va st₁ => T₁ (fun vb st₂ => opCmp st₂.σ op₁ va vb (fun b =>
      bIf b (T₂ (fun vc st₃ => opCmp st₃.σ op₂ vb vc (fun b' => Q (.bool b') st₃)) X st₂) (Q (.bool false) st₂))) X st₁) X st) := by
  intro c G hs Q X st I μ s Q' E' z t inv q x
  refine Compare_chain (h₀.use G hs z t inv ?_ x) hm
  intro va a st₁ I₁ μ₁ h₁' tk₁ t₁ inv₁ k₁ p₁ r₁ z₁
  refine chain_link ?_
  refine h₁.use G hs (st := st₁) z₁ t₁ inv₁ ?_ (x.up k₁ p₁)
  intro vb b st₂ I₂ μ₂ h₂' tk₂ t₂ inv₂ k₂ p₂ r₂ z₂
  refine cmp_ok G t₂ inv₂ (r₁.up k₂ p₂) r₂ fun d hd => ?_
  refine wpAny_truthy_bool ?_
  cases d with
  | false => rw [if_neg Bool.false_ne_true]; exact same_heap ((q.up k₁ p₁).up k₂ p₂) hd inv₂ (.bool _)
  | true =>
    rw [if_pos rfl]
    refine chain_last ?_
    refine h₂.use G hs (st := st₂) z₂ hd inv₂ ?_ ((x.up k₁ p₁).up k₂ p₂)
    intro vc e st₃ I₃ μ₃ h₃' tk₃ t₃ inv₃ k₃ p₃ r₃ z₃
    exact cmp_ok G t₃ inv₃ (r₂.up k₃ p₃) r₃ fun b hb => same_heap (((q.up k₁ p₁).up k₂ p₂).up k₃ p₃) hb inv₃ (.bool b)
theorem tst_chain2 {l r₁ r₂ : PySem.Expr} {op₁ op₂ : CmpOp} {T₀ T₁ T₂ : Tr V} (h₀ : Ev sc rm l T₀) (h₁ : Ev sc rm r₁ T₁) (h₂ : Ev sc rm r₂ T₂) (hm : lastMarks [op₁, op₂] [r₁, r₂] = false) :
    Tst sc rm (.Compare l [op₁, op₂] [r₁, r₂] pos) (fun Q X st => T₀ (fun va st₁ => T₁ (fun vb st₂ => opCmp st₂.σ op₁ va vb (fun b =>
      bIf b (T₂ (fun vc st₃ => opCmp st₃.σ op₂ vb vc (fun b' => Q b' st₃)) X st₂) (Q false st₂))) X st₁) X st) := by
  intro c G hs Q X st I μ s Q' E' z t inv q x
  refine isTrue_chain (h₀.use G hs z t inv ?_ x) hm
  intro va a st₁ I₁ μ₁ h₁' tk₁ t₁ inv₁ k₁ p₁ r₁ z₁
  refine test_link ?_
  refine h₁.use G hs (st := st₁) z₁ t₁ inv₁ ?_ (x.up k₁ p₁)
  intro vb b st₂ I₂ μ₂ h₂' tk₂ t₂ inv₂ k₂ p₂ r₂ z₂
  refine cmp_ok G t₂ inv₂ (r₁.up k₂ p₂) r₂ fun d hd => ?_
  refine wpAny_truthy_bool ?_
  cases d with
  | false => rw [if_neg Bool.false_ne_true]; exact same_heap ((q.up k₁ p₁).up k₂ p₂) hd inv₂ rfl
  | true =>
    rw [if_pos rfl]
    refine test_last ?_
    refine h₂.use G hs (st := st₂) z₂ hd inv₂ ?_ ((x.up k₁ p₁).up k₂ p₂)
    intro vc e st₃ I₃ μ₃ h₃' tk₃ t₃ inv₃ k₃ p₃ r₃ z₃
    exact cmp_ok G t₃ inv₃ (r₂.up k₃ p₃) r₃ fun b hb => wpAny_truthy_bool (same_heap (((q.up k₁ p₁).up k₂ p₂).up k₃ p₃) hb inv₃ rfl)
/-- a test whose whole is its value -/
theorem tst_plain {e : PySem.Expr} {T : Tr V} (h : Ev sc rm e T) (hp : ∀ env, isTrue e env (eval e env) = (do let v ← eval e env; standAt e.pos; holding [v] (truthy v))) :
    Tst sc rm e (fun Q X st => T (fun v st₁ => truth v (fun b => Q b st₁)) X st) := by
  intro c G hs Q X st I μ s Q' E' z t inv q x
  refine isTrue_plain (h.use G hs z t inv ?_ x) (hp _)
  intro va a st₁ I₁ μ₁ h₁' tk₁ t₁ inv₁ k₁ p₁ r₁ z₁
  obtain ⟨b, rfl, tt⟩ := truth_inv t₁
  obtain rfl := r₁.boolI
  exact wpAny_truthy_bool (same_heap (q.up k₁ p₁) tt inv₁ rfl)
theorem tst_not {e : PySem.Expr} {T : Tr Bool} (h : Tst sc rm e T) : Tst sc rm (.UnaryOp .Not e pos) (fun Q X st => T (fun b st₁ => Q (!b) st₁) X st) := by
  intro c G hs Q X st I μ s Q' E' z t inv q x
  refine isTrue_not (h.use G hs z t inv ?_ x)
  intro va a st₁ I₁ μ₁ h₁' tk₁ t₁ inv₁ k₁ p₁ r₁ z₁
  obtain rfl : va = a := r₁
  exact same_heap (q.up k₁ p₁) t₁ inv₁ rfl
/-- the tests of an «and», an «or» -/
noncomputable def TstL (sc : Scope) (rm : Nat) (op : BoolOp) (es : List PySem.Expr) (T : Tr Bool) : Prop :=
  ∀ (pos : Pos) (whole : Env → Sem Value), Sd sc rm Rb (fun env => isTrue (.BoolOp op es pos) env (whole env)) T
theorem tsts_and_nil : TstL sc rm .And [] (fun Q _ st => Q true st) := fun _ _ _ _ _ _ _ _ _ _ s _ _ _ t i q _ => isTrue_and_nil (same_heap q t i rfl)
theorem tsts_or_nil : TstL sc rm .Or [] (fun Q _ st => Q false st) := fun _ _ _ _ _ _ _ _ _ _ s _ _ _ t i q _ => isTrue_or_nil (same_heap q t i rfl)
theorem tsts_and {e : PySem.Expr} {es : List PySem.Expr} {T₁ T₂ : Tr Bool} (h₁ : Tst sc rm e T₁) (h₂ : TstL sc rm .And es T₂) :
    TstL sc rm .And (e :: es) (fun Q X st => T₁ (fun b st₁ => bIf b (T₂ Q X st₁) (Q false st₁)) X st) := by
  intro pos whole c G hs Q X st I μ s Q' E' z t inv q x
  refine isTrue_and (h₁.use G hs z t inv ?_ x)
  intro va a st₁ I₁ μ₁ h₁' tk₁ t₁ inv₁ k₁ p₁ r₁ z₁
  obtain rfl : va = a := r₁
  cases va with
  | false => rw [if_neg Bool.false_ne_true]; exact same_heap (q.up k₁ p₁) t₁ inv₁ rfl
  | true => rw [if_pos rfl]; exact h₂ pos whole c G hs _ X st₁ I₁ μ₁ _ _ E' z₁ t₁ inv₁ (q.up k₁ p₁) (x.up k₁ p₁)
theorem tsts_or {e : PySem.Expr} {es : List PySem.Expr} {T₁ T₂ : Tr Bool} (h₁ : Tst sc rm e T₁) (h₂ : TstL sc rm .Or es T₂) :
    TstL sc rm .Or (e :: es) (fun Q X st => T₁ (fun b st₁ => bIf b (Q true st₁) (T₂ Q X st₁)) X st) := by
  intro pos whole c G hs Q X st I μ s Q' E' z t inv q x
  refine isTrue_or (h₁.use G hs z t inv ?_ x)
  intro va a st₁ I₁ μ₁ h₁' tk₁ t₁ inv₁ k₁ p₁ r₁ z₁
  obtain rfl : va = a := r₁
  cases va with
  | true => rw [if_pos rfl]; exact same_heap (q.up k₁ p₁) t₁ inv₁ rfl
  | false => rw [if_neg Bool.false_ne_true]; exact h₂ pos whole c G hs _ X st₁ I₁ μ₁ _ _ E' z₁ t₁ inv₁ (q.up k₁ p₁) (x.up k₁ p₁)
theorem tst_bool {op : BoolOp} {es : List PySem.Expr} {T : Tr Bool} (h : TstL sc rm op es T) : Tst sc rm (.BoolOp op es pos) T := h pos _
/-- an «and», an «or» as a value -/
noncomputable def EvL (sc : Scope) (rm : Nat) (op : BoolOp) (es : List PySem.Expr) (T : Tr V) : Prop := ∀ pos, Ev sc rm (.BoolOp op es pos) T
theorem evl_one {op : BoolOp} {e : PySem.Expr} {T : Tr V} (h : Ev sc rm e T) : EvL sc rm op [e] T := fun _ c G hs Q X st I μ s Q' E' z t inv q x => BoolOp_one (h c G hs Q X st I μ s Q' E' z t inv q x)
theorem evl_and {e₁ e₂ : PySem.Expr} {es : List PySem.Expr} {T₁ T₂ : Tr V} (h₁ : Ev sc rm e₁ T₁) (h₂ : EvL sc rm .And (e₂ :: es) T₂) :
    EvL sc rm .And (e₁ :: e₂ :: es) (fun Q X st => T₁ (fun v st₁ => truth v fun b => bIf b (T₂ Q X st₁) (Q (.bool false) st₁)) X st) := by
  intro pos c G hs Q X st I μ s Q' E' z t inv q x
  refine BoolOp_and (h₁.use G hs z t inv ?_ x)
  intro va a st₁ I₁ μ₁ h₁' tk₁ t₁ inv₁ k₁ p₁ r₁ z₁
  obtain ⟨b, rfl, tt⟩ := truth_inv t₁
  obtain rfl := r₁.boolI
  refine wpAny_truthy_bool ?_
  cases b with
  | false => rw [if_neg Bool.false_ne_true]; exact same_heap (q.up k₁ p₁) tt inv₁ (.bool _)
  | true => rw [if_pos rfl]; exact h₂ pos c G hs _ X st₁ I₁ μ₁ _ _ E' z₁ tt inv₁ (q.up k₁ p₁) (x.up k₁ p₁)
theorem evl_or {e₁ e₂ : PySem.Expr} {es : List PySem.Expr} {T₁ T₂ : Tr V} (h₁ : Ev sc rm e₁ T₁) (h₂ : EvL sc rm .Or (e₂ :: es) T₂) :
    EvL sc rm .Or (e₁ :: e₂ :: es) (fun Q X st => T₁ (fun v st₁ => truth v fun b => bIf b (Q (.bool true) st₁) (T₂ Q X st₁)) X st) := by
  intro pos c G hs Q X st I μ s Q' E' z t inv q x
  refine BoolOp_or (h₁.use G hs z t inv ?_ x)
  intro va a st₁ I₁ μ₁ h₁' tk₁ t₁ inv₁ k₁ p₁ r₁ z₁
  obtain ⟨b, rfl, tt⟩ := truth_inv t₁
  obtain rfl := r₁.boolI
  refine wpAny_truthy_bool ?_
  cases b with
  | true => rw [if_pos rfl]; exact same_heap (q.up k₁ p₁) tt inv₁ (.bool _)
  | false => rw [if_neg Bool.false_ne_true]; exact h₂ pos c G hs _ X st₁ I₁ μ₁ _ _ E' z₁ tt inv₁ (q.up k₁ p₁) (x.up k₁ p₁)
theorem ev_boolop {op : BoolOp} {es : List PySem.Expr} {T : Tr V} (h : EvL sc rm op es T) : Ev sc rm (.BoolOp op es pos) T := h pos
theorem ev_not {e : PySem.Expr} {T : Tr V} (h : Ev sc rm e T) : Ev sc rm (.UnaryOp .Not e pos) (fun Q X st => T (fun v st₁ => truth v fun b => Q (.bool (!b)) st₁) X st) := by
  intro c G hs Q X st I μ s Q' E' z t inv q x
  refine UnaryOp_ (h.use G hs z t inv ?_ x)
  intro va a st₁ I₁ μ₁ h₁' tk₁ t₁ inv₁ k₁ p₁ r₁ z₁
  obtain ⟨b, rfl, tt⟩ := truth_inv t₁
  obtain rfl := r₁.boolI
  exact not_of (wpAny_truthy_bool (same_heap (q.up k₁ p₁) tt inv₁ (.bool _)))
theorem ev_ife {t a b : PySem.Expr} {T₀ : Tr Bool} {T₁ T₂ : Tr V} (h₀ : Tst sc rm t T₀) (h₁ : Ev sc rm a T₁) (h₂ : Ev sc rm b T₂) :
    Ev sc rm (.IfExp t a b pos) (fun Q X st => T₀ (fun c st₁ => bIf c (T₁ Q X st₁) (T₂ Q X st₁)) X st) := by
  intro c G hs Q X st I μ s Q' E' z t inv q x
  refine IfExp_ (h₀.use G hs z t inv ?_ x)
  intro va a st₁ I₁ μ₁ h₁' tk₁ t₁ inv₁ k₁ p₁ r₁ z₁
  obtain rfl : va = a := r₁
  cases va with
  | true => rw [if_pos rfl]; exact h₁ c G hs _ X st₁ I₁ μ₁ _ _ E' z₁ t₁ inv₁ (q.up k₁ p₁) (x.up k₁ p₁)
  | false => rw [if_neg Bool.false_ne_true]; exact h₂ c G hs _ X st₁ I₁ μ₁ _ _ E' z₁ t₁ inv₁ (q.up k₁ p₁) (x.up k₁ p₁)
/-- arguments, items -/
theorem evs_nil : Evs sc rm pos [] (fun Q _ st => Q [] st) := fun _ _ _ _ _ _ _ _ s _ _ _ t i q _ => wpAny_items_nil (same_heap q t i .nil)
theorem evs_cons {e : PySem.Expr} {es : List PySem.Expr} {T₁ : Tr V} {T₂ : Tr (List V)} (h₁ : Ev sc rm e T₁) (h₂ : Evs sc rm pos es T₂) (hp : ∀ env, starEach (e :: es) env = (false, eval e env) :: starEach es env) :
    Evs sc rm pos (e :: es) (fun Q X st => T₁ (fun v st₁ => T₂ (fun vs st₂ => Q (v :: vs) st₂) X st₁) X st) := by
  intro c G hs Q X st I μ s Q' E' z t inv q x
  refine wpAny_items_cons (h₁.use G hs z t inv ?_ x) (hp _)
  intro va a st₁ I₁ μ₁ h₁' tk₁ t₁ inv₁ k₁ p₁ r₁ z₁
  refine h₂.use G hs (st := st₁) z₁ t₁ inv₁ ?_ (x.up k₁ p₁)
  intro vb b st₂ I₂ μ₂ h₂' tk₂ t₂ inv₂ k₂ p₂ r₂ z₂
  exact same_heap ((q.up k₁ p₁).up k₂ p₂) t₂ inv₂ (.cons (r₁.up k₂ p₂) r₂)
end
end Mine
namespace Mine
theorem InvR.moved {c : Cx} {I : Heap} {μ : List Addr} {st : St} {h h' : Heap} {D : List Addr} (G : Good c) (i : InvR UpS c I μ st h) (nohd : c.hd = none) (nop : st.σ.pend = none)
    (hk : ∀ b o, h.get? b = some o → b ∉ D → b ∉ c.fp :: c.avoid → h'.get? b = some o) (hs : ∀ b o, h.get? b = some o → b ∉ D → ∃ sl, h'.get? b = some { o with slots := sl })
    (hD : ∀ b ∈ D, c.h₀.get? b = none ∧ ∃ o vs, h.get? b = some o ∧ o.data = .fields vs) : InvR UpS c I μ st h' := by
  have nD : ∀ b o, h.get? b = some o → (∀ vs, o.data ≠ .fields vs) → b ∉ D := fun b o e nf hb => by
    obtain ⟨_, o', vs, e', d⟩ := hD b hb
    rw [e] at e'; cases e'; exact nf _ d
  have fr : ∀ b ∈ c.fp :: c.avoid, ∃ o es n, h.get? b = some o ∧ o.data = .dict es n := fun b hb => by
    rcases List.mem_cons.mp hb with rfl | hb
    · obtain ⟨_, o, es, n, a, d⟩ := i.frame; exact ⟨o, es, n, a, d⟩
    · obtain ⟨_, _, o, es, n, _, a, _, d⟩ := i.avoid b hb; exact ⟨o, es, n, a, d⟩
  refine ⟨?_, ⟨i.led.1, i.led.2.1, fun k a l e1 e2 => ?_⟩, fun b o e => ?_, i.own, i.nof, fun a ha => ⟨(i.avoid a ha).1, ?_⟩, fun a ha => ⟨(i.shy a ha).1, ?_⟩, ⟨i.frame.1, ?_⟩, i.cells, fun e x q => (by rw [nop] at q; cases q), fun v q => (by rw [nohd] at q; cases q)⟩
  · obtain ⟨m, F, L⟩ := i.fr
    refine ⟨m, ⟨Heap.UpToSlots.ns (h := h) (fun b o e nf => hs b o e (nD b o e nf)) F.ns, fun b o e => hk b o (F.keep b o e) (fun hb => ?_) (fun hb => ?_), F.off⟩, L⟩
    · rw [(hD b hb).1] at e; cases e
    · rw [G.hid b hb] at e; cases e
  · obtain ⟨vs, n, q1, q2⟩ := i.led.2.2 k a l e1 e2
    refine ⟨vs, n, hk _ _ q1 (nD _ _ q1 fun vs q => by cases q) fun hb => ?_, q2⟩
    obtain ⟨o, es, n, a, d⟩ := fr a hb
    rw [q1] at a; cases a; cases d
  · refine hk b o (i.stays b o e) (nD _ _ (i.stays b o e) (i.nof b o e)) fun hb => ?_
    rcases List.mem_cons.mp hb with rfl | hb
    · rw [i.frame.1] at e; cases e
    · rw [(i.avoid b hb).1] at e; cases e
  · obtain ⟨_, o, o', es, n, a, b, ⟨sl, r⟩, d⟩ := i.avoid a ha
    obtain ⟨sl', q⟩ := hs _ _ b (nD _ _ b fun vs q => by rw [d] at q; cases q)
    exact ⟨o, _, es, n, a, q, ⟨sl', by rw [r]⟩, d⟩
  · obtain ⟨_, o, e, d⟩ := i.shy a ha
    obtain ⟨sl', q⟩ := hs _ _ e (nD _ _ e d)
    exact ⟨_, q, d⟩
  · obtain ⟨_, o, es, n, a, d⟩ := i.frame
    obtain ⟨sl', q⟩ := hs _ _ a (nD _ _ a fun vs q => by rw [d] at q; cases q)
    exact ⟨_, es, n, q, d⟩
theorem funFrames_of {h base : Heap} : ∀ {l : List Env}, (∀ env ∈ l, env.scope.kind ≠ .module ∧ ∃ L o, env.frame = some L ∧ base.get? L = none ∧ h.get? L = some o ∧ ∀ vs, o.data ≠ .fields vs) → h.FunFrames base l
  | [], _ => trivial
  | env :: r, H => ⟨(H env (.head _)).1, (H env (.head _)).2, funFrames_of fun e he => H e (.tail _ he)⟩
section
variable {c : Cx} {I : Heap} {μ : List Addr} {st : St} {s : Shared} {e : Addr} {E : Value → Shared → Prop} {Q : Unit → Shared → Prop}
theorem A_frames (G : Good c) : c.A.frames = some (c.fenv :: c.outer) := by
  show c.A₀.frames.map (c.fenv :: ·) = _
  rw [G.stack]; rfl
theorem entry_ok {d : Addr} {vs : Array Value} {sl : Array (Option Value)} {head : Value} {hadNext : Bool} (G : Good c) (inv : InvR UpS c I μ st s.heap) (nohd : c.hd = none) (nop : st.σ.pend = none)
    (he0 : c.h₀.get? e = none) (he : s.heap.get? e = some ⟨.ref 81, some d, .fields vs, sl⟩) (hsz : 1 < vs.size)
    (h : ∀ h' T oT ts, InvR UpS c I μ st h' → h'.get? e = some ⟨.ref 81, some d, .fields (vs.setIfInBounds 1 (.ref T)), sl⟩ → T ≠ e → c.h₀.get? T = none → h'.get? T = some oT → oT.data = .fields ts → ts[3]? = some (rawInt c.fp) → Q () { s with heap := h' }) :
    wpAny (model c.prog c.w) c.A (do let a ← frameOf c.env; let pl ← entryPlaceOf c.fp hadNext; let b ← EntryCells.newEntry head a .none (rawInt c.fp) .none pl; setField (.ref e) 1 b) Q E s := by
  have fr : ∀ b ∈ c.fp :: c.avoid, ∃ o es n, s.heap.get? b = some o ∧ o.data = .dict es n := fun b hb => by
    rcases List.mem_cons.mp hb with rfl | hb
    · obtain ⟨_, o, es, n, a, d⟩ := inv.frame; exact ⟨o, es, n, a, d⟩
    · obtain ⟨_, _, o, es, n, _, a, _, d⟩ := inv.avoid b hb; exact ⟨o, es, n, a, d⟩
  have ff : s.heap.FunFrames c.h₀ (c.fenv :: c.outer) := funFrames_of fun env hm => by
    have key : ∀ L ∈ c.fp :: c.avoid, c.h₀.get? L = none ∧ ∃ o, s.heap.get? L = some o ∧ ∀ vs, o.data ≠ .fields vs := fun L hL => by
      obtain ⟨o, es, n, a, d⟩ := fr L hL
      exact ⟨G.hid L hL, o, a, fun vs q => by rw [d] at q; cases q⟩
    rcases List.mem_cons.mp hm with rfl | hm
    · obtain ⟨a, o, b⟩ := key c.fp (.head _)
      exact ⟨by show c.fscope.kind ≠ _; rw [G.ffn]; decide, c.fp, o, rfl, a, b⟩
    · obtain ⟨k, L, f, m⟩ := G.frames env hm
      obtain ⟨a, o, b⟩ := key L (.tail _ m)
      exact ⟨k, L, o, f, a, b⟩
  have sub : ∀ b, b ∉ c.fp :: c.avoid → b ∉ (c.fenv :: c.outer).filterMap (·.frame) := fun b hb hm => by
    rw [List.mem_filterMap] at hm
    obtain ⟨env, hm, q⟩ := hm
    rcases List.mem_cons.mp hm with rfl | hm
    · exact hb (by cases q; exact .head _)
    · obtain ⟨_, L, f, m⟩ := G.frames env hm
      rw [f] at q; cases q; exact hb (.tail _ m)
  have hne : e ∉ c.fp :: c.avoid := fun hm => by
    obtain ⟨o, es, n, a, d⟩ := fr e hm
    rw [he] at a; cases a; cases d
  refine wpAny_bind (wpAny_frameOf_fun (env := c.fenv) (A_frames G) ff rfl fun h₁ hs₁ => ?_)
  refine wpAny_bind (wpAny_entryPlaceOf fun pl hpl => ?_)
  unfold EntryCells.newEntry newFields
  refine wpAny_bind (wpAny_newObj_type ?_ (hpl.sizeOk5 _ _ _ _ _))
  have he₁ : h₁.get? e = some ⟨.ref 81, some d, .fields vs, sl⟩ := (hs₁.2.1 e (sub e hne)).trans he
  have he₂ := Heap.get?_push_of_some (h := h₁) { cls := .type "traceback", dict := none, data := .fields ([head, .ref c.fp, .none, rawInt c.fp, .none] ++ (if pl.isEmpty then List.replicate 6 Value.none else pl)).toArray } he₁
  have hTe : h₁.objs.size ≠ e := Nat.ne_of_gt (Heap.lt_size he₁)
  refine wpAny_setField he₂ rfl hsz ?_
  have hd₃ := Obj.data_mapFields (o := ⟨.ref 81, some d, .fields vs, sl⟩) rfl (·.setIfInBounds 1 (Value.ref h₁.objs.size))
  have he₃ := Heap.get?_update_self (Obj.mapFields (·.setIfInBounds 1 (Value.ref h₁.objs.size))) he₂ (Obj.isFreed_of_fields hd₃)
  have hT₃ := (Heap.get?_update_other (h₁.push { cls := .type "traceback", dict := none, data := .fields ([head, .ref c.fp, .none, rawInt c.fp, .none] ++ (if pl.isEmpty then List.replicate 6 Value.none else pl)).toArray })
    (Obj.mapFields (·.setIfInBounds 1 (Value.ref h₁.objs.size))) (Ne.symm hTe)).trans (Heap.get?_push_size h₁ rfl)
  have low : c.h₀.get? h₁.objs.size = none := by
    cases q : c.h₀.get? h₁.objs.size with
    | none => rfl
    | some o =>
      obtain ⟨m, F, _⟩ := inv.fr
      have := F.keep _ _ q
      obtain ⟨sl, w⟩ := hs₁.2.2 _ _ this
      exact absurd (Heap.lt_size w) (Nat.lt_irrefl _)
  refine h _ h₁.objs.size _ _ ?_ ?_ hTe low hT₃ rfl ?_
  · refine InvR.moved (D := [e]) G inv nohd nop (fun b o q n1 n2 => ?_) (fun b o q n1 => ?_) (fun b hb => ?_)
    · rw [Heap.get?_update_other _ _ fun w => n1 (by rw [w]; exact .head _)]
      exact Heap.get?_push_of_some _ ((hs₁.2.1 b (sub b n2)).trans q)
    · obtain ⟨sl, w⟩ := hs₁.2.2 b o q
      refine ⟨sl, ?_⟩
      rw [Heap.get?_update_other _ _ fun w => n1 (by rw [w]; exact .head _)]
      exact Heap.get?_push_of_some _ w
    · rw [List.mem_singleton.mp hb]; exact ⟨he0, _, vs, he, rfl⟩
  · exact he₃
  · rcases hpl with rfl | ⟨_, _, _, _, _, _, _, rfl⟩ <;> simp
theorem note_ok {x : Exc} (G : Good c) (f : ExF c I μ st x e s.heap) (h : ∀ h', ExF c I μ st x e h' → ExcObj c.h₀ I e x h' (fun fl => fl = some (rawInt c.fp)) → Q () { s with heap := h' }) :
    wpAny (model c.prog c.w) c.A (noteFrame (.ref e) c.env) Q E s := by
  obtain ⟨inv, nohd, nop, he0, d, vs, sl, es, n, xs, h1, h2, h3, h4, h5, h6⟩ := f
  have fin : ∀ h' T oT ts, InvR UpS c I μ st h' → h'.get? e = some ⟨.ref 81, some d, .fields (vs.setIfInBounds 1 (.ref T)), sl⟩ → 1 < vs.size → T ≠ e → c.h₀.get? T = none → h'.get? T = some oT → oT.data = .fields ts → ts[3]? = some (rawInt c.fp) → Q () { s with heap := h' } :=
    fun h' T oT ts i a sz b q r t u => by
      have X : ∀ P : Option Value → Prop, P (some (rawInt c.fp)) → ExcObj c.h₀ I e x h' P := fun P hP => ⟨he0, d, _, sl, es, n, xs, a, by rw [Array.getElem?_setIfInBounds_ne (by decide)]; exact h2, h3, h4, h5, .inr ⟨T, oT, ts, _, by simp [sz], b, q, r, t, u, hP⟩⟩
      exact h h' ⟨i, nohd, nop, X _ (.inr (.inr rfl))⟩ (X _ rfl)
  unfold noteFrame
  dsimp only [Cx.env]
  rcases h6 with ⟨a, _⟩ | ⟨T, oT, ts, fl, a, b, q, t, u, v, w⟩
  · refine wpAny_bind (wpAny_field h1 rfl a ?_)
    rw [if_neg (by decide)]
    have sz := (Array.getElem?_eq_some_iff.mp a).1
    exact entry_ok G inv nohd nop he0 h1 sz fun h' T oT ts i1 i2 i3 i4 i5 i6 i7 => fin h' T oT ts i1 i2 sz i3 i4 i5 i6 i7
  · have sz := (Array.getElem?_eq_some_iff.mp a).1
    refine wpAny_bind (wpAny_field h1 rfl a ?_)
    rw [if_pos (show (Value.ref T != Value.none) = true from by simp)]
    refine wpAny_bind (wpAny_field t u v ?_)
    by_cases hfl : fl = rawInt c.fp
    · subst hfl
      rw [if_pos (show (rawInt c.fp == rawInt c.fp) = true from by simp)]
      have X : ∀ P : Option Value → Prop, P (some (rawInt c.fp)) → ExcObj c.h₀ I e x s.heap P := fun P hP => ⟨he0, d, vs, sl, es, n, xs, h1, h2, h3, h4, h5, .inr ⟨T, oT, ts, _, a, b, q, t, u, v, hP⟩⟩
      exact wpAny_pure (h s.heap ⟨inv, nohd, nop, X _ (.inr (.inr rfl))⟩ (X _ rfl))
    · rw [if_neg (by simpa using hfl)]
      refine wpAny_bind (wpAny_setField t u (Array.getElem?_eq_some_iff.mp v).1 ?_)
      have other : ∀ b, b ≠ T → (s.heap.update T (Obj.mapFields (·.setIfInBounds 3 Value.none))).get? b = s.heap.get? b := fun b hb => Heap.get?_update_other _ _ (Ne.symm hb)
      refine entry_ok (s := { s with heap := _ }) G (InvR.moved (D := [T]) G inv nohd nop (fun b o q n1 n2 => (other b fun w => n1 (by rw [w]; exact .head _)).trans q) (fun b o q n1 => ⟨o.slots, (other b fun w => n1 (by rw [w]; exact .head _)).trans q⟩) (fun b hb => ?_)) nohd nop he0 ((other e (Ne.symm b)).trans h1) sz
        fun h' T oT ts i1 i2 i3 i4 i5 i6 i7 => fin h' T oT ts i1 i2 sz i3 i4 i5 i6 i7
      rw [List.mem_singleton.mp hb]; exact ⟨q, _, ts, t, u⟩
/-- the trace's mark of the frame it flies in -/
theorem flight_ok {A : Around} {x : Exc} {fr : Option Addr} {P : Option Value → Prop} (G : Good c) (inv : InvR UpS c I μ st s.heap) (nohd : c.hd = none) (nop : st.σ.pend = none) (f : ExcObj c.h₀ I e x s.heap P)
    (h : ∀ h', InvR UpS c I μ st h' → ExcObj c.h₀ I e x h' (fun fl => fl = none ∧ P none ∨ fl = some (fr.elim .none fun f => rawInt f)) → Q () { s with heap := h' }) :
    wpAny (model c.prog c.w) A (setFlight (.ref e) fr) Q E s := by
  obtain ⟨he0, d, vs, sl, es, n, xs, h1, h2, h3, h4, h5, h6⟩ := f
  unfold setFlight
  rcases h6 with ⟨a, p⟩ | ⟨T, oT, ts, fl, a, b, q, t, u, v, w⟩
  · refine wpAny_bind (wpAny_field h1 rfl a ?_)
    rw [if_neg (by decide)]
    exact wpAny_pure (h s.heap inv ⟨he0, d, vs, sl, es, n, xs, h1, h2, h3, h4, h5, .inl ⟨a, .inl ⟨rfl, p⟩⟩⟩)
  · refine wpAny_bind (wpAny_field h1 rfl a ?_)
    rw [if_pos (show (Value.ref T != Value.none) = true from by simp)]
    have sz := (Array.getElem?_eq_some_iff.mp v).1
    refine wpAny_setField t u sz ?_
    have other : ∀ b, b ≠ T → (s.heap.update T (Obj.mapFields (·.setIfInBounds 3 (fr.elim Value.none fun f => rawInt f)))).get? b = s.heap.get? b := fun b hb => Heap.get?_update_other _ _ (Ne.symm hb)
    refine h _ (InvR.moved (D := [T]) G inv nohd nop (fun b o q n1 n2 => (other b fun w => n1 (by rw [w]; exact .head _)).trans q) (fun b o q n1 => ⟨o.slots, (other b fun w => n1 (by rw [w]; exact .head _)).trans q⟩) (fun b hb => ?_)) ?_
    · rw [List.mem_singleton.mp hb]; exact ⟨q, _, ts, t, u⟩
    · have hd₃ := Obj.data_mapFields u (·.setIfInBounds 3 (fr.elim Value.none fun f => rawInt f))
      exact ⟨he0, d, vs, sl, es, n, xs, (other e (Ne.symm b)).trans h1, h2, h3, h4, h5, .inr ⟨T, _, _, _, a, b, q, Heap.get?_update_self _ t (Obj.isFreed_of_fields hd₃), hd₃, by simp [sz], .inr rfl⟩⟩
end
theorem exq_loop {c : Cx} {I : Heap} {μ : List Addr} {s : Shared} {X : Exc → St → Prop} {E' : Value → Shared → Prop} (G : Good c) (h : ExQ c I μ s X E') :
    ExQ c I μ s X (notedBy (model c.prog c.w) c.A c.env (cameBackBy (model c.prog c.w) c.A c.env E')) := by
  intro x e st' I' μ' h' tk hx f k p
  refine note_ok (s := { s with heap := h', toks := tk }) G f fun h₁ f₁ t₁ => ?_
  obtain ⟨he0, d, vs, sl, es, n, xs, h1, h2, h3, h4, h5, h6⟩ := id t₁
  rcases h6 with ⟨_, b⟩ | ⟨T, oT, ts, fl, a, _⟩
  · cases b
  refine wpAny_bind (wpAny_field h1 rfl a ?_)
  rw [if_neg (by simp)]
  refine flight_ok (s := { s with heap := h₁, toks := tk }) G f₁.inv f₁.nohd f₁.nop t₁ fun h₂ i₂ t₂ => ?_
  exact h x e st' I' μ' h₂ tk hx ⟨i₂, f₁.nohd, f₁.nop, t₂.keeps (fun _ _ _ a _ => a) fun fl q => by
    rcases q with ⟨_, q⟩ | q
    · cases q
    · exact .inr (.inr q)⟩ k p
theorem Inv.relocal {c : Cx} {I : Heap} {μ : List Addr} {st : St} {h h' : Heap} {m : Str → Option Value} {vars : List (Option V)} (hav : c.L ∉ c.avoid) (inv : Inv c I μ st h) (hn : h'.Ns c.L m) (hs : Heap.SameBut c.L h h') (hloc : LocRel c.scope I μ vars m) :
    Inv c I μ { st with vars := vars } h' :=
  let ⟨_, F, _⟩ := inv.fr
  have hL : ∀ vs b o, b = c.L → h.get? b = some o → o.data ≠ .fields vs := fun vs b o w a q => by
    obtain ⟨oL, es, ep, e, d, _⟩ := F.ns
    rw [w, e] at a; cases a; rw [d] at q; cases q
  { fr := ⟨m, F.set hn hs, hloc⟩
    led := ⟨inv.led.1, inv.led.2.1, fun k a l e1 e2 => let ⟨vs, n, q1, q2, q3, q4⟩ := inv.led.2.2 k a l e1 e2; ⟨vs, n, (hs.2 a q3).trans q1, q2, q3, q4⟩⟩
    stays := fun b o e => (hs.2 b fun q => by rw [q, inv.own] at e; cases e).trans (inv.stays b o e)
    own := inv.own
    nof := inv.nof
    avoid := fun a ha => ⟨(inv.avoid a ha).1, by
      obtain ⟨o, o', es, n, e1, e2, r, d⟩ := (inv.avoid a ha).2
      exact ⟨o, o', es, n, e1, (hs.2 a fun q => hav (q ▸ ha)).trans e2, r, d⟩⟩
    shy := fun a ha => ⟨(inv.shy a ha).1, by
      obtain ⟨_, o, e, d⟩ := inv.shy a ha
      by_cases q : a = c.L
      · obtain ⟨oL, es, n, hL, hd, _⟩ := hn
        exact ⟨oL, q ▸ hL, fun vs w => by rw [hd] at w; cases w⟩
      · exact ⟨o, (hs.2 _ q).trans e, d⟩⟩
    frame := ⟨inv.frame.1, by
      obtain ⟨x, es, n, e, d⟩ := inv.frame.2
      by_cases q : c.fp = c.L
      · obtain ⟨oL, es, n, hL, hd, _⟩ := hn
        exact ⟨oL, es, n, q ▸ hL, hd⟩
      · exact ⟨x, es, n, (hs.2 _ q).trans e, d⟩⟩
    cells := inv.cells
    pend := fun e x q => (inv.pend e x q).keeps (fun b o vs a d => (hs.2 b fun w => hL vs b o w a d).trans a) fun _ a => a
    hdl := fun v q => let ⟨e, o, vs, a, b, d, r⟩ := inv.hdl v q; ⟨e, o, vs, a, (hs.2 e fun w => hL vs e o w b d).trans b, d, r⟩ }
theorem Inv.store {c : Cx} {I : Heap} {μ : List Addr} {st : St} {h h' : Heap} {m : Str → Option Value} {x : Str} {i : Nat} {v : V} {val : Value} (hi : idxIn c.scope.names x = some i)
    (hav : c.L ∉ c.avoid) (F : Fm c.h₀ c.L h m) (L : LocRel c.scope I μ st.vars m) (inv : Inv c I μ st h) (r : VR I μ v val) (hn : h'.Ns c.L (fun y => if y = x then some val else m y)) (hs : Heap.SameBut c.L h h') :
    Inv c I μ { st with vars := st.vars.set i (some v) } h' :=
  inv.relocal hav hn hs fun y j u hj hu => by
    rw [List.getElem?_set] at hu
    by_cases e : y = x
    · subst e
      obtain rfl : j = i := Option.some.inj (hj.symm.trans hi)
      rw [if_pos rfl] at hu
      split at hu
      · cases hu; exact ⟨val, if_pos rfl, r⟩
      · cases hu
    · rw [if_neg (fun q : i = j => e (idxIn_inj hj (q ▸ hi)))] at hu
      obtain ⟨w, h1, h2⟩ := L y j u hj hu
      exact ⟨w, (if_neg e).trans h1, h2⟩
theorem store_ok {c : Cx} (G : Good c) {I : Heap} {μ : List Addr} {st : St} {s : Shared} {x : Str} {i : Nat} {v : V} {val : Value} {E' : Value → Shared → Prop} {Q' : Unit → Shared → Prop} (hi : idxIn c.scope.names x = some i) (hl : c.scope.names.lookup x = some .local)
    (inv : Inv c I μ st s.heap) (r : VR I μ v val) (q : ∀ h' tk, Inv c I μ { st with vars := st.vars.set i (some v) } h' → Q' () { s with heap := h', toks := tk }) :
    wpAny (model c.prog c.w) c.A (storeName c.env x val) Q' E' s := by
  obtain ⟨m, F, L⟩ := inv.fr
  exact wpAny_storeName_local hl F.ns (fun h' hn hs => q h' _ (Inv.store hi G.lav F L inv r hn hs))
    (by show (c.scope.kind == .class || (c.scope.kind == .module && c.L != mainGlobals)) = false; rw [G.fn]; rfl)
section
variable {sc : Scope} {rm : Nat} {pos : Pos}
theorem exs_nil : Exs sc rm [] (fun Q _ st => Q .next st) := fun _ _ _ _ _ _ _ _ s _ _ _ t i q _ => wpAny_execs_nil (same_heap q t i .next)
theorem exs_cons {a : Stmt} {l : List Stmt} {T₁ T₂ : Tr Fl} (h₁ : Ex sc rm a T₁) (h₂ : Exs sc rm l T₂) :
    Exs sc rm (a :: l) (fun Q X st => T₁ (fun f st₁ => match f with | .next => T₂ Q X st₁ | f => Q f st₁) X st) := by
  intro c G hs Q X st I μ s Q' E' z t inv q x
  refine wpAny_execs_cons (h₁.use G hs z t inv ?_ x)
  intro va a st₁ I₁ μ₁ h₁' tk₁ t₁ inv₁ k₁ p₁ r₁ z₁
  cases r₁ with
  | next => exact h₂ c G hs _ X st₁ I₁ μ₁ _ _ E' z₁ t₁ inv₁ (q.up k₁ p₁) (x.up k₁ p₁)
  | brk => exact same_heap (q.up k₁ p₁) t₁ inv₁ .brk
  | cont => exact same_heap (q.up k₁ p₁) t₁ inv₁ .cont
  | ret r => exact same_heap (q.up k₁ p₁) t₁ inv₁ (.ret r)
theorem ex_ret {e : PySem.Expr} {T : Tr V} (h : Ev sc rm e T) : Ex sc rm (.Return (some e) pos) (fun Q X st => T (fun v st₁ => Q (.ret v) st₁) X st) := by
  intro c G hs Q X st I μ s Q' E' z t inv q x
  refine wpAny_Return_some (h.use G hs z t inv ?_ x)
  intro va a st₁ I₁ μ₁ h₁' tk₁ t₁ inv₁ k₁ p₁ r₁ z₁
  exact same_heap (q.up k₁ p₁) t₁ inv₁ (.ret r₁)
theorem ex_ret0 : Ex sc rm (.Return none pos) (fun Q X st => Q (.ret .none) st) := by
  intro c G hs Q X st I μ s Q' E' z t inv q x
  exact wpAny_Return_none (same_heap q t inv (.ret .none))
theorem ex_cont : Ex sc rm (.Continue pos) (fun Q X st => Q .cont st) := by
  intro c G hs Q X st I μ s Q' E' z t inv q x
  exact wpAny_Continue (same_heap q t inv .cont)
theorem ex_assign {x : Str} {i : Nat} {np : Pos} {e : PySem.Expr} {T : Tr V} (h : Ev sc rm e T) (hi : idxIn sc.names x = some i) (hl : sc.names.lookup x = some .local) (hsw : ∀ env, swapsWith e (some (.Name x np)) pos.line env = pure false) :
    Ex sc rm (.Assign [.Name x np] e pos) (fun Q X st => T (fun v st₁ => Q .next { st₁ with vars := st₁.vars.set i (some v) }) X st) := by
  intro c G hs Q X st I μ s Q' E' z t inv q x
  obtain ⟨rfl, hrm⟩ := hs
  refine wpAny_Assign_Name (h.use G ⟨rfl, hrm⟩ z t inv ?_ x) (hsw _)
  intro va a st₁ I₁ μ₁ h₁' tk₁ t₁ inv₁ k₁ p₁ r₁ z₁
  exact store_ok G hi hl inv₁ r₁ fun h' tk inv' => (q.up (h₁ := h₁') (t₁ := tk₁) k₁ p₁) _ _ _ _ _ h' tk t₁ inv' (fun _ _ e => e) (List.prefix_refl _) .next
theorem ex_if {e : PySem.Expr} {a b : List Stmt} {T₀ : Tr Bool} {T₁ T₂ : Tr Fl} (h₀ : Tst sc rm e T₀) (h₁ : Exs sc rm a T₁) (h₂ : Exs sc rm b T₂) :
    Ex sc rm (.If e a b pos) (fun Q X st => T₀ (fun c st₁ => bIf c (T₁ Q X st₁) (T₂ Q X st₁)) X st) := by
  intro c G hs Q X st I μ s Q' E' z t inv q x
  refine wpAny_If (h₀.use G hs z t inv ?_ x)
  intro va a st₁ I₁ μ₁ h₁' tk₁ t₁ inv₁ k₁ p₁ r₁ z₁
  obtain rfl : va = a := r₁
  cases va with
  | true => rw [if_pos rfl]; exact h₁ c G hs _ X st₁ I₁ μ₁ _ _ E' z₁ t₁ inv₁ (q.up k₁ p₁) (x.up k₁ p₁)
  | false => rw [if_neg Bool.false_ne_true]; exact h₂ c G hs _ X st₁ I₁ μ₁ _ _ E' z₁ t₁ inv₁ (q.up k₁ p₁) (x.up k₁ p₁)
theorem ex_while {e : PySem.Expr} {b : List Stmt} {T₀ : Tr Bool} {T₁ : Tr Fl} (h₀ : Tst sc rm e T₀) (h₁ : Exs sc rm b T₁) :
    Ex sc rm (.While e b [] pos) (fun Q X st => ∃ (P : Nat → St → Prop) (n : Nat), P n st ∧ ∀ n st, P n st →
      T₀ (fun c st₁ => bIf c (T₁ (fun f st₂ => match f with | .next => ∃ k, k < n ∧ P k st₂ | .cont => ∃ k, k < n ∧ P k st₂ | .brk => Q .next st₂ | .ret v => Q (.ret v) st₂) X st₁) (Q .next st₁)) X st) := by
  intro c G hs Q X st I μ s Q' E' z t inv q x
  obtain ⟨P, n, p0, turn⟩ := t
  refine wpAny_While (codeAny_whileLoop (fun n s' => ∃ st' I' μ' h' tk, P n st' ∧ Inv c I' μ' st' h' ∧ I.StaysIn I' ∧ μ <+: μ' ∧ 0 < tk ∧ s' = { s with heap := h', toks := tk }) ?_ n ⟨st, I, μ, s.heap, s.toks, p0, inv, fun _ _ e => e, List.prefix_refl _, z, rfl⟩)
  rintro n _ ⟨st₀, I₀, μ₀, h', tk, p0, inv₀, k₀, q₀, z₀, rfl⟩
  have x' := exq_loop G (x.up (h₁ := h') (t₁ := tk) k₀ q₀)
  have q' := q.up (h₁ := h') (t₁ := tk) k₀ q₀
  refine h₀.use G hs (st := st₀) z₀ (turn n st₀ p0) inv₀ ?_ x'
  intro va a st₁ I₁ μ₁ h₁' tk₁ t₁ inv₁ k₁ p₁ r₁ z₁
  obtain rfl : va = a := r₁
  cases va with
  | false => rw [if_neg Bool.false_ne_true]; exact wpAny_execs_nil (same_heap (q'.up k₁ p₁) t₁ inv₁ .next)
  | true =>
    rw [if_pos rfl]
    refine h₁.use G hs (st := st₁) z₁ t₁ inv₁ ?_ (x'.up k₁ p₁)
    intro vb b st₂ I₂ μ₂ h₂' tk₂ t₂ inv₂ k₂ p₂ r₂ z₂
    cases r₂ with
    | next => obtain ⟨k, hk, pk⟩ := t₂; exact ⟨k, hk, st₂, I₂, μ₂, h₂', tk₂, pk, inv₂, stays_trans k₀ (stays_trans k₁ k₂), q₀.trans (p₁.trans p₂), z₂, rfl⟩
    | cont => obtain ⟨k, hk, pk⟩ := t₂; exact ⟨k, hk, st₂, I₂, μ₂, h₂', tk₂, pk, inv₂, stays_trans k₀ (stays_trans k₁ k₂), q₀.trans (p₁.trans p₂), z₂, rfl⟩
    | brk => exact same_heap ((q'.up k₁ p₁).up k₂ p₂) t₂ inv₂ .next
    | ret r => exact same_heap ((q'.up k₁ p₁).up k₂ p₂) t₂ inv₂ (.ret r)
end
end Mine
namespace Mine
/-! slices -/
theorem idx_nat (a b n : Nat) : Builtin.Str.strSliceIndices (some (a : Int)) (some (b : Int)) 1 n = sliceRange ((min a n : Nat) : Int) ((min b n : Nat) : Int) 1 := by
  have c : ∀ k : Nat, max (0 : Int) (min (k : Int) (n : Int)) = ((min k n : Nat) : Int) := fun k => by
    rcases Nat.le_total k n with h | h
    · rw [Nat.min_eq_left h, Int.min_eq_left (Int.ofNat_le.mpr h)]; exact Int.max_eq_right (Int.natCast_nonneg _)
    · rw [Nat.min_eq_right h, Int.min_eq_right (Int.ofNat_le.mpr h)]; exact Int.max_eq_right (Int.natCast_nonneg _)
  have d : ∀ k : Nat, ¬ ((k : Int) < 0) := fun k => Int.not_lt.mpr (Int.natCast_nonneg k)
  simp only [Builtin.Str.strSliceIndices, d, if_false, c, show ((1 : Int) > 0) = True from by simp, if_true]
theorem cut_min (l : List Nat) (a b : Nat) : (l.drop (min a l.length)).take (min b l.length - min a l.length) = (l.drop a).take (b - a) := by
  rcases Nat.le_total l.length a with h | h
  · rw [Nat.min_eq_right h, List.drop_length, List.drop_eq_nil_of_le h, List.take_nil, List.take_nil]
  · rw [Nat.min_eq_left h]
    rcases Nat.le_total b l.length with h1 | h1
    · rw [Nat.min_eq_left h1]
    · rw [Nat.min_eq_right h1, List.take_of_length_le (Nat.le_of_eq (List.length_drop ..)), List.take_of_length_le (by rw [List.length_drop]; exact Nat.sub_le_sub_right h1 a)]
theorem slice_nat (x : Str) (a b : Nat) : (Txt.slice x (some (a : Int)) (some (b : Int))).cps.toList = (x.cps.toList.drop a).take (b - a) := by
  show (StrLaws.sliceText x (some (a : Int)) (some (b : Int))).cps.toList = _
  have hlen : x.cps.toList.length = x.length := Array.length_toList
  have mm : ∀ k : Nat, min (min k x.length) x.length = min k x.length := fun k => by rw [Nat.min_assoc, Nat.min_self]
  have e : StrLaws.sliceText x (some (a : Int)) (some (b : Int)) = StrLaws.sliceText x (some ((min a x.length : Nat) : Int)) (some ((min b x.length : Nat) : Int)) := by
    unfold StrLaws.sliceText
    rw [idx_nat, idx_nat, mm, mm]
  rw [e, ← cut_min, hlen]
  by_cases h : min a x.length ≤ min b x.length
  · rw [StrLaws.sliceText_nat x h (Nat.min_le_right _ _)]
  · have h := Nat.lt_of_not_le h
    have e0 : sliceRange ((min a x.length : Nat) : Int) ((min b x.length : Nat) : Int) 1 = [] := by
      unfold sliceRange
      rw [if_pos (by decide), if_neg (fun q => Nat.lt_asymm h (Int.ofNat_lt.mp q))]; rfl
    have hx : 0 < x.length := Nat.lt_of_lt_of_le (Nat.zero_lt_of_lt h) (Nat.min_le_right _ _)
    unfold StrLaws.sliceText
    rw [idx_nat, mm, mm, e0, if_neg (by simp; exact Nat.ne_of_lt hx), Nat.sub_eq_zero_of_le (Nat.le_of_lt h)]; simp
theorem slice_from (x : Str) (a : Nat) : (Txt.slice x (some (a : Int)) none).cps.toList = x.cps.toList.drop a := by
  have e : Txt.slice x (some (a : Int)) none = Txt.slice x (some (a : Int)) (some (x.length : Int)) := by
    show StrLaws.sliceText _ _ _ = StrLaws.sliceText _ _ _
    unfold StrLaws.sliceText
    rw [StrLaws.sliceIdx_none_hi]
  rw [e, slice_nat, List.take_of_length_le]
  rw [List.length_drop, Array.length_toList]; exact Nat.le_refl _
theorem slice_to (x : Str) (b : Nat) : (Txt.slice x none (some (b : Int))).cps.toList = x.cps.toList.take b := by
  have e : Txt.slice x none (some (b : Int)) = Txt.slice x (some ((0 : Nat) : Int)) (some (b : Int)) := by
    show StrLaws.sliceText _ _ _ = StrLaws.sliceText _ _ _
    unfold StrLaws.sliceText
    rw [StrLaws.sliceIdx_none_lo]; rfl
  rw [e, slice_nat]; simp
theorem okS_sub {l r : List Nat} (h : okS l) (hs : ∀ c ∈ r, c ∈ l) (hl : r.length ≤ l.length) : okS r := ⟨fun c hc => h.1 c (hs c hc), Nat.le_trans hl h.2⟩
theorem okS_cut {l : List Nat} (h : okS l) (a b : Nat) : okS ((l.drop a).take b) :=
  okS_sub h (fun c hc => List.mem_of_mem_drop (List.mem_of_mem_take hc)) (by rw [List.length_take, List.length_drop]; omega)
noncomputable def itI (i : Int) (n : Nat) (Q : Nat → Prop) : Prop := match i with
  | .ofNat k => k < n ∧ Q k
  | .negSucc k => k < n ∧ Q (n - (k + 1))
theorem itI_last {n : Nat} {Q : Nat → Prop} : itI (-1) n Q = (0 < n ∧ Q (n - 1)) := rfl
noncomputable def opItem (σ : Led) (a b : V) (Q : V → Prop) : Prop := match b with
  | .int i => (match a with
    | .str l => itI i l.length fun j => Q (.str [l.getD j 0])
    | .tup l => l.length < 2 ^ 63 ∧ itI i l.length fun j => Q (l.getD j .none)
    | .list l => l.length < 2 ^ 63 ∧ itI i l.length fun j => Q (l.getD j .none)
    | .loc k => (σ.ls.getD k []).length < 2 ^ 63 ∧ itI i (σ.ls.getD k []).length fun j => Q ((σ.ls.getD k []).getD j .none)
    | _ => False)
  | _ => False
theorem seqIndex?_lt {i : Int} {n j : Nat} (h : seqIndex? i n = some j) : j < n ∧ (-(n : Int) ≤ i ∧ i < n) := by
  unfold seqIndex? at h
  dsimp only at h
  by_cases h0 : i < 0
  · simp only [h0, if_true] at h
    split at h
    · rename_i q
      simp only [Bool.and_eq_true, decide_eq_true_eq] at q
      have := Option.some.inj h
      omega
    · cases h
  · simp only [h0, if_false] at h
    split at h
    · rename_i q
      simp only [Bool.and_eq_true, decide_eq_true_eq] at q
      have := Option.some.inj h
      omega
    · cases h
theorem seqIndex?_nat {n : Nat} (k : Nat) (h : k < n) : seqIndex? (k : Int) n = some k := by
  have h1 : ¬ ((k : Int) < 0) := by omega
  simp only [seqIndex?, h1, if_false]
  rw [if_pos (by simp; omega)]
  simp
theorem seqIndex?_last {n : Nat} (h : 0 < n) : seqIndex? (-1) n = some (n - 1) := by
  unfold seqIndex?
  have h1 : ((-1 : Int) < 0) := by decide
  simp only [h1, if_true]
  rw [if_pos (by simp only [Bool.and_eq_true, decide_eq_true_eq]; omega)]
  congr 1; omega
theorem itI_at {i : Int} {n : Nat} {Q : Nat → Prop} (h : itI i n Q) : ∃ j, seqIndex? i n = some j ∧ j < n ∧ -(n : Int) ≤ i ∧ i < n ∧ Q j := by
  have key : ∀ j, seqIndex? i n = some j → Q j → ∃ j, seqIndex? i n = some j ∧ j < n ∧ -(n : Int) ≤ i ∧ i < n ∧ Q j := fun j e q => let ⟨a, b, d⟩ := seqIndex?_lt e; ⟨j, e, a, b, d, q⟩
  cases i with
  | ofNat k => exact key k (seqIndex?_nat k h.1) h.2
  | negSucc k =>
    refine key _ ?_ h.2
    have h1 := h.1
    unfold seqIndex?
    simp only [show (Int.negSucc k < 0) = True from eq_true (Int.negSucc_lt_zero k), if_true]
    rw [if_pos (by simp only [Bool.and_eq_true, decide_eq_true_eq]; omega)]
    congr 1; omega
theorem letTemp_str (v : PySem.Expr) (x : Str) (t : Tok) (r : Value) : letTemporaryGo v (.str x t) r = pure () := by cases v <;> rfl
theorem getItem_list_any {prog : Program} {w : World} {A : Around} {E : Value → Shared → Prop} {s : Shared} {l : Addr} {items : Array Value} {k : Int} {t : Tok} {j n : Nat} {x : Value} {Q : Value → Shared → Prop} (hl : s.heap.IsList l items) (hn : n = items.size) (hb : n < 2 ^ 63)
    (hj : seqIndex? k n = some j) (hx : items.toList[j]? = some x) (h : Q x s) : wpAny (model prog w) A (getItem (.ref l) (.int k t)) Q E s := by
  obtain ⟨hlt, hlo, hhi⟩ := seqIndex?_lt hj
  rw [Array.getElem?_toList] at hx
  subst hn
  cases k with
  | ofNat k =>
    obtain rfl : k = j := Option.some.inj ((seqIndex?_nat k (Int.ofNat_lt.mp hhi)).symm.trans hj)
    have hk : Int.ofNat k < 2 ^ 63 := by show (k : Int) < _; omega
    exact wpAny_getItem_list hl (Int.natCast_nonneg _) hk hx h
  | negSucc k =>
    have e : (Int.negSucc k + (items.size : Int)).toNat = j := by
      unfold seqIndex? at hj
      simp only [show (Int.negSucc k < 0) = True from eq_true (Int.negSucc_lt_zero k), if_true] at hj
      split at hj
      · exact Option.some.inj hj
      · cases hj
    have hk : Int.negSucc k < 0 := Int.negSucc_lt_zero k
    generalize Int.negSucc k = i at *
    exact wpAny_getItem_list_neg hl hk hlo (by omega) (by rw [e]; exact hx) h
theorem VRs.getD {I : Heap} {μ : List Addr} : ∀ {l : List V} {xs : List Value}, VRs I μ l xs → ∀ {j : Nat}, j < l.length → ∃ x, xs[j]? = some x ∧ VR I μ (l.getD j .none) x
  | [], _, _, _, h => absurd h (Nat.not_lt_zero _)
  | _ :: _, _, r, 0, _ => let ⟨x, _, e, a, _⟩ := r.consI; ⟨x, by rw [e]; rfl, a⟩
  | _ :: _, _, r, j + 1, h => let ⟨_, _, e, _, b⟩ := r.consI; let ⟨x, h1, h2⟩ := VRs.getD b (Nat.lt_of_succ_lt_succ h); ⟨x, by rw [e]; exact h1, h2⟩
theorem VRs.length {I : Heap} {μ : List Addr} : ∀ {l : List V} {xs : List Value}, VRs I μ l xs → l.length = xs.length
  | [], _, r => by rw [r.nilI]; rfl
  | _ :: _, _, r => let ⟨_, _, e, _, b⟩ := r.consI; by rw [e, List.length_cons, List.length_cons, VRs.length b]
theorem getD_at {α : Type} {l : List (List α)} {k : Nat} (h : k < l.length) : l[k]? = some (l.getD k []) := by
  rw [List.getD_eq_getElem?_getD, List.getElem?_eq_getElem h]; rfl
theorem item_str {prog : Program} {w : World} {A : Around} {E : Value → Shared → Prop} {s : Shared} {v i : PySem.Expr} {x : Str} {tx ti : Tok} {l : List Nat} {k : Int} {j : Nat} {Q : Value → Shared → Prop} (hx : x.cps.toList = l) (ok : okS l) (hj : seqIndex? k l.length = some j) (hlo : -(l.length : Int) ≤ k) (hhi : k < l.length)
    (hs : ∀ o k u, subscripted i false o (.int k u) = operate [o, .int k u] (getItem o (.int k u))) (h : ∀ y t tk, y.cps.toList = [l.getD j 0] → Q (.str y t) { s with toks := tk }) : wpAny (model prog w) A (subscriptTail v i (.str x tx) (.int k ti)) Q E s := by
  have hl := len_of hx
  refine tail_of_ItemOn (SBL.item (by rw [hl]; exact hlo) (by rw [hl]; exact hhi) (by rw [hl]; have := ok.2; omega) fun _ => ?_) (hs _ _ _) fun _ => letTemp_str _ _ _ _
  refine h _ _ _ ?_
  show [(Txt.charAt _ _).getD 0] = _
  unfold Txt.charAt
  rw [hl, hj, Option.bind_some, ← Array.getElem?_toList, hx, List.getD_eq_getElem?_getD]
theorem okS_one {l : List Nat} (ok : okS l) {j : Nat} (h : j < l.length) : okS [l.getD j 0] := by
  refine ⟨fun c hc => ?_, show 1 ≤ 65536 by decide⟩
  rw [List.mem_singleton.mp hc, List.getD_eq_getElem?_getD, List.getElem?_eq_getElem h]
  exact ok.1 _ (List.getElem_mem h)
section
variable {sc : Scope} {rm : Nat} {pos : Pos}
theorem ev_item {v i : PySem.Expr} {T₁ T₂ : Tr V} (h₁ : Ev sc rm v T₁) (h₂ : Ev sc rm i T₂) (hs : ∀ o k u, subscripted i false o (.int k u) = operate [o, .int k u] (getItem o (.int k u))) :
    Ev sc rm (.Subscript v i pos) (fun Q X st => T₁ (fun a st₁ => T₂ (fun b st₂ => opItem st₂.σ a b (fun v => Q v st₂)) X st₁) X st) := by
  intro c G hsc Q X st I μ s Q' E' z t inv q x
  refine Subscript_ (h₁.use G hsc z t inv ?_ x)
  intro va a st₁ I₁ μ₁ h₁' tk₁ t₁ inv₁ k₁ p₁ r₁ z₁
  refine h₂.use G hsc (st := st₁) z₁ t₁ inv₁ ?_ (x.up k₁ p₁)
  intro vb b st₂ I₂ μ₂ h₂' tk₂ t₂ inv₂ k₂ p₂ r₂ z₂
  have q₂ := (q.up (h₁ := h₁') (t₁ := tk₁) k₁ p₁).up (h₁ := h₂') (t₁ := tk₂) k₂ p₂
  unfold opItem at t₂
  split at t₂
  · obtain ⟨_, rfl⟩ := r₂.intI
    split at t₂
    · obtain ⟨_, _, rfl, hx, ok⟩ := r₁.strI
      obtain ⟨j, hj, hlt, hlo, hhi, t₃⟩ := itI_at t₂
      exact item_str (s := { s with heap := h₂', toks := tk₂ }) hx ok hj hlo hhi hs fun y t tk e => same_heapT q₂ _ t₃ inv₂ (.str _ e (okS_one ok hlt))
    · obtain ⟨_, _, _, _, rfl, a1, a2, a3, a4⟩ := r₁.tupI
      obtain ⟨j, hj, hlt, hlo, hhi, t₃⟩ := itI_at t₂.2
      obtain ⟨y, hy, ry⟩ := VRs.getD a4 hlt
      have hln := VRs.length a4
      have tl := t₂.1
      exact item_tupleT (l := _) ⟨_, stays_trans k₂ inv₂.stays _ _ a1, a2, _, a3⟩ (by omega) (by omega) (by rw [← hln]; exact hj) hy (same_heap q₂ t₃ inv₂ (ry.up k₂ p₂)) (hs _ _ _)
    · obtain ⟨_, _, _, rfl, a1, a4⟩ := r₁.listI
      obtain ⟨j, hj, hlt, hlo, hhi, t₃⟩ := itI_at t₂.2
      obtain ⟨y, hy, ry⟩ := VRs.getD a4 hlt
      have hL : Heap.IsList h₂' _ _ := ⟨_, stays_trans k₂ inv₂.stays _ _ a1, rfl, _, rfl⟩
      exact tail_any hL.typeIs slot_list_getitem.lookup (getItem_list_any hL ((VRs.length a4).trans Array.length_toList) t₂.1 hj hy (same_heap q₂ t₃ inv₂ (ry.up k₂ p₂))) (hs _ _ _)
    · obtain ⟨_, rfl, hk⟩ := r₁.locI
      obtain ⟨j, hj, hlt, hlo, hhi, t₃⟩ := itI_at t₂.2
      have hk' := pre_get p₂ hk
      have hlt' := (List.getElem?_eq_some_iff.mp hk').1
      rw [inv₂.led.1] at hlt'
      obtain ⟨vs, n, e1, e2, _⟩ := inv₂.led.2.2 _ _ _ hk' (getD_at hlt')
      obtain ⟨y, hy, ry⟩ := VRs.getD e2 hlt
      have hL : Heap.IsList h₂' _ vs := ⟨_, e1, rfl, n, rfl⟩
      exact tail_any hL.typeIs slot_list_getitem.lookup (getItem_list_any hL ((VRs.length e2).trans Array.length_toList) t₂.1 hj hy (same_heap q₂ t₃ inv₂ (ry.up (fun _ _ e => e) List.nil_prefix))) (hs _ _ _)
    · exact t₂.elim
  · exact t₂.elim
end
end Mine
namespace Mine
section
variable {sc : Scope} {rm : Nat} {pos : Pos}
theorem len63 {l : List Nat} (h : okS l) : l.length ≤ sizeLine := by rw [sizeLine_eq]; have := h.2; omega
/-! slices of texts -/
/-- a stretch of a text -/
noncomputable def cut (l : List Nat) (a b : Nat) : List Nat := (l.drop a).take (b - a)
noncomputable def slSS (x i j : V) (Q : V → Prop) : Prop := withStr x fun l => withNat i fun a => withNat j fun b => Q (.str (cut l a b))
noncomputable def slSN (x i : V) (Q : V → Prop) : Prop := withStr x fun l => withNat i fun a => Q (.str (l.drop a))
noncomputable def slNS (x j : V) (Q : V → Prop) : Prop := withStr x fun l => withNat j fun b => Q (.str (l.take b))
theorem OkQ.kept {c : Cx} {I : Heap} {μ : List Addr} {st : St} {s : Shared} {Q : V → St → Prop} {Q' : Value → Shared → Prop} {l m : List Nat} (q : OkQ c I μ s VR Q Q') (t : Q (.str m) st) (ok : okS l) (hs : ∀ c ∈ m, c ∈ l) (hl : m.length ≤ l.length) :
    ∀ h' (y : Str) tk k, y.cps.toList = m → Inv c I μ st h' → Q' (.str y tk) { s with heap := h', toks := k } :=
  fun h' y tk k e i => q _ _ _ _ _ h' k t i (fun _ _ e => e) (List.prefix_refl _) (.str _ e (okS_sub ok hs hl))
theorem ev_sliceSS {v a b : PySem.Expr} {p : Pos} {T₁ T₂ T₃ : Tr V} (h₁ : Ev sc rm v T₁) (h₂ : Ev sc rm a T₂) (h₃ : Ev sc rm b T₃)
    (hs : ∀ o r, subscripted (.Slice (some a) (some b) none p) false o (.ref r) = operate [.ref r, o] (getItem o (.ref r))) :
    Ev sc rm (.Subscript v (.Slice (some a) (some b) none p) pos) (fun Q X st => T₁ (fun x st₁ => T₂ (fun i st₂ => T₃ (fun j st₃ => slSS x i j fun v => Q v st₃) X st₂) X st₁) X st) := by
  intro c G hsc Q X st I μ s Q' E' z t inv q x
  refine Subscript_ (h₁.use G hsc z t inv ?_ x)
  intro va x₁ st₁ I₁ μ₁ h₁' tk₁ t₁ inv₁ k₁ p₁ r₁ z₁
  refine wpAny_Slice (evalPart_some_step (h₂.use G hsc (st := st₁) z₁ t₁ inv₁ ?_ (x.up k₁ p₁)))
  intro vi xi st₂ I₂ μ₂ h₂' tk₂ t₂ inv₂ k₂ p₂ r₂ z₂
  refine evalPart_some_step (h₃.use G hsc (st := st₂) z₂ t₂ inv₂ ?_ ((x.up k₁ p₁).up k₂ p₂))
  intro vj xj st₃ I₃ μ₃ h₃' tk₃ t₃ inv₃ k₃ p₃ r₃ z₃
  refine evalPart_none_step ?_
  have q₃ := ((q.up (h₁ := h₁') (t₁ := tk₁) k₁ p₁).up (h₁ := h₂') (t₁ := tk₂) k₂ p₂).up (h₁ := h₃') (t₁ := tk₃) k₃ p₃
  obtain ⟨l, e1, t₄⟩ := withStr_inv t₃
  obtain ⟨i, e2, t₅⟩ := withNat_inv t₄
  obtain ⟨j, e3, t₆⟩ := withNat_inv t₅
  rw [e1] at r₁; rw [e2] at r₂; rw [e3] at r₃
  obtain ⟨_, _, rfl, hx, ok⟩ := r₁.strI; obtain ⟨_, rfl⟩ := r₂.intI; obtain ⟨_, rfl⟩ := r₃.intI
  have fin := q₃.kept t₆ ok (fun c hc => List.mem_of_mem_drop (List.mem_of_mem_take hc)) (Nat.le_trans (List.length_take_le' _ _) (by rw [List.length_drop]; exact Nat.sub_le _ _))
  exact tail_of_ItemOn (SBH.sliceItem_ss (Inv.kept (c := c) (I := I₃) (μ := μ₃) (st := st₃)) inv₃ (fun h' t' k inv' => fin h' _ t' k (by rw [slice_nat, hx]; rfl) inv') (by rw [len_of hx]; exact len63 ok)) (hs _ _) fun _ => letTemp_str _ _ _ _
theorem ev_sliceSN {v a : PySem.Expr} {p : Pos} {T₁ T₂ : Tr V} (h₁ : Ev sc rm v T₁) (h₂ : Ev sc rm a T₂)
    (hs : ∀ o r, subscripted (.Slice (some a) none none p) false o (.ref r) = operate [.ref r, o] (getItem o (.ref r))) :
    Ev sc rm (.Subscript v (.Slice (some a) none none p) pos) (fun Q X st => T₁ (fun x st₁ => T₂ (fun i st₂ => slSN x i fun v => Q v st₂) X st₁) X st) := by
  intro c G hsc Q X st I μ s Q' E' z t inv q x
  refine Subscript_ (h₁.use G hsc z t inv ?_ x)
  intro va x₁ st₁ I₁ μ₁ h₁' tk₁ t₁ inv₁ k₁ p₁ r₁ z₁
  refine wpAny_Slice (evalPart_some_step (h₂.use G hsc (st := st₁) z₁ t₁ inv₁ ?_ (x.up k₁ p₁)))
  intro vi xi st₂ I₂ μ₂ h₂' tk₂ t₂ inv₂ k₂ p₂ r₂ z₂
  refine evalPart_none_step (evalPart_none_step ?_)
  have q₃ := (q.up (h₁ := h₁') (t₁ := tk₁) k₁ p₁).up (h₁ := h₂') (t₁ := tk₂) k₂ p₂
  obtain ⟨l, e1, t₄⟩ := withStr_inv t₂
  obtain ⟨i, e2, t₅⟩ := withNat_inv t₄
  rw [e1] at r₁; rw [e2] at r₂
  obtain ⟨_, _, rfl, hx, ok⟩ := r₁.strI; obtain ⟨_, rfl⟩ := r₂.intI
  have fin := q₃.kept t₅ ok (fun c hc => List.mem_of_mem_drop hc) (by rw [List.length_drop]; exact Nat.sub_le _ _)
  exact tail_of_ItemOn (SBH.sliceItem_sn (Inv.kept (c := c) (I := I₂) (μ := μ₂) (st := st₂)) inv₂ (fun h' t' k inv' => fin h' _ t' k (by rw [slice_from, hx]) inv') (by rw [len_of hx]; exact len63 ok)) (hs _ _) fun _ => letTemp_str _ _ _ _
theorem ev_sliceNS {v b : PySem.Expr} {p : Pos} {T₁ T₂ : Tr V} (h₁ : Ev sc rm v T₁) (h₂ : Ev sc rm b T₂)
    (hs : ∀ o r, subscripted (.Slice none (some b) none p) false o (.ref r) = operate [.ref r, o] (getItem o (.ref r))) :
    Ev sc rm (.Subscript v (.Slice none (some b) none p) pos) (fun Q X st => T₁ (fun x st₁ => T₂ (fun i st₂ => slNS x i fun v => Q v st₂) X st₁) X st) := by
  intro c G hsc Q X st I μ s Q' E' z t inv q x
  refine Subscript_ (h₁.use G hsc z t inv ?_ x)
  intro va x₁ st₁ I₁ μ₁ h₁' tk₁ t₁ inv₁ k₁ p₁ r₁ z₁
  refine wpAny_Slice (evalPart_none_step (evalPart_some_step (h₂.use G hsc (st := st₁) z₁ t₁ inv₁ ?_ (x.up k₁ p₁))))
  intro vi xi st₂ I₂ μ₂ h₂' tk₂ t₂ inv₂ k₂ p₂ r₂ z₂
  refine evalPart_none_step ?_
  have q₃ := (q.up (h₁ := h₁') (t₁ := tk₁) k₁ p₁).up (h₁ := h₂') (t₁ := tk₂) k₂ p₂
  obtain ⟨l, e1, t₄⟩ := withStr_inv t₂
  obtain ⟨i, e2, t₅⟩ := withNat_inv t₄
  rw [e1] at r₁; rw [e2] at r₂
  obtain ⟨_, _, rfl, hx, ok⟩ := r₁.strI; obtain ⟨_, rfl⟩ := r₂.intI
  have fin := q₃.kept t₅ ok (fun c hc => List.mem_of_mem_take hc) (List.length_take_le' _ _)
  exact tail_of_ItemOn (SBH.sliceItem_ns (Inv.kept (c := c) (I := I₂) (μ := μ₂) (st := st₂)) inv₂ (fun h' t' k inv' => fin h' _ t' k (by rw [slice_to, hx]) inv') (by rw [len_of hx]; exact len63 ok)) (hs _ _) fun _ => letTemp_str _ _ _ _
/-! calls of what the interpreter brings -/
noncomputable def BSound (rm : Nat) (f : Value) (o : Led → List V → (V → Prop) → Prop) : Prop :=
  ∀ (c : Cx), Good c → rm ≤ c.room → ∀ vs xs (Q : V → St → Prop) st I μ s Q' E', 0 < s.toks → o st.σ vs (fun v => Q v st) → Inv c I μ st s.heap → VRs I μ vs xs → OkQ c I μ s VR Q Q' → wpAny (model c.prog c.w) c.A (call f xs) Q' E' s
theorem ev_callB {fn e : PySem.Expr} {es : List PySem.Expr} {id : String} {T : Tr (List V)} {o : Led → List V → (V → Prop) → Prop} (hf : Ev sc rm fn (fun Q _ st => Q (.obj (.builtin id)) st)) (ha : Evs sc rm pos (e :: es) T) (hb : BSound rm (.builtin id) o)
    (h1 : ∀ env, starEach (e :: es) env = (false, eval e env) :: starEach es env) (h2 : ∀ env, (backTo pos (starEach es env)).any (·.1) = false) (h3 : ∀ env, eval (.Call fn (e :: es) [] pos) env = (do callWith pos (← eval fn env) [] (backTo pos (starEach (e :: es) env)) (backToKw pos (keywordEach [] env)))) :
    Ev sc rm (.Call fn (e :: es) [] pos) (fun Q X st => T (fun vs st₁ => o st₁.σ vs (fun v => Q v st₁)) X st) := by
  intro c G hsc Q X st I μ s Q' E' z t inv q x
  refine Call_ (hf.use G hsc (Q := fun v st' => v = .obj (.builtin id) ∧ st' = st) z ⟨rfl, rfl⟩ inv ?_ x) (h3 _)
  rintro _ f st₁ I₁ μ₁ h₁' tk₁ ⟨rfl, rfl⟩ inv₁ k₁ p₁ r₁ z₁
  cases r₁
  refine PyProof.Rows.callWith_builtin1 (ha.use G hsc (st := st₁) z₁ t inv₁ ?_ (x.up k₁ p₁)) (h1 _) (h2 _)
  intro vb b st₂ I₂ μ₂ h₂' tk₂ t₂ inv₂ k₂ p₂ r₂ z₂
  exact hb c G hsc.2 _ _ Q st₂ I₂ μ₂ _ Q' E' z₂ t₂ inv₂ r₂ ((q.up k₁ p₁).up k₂ p₂)
noncomputable def one (vs : List V) (P : V → Prop) : Prop := match vs with
  | [v] => P v
  | _ => False
noncomputable def two (vs : List V) (P : V → V → Prop) : Prop := match vs with
  | [v, w] => P v w
  | _ => False
theorem one_inv {I : Heap} {μ : List Addr} {vs : List V} {xs : List Value} {P : V → Prop} (h : one vs P) (r : VRs I μ vs xs) : ∃ v x, xs = [x] ∧ VR I μ v x ∧ P v := by
  unfold one at h; split at h
  · obtain ⟨x, e, a⟩ := r.oneI; exact ⟨_, x, e, a, h⟩
  · exact h.elim
theorem two_inv {I : Heap} {μ : List Addr} {vs : List V} {xs : List Value} {P : V → V → Prop} (h : two vs P) (r : VRs I μ vs xs) : ∃ v w x y, xs = [x, y] ∧ VR I μ v x ∧ VR I μ w y ∧ P v w := by
  unfold two at h; split at h
  · obtain ⟨x, y, e, a, b⟩ := r.twoI; exact ⟨_, _, x, y, e, a, b, h⟩
  · exact h.elim
noncomputable def oLen (σ : Led) (vs : List V) (Q : V → Prop) : Prop := one vs fun v => match v with
  | .str l => Q (.int (l.length : Int))
  | .loc k => (σ.ls.getD k []).length < 2 ^ 60 ∧ Q (.int ((σ.ls.getD k []).length : Int))
  | .list l => l.length < 2 ^ 60 ∧ Q (.int (l.length : Int))
  | _ => False
theorem len_list {prog : Program} {w : World} {A : Around} {E : Value → Shared → Prop} {s : Shared} {a : Addr} {vs : Array Value} {I : Heap} {μ : List Addr} {l : List V} {Q : Value → Shared → Prop} (hL : s.heap.IsList a vs) (r : VRs I μ l vs.toList) (hl : l.length < 2 ^ 60) (h : ∀ t tk, Q (.int (l.length : Int) t) { s with toks := tk }) : wpAny (model prog w) A (call (.builtin "len") [.ref a]) Q E s := by
  have hsz : vs.size = l.length := (VRs.length r).trans Array.length_toList |>.symm
  refine call_len_list hL (by rw [hsz]; omega) ?_
  rw [hsz]; exact h _ _
theorem b_len : BSound rm (.builtin "len") oLen := by
  intro c G hrm vs xs Q st I μ s Q' E' z t inv r q
  obtain ⟨v, x, rfl, r1, t1⟩ := one_inv t r
  split at t1
  · obtain ⟨_, _, rfl, hx, ok⟩ := r1.strI
    have hl := len_of hx
    have h2 := ok.2
    refine SBL.len (by rw [hl]; omega) (same_heapT q _ t1 inv ?_)
    rw [← hl]; exact .int _ _
  · obtain ⟨a, rfl, hk⟩ := r1.locI
    have hlt' := (List.getElem?_eq_some_iff.mp hk).1
    rw [inv.led.1] at hlt'
    obtain ⟨vs, n, e1, e2, _⟩ := inv.led.2.2 _ a _ hk (getD_at hlt')
    exact len_list ⟨_, e1, rfl, n, rfl⟩ e2 t1.1 fun _ _ => same_heapT q _ t1.2 inv (.int _ _)
  · obtain ⟨a, vs, n, rfl, a1, a4⟩ := r1.listI
    exact len_list ⟨_, inv.stays _ _ a1, rfl, n, rfl⟩ a4 t1.1 fun _ _ => same_heapT q _ t1.2 inv (.int _ _)
  · exact t1.elim
noncomputable def oOrd (_ : Led) (vs : List V) (Q : V → Prop) : Prop := one vs fun v => withStr v fun l => match l with
  | [k] => Q (.int (k : Int))
  | _ => False
theorem b_ord : BSound rm (.builtin "ord") oOrd := by
  intro c G hrm vs xs Q st I μ s Q' E' z t inv r q
  obtain ⟨v, x, rfl, r1, t1⟩ := one_inv t r
  obtain ⟨l, rfl, t2⟩ := withStr_inv t1
  split at t2
  · obtain ⟨_, _, rfl, hx, ok⟩ := r1.strI
    rw [str_of hx]
    exact P.ord_of_char (same_heapT q _ t2 inv (.int _ _))
  · exact t2.elim
noncomputable def oChr (_ : Led) (vs : List V) (Q : V → Prop) : Prop := one vs fun v => withNat v fun i => i < 128 ∧ Q (.str [i])
theorem b_chr : BSound rm (.builtin "chr") oChr := by
  intro c G hrm vs xs Q st I μ s Q' E' z t inv r q
  obtain ⟨v, x, rfl, r1, t1⟩ := one_inv t r
  obtain ⟨i, rfl, h1, t2⟩ := withNat_inv t1
  obtain ⟨_, rfl⟩ := r1.intI
  exact chr_of_range (Int.natCast_nonneg _) (by omega) (same_heapT q _ t2 inv (.str _ rfl ⟨fun c hc => by rw [List.mem_singleton.mp hc]; exact h1, show 1 ≤ 65536 by decide⟩))
noncomputable def oMin (_ : Led) (vs : List V) (Q : V → Prop) : Prop := two vs fun v w => withNat v fun a => withNat w fun b => Q (.int ((min a b : Nat) : Int))
noncomputable def oAbs (_ : Led) (vs : List V) (Q : V → Prop) : Prop := one vs fun v => match v with
  | .int a => Q (.int (a.natAbs : Int))
  | _ => False
theorem b_abs : BSound rm (.builtin "abs") oAbs := by
  intro c G hrm vs xs Q st I μ s Q' E' z t inv r q
  obtain ⟨v, x, rfl, r1, t1⟩ := one_inv t r
  split at t1
  · rename_i a
    obtain ⟨_, rfl⟩ := r1.intI
    refine call_abs_int fun u tk => same_heapT q _ t1 inv ?_
    rw [show (if a < 0 then -a else a) = ((a.natAbs : Nat) : Int) by split <;> omega]
    exact .int _ _
  · exact t1.elim
end
end Mine
namespace Mine
mutual
/-- no turned list within -/
noncomputable def nl : V → Bool
  | .none => true
  | .bool _ => true
  | .int _ => true
  | .str _ => true
  | .tup l => nls l
  | .list l => nls l
  | .inst _ _ l => nls l
  | .loc _ => false
  | .obj _ => true
noncomputable def nls : List V → Bool
  | [] => true
  | v :: r => nl v && nls r
end
theorem VR.any {I : Heap} {μ : List Addr} (μ' : List Addr) {v : V} {x : Value} (h : VR I μ v x) : nl v = true → VR I μ' v x :=
  @VR.rec I μ (fun v x _ => nl v = true → VR I μ' v x) (fun l xs _ => nls l = true → VRs I μ' l xs) (fun _ => .none) (fun b _ => .bool b) (fun i t _ => .int i t) (fun t h ok _ => .str t h ok) (fun a b c _ d e => .tup a b c (d e)) (fun a _ d e => .list a (d e)) (fun a b c _ g d e => .inst a b c (d e) g)
    (fun _ e => nomatch e) (fun v _ => .obj v) (fun _ => .nil) (fun {v x l xs} _ _ a b e => by rw [nls, Bool.and_eq_true] at e; exact .cons (a e.1) (b e.2)) v x h
theorem VRs.any {I : Heap} {μ : List Addr} (μ' : List Addr) : ∀ {l : List V} {xs : List Value}, VRs I μ l xs → nls l = true → VRs I μ' l xs
  | [], _, r, _ => by rw [r.nilI]; exact .nil
  | _ :: _, _, r, e => by
    obtain ⟨x, ys, e1, a, b⟩ := r.consI
    rw [nls, Bool.and_eq_true] at e
    rw [e1]; exact .cons (a.any μ' e.1) (VRs.any μ' b e.2)
theorem VR.instI {I : Heap} {μ : List Addr} {C : Addr} {ns : List Str} {vs : List V} {x : Value} (r : VR I μ (.inst C ns vs) x) : ∃ a d es n xs, x = .ref a ∧ I.get? a = some (instObj C d) ∧ I.get? d = some (dictOf es n) ∧ ns.map (fun p => getL p es) = xs.map (fun x => some (some x)) ∧ VRs I μ vs xs ∧ (∀ b, b ∉ ns → getL b es = some Option.none) := by
  cases r; exact ⟨_, _, _, _, _, rfl, by assumption, by assumption, by assumption, by assumption, by assumption⟩
section
variable {sc : Scope} {rm : Nat} {pos : Pos}
theorem ev_tuple {es : List PySem.Expr} {k : Nat} {T : Tr (List V)} (h : Evs sc rm pos es T) :
    Ev sc rm (.Tuple es k pos) (fun Q X st => T (fun vs st₁ => vs.length < 1000 ∧ Q (.tup vs) st₁) X st) := by
  intro c G hsc Q X st I μ s Q' E' z t inv q x
  refine Tuple_ (h.use G hsc z t inv ?_ x)
  intro vs xs st₁ I₁ μ₁ h₁' tk₁ t₁ inv₁ k₁ p₁ r₁ z₁
  obtain ⟨I₂, i2, k2, g2⟩ := inv₁.grow (o := { cls := .type "tuple", data := .seq xs.toArray }) rfl nofun
  refine wpAny_newObj_type ((q.up (h₁ := h₁') (t₁ := tk₁) k₁ p₁) _ _ _ I₂ μ₁ _ tk₁ t₁.2 i2 k2 (List.prefix_refl _) (.tup g2 rfl rfl (by simpa using r₁.up k2 (List.prefix_refl _)))) ?_
  show xs.toArray.size ≤ sizeLine
  rw [List.size_toArray, ← VRs.length r₁, sizeLine_eq]; have := t₁.1; omega
theorem ev_list {es : List PySem.Expr} {T : Tr (List V)} (h : Evs sc rm pos es T) :
    Ev sc rm (.List es pos) (fun Q X st => T (fun vs st₁ => vs.length < 1000 ∧ Q (.list vs) st₁) X st) := by
  intro c G hsc Q X st I μ s Q' E' z t inv q x
  refine List_ (h.use G hsc z t inv ?_ x)
  intro vs xs st₁ I₁ μ₁ h₁' tk₁ t₁ inv₁ k₁ p₁ r₁ z₁
  obtain ⟨I₂, i2, k2, g2⟩ := inv₁.grow (o := { cls := .type "list", data := .seq xs.toArray }) rfl nofun
  refine wpAny_newObj_type ((q.up (h₁ := h₁') (t₁ := tk₁) k₁ p₁) _ _ _ I₂ μ₁ _ tk₁ t₁.2 i2 k2 (List.prefix_refl _) (.list g2 (by simpa using r₁.up k2 (List.prefix_refl _)))) ?_
  show xs.toArray.size ≤ sizeLine
  rw [List.size_toArray, ← VRs.length r₁, sizeLine_eq]; have := t₁.1; omega
/-- a list that will be turned -/
theorem Inv.growL {c : Cx} {I : Heap} {μ : List Addr} {st : St} {h : Heap} (i : Inv c I μ st h) {l : List V} {xs : List Value} (r : VRs I [] l xs) :
    Inv c I (μ ++ [h.objs.size]) { st with σ := { st.σ with ls := st.σ.ls ++ [l] } } (h.push (listOf xs.toArray 0)) := by
  have i' := i.push (listOf xs.toArray 0)
  have hn : h.get? h.objs.size = none := by
    cases q : h.get? h.objs.size with
    | none => rfl
    | some x => exact absurd (Heap.lt_size q) (Nat.lt_irrefl _)
  obtain ⟨f1, _, f2, f3, _⟩ := i.fresh hn
  have hI : I.get? h.objs.size = none := by
    cases q : I.get? h.objs.size with
    | none => rfl
    | some x => rw [i.stays _ _ q] at hn; cases hn
  refine ⟨?_, ⟨by simp [i.led.1], ?_, fun k a l' e1 e2 => ?_⟩, i'.stays, i'.own, i'.nof, i'.avoid, i'.shy, i'.frame, fun x k v a b => let ⟨a, o, val, h1, h2, h3, h4⟩ := i'.cells x k v a b; ⟨a, o, val, h1, h2, h3, h4.up (fun _ _ e => e) (List.prefix_append _ _)⟩, i'.pend, i'.hdl⟩
  · obtain ⟨m, F, L⟩ := i'.fr
    exact ⟨m, F, fun x k v a b => let ⟨w, p1, p2⟩ := L x k v a b; ⟨w, p1, p2.up (fun _ _ e => e) (List.prefix_append _ _)⟩⟩
  · rw [List.nodup_append]
    exact ⟨i.led.2.1, by simp, fun a ha b hb => by rw [List.mem_singleton.mp hb]; exact fun q => f3 (q ▸ ha)⟩
  · rw [List.getElem?_append] at e1 e2
    split at e1
    · rename_i hlt
      rw [if_pos (by rw [← i.led.1]; exact hlt)] at e2
      exact i'.led.2.2 k a l' e1 e2
    · rename_i hge
      rw [if_neg (by rw [← i.led.1]; exact hge)] at e2
      have hk : k = μ.length := by
        have := (List.getElem?_eq_some_iff.mp e1).1
        simp at this; omega
      subst hk
      have ha : a = h.objs.size := by simpa using e1.symm
      have hl : l' = l := by rw [i.led.1] at e2; simpa using e2.symm
      subst ha; subst hl
      obtain ⟨m, F, _⟩ := i.fr
      refine ⟨xs.toArray, 0, Heap.get?_push_size _ rfl, by simpa using r, f1, ?_, hI⟩
      cases q : c.h₀.get? h.objs.size with
      | none => rfl
      | some x => rw [F.keep _ _ q] at hn; cases hn
theorem ev_listL {es : List PySem.Expr} {T : Tr (List V)} (h : Evs sc rm pos es T) :
    Ev sc rm (.List es pos) (fun Q X st => T (fun vs st₁ => vs.length < 1000 ∧ nls vs = true ∧ Q (.loc st₁.σ.ls.length) { st₁ with σ := { st₁.σ with ls := st₁.σ.ls ++ [vs] } }) X st) := by
  intro c G hsc Q X st I μ s Q' E' z t inv q x
  refine List_ (h.use G hsc z t inv ?_ x)
  intro vs xs st₁ I₁ μ₁ h₁' tk₁ t₁ inv₁ k₁ p₁ r₁ z₁
  have i2 := inv₁.growL (VRs.any [] r₁ t₁.2.1)
  refine wpAny_newObj_type ((q.up (h₁ := h₁') (t₁ := tk₁) k₁ p₁) _ _ _ I₁ _ _ tk₁ t₁.2.2 i2 (fun _ _ e => e) (List.prefix_append _ _) (.loc (by rw [← inv₁.led.1]; simp))) ?_
  show xs.toArray.size ≤ sizeLine
  rw [List.size_toArray, ← VRs.length r₁, sizeLine_eq]; have := t₁.1; omega
theorem A_handled {c : Cx} (G : Good c) (h : 0 < c.room) : c.A.handled = none := by
  have e : c.hd = none := by rcases G.hd with e | e; exact e; omega
  show c.hd.or c.A₀.handled = none
  rw [e, G.handled]; rfl
theorem min_tok {a b : Nat} (t u : Tok) : ∃ tt, (if (b : Int) < (a : Int) then Value.int b u else Value.int a t) = .int ((min a b : Nat) : Int) tt := by
  by_cases hb : b < a
  · exact ⟨u, by rw [if_pos (Int.ofNat_lt.mpr hb), Nat.min_eq_right (Nat.le_of_lt hb)]⟩
  · exact ⟨t, by rw [if_neg fun q => hb (Int.ofNat_lt.mp q), Nat.min_eq_left (Nat.le_of_not_lt hb)]⟩
/-! attributes of the text's own objects -/
noncomputable def AttrOk (C : Addr) (name : Str) : Prop := ∀ P, plainGet (KK P) C name = true ∧ hasDictIn (KK P) C = true ∧ ∃ attr, findIn (KK P) (.ref C) name = some attr ∧ noGet (KK P) attr = true
noncomputable def fld (name : Str) : List Str → List V → Option V
  | n :: ns, v :: vs => if name = n then some v else fld name ns vs
  | _, _ => none
theorem fld_ok {I : Heap} {μ : List Addr} {es : List DictEntry} {name : Str} {v : V} : ∀ {ns : List Str} {vs : List V} {xs : List Value}, ns.map (fun p => getL p es) = xs.map (fun x => some (some x)) → VRs I μ vs xs → fld name ns vs = some v → ∃ x, getL name es = some (some x) ∧ VR I μ v x
  | [], _, _, _, _, e => nomatch e
  | _ :: _, [], _, _, _, e => nomatch e
  | n :: ns, w :: vs, xs, h, r, e => by
    obtain ⟨x, ys, e1, a, b⟩ := r.consI
    rw [e1, List.map_cons, List.map_cons] at h
    obtain ⟨h1, h2⟩ := List.cons.inj h
    unfold fld at e
    split at e
    · rename_i q; rw [← Option.some.inj e, q]; exact ⟨_, h1, a⟩
    · exact fld_ok h2 b e
noncomputable def notObj : V → Prop
  | .obj _ => False
  | _ => True
theorem handed_no {I : Heap} {μ : List Addr} {v : V} {x : Value} (r : VR I μ v x) (h : notObj v) : handedIn x = true := by
  cases r <;> first | rfl | exact h.elim
noncomputable def attrP (C : Addr) (name : Str) (v : V) (Q : V → Prop) : Prop := match v with
  | .inst C' ns vs => (match Nat.beq C' C with
    | true => (match fld name ns vs with
      | some (.obj _) => False
      | some u => Q u
      | none => False)
    | false => False)
  | _ => False
theorem attrP_inv {C : Addr} {name : Str} {v : V} {Q : V → Prop} (h : attrP C name v Q) : ∃ ns vs u, v = .inst C ns vs ∧ fld name ns vs = some u ∧ notObj u ∧ Q u := by
  unfold attrP at h
  split at h
  · split at h
    · rename_i q
      split at h
      · exact h.elim
      · rename_i u hn e
        exact ⟨_, _, u, by rw [Nat.eq_of_beq_eq_true q], e, (by cases u <;> first | trivial | exact hn _ rfl), h⟩
      · exact h.elim
    · exact h.elim
  · exact h.elim
theorem ev_attr {e : PySem.Expr} {name : Str} {T : Tr V} (h : Ev sc rm e T) (C : Addr) (hA : AttrOk C name)
    (h3 : ∀ env, eval (.Attribute e name pos) env = (do let o ← eval e env; standAt pos.atName; let r ← holding [o] (getAttr o name true); letTemporaryGo e o r; pure r)) :
    Ev sc rm (.Attribute e name pos) (fun Q X st => T (fun v st₁ => attrP C name v fun v => Q v st₁) X st) := by
  intro c G hsc Q X st I μ s Q' E' z t inv q x
  refine Attribute_any_ (h.use G hsc z t inv ?_ x) (h3 _)
  intro va a st₁ I₁ μ₁ h₁' tk₁ t₁ inv₁ k₁ p₁ r₁ z₁
  obtain ⟨ns, vs, u, e0, hv, hn, t₂⟩ := attrP_inv t₁
  rw [e0] at r₁
  obtain ⟨_, _, _, _, _, rfl, a1, a2, a3, a4, _⟩ := r₁.instI
  obtain ⟨y, hy, ry⟩ := fld_ok a3 a4 hv
  obtain ⟨m, F, L⟩ := inv₁.fr
  obtain ⟨b1, b2, attr, b3, b4⟩ := hA c.w.params
  exact get_value (G.K.keeps F.keep) ⟨inv₁.stays _ _ a1, rfl, rfl, inv₁.stays _ _ a2⟩ (plainGet_of b1).1 (findObj_own b2 b3 b4 ((lookIn_dict _ _ _).trans hy)) (handed_no ry hn) (same_heapT (q.up k₁ p₁) _ t₂ inv₁ ry)
/-! methods of texts -/
theorem ev_meth0 {e : PySem.Expr} {name : Str} {id : String} {ap : Pos} {pl : Sem Bool} {T : Tr V} {o : Led → List V → (V → Prop) → Prop} (h : Ev sc rm e T)
    (hg : ∀ {M A E s} {x : Str} {t : Tok} {Q : Value × List Value → Shared → Prop}, Q (.builtin id, [.str x t]) s → wpAny M A (getMethod (.str x t) name pl) Q E s) (hb : BSound rm (.builtin id) o)
    (h3 : ∀ env, eval (.Call (.Attribute e name ap) [] [] pos) env = (do let ov ← eval e env; standAt ap.atName; let x ← holding [ov] (getMethod ov name pl); match x with | (f, first) => callWith pos f first (backTo pos (starEach [] env)) [])) :
    Ev sc rm (.Call (.Attribute e name ap) [] [] pos) (fun Q X st => T (fun v st₁ => withStr v fun l => o st₁.σ [.str l] fun v => Q v st₁) X st) := by
  intro c G hsc Q X st I μ s Q' E' z t inv q x
  refine MethodCall_ (h.use G hsc z t inv ?_ x) (h3 _)
  intro va a st₁ I₁ μ₁ h₁' tk₁ t₁ inv₁ k₁ p₁ r₁ z₁
  obtain ⟨l, e1, t₂⟩ := withStr_inv t₁
  rw [e1] at r₁
  obtain ⟨_, tk, rfl, hx, ok⟩ := r₁.strI
  exact hg (callWith_method0 (hb c G hsc.2 _ _ Q st₁ I₁ μ₁ _ Q' E' z₁ t₂ inv₁ (.cons (.str tk hx ok) .nil) (q.up k₁ p₁)))
theorem ev_meth1 {e a : PySem.Expr} {as : List PySem.Expr} {name : Str} {id : String} {ap : Pos} {pl : Sem Bool} {T : Tr V} {T₂ : Tr (List V)} {o : Led → List V → (V → Prop) → Prop} (h : Ev sc rm e T) (ha : Evs sc rm pos (a :: as) T₂)
    (hg : ∀ {M A E s} {x : Str} {t : Tok} {Q : Value × List Value → Shared → Prop}, Q (.builtin id, [.str x t]) s → wpAny M A (getMethod (.str x t) name pl) Q E s) (hb : BSound rm (.builtin id) o)
    (h1 : ∀ env, starEach (a :: as) env = (false, eval a env) :: starEach as env) (h2 : ∀ env, (backTo pos (starEach as env)).any (·.1) = false)
    (h3 : ∀ env, eval (.Call (.Attribute e name ap) (a :: as) [] pos) env = (do let ov ← eval e env; standAt ap.atName; let x ← holding [ov] (getMethod ov name pl); match x with | (f, first) => callWith pos f first (backTo pos (starEach (a :: as) env)) [])) :
    Ev sc rm (.Call (.Attribute e name ap) (a :: as) [] pos) (fun Q X st => T (fun v st₁ => withStr v fun l => T₂ (fun vs st₂ => o st₂.σ (.str l :: vs) fun v => Q v st₂) X st₁) X st) := by
  intro c G hsc Q X st I μ s Q' E' z t inv q x
  refine MethodCall_ (h.use G hsc z t inv ?_ x) (h3 _)
  intro va a st₁ I₁ μ₁ h₁' tk₁ t₁ inv₁ k₁ p₁ r₁ z₁
  obtain ⟨l, e1, t₂⟩ := withStr_inv t₁
  rw [e1] at r₁
  obtain ⟨_, tk, rfl, hx, ok⟩ := r₁.strI
  refine hg (callWith_method1 (ha.use G hsc (st := st₁) z₁ t₂ inv₁ ?_ (x.up k₁ p₁)) (h1 _) (h2 _))
  intro vb b st₂ I₂ μ₂ h₂' tk₂ t₃ inv₂ k₂ p₂ r₂ z₂
  exact hb c G hsc.2 _ _ Q st₂ I₂ μ₂ _ Q' E' z₂ t₃ inv₂ (.cons (.str tk hx ok) r₂) ((q.up k₁ p₁).up k₂ p₂)
end
end Mine
namespace Mine
noncomputable abbrev Sp := Led → List V → (V → Led → Prop) → (Exc → Led → Prop) → Prop
noncomputable def Fn (f : Addr) (r : Nat) (o : Sp) : Prop :=
  ∀ (c : Cx), Good c → r ≤ c.room → ∀ vs xs (Q : V → St → Prop) X st I μ s Q' E', 0 < s.toks → o st.σ vs (fun v σ' => Q v { st with σ := σ' }) (fun x σ' => X x { st with σ := σ' }) → Inv c I μ st s.heap → VRs I μ vs xs →
    OkQ c I μ s VR Q Q' → ExQ c I μ s X E' → wpAny (model c.prog c.w) c.A (call (.ref f) xs) Q' E' s
/-- the frame of a call -/
noncomputable def hid (c : Cx) (μ : List Addr) (h : Heap) : Heap := hideAll h (c.L :: c.fp :: c.avoid ++ μ)
noncomputable def Cx.callee (c : Cx) (μ : List Addr) (h : Heap) (qual : Str) (scope : Scope) (L f : Addr) (cd : Value) : Cx :=
  { c with qual := qual ++ ".<locals>.", func := some f, ffunc := some f, scope := scope, fscope := scope, cells := [], fcells := [], L := L, fp := L, cd := cd, A₀ := c.A, outer := c.fenv :: c.outer, h₀ := hid c μ h, room := c.room - 1, avoid := c.L :: c.fp :: c.avoid, snap := h, hd := none }
theorem lookup_mem {α β : Type} [BEq α] [LawfulBEq α] {k : α} {v : β} : ∀ {l : List (α × β)}, (l.map (·.1)).Nodup → (k, v) ∈ l → l.lookup k = some v
  | (a, b) :: r, hn, h => by
    rw [List.map_cons, List.nodup_cons] at hn
    rw [List.lookup_cons]
    rcases List.mem_cons.mp h with q | q
    · cases q; rw [beq_self_eq_true]
    · have : (k == a) = false := by
        cases e : k == a with
        | false => rfl
        | true => exact absurd (by rw [← eq_of_beq e]; exact List.mem_map_of_mem (f := (·.1)) q) hn.1
      rw [this]; exact lookup_mem hn.2 q
/-- what a def's own names hold at its start -/
noncomputable def vars0 : Nat → List V → List (Option V)
  | 0, vs => vs.map some
  | n + 1, [] => none :: vars0 n []
  | n + 1, v :: vs => some v :: vars0 n vs
theorem vars0_eq : ∀ (n : Nat) (vs : List V), vars0 n vs = vs.map some ++ List.replicate (n - vs.length) none
  | 0, vs => by rw [vars0, Nat.zero_sub]; exact (List.append_nil _).symm
  | n + 1, [] => by rw [vars0, vars0_eq n []]; rfl
  | n + 1, v :: vs => by rw [vars0, vars0_eq n vs, List.length_cons, Nat.succ_sub_succ]; rfl
theorem loc0 {scope : Scope} {I : Heap} {μ : List Addr} {ps : List Str} {vs : List V} {xs : List Value} (r : VRs I μ vs xs) (hl : vs.length = ps.length) (hp : ∀ x i, idxIn scope.names x = some i → i < ps.length → ps[i]? = some x) (hn : ps.Nodup) :
    LocRel scope I μ (vars0 scope.names.length vs) (fun y => (ps.zip xs).reverse.lookup y) := by
  intro x i v hi hv
  rw [vars0_eq, List.getElem?_append] at hv
  split at hv
  · rename_i hlt
    rw [List.length_map] at hlt
    have hx := hp x i hi (hl ▸ hlt)
    have hv' : vs.getD i .none = v := by
      rw [List.getElem?_map, List.getElem?_eq_getElem hlt] at hv
      rw [List.getD_eq_getElem?_getD, List.getElem?_eq_getElem hlt]
      exact Option.some.inj (Option.some.inj hv)
    obtain ⟨y, hy, ry⟩ := VRs.getD r hlt
    refine ⟨y, lookup_mem ?_ ?_, hv' ▸ ry⟩
    · rw [List.map_reverse, List.map_fst_zip (by rw [← VRs.length r, hl]; exact Nat.le_refl _)]
      exact ((List.reverse_perm _).nodup_iff).mpr hn
    · rw [List.mem_reverse, List.mem_iff_getElem?]
      exact ⟨i, by rw [List.getElem?_zip_eq_some]; exact ⟨hx, hy⟩⟩
  · rename_i hge
    rw [List.getElem?_replicate] at hv
    split at hv <;> cases hv
/-- what a def hands back: its turned lists as they are, or without those that it made -/
noncomputable def back (σ : Led) (Q : V → Led → Prop) (f : Fl) (σ' : Led) : Prop :=
  let v := match f with | .ret v => v | _ => .none
  Q v σ' ∨ (nl v = true ∧ σ.ls.length ≤ σ'.ls.length ∧ Q v { σ' with ls := σ'.ls.take σ.ls.length })
noncomputable def backX (σ : Led) (X : Exc → Led → Prop) (x : Exc) (σ' : Led) : Prop :=
  X x σ' ∨ (σ.ls.length ≤ σ'.ls.length ∧ X x { σ' with ls := σ'.ls.take σ.ls.length })
section
variable {c : Cx} {I : Heap} {μ : List Addr} {st : St} {h : Heap}
theorem hid_h₀ (G : Good c) (inv : Inv c I μ st h) : c.h₀.StaysIn (hid c μ h) := fun b ob e => by
  obtain ⟨m, F, _⟩ := inv.fr
  refine hideAll_get _ (F.keep b ob e) fun hb => ?_
  rcases List.mem_append.mp hb with hb | hb
  · rcases List.mem_cons.mp hb with rfl | hb
    · rw [F.off] at e; cases e
    · rw [G.hid b hb] at e; cases e
  · obtain ⟨k, hk'⟩ := List.getElem?_of_mem hb
    have hlt := (List.getElem?_eq_some_iff.mp hk').1
    rw [inv.led.1] at hlt
    obtain ⟨us, n, _, _, _, q4, _⟩ := inv.led.2.2 k b _ hk' (List.getElem?_eq_getElem hlt)
    rw [q4] at e; cases e
theorem dead_size {H h : Heap} (hs : H.objs.size ≤ h.objs.size) : H.get? h.objs.size = none := by
  cases q : H.get? h.objs.size with
  | none => rfl
  | some ob => exact absurd (Heap.lt_size q) (Nat.not_lt.mpr hs)
theorem callee_good {qual : Str} {scope : Scope} {f : Addr} {cd : Value} (G : Good c) (inv : Inv c I μ st h) (hr : 0 < c.room) (hkf : scope.kind = .function) : Good (c.callee μ h qual scope h.objs.size f cd) := by
  have there : ∀ a ∈ c.L :: c.fp :: c.avoid, ∃ o, h.get? a = some o := fun a ha => by
    rcases List.mem_cons.mp ha with rfl | ha
    · obtain ⟨m, F, _⟩ := inv.fr
      obtain ⟨o, _, _, q, _⟩ := F.ns; exact ⟨o, q⟩
    rcases List.mem_cons.mp ha with rfl | ha
    · obtain ⟨_, o, _, _, q, _⟩ := inv.frame; exact ⟨o, q⟩
    · obtain ⟨_, _, o, _, _, _, q, _⟩ := inv.avoid a ha; exact ⟨o, q⟩
  refine ⟨A_frames G, fun env he => ?_, G.K.keeps (hid_h₀ G inv), G.top.keeps (hid_h₀ G inv), hkf, hkf, fun hm => ?_, fun a ha => ?_, A_handled G hr, .inl rfl, ?_, ?_⟩
  · rcases List.mem_cons.mp he with rfl | he
    · exact ⟨by show c.fscope.kind ≠ _; rw [G.ffn]; decide, c.fp, rfl, .tail _ (.head _)⟩
    · obtain ⟨a, L, b, d⟩ := G.frames env he
      exact ⟨a, L, b, .tail _ (.tail _ d)⟩
  · obtain ⟨o, q⟩ := there _ hm
    exact absurd (Heap.lt_size q) (Nat.lt_irrefl _)
  · rcases List.mem_cons.mp ha with rfl | ha
    · exact dead_size (by show (hid c μ h).objs.size ≤ _; rw [hid, hideAll_size]; exact Nat.le_refl _)
    · exact hideAll_none _ (List.mem_append_left _ ha)
  · show c.A₀.depth + 1 + (c.room - 1) + 2 < _; have := G.depth; omega
  · show c.A₀.units + 3 + 10 * (c.room - 1 + 10) < _
    have := G.units; omega
theorem InvR.back {qual : Str} {scope : Scope} {f : Addr} {cd : Value} {L : Addr} {I' : Heap} {μ' : List Addr} {st' : St} {h' : Heap} (G : Good c) (inv : Inv c I μ st h) (hr : 0 < c.room)
    (i' : Inv (c.callee μ h qual scope L f cd) I' μ' st' h') (k' : I.StaysIn I') (p' : μ <+: μ') : Inv c I' μ' { st with σ := st'.σ } h' := by
  obtain ⟨m, F, Lr⟩ := inv.fr
  obtain ⟨m', F', _⟩ := i'.fr
  have low : ∀ a, (hid c μ h).get? a = none → c.h₀.get? a = none := fun a q => by
    cases w : c.h₀.get? a with
    | none => rfl
    | some o => rw [hid_h₀ G inv _ _ w] at q; cases q
  have av : ∀ a ∈ c.L :: c.fp :: c.avoid, I'.get? a = none ∧ ∃ o o' es n, h.get? a = some o ∧ h'.get? a = some o' ∧ UpS o o' ∧ o'.data = .dict es n := fun a ha => i'.avoid a ha
  have lne : ∀ (j : Nat) (a : Addr), μ'[j]? = some a → a ≠ c.L := fun j a e q => by
    have hlt := (List.getElem?_eq_some_iff.mp e).1
    rw [i'.led.1] at hlt
    obtain ⟨us, n, q1, _⟩ := i'.led.2.2 j a _ e (List.getElem?_eq_getElem hlt)
    obtain ⟨_, _, o', es, n', _, q2, _, d⟩ := av c.L (.head _)
    rw [q, q2] at q1; cases q1; cases d
  refine ⟨⟨m, ⟨?_, fun b ob e => F'.keep b ob (hid_h₀ G inv b ob e), F.off⟩, fun y j v a b => let ⟨w, p1, p2⟩ := Lr y j v a b; ⟨w, p1, p2.up k' p'⟩⟩, ⟨i'.led.1, i'.led.2.1, fun j a l e1 e2 => ?_⟩, i'.stays, (av c.L (.head _)).1, i'.nof, fun a ha => ⟨(av a (.tail _ (.tail _ ha))).1, ?_⟩, i'.shy, ⟨(av c.fp (.tail _ (.head _))).1, ?_⟩, fun y j v a b => let ⟨a, o, val, h1, h2, h3, h4⟩ := inv.cells y j v a b; ⟨a, o, val, h1, k' _ _ h2, h3, h4.up k' p'⟩, fun e x q => (i'.pend e x q).low (hid_h₀ G inv), fun v q => ?_⟩
  · obtain ⟨oL, es, ep, q1, q2, q3⟩ := F.ns
    obtain ⟨_, o, o', _, _, a1, a2, r, _⟩ := av c.L (.head _)
    rw [q1] at a1; cases a1
    exact ⟨o', es, ep, a2, r.data.trans q2, q3⟩
  · obtain ⟨us, n, q1, q2, q3, q4, q5⟩ := i'.led.2.2 j a l e1 e2
    exact ⟨us, n, q1, q2, lne j a e1, low a q4, q5⟩
  · obtain ⟨_, o1, o', es, n, a1, a2, r, d⟩ := av a (.tail _ (.tail _ ha))
    obtain ⟨_, o0, o1', _, _, b1, b2, b3, _⟩ := inv.avoid a ha
    rw [a1] at b2; cases b2
    exact ⟨o0, o', es, n, b1, a2, b3.trans r, d⟩
  · obtain ⟨_, o1, o', es, n, a1, a2, r, d⟩ := av c.fp (.tail _ (.head _))
    exact ⟨o', es, n, a2, d⟩
  · have e : c.hd = none := by rcases G.hd with e | e; exact e; omega
    rw [e] at q; cases q
end
theorem fr_val {I : Heap} {μ : List Addr} : ∀ {fv : Fl} {fl : Flow}, FR I μ fv fl → VR I μ (match fv with | .ret v => v | _ => .none) (match fl with | .ret v => v | _ => .none)
  | _, _, .next => .none
  | _, _, .brk => .none
  | _, _, .cont => .none
  | _, _, .ret r => r
theorem take_inv {R : Obj → Obj → Prop} {c : Cx} {I I' : Heap} {μ μ' : List Addr} {st : St} {σ' : Led} {h h' : Heap} (inv : Inv c I μ st h) (i : InvR R c I' μ' { st with σ := σ' } h') (k' : I.StaysIn I') (p' : μ <+: μ') (hcut : st.σ.ls.length ≤ σ'.ls.length) :
    μ <+: μ'.take st.σ.ls.length ∧ ((hm : ∃ m, Fm c.h₀ c.L h' m ∧ LocRel c.scope I μ st.vars m) → InvR R c I' (μ'.take st.σ.ls.length) { st with σ := { σ' with ls := σ'.ls.take st.σ.ls.length } } h') := by
  have hpre : μ <+: μ'.take st.σ.ls.length := by
    obtain ⟨w, rfl⟩ := p'
    rw [← inv.led.1, List.take_left']
    · exact List.prefix_refl _
    · rfl
  refine ⟨hpre, fun ⟨m, F, Lr⟩ => ⟨⟨m, F, fun y j v a b => let ⟨w, p1, p2⟩ := Lr y j v a b; ⟨w, p1, p2.up k' hpre⟩⟩, ⟨?_, ?_, fun j a l e1 e2 => ?_⟩, i.stays, i.own, i.nof, i.avoid, i.shy, i.frame, fun y j v a b => let ⟨a, o, val, h1, h2, h3, h4⟩ := inv.cells y j v a b; ⟨a, o, val, h1, k' _ _ h2, h3, h4.up k' hpre⟩, i.pend, i.hdl⟩⟩
  · rw [List.length_take, List.length_take, i.led.1]
  · exact i.led.2.1.sublist (List.take_sublist _ _)
  · rw [List.getElem?_take] at e1 e2
    split at e1
    · rw [if_pos (by assumption)] at e2
      exact i.led.2.2 j a l e1 e2
    · cases e1
theorem fn_intro {f : Addr} {r rm n : Nat} {o : Sp} {oc cdv dV kV doc pm ct : Value} {od an : Option Addr} {osl : Array (Option Value)} {nm qual : Str} {params : Arguments} {body : List Stmt} {scope : Scope} {T : Tr Fl} {ps : List Str}
    (hk : ∀ P, (KK P).lookup f = some ⟨oc, od, .func (fnOf nm qual params body scope dV kV doc pm an cdv ct), osl⟩) (hcd : ∀ P, codeIn (KK P) cdv qual = true)
    (hb : ∀ xs : List Value, xs.length = ps.length → bindArgs (fnOf nm qual params body scope dV kV doc pm an cdv ct) ⟨xs, []⟩ = pure (ps.zip xs))
    (hloc : ∀ x ∈ ps, scope.names.lookup x = some .local) (hp : ∀ x i, idxIn scope.names x = some i → i < ps.length → ps[i]? = some x) (hn : ps.Nodup)
    (hcell : ∀ x ∈ scope.names, x.2 ≠ .cell) (hT : Exs scope rm body T) (hr : rm + 1 ≤ r)
    (h : ∀ (σ : Led) vs (Q : V → Led → Prop) X, o σ vs Q X → σ.pend = none ∧ vs.length = ps.length ∧ T (fun f st => back σ Q f st.σ) (fun x st => backX σ X x st.σ) ⟨vars0 n vs, σ, []⟩) (hnl : scope.names.length = n := by rfl)
    (hco : scope.isCoroutine = false := by rfl) (hgen : scope.isGenerator = false := by rfl) (hkf : scope.kind = .function := by rfl) : Fn f r o := by
  intro c G hroom vs xs Q X st I μ s Q' E' z t inv rs q x
  subst hnl
  obtain ⟨hpn, hlen, hT'⟩ := h _ _ _ _ t
  have hr0 : 0 < c.room := by omega
  obtain ⟨m, F, Lr⟩ := inv.fr
  have hxl : xs.length = ps.length := (VRs.length rs).symm.trans hlen
  refine wpAny_call (codeAny_call_def (fd := fnOf nm qual params body scope dV kV doc pm an cdv ct) (body := body) (binds := ps.zip xs) (by show c.A₀.depth + 1 < _; have := G.depth; omega)
    (F.keep _ _ (G.K _ _ (hk _))) rfl (G.top.nolimit.keeps F.keep) (codeRec_of (G.K.keeps F.keep) (hcd _)) rfl (BindsTo.of_eq (hb xs hxl)) hcell
    (fun y hy => hloc _ (List.of_mem_zip hy).1) (fun h₁ hns hk₁ => ?_) hco hgen hkf)
  have hnew : s.heap.get? s.heap.objs.size = none := dead_size (Nat.le_refl _)
  obtain ⟨oL, es, ep, hL, hLd, hLr⟩ := F.ns
  let c' := c.callee μ s.heap qual scope s.heap.objs.size f cdv
  have G' : Good c' := callee_good G inv hr0 hkf
  have hsz : (hid c μ s.heap).objs.size = s.heap.objs.size := hideAll_size _ _
  have Fg : Fm c'.h₀ s.heap.objs.size h₁ (fun y => (ps.zip xs).reverse.lookup y) := ⟨hns, fun b ob e => hk₁ b ob (of_hideAll _ e), dead_size (Nat.le_of_eq hsz)⟩
  have hIn : I.get? s.heap.objs.size = none := by
    cases q : I.get? s.heap.objs.size with
    | none => rfl
    | some ob => rw [inv.stays _ _ q] at hnew; cases hnew
  have inv' : Inv c' I μ ⟨vars0 scope.names.length vs, st.σ, []⟩ h₁ := by
    refine ⟨⟨_, Fg, loc0 rs hlen hp hn⟩, ⟨inv.led.1, inv.led.2.1, fun k a l e1 e2 => ?_⟩, fun b ob e => hk₁ b ob (inv.stays b ob e), hIn, inv.nof, fun a ha => ?_, fun a ha => ⟨(inv.shy a ha).1, let ⟨o, e, d⟩ := (inv.shy a ha).2; ⟨o, hk₁ _ _ e, d⟩⟩, ⟨hIn, let ⟨o, es, ep, h1, h2, _⟩ := hns; ⟨o, es, ep, h1, h2⟩⟩, fun y j v a b => (by cases b), fun e x w => ?_, fun v w => (by cases w)⟩
    · obtain ⟨us, n, q1, q2, q3, q4, q5⟩ := inv.led.2.2 k a l e1 e2
      exact ⟨us, n, hk₁ _ _ q1, q2, fun q => (by have q : a = s.heap.objs.size := q; rw [q, hnew] at q1; cases q1), hideAll_none _ (List.mem_append_right _ (List.mem_of_getElem? e1)), q5⟩
    · rcases List.mem_cons.mp ha with rfl | ha
      · exact ⟨inv.own, _, _, _, _, hL, hk₁ _ _ hL, .refl _, hLd⟩
      rcases List.mem_cons.mp ha with rfl | ha
      · obtain ⟨ofp, efp, nfp, hfp, dfp⟩ := inv.frame.2
        exact ⟨inv.frame.1, _, _, _, _, hfp, hk₁ _ _ hfp, .refl _, dfp⟩
      · obtain ⟨w1, o, o', es, n, _, w2, _, w3⟩ := inv.avoid a ha
        exact ⟨w1, _, _, _, _, w2, hk₁ _ _ w2, .refl _, w3⟩
    · have w : st.σ.pend = some (e, x) := w
      rw [hpn] at w; cases w
  refine hT c' G' ⟨rfl, by show rm ≤ c.room - 1; omega⟩ _ _ _ I μ { s with heap := h₁, toks := s.toks + (ps.zip xs).length } _ _ (by show 0 < s.toks + _; omega) hT' inv' ?_ ?_
  · intro fv fl st' I' μ' h' tk b i' k' p' r'
    have whole : Inv c I' μ' { st with σ := st'.σ } h' := InvR.back G inv hr0 i' k' p'
    have hv := fr_val r'
    rcases b with b | ⟨b1, b2, b3⟩
    · exact q _ _ _ I' μ' h' tk b whole k' p' hv
    · obtain ⟨hpre, tk'⟩ := take_inv inv whole k' p' b2
      refine q _ _ { st with σ := { st'.σ with ls := st'.σ.ls.take st.σ.ls.length } } I' (μ'.take st.σ.ls.length) h' tk b3 (tk' ?_) k' hpre (hv.any _ b1)
      obtain ⟨m', F', L'⟩ := whole.fr
      refine ⟨m, ⟨?_, F'.keep, F'.off⟩, Lr⟩
      obtain ⟨_, o, o', _, _, a1, a2, r, _⟩ := i'.avoid c.L (.head _)
      have a1 : s.heap.get? c.L = some o := a1
      rw [hL] at a1; cases a1
      exact ⟨o', es, ep, a2, r.data.trans hLd, hLr⟩
  · intro xc e st' I' μ' h' tk b f' k' p'
    refine wpAny_bind ?_
    refine note_ok (s := { s with heap := h', toks := tk }) G' f' fun h₂ f₂ t₂ => ?_
    refine flight_ok (c := c') (s := { s with heap := h₂, toks := tk }) G' f₂.inv f₂.nohd f₂.nop t₂ fun h₃ i₃ t₃ => ?_
    have whole : InvR UpS c I' μ' { st with σ := st'.σ } h₃ := InvR.back G inv hr0 i₃ k' p'
    have hd0 : c.hd = none := by rcases G.hd with e | e; exact e; omega
    have t₄ := (t₃.keeps (P' := fun fl => fl = none ∨ fl = some .none ∨ fl = some (rawInt c.fp)) (fun _ _ _ a _ => a) fun fl w => by
      rcases w with ⟨_, w⟩ | w
      · cases w
      · exact .inr (.inl w)).low (hid_h₀ G inv)
    rcases b with b | ⟨b1, b2⟩
    · exact x xc e { st with σ := st'.σ } I' μ' h₃ tk b ⟨whole, hd0, f'.nop, t₄⟩ k' p'
    · obtain ⟨hpre, tk'⟩ := take_inv inv whole k' p' b1
      refine x xc e { st with σ := { st'.σ with ls := st'.σ.ls.take st.σ.ls.length } } I' (μ'.take st.σ.ls.length) h₃ tk b2 ⟨tk' ?_, hd0, f'.nop, t₄⟩ k' hpre
      obtain ⟨m', F', L'⟩ := whole.fr
      refine ⟨m, ⟨?_, F'.keep, F'.off⟩, Lr⟩
      obtain ⟨_, o, o', _, _, a1, a2, r, _⟩ := i₃.avoid c.L (.head _)
      have a1 : s.heap.get? c.L = some o := a1
      rw [hL] at a1; cases a1
      exact ⟨o', es, ep, a2, r.data.trans hLd, hLr⟩
section
variable {sc : Scope} {rm : Nat} {pos : Pos}
/-- a call of a def of the text's -/
theorem ev_call {fn e : PySem.Expr} {es : List PySem.Expr} {f : Addr} {r : Nat} {T : Tr (List V)} {o : Sp} (hF : Fn f r o) (hr : r ≤ rm) (hf : Ev sc rm fn (fun Q _ st => Q (.obj (.ref f)) st)) (ha : Evs sc rm pos (e :: es) T) (hk : ∀ P, keepIn (KK P) (.ref f) = true)
    (h1 : ∀ env, starEach (e :: es) env = (false, eval e env) :: starEach es env) (h2 : ∀ env, (backTo pos (starEach es env)).any (·.1) = false) (h3 : ∀ env, eval (.Call fn (e :: es) [] pos) env = (do callWith pos (← eval fn env) [] (backTo pos (starEach (e :: es) env)) (backToKw pos (keywordEach [] env)))) :
    Ev sc rm (.Call fn (e :: es) [] pos) (fun Q X st => T (fun vs st₁ => o st₁.σ vs (fun v σ' => Q v { st₁ with σ := σ' }) (fun x σ' => X x { st₁ with σ := σ' })) X st) := by
  intro c G hsc Q X st I μ s Q' E' z t inv q x
  refine Call_ (hf.use G hsc (Q := fun v st' => v = .obj (.ref f) ∧ st' = st) z ⟨rfl, rfl⟩ inv ?_ x) (h3 _)
  rintro _ fv st₁ I₁ μ₁ h₁' tk₁ ⟨rfl, rfl⟩ inv₁ k₁ p₁ r₁ z₁
  cases r₁
  refine callWith_K G.K (hk _) ?_ (h1 _) (h2 _)
  refine ha.use G hsc (st := st₁) z₁ t inv₁ ?_ (x.up k₁ p₁)
  intro vb b st₂ I₂ μ₂ h₂' tk₂ t₂ inv₂ k₂ p₂ r₂ z₂
  obtain ⟨m, F, _⟩ := inv₂.fr
  exact ⟨G.K.keeps F.keep, hF c G (Nat.le_trans hr hsc.2) vb b Q X st₂ I₂ μ₂ _ Q' E' z₂ t₂ inv₂ r₂ ((q.up k₁ p₁).up k₂ p₂) ((x.up k₁ p₁).up k₂ p₂)⟩
end
end Mine
namespace Mine
/-- all that is at hand stays -/
noncomputable abbrev Cx.narrow (c : Cx) (μ : List Addr) (h : Heap) : Cx := { c with h₀ := hid c μ h }
section
variable {c : Cx} {I : Heap} {μ : List Addr} {st : St} {h : Heap}
theorem narrow_good (G : Good c) (inv : Inv c I μ st h) : Good (c.narrow μ h) :=
  ⟨G.stack, G.frames, G.K.keeps (hid_h₀ G inv), G.top.keeps (hid_h₀ G inv), G.fn, G.ffn, G.lav, fun a ha => hideAll_none _ (List.mem_append_left _ (.tail _ ha)), G.handled, G.hd, G.depth, G.units⟩
theorem narrow_inv (inv : Inv c I μ st h) (hp : st.σ.pend = none) : Inv (c.narrow μ h) I μ st h where
  fr := let ⟨m, F, L⟩ := inv.fr; ⟨m, ⟨F.ns, fun b o e => of_hideAll _ e, hideAll_none _ (List.mem_append_left _ (.head _))⟩, L⟩
  led := ⟨inv.led.1, inv.led.2.1, fun k a l e1 e2 => let ⟨vs, n, q1, q2, q3, _, q5⟩ := inv.led.2.2 k a l e1 e2; ⟨vs, n, q1, q2, q3, hideAll_none _ (List.mem_append_right _ (List.mem_of_getElem? e1)), q5⟩⟩
  stays := inv.stays
  own := inv.own
  nof := inv.nof
  avoid := inv.avoid
  shy := inv.shy
  frame := inv.frame
  cells := inv.cells
  pend := fun e x q => by rw [hp] at q; cases q
  hdl := inv.hdl
theorem widen_back {R : Obj → Obj → Prop} {I' : Heap} {μ' : List Addr} {st' : St} {h' : Heap} (G : Good c) (inv : Inv c I μ st h) (i : InvR R (c.narrow μ h) I' μ' st' h') : InvR R c I' μ' st' h' where
  fr := let ⟨m, F, L⟩ := i.fr; let ⟨_, F₀, _⟩ := inv.fr; ⟨m, ⟨F.ns, fun b o e => F.keep b o (hid_h₀ G inv b o e), F₀.off⟩, L⟩
  led := ⟨i.led.1, i.led.2.1, fun k a l e1 e2 => let ⟨vs, n, q1, q2, q3, q4, q5⟩ := i.led.2.2 k a l e1 e2; ⟨vs, n, q1, q2, q3, (by
    cases w : c.h₀.get? a with
    | none => rfl
    | some o => have q4 : (hid c μ h).get? a = none := q4; rw [hid_h₀ G inv _ _ w] at q4; cases q4), q5⟩⟩
  stays := i.stays
  own := i.own
  nof := i.nof
  avoid := i.avoid
  shy := i.shy
  frame := i.frame
  cells := i.cells
  pend := fun e x q => (i.pend e x q).low (hid_h₀ G inv)
  hdl := i.hdl
theorem widen_exf {I' : Heap} {μ' : List Addr} {st' : St} {h' : Heap} {x : Exc} {e : Addr} (G : Good c) (inv : Inv c I μ st h) (f : ExF (c.narrow μ h) I' μ' st' x e h') : ExF c I' μ' st' x e h' :=
  ⟨widen_back G inv f.inv, f.nohd, f.nop, f.exc.low (hid_h₀ G inv)⟩
/-- a record alone is changed -/
theorem Inv.tick {h' : Heap} {J : Addr} (i : Inv c I μ st h) (hp : st.σ.pend = none) (hn : c.hd = none) (h0 : c.h₀.get? J = none) (hJ : ∃ o vs, h.get? J = some o ∧ o.data = .fields vs) (hk : ∀ b o, b ≠ J → h.get? b = some o → h'.get? b = some o) : Inv c I μ st h' := by
  obtain ⟨oJ, vJ, eJ, dJ⟩ := hJ
  have ne : ∀ b o, h.get? b = some o → (∀ vs, o.data ≠ .fields vs) → b ≠ J := fun b o e nf q => by rw [q, eJ] at e; cases e; exact nf _ dJ
  refine ⟨?_, ⟨i.led.1, i.led.2.1, fun k a l e1 e2 => let ⟨vs, n, q1, q2⟩ := i.led.2.2 k a l e1 e2; ⟨vs, n, hk _ _ (ne _ _ q1 fun vs q => by cases q) q1, q2⟩⟩, fun b o e => hk _ _ (ne _ _ (i.stays b o e) (i.nof b o e)) (i.stays b o e), i.own, i.nof,
    fun a ha => ⟨(i.avoid a ha).1, let ⟨x, x', es, n, e, e', r, d⟩ := (i.avoid a ha).2; ⟨x, x', es, n, e, hk _ _ (ne _ _ e' fun vs q => by rw [d] at q; cases q) e', r, d⟩⟩, fun a ha => ⟨(i.shy a ha).1, let ⟨o, e, d⟩ := (i.shy a ha).2; ⟨o, hk _ _ (ne _ _ e d) e, d⟩⟩, ⟨i.frame.1, let ⟨x, es, n, f2, f3⟩ := i.frame.2; ⟨x, es, n, hk _ _ (ne _ _ f2 fun vs q => by rw [f3] at q; cases q) f2, f3⟩⟩, i.cells, fun e x q => (by rw [hp] at q; cases q), fun v q => (by rw [hn] at q; cases q)⟩
  obtain ⟨m, F, L⟩ := i.fr
  exact ⟨m, ⟨Heap.UpToSlots.ns (h := h) (fun b o e nf => ⟨o.slots, hk b o (ne b o e nf) e⟩) F.ns, fun b o e => hk b o (fun q => by rw [q, h0] at e; cases e) (F.keep b o e), F.off⟩, L⟩
end
noncomputable def owners : List String := ["enumerate", "zip", "dict_itemiterator", "dict_reverseitemiterator", "odict_iterator", "itertools.zip_longest", "itertools.pairwise"]
/-- the walk over items -/
structure WkS (c : Cx) (I : Heap) (μ μs : List Addr) (J : Addr) (items : List V) (fp : List Addr) (P : Nat → Value → Prop) (S : Nat → Heap → Prop) : Prop where
  W : Walks c.prog c.w c.A J fp [J] items.length P S
  val : ∀ i v, P i v → ∃ u, items[i]? = some u ∧ VR I μ u v
  live : ∀ i h, S i h → ∃ o vs, h.get? J = some o ∧ o.data = .fields vs
  kind : ∀ i h, S i h → ∃ o n, h.get? J = some o ∧ o.cls = .type n ∧ owners.contains n = false
  src : ∀ b ∈ fp, b = J ∨ (∃ o, I.get? b = some o) ∨ b ∈ μs
  low : c.h₀.get? J = none
noncomputable def Itr (sc : Scope) (rm : Nat) (fz : Bool) (e : PySem.Expr) (T : Tr (List V)) : Prop :=
  ∀ (c : Cx), Good c → c.scope = sc ∧ rm ≤ c.room → ∀ Q X st I μ s (K : Value → Shared → Prop) E', 0 < s.toks → T Q X st → Inv c I μ st s.heap →
    (∀ items st' I' μ' h' tk J fp P S, Q items st' → Inv c I' μ' st' h' → I.StaysIn I' → μ <+: μ' → 0 < tk → WkS c I' μ' (if fz then μ' else []) J items fp P S → S 0 h' → K (.ref J) { s with heap := h', toks := tk }) →
    ExQ c I μ s X E' → wpAny (model c.prog c.w) c.A (eval e c.env) (fun x s₁ => wpAny (model c.prog c.w) c.A (pyIter x) K E' s₁) E' s
theorem Heap.none_size (h : Heap) : h.get? h.objs.size = none := dead_size (Nat.le_refl _)
section
variable {sc : Scope} {rm : Nat} {pos : Pos}
theorem room_pos {c : Cx} {sc : Scope} {rm : Nat} (h1 : 1 ≤ rm) (hs : c.scope = sc ∧ rm ≤ c.room) : 0 < c.room := Nat.lt_of_lt_of_le h1 hs.2
theorem Good.nohd {c : Cx} (G : Good c) (h : 0 < c.room) : c.hd = none := by rcases G.hd with e | e; exact e; omega
theorem low_new {c : Cx} {I : Heap} {μ : List Addr} {st : St} {h : Heap} (i : Inv c I μ st h) {a : Addr} (e : h.get? a = none) : c.h₀.get? a = none := by
  obtain ⟨m, F, _⟩ := i.fr
  cases w : c.h₀.get? a with
  | none => rfl
  | some o => rw [F.keep _ _ w] at e; cases e
theorem VRs.at {I : Heap} {μ : List Addr} : ∀ {l : List V} {xs : List Value}, VRs I μ l xs → ∀ {i : Nat} {x : Value}, xs[i]? = some x → ∃ u, l[i]? = some u ∧ VR I μ u x
  | _, _, .cons a b, 0, _, e => by cases e; exact ⟨_, rfl, a⟩
  | _, _, .cons a b, i + 1, _, e => by simpa using VRs.at b (by simpa using e)
theorem itr_ev {fz : Bool} {e : PySem.Expr} {T : Tr V} (h : Ev sc rm e T) (h1 : 1 ≤ rm) :
    Itr sc rm fz e (fun Q X st => T (fun v st₁ => match v with
      | .str l => Q (l.map fun c => .str [c]) st₁
      | .list l => Q l st₁
      | .loc k => fz = true ∧ Q (st₁.σ.ls.getD k []) st₁
      | _ => False) X st) := by
  intro c G hs Q X st I μ s K E' z t inv q x
  have hA := A_handled G (room_pos h1 hs)
  refine h.use G hs z t inv ?_ x
  intro va a st₁ I₁ μ₁ h₁' tk₁ t₁ inv₁ k₁ p₁ r₁ z₁
  split at t₁
  · rename_i l
    cases r₁ with | @str _ y tk hx ok =>
    have ha : y.cps.all (· < 128) = true := by
      rw [← Array.all_toList, hx, List.all_eq_true]
      intro b hb; simpa using ok.1 b hb
    refine wpAny_pyIter_ascii ha ?_
    have hl : (l.map fun c => V.str [c]).length = y.cps.size := by rw [List.length_map, ← hx]; exact Array.length_toList
    refine q _ _ I₁ μ₁ (h₁'.push _) _ h₁'.objs.size [h₁'.objs.size] (SignAt y) (fun i h => h.IsStrIter h₁'.objs.size "str_ascii_iterator" y tk i) t₁ (inv₁.push _) k₁ p₁ z₁ (WkS.mk (by rw [hl]; exact Walks.strAscii hA _ y tk) (fun i v hv => ?_) (fun i h st => ?_) (fun i h st => let ⟨o, a, b, _⟩ := st; ⟨o, _, a, b, by decide⟩) (fun b hb => .inl (by simpa using hb)) (low_new inv₁ (Heap.none_size _))) ⟨_, Heap.get?_push_size _ rfl, rfl, rfl⟩
    · obtain ⟨b, u, e, rfl⟩ := hv
      rw [← Array.getElem?_toList, hx] at e
      refine ⟨.str [b], by rw [List.getElem?_map, e]; rfl, .str _ rfl ⟨fun d hd => ?_, by simp⟩⟩
      rw [List.mem_singleton.mp hd]; exact ok.1 _ (List.mem_of_getElem? e)
    · obtain ⟨o, a, _, b⟩ := st; exact ⟨o, _, a, b⟩
  · rename_i l
    cases r₁ with | @list _ ax vs n a1 a4 =>
    have hL : Heap.IsList h₁' ax vs := ⟨_, inv₁.stays _ _ a1, rfl, _, rfl⟩
    have hne : ax ≠ h₁'.objs.size := Nat.ne_of_lt (Heap.lt_size (inv₁.stays _ _ a1))
    refine wpAny_pyIter_list hL ?_
    have hl : l.length = vs.size := (VRs.length a4).trans Array.length_toList
    refine q _ _ I₁ μ₁ (h₁'.push _) _ h₁'.objs.size [h₁'.objs.size, ax] (fun i v => vs[i]? = some v) (fun i h => h.IsListIter h₁'.objs.size ax i ∧ h.IsList ax vs) t₁ (inv₁.push _) k₁ p₁ z₁ (WkS.mk (by rw [hl]; exact Walks.list hA _ ax hne vs) (fun i v hv => ?_) (fun i h st => ?_) (fun i h st => let ⟨⟨o, a, b, _⟩, _⟩ := st; ⟨o, _, a, b, by decide⟩) (fun b hb => ?_) (low_new inv₁ (Heap.none_size _))) ⟨⟨_, Heap.get?_push_size _ rfl, rfl, rfl⟩, hL.push _⟩
    · rw [← Array.getElem?_toList] at hv
      exact VRs.at a4 hv
    · obtain ⟨⟨o, a, _, b⟩, _⟩ := st; exact ⟨o, _, a, b⟩
    · simp at hb
      rcases hb with rfl | rfl
      · exact .inl rfl
      · exact .inr (.inl ⟨_, a1⟩)
  · rename_i k
    cases r₁ with | @loc _ ax hk =>
    obtain ⟨rfl, t₁⟩ := t₁
    have hlt' := (List.getElem?_eq_some_iff.mp hk).1
    rw [inv₁.led.1] at hlt'
    obtain ⟨vs, n, e1, a4, _⟩ := inv₁.led.2.2 _ ax _ hk (getD_at hlt')
    have hL : Heap.IsList h₁' ax vs := ⟨_, e1, rfl, n, rfl⟩
    have hne : ax ≠ h₁'.objs.size := Nat.ne_of_lt (Heap.lt_size e1)
    refine wpAny_pyIter_list hL ?_
    have hl : (st₁.σ.ls.getD k []).length = vs.size := (VRs.length a4).trans Array.length_toList
    refine q _ _ I₁ μ₁ (h₁'.push _) _ h₁'.objs.size [h₁'.objs.size, ax] (fun i v => vs[i]? = some v) (fun i h => h.IsListIter h₁'.objs.size ax i ∧ h.IsList ax vs) t₁ (inv₁.push _) k₁ p₁ z₁ (WkS.mk (by rw [hl]; exact Walks.list hA _ ax hne vs) (fun i v hv => ?_) (fun i h st => ?_) (fun i h st => let ⟨⟨o, a, b, _⟩, _⟩ := st; ⟨o, _, a, b, by decide⟩) (fun b hb => ?_) (low_new inv₁ (Heap.none_size _))) ⟨⟨_, Heap.get?_push_size _ rfl, rfl, rfl⟩, hL.push _⟩
    · rw [← Array.getElem?_toList] at hv
      obtain ⟨u, a, b⟩ := VRs.at a4 hv
      exact ⟨u, a, b.up (fun _ _ e => e) List.nil_prefix⟩
    · obtain ⟨⟨o, a, _, b⟩, _⟩ := st; exact ⟨o, _, a, b⟩
    · simp at hb
      rcases hb with rfl | rfl
      · exact .inl rfl
      · exact .inr (.inr (by rw [if_pos rfl]; exact List.mem_of_getElem? hk))
  · exact t₁.elim
theorem small_range {n : Nat} (h : n ≤ 65536) : Builtin.Range.small 0 (n : Int) 1 = true := by
  unfold Builtin.Range.small Builtin.Range.rangeFitsLong
  rw [rangeSize_nat]
  simp only [Bool.and_eq_true, Bool.or_eq_true, decide_eq_true_eq]
  simp
  omega
theorem itr_range {fz : Bool} {e : PySem.Expr} {np : Pos} {T : Tr V} (h : Ev sc rm e T) (h1 : 1 ≤ rm) (hf : Ev sc rm (.Name "range" np) (fun Q _ st => Q (.obj (.type "range")) st))
    (g1 : ∀ env, starEach [e] env = (false, eval e env) :: starEach [] env) (g3 : ∀ env, eval (.Call (.Name "range" np) [e] [] pos) env = (do callWith pos (← eval (.Name "range" np) env) [] (backTo pos (starEach [e] env)) (backToKw pos (keywordEach [] env)))) :
    Itr sc rm fz (.Call (.Name "range" np) [e] [] pos) (fun Q X st => T (fun v st₁ => match v with
      | .int i => 0 ≤ i ∧ i ≤ 65536 ∧ Q ((List.range i.toNat).map fun (k : Nat) => V.int (k : Int)) st₁
      | _ => False) X st) := by
  intro c G hs Q X st I μ s K E' z t inv q x
  have hA := A_handled G (room_pos h1 hs)
  refine Call_ (hf.use G hs (Q := fun v st' => v = .obj (.type "range") ∧ st' = st) z ⟨rfl, rfl⟩ inv ?_ x) (g3 _)
  rintro _ f st₁ I₁ μ₁ h₁' tk₁ ⟨rfl, rfl⟩ inv₁ k₁ p₁ r₁ z₁
  cases r₁
  refine PyProof.Rows.callWith_type1 ((evs_cons (pos := pos) h evs_nil g1).use G hs (Q := fun vs st₁ => match vs with
      | [.int i] => 0 ≤ i ∧ i ≤ 65536 ∧ Q ((List.range i.toNat).map fun (k : Nat) => V.int (k : Int)) st₁
      | _ => False) (st := st₁) z₁ ?_ inv₁ ?_ (x.up k₁ p₁)) (g1 _)
  · have e : (fun v (st₁ : St) => match [v] with
      | [V.int i] => 0 ≤ i ∧ i ≤ 65536 ∧ Q ((List.range i.toNat).map fun (k : Nat) => V.int (k : Int)) st₁
      | _ => False) = (fun v st₁ => match v with
      | V.int i => 0 ≤ i ∧ i ≤ 65536 ∧ Q ((List.range i.toNat).map fun (k : Nat) => V.int (k : Int)) st₁
      | _ => False) := by funext v st'; cases v <;> rfl
    show T (fun v st₁ => _) X st₁
    rw [e]; exact t
  intro vb b st₂ I₂ μ₂ h₂' tk₂ t₂ inv₂ k₂ p₂ r₂ z₂
  split at t₂
  · rename_i i
    cases r₂ with | cons r3 r4 =>
    cases r4
    cases r3 with | int _ t3 =>
    obtain ⟨h0, hn, t₂⟩ := t₂
    obtain ⟨n, rfl⟩ := Int.eq_ofNat_of_zero_le h0
    refine call_range_1 ?_
    have inv₃ := inv₂.push { cls := .type "range", data := .fields #[.int 0 tk₂, .int (n : Int) t3, .int 1 (tk₂ + 1)] }
    refine wpAny_pyIter_range (IsRange.new ..) (small_range (by omega)) ?_
    refine q _ _ I₂ μ₂ _ _ _ [_] _ (fun i h => IsRangeIter h _ (0 + (i : Nat) * 1) ((n : Int) - (i : Nat)) 1) t₂ (inv₃.push _) (stays_trans k₁ k₂) (p₁.trans p₂) (Nat.succ_pos _) (WkS.mk (by
      rw [List.length_map, List.length_range, Int.toNat_natCast]; exact (Walks.range hA _ 0 1 n).bound) (fun i v hv => ?_) (fun i h st => ⟨_, _, st, rfl⟩) (fun i h st => ⟨_, _, st, rfl, by decide⟩) (fun b hb => .inl (by simpa using hb)) (low_new inv₃ (Heap.none_size _))) ?_
    · obtain ⟨hi, u, rfl⟩ := hv
      refine ⟨.int i, ?_, ?_⟩
      · rw [List.getElem?_map, List.getElem?_range (by simpa using hi)]; rfl
      · simpa using VR.int i u
    · show Heap.get? (Heap.push _ _) _ = _
      rw [Heap.get?_push_size _ (by rfl), rangeSize_nat]
      simp
  · exact t₂.elim
end
end Mine
namespace Mine
theorem rec_hid {c : Cx} {I : Heap} {μ : List Addr} {st : St} {h : Heap} (inv : Inv c I μ st h) {J : Addr} {o : Obj} {vs : Array Value} (e : h.get? J = some o) (d : o.data = .fields vs) : (hid c μ h).get? J = some o := by
  refine hideAll_get _ e fun hb => ?_
  rcases List.mem_append.mp hb with hb | hb
  · rcases List.mem_cons.mp hb with rfl | hb
    · obtain ⟨m, F, _⟩ := inv.fr
      obtain ⟨o', _, _, q, w, _⟩ := F.ns
      rw [e] at q; cases q; rw [d] at w; cases w
    rcases List.mem_cons.mp hb with rfl | hb
    · obtain ⟨_, o', _, _, q, w⟩ := inv.frame
      rw [e] at q; cases q; rw [d] at w; cases w
    · obtain ⟨_, _, o', _, _, _, q, _, w⟩ := inv.avoid _ hb
      rw [e] at q; cases q; rw [d] at w; cases w
  · obtain ⟨k, hk⟩ := List.getElem?_of_mem hb
    have hlt := (List.getElem?_eq_some_iff.mp hk).1
    rw [inv.led.1] at hlt
    obtain ⟨us, n, q, _⟩ := inv.led.2.2 k _ _ hk (List.getElem?_eq_getElem hlt)
    rw [e] at q; cases q; cases d
section
variable {sc : Scope} {rm : Nat} {pos : Pos}
theorem exq_narrow {c : Cx} {I I' : Heap} {μ μ' : List Addr} {st : St} {h : Heap} {s s' : Shared} {X : Exc → St → Prop} {E' : Value → Shared → Prop} (G : Good c) (inv : Inv c I μ st h) (x : ExQ c I' μ' s X E') (h' : Heap) (tk : Nat) (e : s' = { s with heap := h', toks := tk }) : ExQ (c.narrow μ h) I' μ' s' X E' := by
  subst e
  exact fun xx e st' I' μ' h' tk hx f k p => x xx e st' I' μ' h' tk hx (widen_exf G inv f) k p
theorem ex_for {x : Str} {i : Nat} {np : Pos} {iter : PySem.Expr} {body : List Stmt} {T₁ : Tr (List V)} {T₂ : Tr Fl} (hI : Itr sc rm false iter T₁) (hB : Exs sc rm body T₂) (hi : idxIn sc.names x = some i) (hl : sc.names.lookup x = some .local) (h1 : 1 ≤ rm)
    (hsf : ∀ env x, foldedSetIterable iter env x = pure x) :
    Ex sc rm (.For (.Name x np) iter body [] pos) (fun Q X st => T₁ (fun items st₁ => ∃ P : Nat → St → Prop, P 0 st₁ ∧ ∀ k st₂, P k st₂ → st₂.σ.pend = none ∧
      (∀ v, items[k]? = some v → T₂ (fun f st₃ => match f with | .next => P (k + 1) st₃ | .cont => P (k + 1) st₃ | .brk => Q .next st₃ | .ret v => Q (.ret v) st₃) X { st₂ with vars := st₂.vars.set i (some v) }) ∧ (k = items.length → Q .next st₂)) X st) := by
  intro c G hs Q X st I μ s Q' E' z t inv q x
  have hnd := G.nohd (room_pos h1 hs)
  refine wpAny_For (hI c G hs _ X st I μ s _ E' z t inv ?_ x) (hsf _)
  intro items st₁ I₁ μ₁ h₁ tk₁ J fp P₀ S t₁ inv₁ k₁ p₁ z₁ wk s0
  obtain ⟨P, p0, turn⟩ := t₁
  refine codeAny_forLoop (fun n s' => ∃ k st₂ I₂ μ₂ h₂ tk₂, n = items.length + 1 - k ∧ k ≤ items.length ∧ P k st₂ ∧ Inv c I₂ μ₂ st₂ h₂ ∧ I₁.StaysIn I₂ ∧ μ₁ <+: μ₂ ∧ 0 < tk₂ ∧ S k h₂ ∧ s' = { s with heap := h₂, toks := tk₂ }) ?_ (items.length + 1)
    ⟨0, st₁, I₁, μ₁, h₁, tk₁, rfl, Nat.zero_le _, p0, inv₁, fun _ _ e => e, List.prefix_refl _, z₁, s0, rfl⟩
  rintro n _ ⟨k, st₂, I₂, μ₂, h₂, tk₂, rfl, hk, p, inv₂, kk, pp, zz, sk, rfl⟩
  obtain ⟨hp, hbody, hend⟩ := turn k st₂ p
  have x₂ : ExQ c I₂ μ₂ { s with heap := h₂, toks := tk₂ } X E' := x.up (stays_trans k₁ kk) (p₁.trans pp)
  have x' := exq_loop G x₂
  by_cases hlt : k < items.length
  · refine wpAny_with_toks (n := 1) zz (wk.W.item k _ _ _ hlt sk fun v h₃ tk₃ pv sk₃ hk₃ z₃ => ?_)
    obtain ⟨u, hu, ru⟩ := wk.val k v pv
    have inv₃ : Inv c I₂ μ₂ st₂ h₃ := inv₂.tick hp hnd wk.low (wk.live k h₂ sk) (fun b o hb e => hk₃ b o (by simpa using hb) e)
    have G₃ := narrow_good G inv₃
    have inv₃' := narrow_inv inv₃ hp
    obtain ⟨rfl, hrm⟩ := hs
    refine wpAny_assign_Name (wpAny_with_toks (n := 1) z₃ (store_ok (c := c.narrow μ₂ h₃) (s := { s with heap := h₃, toks := tk₃ }) G₃ hi hl inv₃' (ru.up kk pp) fun h₄ tk₄ inv₄ z₄ => ?_))
    refine hB.use (c := c.narrow μ₂ h₃) G₃ ⟨rfl, hrm⟩ (s := { s with heap := h₄, toks := tk₄ }) z₄ (hbody u hu) inv₄ ?_ (exq_narrow G inv₃ x' h₄ tk₄ rfl)
    intro vb b st₅ I₅ μ₅ h₅ tk₅ t₅ inv₅ k₅ p₅ r₅ z₅
    have inv₆ := widen_back G inv₃ inv₅
    have s₅ : S (k + 1) h₅ := wk.W.frame (k + 1) h₃ h₅ sk₃ fun b hb o e => by
      rcases wk.src b hb with rfl | ⟨o', hI⟩ | hm
      · obtain ⟨oJ, vJ, eJ, dJ⟩ := wk.live (k + 1) h₃ sk₃
        rw [eJ] at e; cases e
        obtain ⟨m, F, _⟩ := inv₅.fr
        exact F.keep _ _ (rec_hid inv₃ eJ dJ)
      · have e' := inv₃.stays _ _ (kk _ _ hI)
        rw [e'] at e; cases e
        exact inv₆.stays _ _ (k₅ _ _ (kk _ _ hI))
      · simp at hm
    have q₅ := (q.up (h₁ := h₅) (t₁ := tk₅) (stays_trans k₁ (stays_trans kk k₅)) (p₁.trans (pp.trans p₅)))
    cases r₅ with
    | next => exact ⟨_, by omega, k + 1, st₅, I₅, μ₅, h₅, tk₅, rfl, hlt, t₅, inv₆, stays_trans kk k₅, pp.trans p₅, z₅, s₅, rfl⟩
    | cont => exact ⟨_, by omega, k + 1, st₅, I₅, μ₅, h₅, tk₅, rfl, hlt, t₅, inv₆, stays_trans kk k₅, pp.trans p₅, z₅, s₅, rfl⟩
    | brk => exact same_heap q₅ t₅ inv₆ .next
    | ret r => exact same_heap q₅ t₅ inv₆ (.ret r)
  · have hke : k = items.length := by omega
    subst hke
    refine wk.W.done _ _ _ sk fun h₃ tk₃ hk₃ => ?_
    have inv₃ : Inv c I₂ μ₂ st₂ h₃ := inv₂.tick hp hnd wk.low (wk.live _ h₂ sk) (fun b o hb e => hk₃ b o (by simpa using hb) e)
    exact wpAny_execs_nil ((q.up (h₁ := h₂) (t₁ := tk₂) (stays_trans k₁ kk) (p₁.trans pp)) _ _ _ _ _ h₃ tk₃ (hend rfl) inv₃ (fun _ _ e => e) (List.prefix_refl _) .next)
end
end Mine
namespace Mine
/-! what a target takes -/
noncomputable def Bnd (sc : Scope) (t : PySem.Expr) (B : V → List (Option V) → Option (List (Option V))) : Prop :=
  ∀ (c : Cx), Good c → c.scope = sc → 0 < c.room → ∀ u val vars' st I μ s Q' E', 0 < s.toks → B u st.vars = some vars' → Inv c I μ st s.heap → VR I μ u val →
    (∀ h' tk, 0 < tk → Inv c I μ { st with vars := vars' } h' → Q' () { s with heap := h', toks := tk }) → wpAny (model c.prog c.w) c.A (assign t c.env val) Q' E' s
theorem store_okT {c : Cx} (G : Good c) {I : Heap} {μ : List Addr} {st : St} {s : Shared} {x : Str} {i : Nat} {v : V} {val : Value} {E' : Value → Shared → Prop} {Q' : Unit → Shared → Prop} (z : 0 < s.toks) (hi : idxIn c.scope.names x = some i) (hl : c.scope.names.lookup x = some .local)
    (inv : Inv c I μ st s.heap) (r : VR I μ v val) (q : ∀ h' tk, 0 < tk → Inv c I μ { st with vars := st.vars.set i (some v) } h' → Q' () { s with heap := h', toks := tk }) :
    wpAny (model c.prog c.w) c.A (storeName c.env x val) Q' E' s :=
  wpAny_with_toks (n := 1) z (store_ok G hi hl inv r fun h' tk i' z' => q h' tk z' i')
noncomputable def bName (i : Nat) (u : V) (vars : List (Option V)) : Option (List (Option V)) := some (vars.set i (some u))
theorem bnd_name {sc : Scope} {x : Str} {i : Nat} {p : Pos} (hi : idxIn sc.names x = some i) (hl : sc.names.lookup x = some .local) : Bnd sc (.Name x p) (bName i) := by
  intro c G hs hr u val vars' st I μ s Q' E' z e inv r q
  subst hs
  cases e
  exact wpAny_assign_Name (store_okT G z hi hl inv r q)
theorem tup_is {I : Heap} {μ : List Addr} {l : List V} {x : Value} {h : Heap} (r : VR I μ (.tup l) x) (k : I.StaysIn h) : ∃ a vs, x = .ref a ∧ IsTup h a vs ∧ VRs I μ l vs.toList := by
  cases r with | @tup _ a o vs n a1 a2 a3 a4 =>
  exact ⟨a, vs, rfl, ⟨o, k _ _ a1, a2, n, a3⟩, a4⟩
theorem pair_is {I : Heap} {μ : List Addr} {a b : V} {x : Value} {h : Heap} (r : VR I μ (.tup [a, b]) x) (k : I.StaysIn h) : ∃ ad v1 v2, x = .ref ad ∧ IsTup h ad #[v1, v2] ∧ VR I μ a v1 ∧ VR I μ b v2 := by
  obtain ⟨ad, vs, rfl, ht, rs⟩ := tup_is r k
  obtain ⟨vs⟩ := vs
  cases rs with | cons r1 rs =>
  cases rs with | cons r2 rs =>
  cases rs
  exact ⟨ad, _, _, rfl, ht, r1, r2⟩
theorem triple_is {I : Heap} {μ : List Addr} {a b d : V} {x : Value} {h : Heap} (r : VR I μ (.tup [a, b, d]) x) (k : I.StaysIn h) : ∃ ad v1 v2 v3, x = .ref ad ∧ IsTup h ad #[v1, v2, v3] ∧ VR I μ a v1 ∧ VR I μ b v2 ∧ VR I μ d v3 := by
  obtain ⟨ad, vs, rfl, ht, rs⟩ := tup_is r k
  obtain ⟨vs⟩ := vs
  cases rs with | cons r1 rs =>
  cases rs with | cons r2 rs =>
  cases rs with | cons r3 rs =>
  cases rs
  exact ⟨ad, _, _, _, rfl, ht, r1, r2, r3⟩
theorem keeps_of_extBut {h h' : Heap} (he : Heap.ExtBut h.objs.size h h') : ∀ b o, h.get? b = some o → h'.get? b = some o := fun b o e => he b o (Nat.ne_of_lt (Heap.lt_size e)) e
noncomputable def bTup2 (i j : Nat) : V → List (Option V) → Option (List (Option V))
  | .tup [a, b], vars => some ((vars.set i (some a)).set j (some b))
  | _, _ => none
theorem bnd_tup2 {sc : Scope} {x y : Str} {i j k : Nat} {p p' pos : Pos} (hi : idxIn sc.names x = some i) (hl : sc.names.lookup x = some .local) (hj : idxIn sc.names y = some j) (hm : sc.names.lookup y = some .local) :
    Bnd sc (.Tuple [.Name x p, .Name y p'] k pos) (bTup2 i j) := by
  intro c G hs hr u val vars' st I μ s Q' E' z e inv r q
  subst hs
  unfold bTup2 at e
  split at e
  · cases e
    obtain ⟨a, vs, rfl, ht, rs⟩ := tup_is r inv.stays
    obtain ⟨vs⟩ := vs
    cases rs with | cons r1 rs =>
    cases rs with | cons r2 rs =>
    cases rs
    refine assign_Tuple_tuple (A_handled G hr) ht rfl rfl fun h' he => ?_
    have inv₁ := inv.keeps (keeps_of_extBut he)
    refine assignInOrder_cons (PyProof.Rows.assign_Name (store_okT (s := { s with heap := h' }) G z hi hl inv₁ r1 fun h₁ tk₁ z₁ i₁ => ?_))
    exact assignInOrder_cons (PyProof.Rows.assign_Name (store_okT (s := { s with heap := h₁, toks := tk₁ }) G z₁ hj hm i₁ r2 fun h₂ tk₂ z₂ i₂ => assignInOrder_nil (q h₂ tk₂ z₂ i₂)))
  · cases e
noncomputable def bTup3 (i j k : Nat) : V → List (Option V) → Option (List (Option V))
  | .tup [a, b, c], vars => some (((vars.set i (some a)).set j (some b)).set k (some c))
  | _, _ => none
theorem bnd_tup3 {sc : Scope} {x y w : Str} {i j l k : Nat} {p p' p'' pos : Pos} (hi : idxIn sc.names x = some i) (hl : sc.names.lookup x = some .local) (hj : idxIn sc.names y = some j) (hm : sc.names.lookup y = some .local) (hw : idxIn sc.names w = some l) (hn : sc.names.lookup w = some .local) :
    Bnd sc (.Tuple [.Name x p, .Name y p', .Name w p''] k pos) (bTup3 i j l) := by
  intro c G hs hr u val vars' st I μ s Q' E' z e inv r q
  subst hs
  unfold bTup3 at e
  split at e
  · cases e
    obtain ⟨a, vs, rfl, ht, rs⟩ := tup_is r inv.stays
    obtain ⟨vs⟩ := vs
    cases rs with | cons r1 rs =>
    cases rs with | cons r2 rs =>
    cases rs with | cons r3 rs =>
    cases rs
    refine assign_Tuple_tuple (A_handled G hr) ht rfl rfl fun h' he => ?_
    have inv₁ := inv.keeps (keeps_of_extBut he)
    refine assignInOrder_cons (PyProof.Rows.assign_Name (store_okT (s := { s with heap := h' }) G z hi hl inv₁ r1 fun h₁ tk₁ z₁ i₁ => ?_))
    refine assignInOrder_cons (PyProof.Rows.assign_Name (store_okT (s := { s with heap := h₁, toks := tk₁ }) G z₁ hj hm i₁ r2 fun h₂ tk₂ z₂ i₂ => ?_))
    exact assignInOrder_cons (PyProof.Rows.assign_Name (store_okT (s := { s with heap := h₂, toks := tk₂ }) G z₂ hw hn i₂ r3 fun h₃ tk₃ z₃ i₃ => assignInOrder_nil (q h₃ tk₃ z₃ i₃)))
  · cases e
section
variable {sc : Scope} {rm : Nat} {pos : Pos}
theorem ex_assignT {es : List PySem.Expr} {k : Nat} {tp : Pos} {e : PySem.Expr} {T : Tr V} {B} (h : Ev sc rm e T) (hB : Bnd sc (.Tuple es k tp) B) (h1 : 1 ≤ rm)
    (hsw : ∀ env, swapsWithSole [.Tuple es k tp] e pos.line env = pure false) (hw : ∀ env : Env, env.scope = sc → swappedStores [.Tuple es k tp] e env = pure none) :
    Ex sc rm (.Assign [.Tuple es k tp] e pos) (fun Q X st => T (fun v st₁ => match B v st₁.vars with | some vars' => Q .next { st₁ with vars := vars' } | none => False) X st) := by
  intro c G hs Q X st I μ s Q' E' z t inv q x
  refine Assign_Tuple (h.use G hs z t inv ?_ x) (hsw _) (hw _ hs.1)
  intro va a st₁ I₁ μ₁ h₁' tk₁ t₁ inv₁ k₁ p₁ r₁ z₁
  split at t₁
  · rename_i vars' e
    exact hB c G hs.1 (room_pos h1 hs) va a vars' st₁ I₁ μ₁ _ _ _ z₁ e inv₁ r₁ fun h' tk _ inv' => (q.up (h₁ := h₁') (t₁ := tk₁) k₁ p₁) _ _ _ _ _ h' tk t₁ inv' (fun _ _ e => e) (List.prefix_refl _) .next
  · exact t₁.elim
/-- a pair laid into two names from behind -/
theorem ex_assignS2 {x0 y : Str} {i j k : Nat} {p p' tp : Pos} {e : PySem.Expr} {T : Tr V} (h : Ev sc rm e T) (hi : idxIn sc.names x0 = some i) (hl : sc.names.lookup x0 = some .local) (hj : idxIn sc.names y = some j) (hm : sc.names.lookup y = some .local) (h1 : 1 ≤ rm)
    (hsw : ∀ env, swapsWithSole [.Tuple [.Name x0 p, .Name y p'] k tp] e pos.line env = pure false) (hw : ∀ env : Env, env.scope = sc → swappedStores [.Tuple [.Name x0 p, .Name y p'] k tp] e env = pure (some [x0, y])) :
    Ex sc rm (.Assign [.Tuple [.Name x0 p, .Name y p'] k tp] e pos) (fun Q X st => T (fun v st₁ => match v with | .tup [a, b] => Q .next { st₁ with vars := (st₁.vars.set j (some b)).set i (some a) } | _ => False) X st) := by
  intro c G hs Q X st I μ s Q' E' z t inv q x
  refine Assign_Tuple_swapped (h.use G hs z t inv ?_ x) (hsw _) (hw _ hs.1)
  intro va a st₁ I₁ μ₁ h₁' tk₁ t₁ inv₁ k₁ p₁ r₁ z₁
  obtain ⟨rfl, hrm⟩ := hs
  split at t₁
  · obtain ⟨ad, v1, v2, rfl, ht, r1, r2⟩ := pair_is r₁ inv₁.stays
    show wpAny _ _ (unpackItems (.ref ad) (#[v1, v2] : Array Value).size none) _ _ _
    refine unpackItems_tuple (A_handled G (Nat.lt_of_lt_of_le h1 hrm)) ht fun h' he => ?_
    show wpAny _ _ (assignInOrder [fun v => bindName c.env y v, fun v => bindName c.env x0 v] [v2, v1]) _ _ _
    have inv₂ := inv₁.keeps (keeps_of_extBut he)
    refine assignInOrder_cons (bindName_ (store_okT (s := { s with heap := h', toks := tk₁ }) G z₁ hj hm inv₂ r2 fun h₂ tk₂ z₂ i₂ => ?_))
    exact assignInOrder_cons (bindName_ (store_okT (s := { s with heap := h₂, toks := tk₂ }) G z₂ hi hl i₂ r1 fun h₃ tk₃ z₃ i₃ => assignInOrder_nil ((q.up (h₁ := h₁') (t₁ := tk₁) k₁ p₁) _ _ _ _ _ h₃ tk₃ t₁ i₃ (fun _ _ e => e) (List.prefix_refl _) .next)))
  · exact t₁.elim
theorem ex_assignS3 {x0 y w : Str} {i j l k : Nat} {p p' p'' tp : Pos} {e : PySem.Expr} {T : Tr V} (h : Ev sc rm e T) (hi : idxIn sc.names x0 = some i) (hl : sc.names.lookup x0 = some .local) (hj : idxIn sc.names y = some j) (hm : sc.names.lookup y = some .local) (hk : idxIn sc.names w = some l) (hn : sc.names.lookup w = some .local) (h1 : 1 ≤ rm)
    (hsw : ∀ env, swapsWithSole [.Tuple [.Name x0 p, .Name y p', .Name w p''] k tp] e pos.line env = pure false) (hw : ∀ env : Env, env.scope = sc → swappedStores [.Tuple [.Name x0 p, .Name y p', .Name w p''] k tp] e env = pure (some [x0, y, w])) :
    Ex sc rm (.Assign [.Tuple [.Name x0 p, .Name y p', .Name w p''] k tp] e pos) (fun Q X st => T (fun v st₁ => match v with | .tup [a, b, d] => Q .next { st₁ with vars := ((st₁.vars.set l (some d)).set j (some b)).set i (some a) } | _ => False) X st) := by
  intro c G hs Q X st I μ s Q' E' z t inv q x
  refine Assign_Tuple_swapped (h.use G hs z t inv ?_ x) (hsw _) (hw _ hs.1)
  intro va a st₁ I₁ μ₁ h₁' tk₁ t₁ inv₁ k₁ p₁ r₁ z₁
  obtain ⟨rfl, hrm⟩ := hs
  split at t₁
  · obtain ⟨ad, v1, v2, v3, rfl, ht, r1, r2, r3⟩ := triple_is r₁ inv₁.stays
    show wpAny _ _ (unpackItems (.ref ad) (#[v1, v2, v3] : Array Value).size none) _ _ _
    refine unpackItems_tuple (A_handled G (Nat.lt_of_lt_of_le h1 hrm)) ht fun h' he => ?_
    show wpAny _ _ (assignInOrder [fun v => bindName c.env w v, fun v => bindName c.env y v, fun v => bindName c.env x0 v] [v3, v2, v1]) _ _ _
    have inv₂ := inv₁.keeps (keeps_of_extBut he)
    refine assignInOrder_cons (bindName_ (store_okT (s := { s with heap := h', toks := tk₁ }) G z₁ hk hn inv₂ r3 fun h₂ tk₂ z₂ i₂ => ?_))
    refine assignInOrder_cons (bindName_ (store_okT (s := { s with heap := h₂, toks := tk₂ }) G z₂ hj hm i₂ r2 fun h₃ tk₃ z₃ i₃ => ?_))
    exact assignInOrder_cons (bindName_ (store_okT (s := { s with heap := h₃, toks := tk₃ }) G z₃ hi hl i₃ r1 fun h₄ tk₄ z₄ i₄ => assignInOrder_nil ((q.up (h₁ := h₁') (t₁ := tk₁) k₁ p₁) _ _ _ _ _ h₄ tk₄ t₁ i₄ (fun _ _ e => e) (List.prefix_refl _) .next)))
  · exact t₁.elim
end
end Mine
namespace Mine
/-! the names a comprehension has from around -/
noncomputable def clos (cells : List (Str × Addr)) : List (Str × NameKind) → List (Str × Addr) → List (Str × Addr)
  | [], acc => acc
  | (n, k) :: r, acc => clos cells r (if k == .free then (n, (cells.lookup n).getD 0) :: acc else acc)
theorem clos_ok {env : Env} {scope : Scope} (h : ∀ x ∈ scope.names, x.2 = .free → ∃ a, env.cells.lookup x.1 = some a) : closureFor scope env = pure (clos env.cells scope.names []) := by
  unfold closureFor
  have key : ∀ (l : List (Str × NameKind)) (acc : List (Str × Addr)), (∀ x ∈ l, x.2 = .free → ∃ a, env.cells.lookup x.1 = some a) →
      (forIn l acc fun x cs => (match x with | (name, kind) => if kind == .free then do let a ← cellOf env name; pure (ForInStep.yield ((name, a) :: cs)) else pure (ForInStep.yield cs) : Sem (ForInStep (List (Str × Addr))))) = pure (clos env.cells l acc) := by
    intro l
    induction l with
    | nil => intro acc _; rfl
    | cons x r ih =>
      intro acc h
      obtain ⟨n, k⟩ := x
      rw [List.forIn_cons]
      unfold clos
      cases hk : (k == NameKind.free) with
      | false =>
        simp only [hk, Bool.false_eq_true, if_false]
        exact ih acc fun x hx => h x (.tail _ hx)
      | true =>
        obtain ⟨a, ha⟩ := h (n, k) (.head _) (eq_of_beq hk)
        simp only [hk, if_true, cellOf, ha, Option.getD_some]
        exact ih _ fun x hx => h x (.tail _ hx)
  have := key scope.names [] h
  exact (congrArg (fun t : Sem (List (Str × Addr)) => t >>= fun s => pure s) this).trans rfl
theorem clos_lookup {cells : List (Str × Addr)} {y : Str} : ∀ {l : List (Str × NameKind)} {acc : List (Str × Addr)}, (∀ p ∈ acc, p.2 = (cells.lookup p.1).getD 0) → (y ∈ acc.map (·.1) ∨ (y, NameKind.free) ∈ l) → (clos cells l acc).lookup y = some ((cells.lookup y).getD 0)
  | [], acc, ha, h => by
    unfold clos
    rcases h with h | h
    · induction acc with
      | nil => cases h
      | cons p r ih =>
        obtain ⟨a, b⟩ := p
        rw [List.lookup_cons]
        cases q : y == a with
        | true => rw [eq_of_beq q]; exact congrArg some (ha (a, b) (.head _))
        | false =>
          refine ih (fun p hp => ha p (.tail _ hp)) ?_
          rcases List.mem_cons.mp h with w | w
          · rw [show y = a from w, beq_self_eq_true] at q; cases q
          · exact w
    · cases h
  | (n, k) :: r, acc, ha, h => by
    unfold clos
    refine clos_lookup (fun p hp => ?_) ?_
    · split at hp
      · rcases List.mem_cons.mp hp with rfl | hp
        · rfl
        · exact ha p hp
      · exact ha p hp
    · rcases h with h | h
      · left; split
        · exact .tail _ h
        · exact h
      · rcases List.mem_cons.mp h with w | w
        · cases w; left; simp
        · exact .inr w
noncomputable def relS (scope sc : Scope) : Scope := { scope with names := scope.names.map fun (n, k) => if (k == .free && sc.kind == .function && sc.names.lookup n == some .cell) then (n, .cell) else (n, k) }
theorem relS_eq (scope : Scope) (env : Env) : relabel scope env = relS scope env.scope := rfl
/-- all free names are cells around -/
noncomputable def cvOk (scope sc : Scope) (cv : List (Option V)) : Bool := scope.names.all fun (n, k) => k != .free || (match cidx sc.names n with | some j => (cv.getD j none).isSome | none => false)
noncomputable def cvOf (scope sc : Scope) (cv : List (Option V)) : List (Option V) := (relS scope sc).names.map fun (n, k) => if k = .cell then (match cidx sc.names n with | some j => (match cv.getD j none with | some v => if nl v then some v else none | none => none) | none => none) else none
/-- a comprehension's frame -/
noncomputable def Cx.comp (c : Cx) (scope : Scope) (cl : List (Str × Addr)) (C D : Addr) (μ : List Addr) (h : Heap) : Cx :=
  { c with scope := relS scope c.scope, L := C, cells := cl, func := none, h₀ := hideAll h (C :: c.L :: c.fp :: c.avoid), avoid := c.L :: c.avoid, snap := h, shy := D :: μ ++ c.shy }
section
variable {c : Cx} {I : Heap} {μ : List Addr} {st : St} {h : Heap} {scope : Scope} {cl : List (Str × Addr)} {C D : Addr}
theorem comp_h₀ (G : Good c) (inv : Inv c I μ st h) (hC : c.h₀.get? C = none) : c.h₀.StaysIn (c.comp scope cl C D μ h).h₀ := fun b ob e => by
  obtain ⟨m, F, _⟩ := inv.fr
  refine hideAll_get _ (F.keep b ob e) fun hb => ?_
  rcases List.mem_cons.mp hb with rfl | hb
  · rw [hC] at e; cases e
  rcases List.mem_cons.mp hb with rfl | hb
  · rw [F.off] at e; cases e
  · rw [G.hid b hb] at e; cases e
theorem comp_good (G : Good c) (inv : Inv c I μ st h) (hC : c.h₀.get? C = none) (hCL : C ∉ c.L :: c.avoid) (hk : scope.kind = .function) : Good (c.comp scope cl C D μ h) :=
  ⟨G.stack, fun env he => let ⟨a, L, b, d⟩ := G.frames env he; ⟨a, L, b, .tail _ d⟩, G.K.keeps (comp_h₀ G inv hC), G.top.keeps (comp_h₀ G inv hC), hk, G.ffn, hCL, fun a ha => hideAll_none _ (by
    rcases List.mem_cons.mp ha with q | ha
    · have q : a = c.fp := q
      simp [q]
    · rcases List.mem_cons.mp ha with rfl | ha
      · simp
      · simp [ha]), G.handled, G.hd, G.depth, G.units⟩
theorem getD_some {α : Type} {l : List (Option α)} {j : Nat} {v : α} (h : l.getD j none = some v) : l[j]? = some (some v) := by
  rw [List.getD_eq_getElem?_getD] at h
  cases e : l[j]? with
  | none => rw [e] at h; cases h
  | some x => rw [e] at h; exact congrArg some h
theorem cidx_name : ∀ {names : List (Str × NameKind)} {x : Str} {i : Nat}, cidx names x = some i → names[i]? = some (x, .cell)
  | [], _, _, h => nomatch h
  | (y, k) :: r, x, i, h => by
    unfold cidx at h
    split at h
    · rename_i e
      split at h
      · rename_i q; cases h; simp [e, q]
      · cases h
    · obtain ⟨j, hj, rfl⟩ := Option.map_eq_some_iff.mp h
      simpa using cidx_name hj
theorem comp_inv (inv : Inv c I μ st h) (hp : st.σ.pend = none) (hn : c.hd = none) {m : Str → Option Value} (hns : h.Ns C m) (hIC : I.get? C = none) (hID : I.get? D = none) (hD : ∃ o, h.get? D = some o ∧ ∀ vs, o.data ≠ .fields vs)
    (hcells : ∀ y ∈ scope.names, y.2 ≠ .cell) (hcl : ∀ y a, (y, NameKind.free) ∈ scope.names → c.cells.lookup y = some a → cl.lookup y = some a) :
    Inv (c.comp scope cl C D μ h) I [] ⟨List.replicate (relS scope c.scope).names.length none, ⟨[], none⟩, cvOf scope c.scope st.cv⟩ h := by
  obtain ⟨m₀, F, L⟩ := inv.fr
  refine ⟨⟨m, ⟨hns, fun b o e => of_hideAll _ e, hideAll_none _ (.head _)⟩, fun x i v _ hv => ?_⟩, ⟨rfl, .nil, fun k a l e => by cases e⟩, inv.stays, hIC, inv.nof, fun a ha => ?_, fun a ha => ?_, inv.frame, fun x j v hj hv => ?_, fun e x q => (by cases q), fun v q => (by have q : c.hd = some v := q; rw [hn] at q; cases q)⟩
  · rw [List.getElem?_replicate] at hv
    split at hv <;> cases hv
  · rcases List.mem_cons.mp ha with rfl | ha
    · obtain ⟨o, es, n, e, d, _⟩ := F.ns
      exact ⟨inv.own, o, o, es, n, e, e, .refl _, d⟩
    · obtain ⟨a1, o, o', es, n, _, e, _, d⟩ := inv.avoid a ha
      exact ⟨a1, o', o', es, n, e, e, .refl _, d⟩
  · rcases List.mem_append.mp ha with ha | ha
    · rcases List.mem_cons.mp ha with rfl | ha
      · exact ⟨hID, hD⟩
      · obtain ⟨k, hk⟩ := List.getElem?_of_mem ha
        have hlt := (List.getElem?_eq_some_iff.mp hk).1
        rw [inv.led.1] at hlt
        obtain ⟨us, n, q, _, _, _, q5⟩ := inv.led.2.2 k _ _ hk (List.getElem?_eq_getElem hlt)
        exact ⟨q5, _, q, fun vs w => by cases w⟩
    · exact inv.shy a ha
  · have hm := cidx_name hj
    have hm : (relS scope c.scope).names[j]? = some (x, .cell) := hm
    unfold cvOf at hv
    rw [List.getElem?_map, hm] at hv
    simp only [Option.map_some, if_true, Option.some.injEq] at hv
    split at hv
    · rename_i j0 hj0
      split at hv
      · rename_i v' hv'
        split at hv
        · rename_i hnl
          cases hv
          obtain ⟨a, o, val, h1, h2, h3, h4⟩ := inv.cells x j0 v hj0 (getD_some hv')
          refine ⟨a, o, val, hcl x a ?_ h1, h2, h3, h4.any [] hnl⟩
          unfold relS at hm
          rw [List.getElem?_map] at hm
          obtain ⟨⟨y, k⟩, hy, e⟩ := Option.map_eq_some_iff.mp hm
          dsimp only at e
          split at e
          · rename_i q
            cases e
            simp only [Bool.and_eq_true, beq_iff_eq] at q
            rw [← q.1.1]; exact List.mem_of_getElem? hy
          · cases e
            exact absurd rfl (hcells _ (List.mem_of_getElem? hy))
        · cases hv
      · cases hv
    · cases hv
theorem comp_back (G : Good c) (inv : Inv c I μ st h) (hp : st.σ.pend = none) (hn : c.hd = none) (hC : c.h₀.get? C = none) (hCμ : C ∉ c.L :: c.fp :: c.avoid ++ μ) {I' : Heap} {μ' : List Addr} {st' : St} {h' : Heap} (i : Inv (c.comp scope cl C D μ h) I' μ' st' h') (k : I.StaysIn I') :
    Inv c I' μ st h' ∧ (∃ m, h'.Ns C m) ∧ (∀ b o, h.get? b = some o → b ∉ C :: c.L :: c.fp :: c.avoid → h'.get? b = some o) ∧ I'.get? C = none ∧ I'.get? D = none := by
  obtain ⟨m₀, F, L⟩ := inv.fr
  obtain ⟨m, F', _⟩ := i.fr
  have keep : ∀ b o, h.get? b = some o → b ∉ C :: c.L :: c.fp :: c.avoid → h'.get? b = some o := fun b o e nb => F'.keep b o (hideAll_get _ e nb)
  have av : ∀ a ∈ c.L :: c.avoid, I'.get? a = none ∧ ∃ o o' es n, h.get? a = some o ∧ h'.get? a = some o' ∧ UpS o o' ∧ o'.data = .dict es n := fun a ha => i.avoid a ha
  have sh : ∀ a ∈ D :: μ ++ c.shy, I'.get? a = none ∧ ∃ o, h'.get? a = some o ∧ ∀ vs, o.data ≠ .fields vs := fun a ha => i.shy a ha
  refine ⟨⟨⟨m₀, ⟨?_, fun b o e => F'.keep b o (comp_h₀ G inv hC b o e), F.off⟩, fun y j v a b => let ⟨w, p1, p2⟩ := L y j v a b; ⟨w, p1, p2.up k (List.prefix_refl _)⟩⟩, ⟨inv.led.1, inv.led.2.1, fun j a l e1 e2 => ?_⟩, i.stays, (av c.L (.head _)).1, i.nof, fun a ha => ⟨(av a (.tail _ ha)).1, ?_⟩, fun a ha => sh a (List.mem_append_right _ ha), i.frame, fun x j v a b => let ⟨a, o, val, h1, h2, h3, h4⟩ := inv.cells x j v a b; ⟨a, o, val, h1, k _ _ h2, h3, h4.up k (List.prefix_refl _)⟩, fun e x q => (by rw [hp] at q; cases q), fun v q => (by rw [hn] at q; cases q)⟩, ⟨m, F'.ns⟩, keep, i.own, (sh D (.head _)).1⟩
  · obtain ⟨oL, es, ep, q1, q2⟩ := F.ns
    obtain ⟨_, o, o', _, _, a1, a2, r, _⟩ := av c.L (.head _)
    rw [q1] at a1; cases a1
    exact ⟨o', es, ep, a2, r.data.trans q2.1, q2.2⟩
  · obtain ⟨us, n, q1, q2, q3, q4, q5⟩ := inv.led.2.2 j a l e1 e2
    have hm : a ∈ μ := List.mem_of_getElem? e1
    refine ⟨us, n, keep _ _ q1 fun hb => ?_, q2.up k (List.prefix_refl _), q3, q4, (sh a (List.mem_append_left _ (.tail _ hm))).1⟩
    rcases List.mem_cons.mp hb with rfl | hb
    · exact hCμ (List.mem_append_right _ hm)
    rcases List.mem_cons.mp hb with rfl | hb
    · exact q3 rfl
    rcases List.mem_cons.mp hb with rfl | hb
    · obtain ⟨_, o, es, n, e, d⟩ := inv.frame
      rw [q1] at e; cases e; cases d
    · obtain ⟨_, _, o, es, n, _, e, _, d⟩ := inv.avoid a hb
      rw [q1] at e; cases e; cases d
  · obtain ⟨_, o1, o', es, n, a1, a2, r, d⟩ := av a (.tail _ ha)
    obtain ⟨_, o0, o1', _, _, b1, b2, b3, _⟩ := inv.avoid a ha
    rw [a1] at b2; cases b2
    exact ⟨o0, o', es, n, b1, a2, b3.trans r, d⟩
theorem Inv.touch {h' : Heap} (i : Inv c I μ st h) (hp : st.σ.pend = none) (hn : c.hd = none) (B : List Addr) (hB : ∀ b ∈ B, c.h₀.get? b = none ∧ I.get? b = none ∧ b ∉ c.L :: c.fp :: c.avoid ++ μ ∧ b ∉ c.shy) (hk : ∀ b o, b ∉ B → h.get? b = some o → h'.get? b = some o) : Inv c I μ st h' := by
  have ne : ∀ b, b ∈ c.L :: c.fp :: c.avoid ++ μ → b ∉ B := fun b hb q => (hB b q).2.2.1 hb
  refine ⟨?_, ⟨i.led.1, i.led.2.1, fun k a l e1 e2 => let ⟨vs, n, q1, q2⟩ := i.led.2.2 k a l e1 e2; ⟨vs, n, hk _ _ (ne _ (List.mem_append_right _ (List.mem_of_getElem? e1))) q1, q2⟩⟩, fun b o e => hk _ _ (fun q => by rw [(hB b q).2.1] at e; cases e) (i.stays b o e), i.own, i.nof,
    fun a ha => ⟨(i.avoid a ha).1, let ⟨x, x', es, n, e, e', r, d⟩ := (i.avoid a ha).2; ⟨x, x', es, n, e, hk _ _ (ne _ (by simp [ha])) e', r, d⟩⟩, fun a ha => ⟨(i.shy a ha).1, let ⟨o, e, d⟩ := (i.shy a ha).2; ⟨o, hk _ _ (fun q => (hB a q).2.2.2 ha) e, d⟩⟩, ⟨i.frame.1, let ⟨x, es, n, f2, f3⟩ := i.frame.2; ⟨x, es, n, hk _ _ (ne _ (by simp)) f2, f3⟩⟩, i.cells, fun e x q => (by rw [hp] at q; cases q), fun v q => (by rw [hn] at q; cases q)⟩
  obtain ⟨m, F, L⟩ := i.fr
  obtain ⟨oL, es, ep, q1, q2⟩ := F.ns
  exact ⟨m, ⟨⟨oL, es, ep, hk _ _ (ne _ (by simp)) q1, q2⟩, fun b o e => hk b o (fun q => by rw [(hB b q).1] at e; cases e) (F.keep b o e), F.off⟩, L⟩
end
end Mine
namespace Mine
theorem compLoop_any {prog : Program} {w : World} {A : Around} {R : Result → Shared → Prop} {s : Shared} {elt target iter : PySem.Expr} {ifs : List PySem.Expr} {scope : Scope} {pos : Pos} {it acc : Value} {env : Env} (I : Nat → Shared → Prop)
    (turn : ∀ n s, I n s → wpAny (model prog w) A (pyNext it) (fun r s₁ => match r with
      | none => R (.ok .next) s₁
      | some v => wpAny (model prog w) A (letOwnedTupleGo target it v) (fun _ s₁' => wpAny (model prog w) A (assign target env v) (fun _ s₂ =>
          wpAny (model prog w) A (forIn ifs true fun c r => if r = true then do let ok ← isTrue c env (eval c env); pure (ForInStep.yield ok) else pure (ForInStep.yield r)) (fun ok s₃ =>
            if ok = true then wpAny (model prog w) A (eval elt env) (fun x s₄ =>
              wpAny (model prog w) A (call (.builtin "list.append") [acc, x]) (fun _ s₅ => ∃ m, m < n ∧ I m s₅) (notedBy (model prog w) A env fun e s' => R (.error e) s') s₄) (notedBy (model prog w) A env fun e s' => R (.error e) s') s₃
            else ∃ m, m < n ∧ I m s₃) (notedBy (model prog w) A env fun e s' => R (.error e) s') s₂) (notedBy (model prog w) A env fun e s' => R (.error e) s') s₁')
          (notedBy (model prog w) A env fun e s' => R (.error e) s') s₁) (notedBy (model prog w) A env fun e s' => R (.error e) s') s)
    (n : Nat) (h : I n s) : codeAny (model prog w) A (.compLoop (.ListComp elt [⟨target, iter, ifs, 0⟩] scope pos) 0 it acc env) R s := by
  refine codeAny_loop rfl I (fun n s hI => ?_) n h
  show wpAny _ A ((compTurn (.ListComp elt [⟨target, iter, ifs, 0⟩] scope pos) 0 it acc env).onRaise (fun x => do noteFrame x env; theTreesLotGoes x)) _ _ s
  refine wpAny_noted ?_
  rw [compTurn_list]
  refine wpAny_bind (wpAny_standAt (wpAny_bind (wpAny_mono (turn n s hI) (fun r s₁ h₁ => ?_) fun _ _ h' => h')))
  cases r with
  | none => exact wpAny_pure h₁
  | some v =>
    refine wpAny_bind (wpAny_mono h₁ (fun _ s₁' h₁' => ?_) fun _ _ h' => h')
    refine wpAny_bind (wpAny_mono h₁' (fun _ s₂ h₂ => wpAny_bind (wpAny_mono h₂ (fun ok s₃ h₃ => ?_) fun _ _ h' => h')) fun _ _ h' => h')
    cases ok with
    | false => exact wpAny_pure ⟨rfl, h₃⟩
    | true => exact wpAny_bind (wpAny_bind (wpAny_mono h₃ (fun x s₄ h₄ => wpAny_bind (wpAny_mono h₄ (fun _ s₅ h₅ => wpAny_pure (wpAny_pure ⟨rfl, h₅⟩)) fun _ _ h' => h')) fun _ _ h' => h'))
noncomputable def Cnd (sc : Scope) (rm : Nat) (ifs : List PySem.Expr) (T : Tr Bool) : Prop :=
  Sd sc rm Rb (fun env => forIn ifs true fun c r => if r = true then do let ok ← isTrue c env (eval c env); pure (ForInStep.yield ok) else pure (ForInStep.yield r)) T
section
variable {sc : Scope} {rm : Nat} {pos : Pos}
theorem cnd_nil : Cnd sc rm [] (fun Q _ st => Q true st) := fun _ _ _ _ _ _ _ _ s _ _ _ t i q _ => wpAny_tests_nil (same_heap q t i rfl)
theorem cnd_one {e : PySem.Expr} {T : Tr Bool} (h : Tst sc rm e T) : Cnd sc rm [e] T := fun c G hs Q X st I μ s Q' E' z t inv q x => wpAny_tests_one (h c G hs Q X st I μ s Q' E' z t inv q x)
theorem letOwned_ok {M : Model} {A : Around} {E : Value → Shared → Prop} {s : Shared} {t : PySem.Expr} {J : Addr} {v : Value} {Q : Unit → Shared → Prop} (hJ : ∃ o vs n, s.heap.get? J = some o ∧ o.data = .fields vs ∧ o.cls = .type n ∧ owners.contains n = false) (h : Q () s) : wpAny M A (letOwnedTupleGo t (.ref J) v) Q E s := by
  obtain ⟨o, vs, n, ho, hd, hc, hn⟩ := hJ
  have key : ∀ v : Value, wpAny M A (do
      let (.ref r, .ref a) := (Value.ref J, v) | return
      let o ← load r
      match o.cls, o.data with
      | .type n, .fields vs =>
        if owners.contains n && vs[0]? == some (rawInt a) then
          rule "for.unpacks-the-owned-tuple"
          updateField r 0 .none
      | _, _ => pure () : Sem Unit) Q E s := fun v => by
    cases v <;> first | exact wpAny_pure h | skip
    refine wpAny_bind (wpAny_load ho ?_)
    simp only [hc, hd, hn, Bool.false_and, Bool.false_eq_true, if_false]
    exact wpAny_pure h
  cases t <;> first | exact wpAny_pure h | exact key v
theorem VRs.snoc {I : Heap} {μ : List Addr} {v : V} {x : Value} : ∀ {l : List V} {xs : List Value}, VRs I μ l xs → VR I μ v x → VRs I μ (l ++ [v]) (xs ++ [x])
  | _, _, .nil, r => .cons r .nil
  | _, _, .cons a b, r => .cons a (VRs.snoc b r)
theorem ev_comp {cs : Scope} {nv : Nat} {elt target iter : PySem.Expr} {ifs : List PySem.Expr} {B} {T₁ : Tr (List V)} {Tc : Tr Bool} {T₂ : Tr V} (h1 : 1 ≤ rm) (hI : Itr sc rm true iter T₁) (hB : Bnd (relS cs sc) target B) (hc : Cnd (relS cs sc) rm ifs Tc) (he : Ev (relS cs sc) rm elt T₂)
    (hcell : ∀ y ∈ cs.names, y.2 ≠ .cell) (hnames : ∀ x ∈ cs.names, x.2 = .local → cs.names.lookup x.1 = some .local) (hkind : cs.kind = .function) (hsf : ∀ env x, foldedSetIterable iter env x = pure x) (hnv : cs.names.length = nv := by rfl) :
    Ev sc rm (.ListComp elt [⟨target, iter, ifs, 0⟩] cs pos) (fun Q X st => cvOk cs sc st.cv = true ∧ T₁ (fun items st₁ => st₁.σ.pend = none ∧ st₁.cv = st.cv ∧ items.length ≤ 65536 ∧ nls items = true ∧ ∃ f : V → Option V,
      (∀ v ∈ items, match B v (vars0 nv []) with
        | some vars => Tc (fun b st₂ => bIf b (T₂ (fun u st₃ => nl u = true ∧ f v = some u) (fun _ _ => False) st₂) (f v = none)) (fun _ _ => False) ⟨vars, ⟨[], none⟩, cvOf cs sc st.cv⟩
        | none => False) ∧ Q (.list (items.filterMap f)) st₁) X st) := by
  intro c G hs Q X st I μ s Q' E' z t inv q x
  have hA := A_handled G (room_pos h1 hs)
  have hnd := G.nohd (room_pos h1 hs)
  obtain ⟨rfl, hrm⟩ := hs
  obtain ⟨hcv, t⟩ := t
  have found : ∀ y ∈ cs.names, y.2 = .free → ∃ a, c.cells.lookup y.1 = some a := fun y hy hf => by
    unfold cvOk at hcv
    have := List.all_eq_true.mp hcv y hy
    obtain ⟨n, k⟩ := y
    simp only at hf
    subst hf
    simp only [bne_self_eq_false, Bool.false_or] at this
    split at this
    · rename_i j hj
      obtain ⟨v, hv⟩ := Option.isSome_iff_exists.mp this
      obtain ⟨a, _, _, h1, _⟩ := inv.cells n j v hj (getD_some hv)
      exact ⟨a, h1⟩
    · cases this
  rw [eval_ListComp]
  refine wpAny_comprehension_free (use := none) rfl (hsf _) (clos_ok found) hkind hnames (hI c G ⟨rfl, hrm⟩ _ X st I μ s _ E' z t inv ?_ x)
  intro items st₁ I₁ μ₁ h₁ tk₁ J fp P S t₁ inv₁ k₁ p₁ z₁ wk s0
  obtain ⟨hp, hcv1, hlen, hnl, f, hf, hQ⟩ := t₁
  refine wpAny_newObj_type (wpAny_newFunctionEnv hcell (by intro y hy; simp at hy) (fun h₂ hns₂ hsb₂ => ?_) hkind)
  dsimp only at hns₂ hsb₂ ⊢
  generalize hH2 : h₁.push { cls := .type "list", dict := none, data := .seq ([] : List Value).toArray } = H2 at hns₂ hsb₂ ⊢
  have hC : H2.objs.size = h₁.objs.size + 1 := by rw [← hH2, Heap.size_push]
  generalize hDd : h₁.objs.size = D at *
  generalize hCd : H2.objs.size = C at *
  have hDC : D ≠ C := by omega
  have below : ∀ b o, h₁.get? b = some o → b ≠ C ∧ b ≠ D := fun b o e => by
    have h1 : b < D := by have := Heap.lt_size e; rw [hDd] at this; exact this
    exact ⟨Nat.ne_of_lt (Nat.lt_trans h1 (by rw [hC]; exact Nat.lt_succ_self _)), Nat.ne_of_lt h1⟩
  have old : ∀ b o, h₁.get? b = some o → h₂.get? b = some o := fun b o e => hsb₂.extBut b o (below b o e).1 (Heap.get?_push_of_some _ (hH2 ▸ Heap.get?_push_of_some _ e))
  have noneD : h₁.get? D = none := by rw [← hDd]; exact Heap.none_size _
  have noneC : h₁.get? C = none := by
    cases e : h₁.get? C with
    | none => rfl
    | some o => exact absurd rfl (below C o e).1
  obtain ⟨fD1, fD2, fD3, fD4, fD5⟩ := inv₁.fresh noneD
  obtain ⟨fC1, fC2, fC3, fC4, fC5⟩ := inv₁.fresh noneC
  have lowD := low_new inv₁ noneD
  have lowC := low_new inv₁ noneC
  have hcl : ∀ y a, (y, NameKind.free) ∈ cs.names → c.cells.lookup y = some a → (clos c.cells cs.names []).lookup y = some a := fun y a hy e => by
    rw [clos_lookup (fun p hp => by cases hp) (.inr hy), e]; rfl
  have hLD : h₂.PlainList D #[] := ⟨_, hsb₂.extBut _ _ hDC (Heap.get?_push_of_some _ (hH2 ▸ (hDd ▸ Heap.get?_push_size _ rfl)))⟩
  have ID₁ : I₁.get? D = none := by
    cases e : I₁.get? D with
    | none => rfl
    | some o => rw [inv₁.stays _ _ e] at noneD; cases noneD
  have IC₁ : I₁.get? C = none := by
    cases e : I₁.get? C with
    | none => rfl
    | some o => rw [inv₁.stays _ _ e] at noneC; cases noneC
  have JneD : ∀ i h, S i h → h.get? D = none → J ≠ D := fun i h s e q => by
    obtain ⟨o, _, a, _⟩ := wk.live i h s
    rw [q, e] at a; cases a
  have loop : ∀ s₃ : Shared, s₃ = { s with heap := h₂, toks := tk₁ + ([] : List (Str × Value)).length } →
      codeAny (model c.prog c.w) c.A (.compLoop (.ListComp elt [⟨target, iter, ifs, 0⟩] cs pos) 0 (.ref J) (.ref D) (compEnvC cs (clos c.cells cs.names []) C c.env)) (compPost (model c.prog c.w) c.A E' none Q' (.ref D) C) s₃ := by
    rintro s₃ rfl
    have hsh : ∀ b ∈ [D, C], b ∉ c.L :: c.fp :: c.avoid ++ μ₁ ∧ b ∉ c.shy ∧ c.h₀.get? b = none := by
      intro b hb
      rcases List.mem_cons.mp hb with rfl | hb
      · exact ⟨by simp [fD1, fD2, fD3, fD4], fD5, lowD⟩
      · rw [List.mem_singleton.mp hb]
        exact ⟨by simp [fC1, fC2, fC3, fC4], fC5, lowC⟩
    have hJD : J ≠ D ∧ J ≠ C := by
      obtain ⟨o, _, a, _⟩ := wk.live 0 h₁ s0
      exact ⟨(below J o a).2, (below J o a).1⟩
    have hfp : ∀ b ∈ fp, b ≠ D ∧ b ≠ C := fun b hb => by
      rcases wk.src b hb with rfl | ⟨o, e⟩ | hm
      · exact hJD
      · exact ⟨(below b o (inv₁.stays _ _ e)).2, (below b o (inv₁.stays _ _ e)).1⟩
      · rw [if_pos rfl] at hm
        exact ⟨fun e => fD4 (e ▸ hm), fun e => fC4 (e ▸ hm)⟩
    refine compLoop_any (fun n s' => ∃ k I₂ h₃ tk₃ outs ys m₃, n = items.length + 1 - k ∧ k ≤ items.length ∧ Inv c I₂ μ₁ st₁ h₃ ∧ I₁.StaysIn I₂ ∧ 0 < tk₃ ∧ S k h₃ ∧ h₃.Ns C m₃ ∧ I₂.get? C = none ∧ I₂.get? D = none ∧ h₃.PlainList D ys ∧ VRs I₂ [] outs ys.toList ∧ outs = (items.take k).filterMap f ∧ s' = { s with heap := h₃, toks := tk₃ }) ?_ (items.length + 1)
      ⟨0, I₁, h₂, tk₁, [], #[], _, rfl, Nat.zero_le _, inv₁.keeps old, fun _ _ e => e, z₁, wk.W.frame _ _ _ s0 fun b _ o e => old b o e, hns₂, IC₁, ID₁, hLD, .nil, by simp, rfl⟩
    rintro n _ ⟨k, I₂, h₃, tk₃, outs, ys, m₃, rfl, hk, inv₂, kk, zz, sk, hns₃, IC₂, ID₂, hL₃, hys, rfl, rfl⟩
    by_cases hlt : k < items.length
    · refine wpAny_with_toks (n := 1) zz (wk.W.item k _ _ _ hlt sk fun v h₄ tk₄ pv sk₄ hk₄ z₄ => ?_)
      obtain ⟨u, hu, ru⟩ := wk.val k v pv
      have keep₄ : ∀ b o, b ≠ J → h₃.get? b = some o → h₄.get? b = some o := fun b o hb e => hk₄ b o (by simpa using hb) e
      have inv₄ : Inv c I₂ μ₁ st₁ h₄ := inv₂.tick hp hnd wk.low (wk.live k h₃ sk) keep₄
      have hns₄ : h₄.Ns C m₃ := hns₃.at' fun o e => keep₄ C o (Ne.symm hJD.2) e
      have hL₄ : h₄.PlainList D ys := let ⟨o, e⟩ := hL₃; ⟨o, keep₄ D _ (Ne.symm hJD.1) e⟩
      refine letOwned_ok (by obtain ⟨o, vs, a, b⟩ := wk.live (k + 1) h₄ sk₄; obtain ⟨o', n, a', b', d'⟩ := wk.kind (k + 1) h₄ sk₄; rw [a] at a'; cases a'; exact ⟨o, vs, n, a, b, b', d'⟩) ?_
      have Gc : Good (c.comp cs (clos c.cells cs.names []) C D μ₁ h₄) := comp_good G inv₄ lowC (by simp [fC1, fC3]) hkind
      have invc := comp_inv (C := C) (D := D) (scope := cs) inv₄ hp hnd hns₄ IC₂ ID₂ (by obtain ⟨n, e⟩ := hL₄; exact ⟨_, e, nofun⟩) hcell hcl
      have hmem : u ∈ items := List.mem_of_getElem? hu
      have hfu := hf u hmem
      rw [show vars0 nv [] = List.replicate (relS cs c.scope).names.length none by rw [vars0_eq, ← hnv]; simp [relS]] at hfu
      have hnu : nl u = true := by
        have : ∀ {l : List V}, nls l = true → u ∈ l → nl u = true := by
          intro l
          induction l with
          | nil => intro _ h; cases h
          | cons a r ih =>
            intro h hm
            rw [nls, Bool.and_eq_true] at h
            rcases List.mem_cons.mp hm with rfl | hm
            · exact h.1
            · exact ih h.2 hm
        exact this hnl hmem
      split at hfu
      · rename_i vars hvars
        refine hB (c.comp cs (clos c.cells cs.names []) C D μ₁ h₄) Gc rfl (by show 0 < c.room; omega) u v vars _ I₂ [] { s with heap := h₄, toks := tk₄ } _ _ z₄ hvars invc ((ru.up kk (List.prefix_refl _)).any [] hnu) fun h₅ tk₅ z₅ inv₅ => ?_
        refine hc.use (X := fun _ _ => False) Gc ⟨rfl, hrm⟩ (s := { s with heap := h₅, toks := tk₅ }) z₅ (by rw [← hcv1] at hfu; exact hfu) inv₅ ?_ (fun _ _ _ _ _ _ _ (hx : False) => hx.elim)
        intro b b' st₆ I₆ μ₆ h₆ tk₆ t₆ inv₆ k₆ p₆ r₆ z₆
        obtain rfl : b = b' := r₆
        have hout : (items.take (k + 1)).filterMap f = (items.take k).filterMap f ++ (f u).toList := by
          rw [List.take_add_one, hu, Option.toList_some, List.filterMap_append]
          cases e : f u <;> simp [e]
        have sfin : ∀ {I₇ : Heap} {h₇ : Heap}, I₂.StaysIn I₇ → I₇.StaysIn h₇ → (∀ b o, b ≠ D → h₄.get? b = some o → b ∉ C :: c.L :: c.fp :: c.avoid → h₇.get? b = some o) → S (k + 1) h₇ := fun {I₇ h₇} kI7 k7 hk7 => wk.W.frame (k + 1) h₄ h₇ sk₄ fun b hb o e => by
          rcases wk.src b hb with rfl | ⟨o', hI⟩ | hm
          · obtain ⟨oJ, vJ, eJ, dJ⟩ := wk.live (k + 1) h₄ sk₄
            rw [eJ] at e; cases e
            have := rec_hid inv₄ eJ dJ
            refine hk7 _ _ (hfp _ hb).1 eJ fun hm => ?_
            rcases List.mem_cons.mp hm with q | hm
            · exact hJD.2 q
            · rw [show (hid c μ₁ h₄).get? b = none from hideAll_none _ (List.mem_append_left _ hm)] at this; cases this
          · have e' := inv₄.stays _ _ (kk _ _ hI)
            rw [e'] at e; cases e
            exact k7 _ _ (kI7 _ _ (kk _ _ hI))
          · rw [if_pos rfl] at hm
            refine hk7 _ _ (hfp _ hb).1 e fun hb' => ?_
            rcases List.mem_cons.mp hb' with rfl | hb'
            · exact fC4 hm
            obtain ⟨j, hj⟩ := List.getElem?_of_mem hm
            have hltj := (List.getElem?_eq_some_iff.mp hj).1
            rw [inv₄.led.1] at hltj
            obtain ⟨us, n, q1, _, q3, _⟩ := inv₄.led.2.2 j b _ hj (List.getElem?_eq_getElem hltj)
            rcases List.mem_cons.mp hb' with rfl | hb'
            · exact q3 rfl
            rcases List.mem_cons.mp hb' with rfl | hb'
            · obtain ⟨_, o, es, n, e, d⟩ := inv₄.frame
              rw [q1] at e; cases e; cases d
            · obtain ⟨_, _, o, es, n, _, e, _, d⟩ := inv₄.avoid b hb'
              rw [q1] at e; cases e; cases d
        have nD : D ∉ C :: c.L :: c.fp :: c.avoid := by simp [hDC, fD1, fD2, fD3]
        cases b with
        | false =>
          rw [if_neg Bool.false_ne_true]
          obtain ⟨inv₇, ⟨m₇, hns₇⟩, keep₇, IC₇, ID₇⟩ := comp_back G inv₄ hp hnd lowC (by simp [fC1, fC2, fC3, fC4]) inv₆ k₆
          refine ⟨_, by omega, k + 1, I₆, h₆, tk₆, _, ys, m₇, rfl, hlt, inv₇, stays_trans kk k₆, z₆, sfin k₆ inv₇.stays (fun b o _ => keep₇ b o), hns₇, IC₇, ID₇, (let ⟨o, e⟩ := hL₄; ⟨o, keep₇ D _ e nD⟩), hys.up k₆ (List.prefix_refl _), ?_, rfl⟩
          rw [hout, show f u = none from t₆]; simp
        | true =>
          rw [if_pos rfl]
          refine he.use (X := fun _ _ => False) Gc ⟨rfl, hrm⟩ (s := { s with heap := h₆, toks := tk₆ }) z₆ t₆ inv₆ ?_ (fun _ _ _ _ _ _ _ (hx : False) => hx.elim)
          intro w x₈ st₈ I₈ μ₈ h₈ tk₈ t₈ inv₈ k₈ p₈ r₈ z₈
          obtain ⟨inv₉, ⟨m₉, hns₉⟩, keep₉, IC₉, ID₉⟩ := comp_back G inv₄ hp hnd lowC (by simp [fC1, fC2, fC3, fC4]) inv₈ (stays_trans k₆ k₈)
          have hL₈ : h₈.PlainList D ys := let ⟨o, e⟩ := hL₄; ⟨o, keep₉ D _ e nD⟩
          have hyl : ys.size ≤ items.length := by
            have e1 := VRs.length hys
            have e2 : ((items.take k).filterMap f).length ≤ (items.take k).length := List.length_filterMap_le _ _
            rw [List.length_take] at e2
            have e3 : ys.toList.length = ys.size := Array.length_toList
            omega
          refine wpAny_list_append_plain (s := { s with heap := h₈, toks := tk₈ }) hL₈ (fun h₁₀ hl hsb => ?_) (by rw [sizeLine_eq]; omega)
          have keep₁₀ : ∀ b o, b ∉ [D] → h₈.get? b = some o → h₁₀.get? b = some o := fun b o hb e => hsb.extBut b o (by simpa using hb) e
          have inv₁₀ := inv₉.touch hp hnd [D] (fun b hb => by rw [List.mem_singleton.mp hb]; exact ⟨lowD, ID₉, (hsh D (.head _)).1, fD5⟩) keep₁₀
          refine ⟨_, by omega, k + 1, I₈, h₁₀, tk₈, _, ys.push x₈, m₉, rfl, hlt, inv₁₀, stays_trans kk (stays_trans k₆ k₈), z₈, ?_, hns₉.sameBut hsb (Ne.symm hDC), IC₉, ID₉, hl, ?_, rfl, rfl⟩
          · refine sfin (stays_trans k₆ k₈) inv₁₀.stays fun b o hbD e hb => ?_
            exact keep₁₀ b o (by simpa using hbD) (keep₉ b o e hb)
          · rw [hout, t₈.2, Array.toList_push]
            exact (hys.up (stays_trans k₆ k₈) (List.prefix_refl _)).snoc (r₈.any [] t₈.1)
      · exact hfu.elim
    · have hke : k = items.length := by omega
      subst hke
      refine wk.W.done _ _ _ sk fun h₄ tk₄ hk₄ => ?_
      have keep₄ : ∀ b o, b ≠ J → h₃.get? b = some o → h₄.get? b = some o := fun b o hb e => hk₄ b o (by simpa using hb) e
      have inv₄ : Inv c I₂ μ₁ st₁ h₄ := inv₂.tick hp hnd wk.low (wk.live _ h₃ sk) keep₄
      refine ⟨m₃, hns₃.at' fun o e => keep₄ C o (Ne.symm hJD.2) e, fun h₅ hs₅ => ?_⟩
      have inv₅ : Inv c I₂ μ₁ st₁ h₅ := inv₄.touch hp hnd [C] (fun b hb => by rw [List.mem_singleton.mp hb]; exact ⟨lowC, IC₂, (hsh C (.tail _ (.head _))).1, fC5⟩) fun b o hb e => hs₅.extBut b o (by simpa using hb) e
      obtain ⟨nD, eD⟩ := hL₃
      have eD5 := hs₅.extBut D _ hDC (keep₄ D _ (Ne.symm hJD.1) eD)
      obtain ⟨w1, w2, w3⟩ := inv₅.widen
      refine q _ _ _ _ _ h₅ tk₄ hQ w1 (stays_trans k₁ (stays_trans kk w2)) p₁ (.list (w3 D _ eD5 fD1 fD2 fD3 fD4 fD5 nofun) ?_)
      rw [List.take_of_length_le (Nat.le_refl _)] at hys
      exact (hys.up w2 List.nil_prefix)
  refine codeAny_compStart_list (loop _ rfl) (wk.W.self 0 _ _ _ (wk.W.frame _ _ _ s0 fun b _ o e => old b o e) (loop _ rfl))
end
end Mine
namespace Mine
noncomputable def StrKs (es : List DictEntry) : Prop := ∀ e ∈ es, ∃ n t, e.key = .str n t
theorem getL_put {a : Str} {h : Int} {t : Tok} {v : Value} : ∀ {es : List DictEntry}, StrKs es → StrKs (putL a h (.str a t) v es) ∧ ∀ b, getL b (putL a h (.str a t) v es) = if b = a then some (some v) else getL b es
  | [], _ => by
    refine ⟨fun e he => ?_, fun b => ?_⟩
    · rw [putL, List.mem_singleton] at he; rw [he]; exact ⟨_, _, rfl⟩
    · unfold putL getL
      by_cases q : b = a
      · subst q
        rw [List.find?_cons_of_pos (by show (b == b) = true; exact beq_self_eq_true _), if_pos rfl]
      · rw [List.find?_cons_of_neg (by show ¬ (a == b) = true; simpa using fun e => q e.symm), if_neg q]
        rfl
  | e :: r, hs => by
    obtain ⟨n, t', hk⟩ := hs e (.head _)
    obtain ⟨k1, k2⟩ := getL_put (a := a) (h := h) (t := t) (v := v) (es := r) fun x hx => hs x (.tail _ hx)
    unfold putL
    have hi : ∀ b, e.key.isStr b = (n == b) := fun b => by rw [hk]; rfl
    have href : e.refKey = false := by unfold DictEntry.refKey; rw [hk]
    by_cases q : n = a
    · subst q
      rw [if_pos (by rw [hi]; exact beq_self_eq_true _)]
      refine ⟨fun x hx => ?_, fun b => ?_⟩
      · rcases List.mem_cons.mp hx with rfl | hx
        · exact ⟨_, _, hk⟩
        · exact hs x (.tail _ hx)
      · unfold getL
        by_cases w : b = n
        · subst w
          rw [List.find?_cons_of_pos (by show e.key.isStr b = true; rw [hi]; exact beq_self_eq_true _), if_pos rfl]
        · have w' : ¬ (n == b) = true := by simpa using fun e => w e.symm
          rw [List.find?_cons_of_neg (by show ¬ e.key.isStr b = true; rw [hi]; exact w'), if_neg w, List.find?_cons_of_neg (by show ¬ e.key.isStr b = true; rw [hi]; exact w')]
          rw [List.any_cons, List.any_cons]
          rw [href, show (DictEntry.refKey ⟨e.hash, e.key, v⟩) = false by unfold DictEntry.refKey; rw [hk]]
    · rw [if_neg (by rw [hi]; simpa using q)]
      refine ⟨fun x hx => ?_, fun b => ?_⟩
      · rcases List.mem_cons.mp hx with rfl | hx
        · exact hs x (.head _)
        · exact k1 x hx
      · have k := k2 b
        unfold getL at k ⊢
        by_cases w : n = b
        · subst w
          rw [List.find?_cons_of_pos (by show e.key.isStr n = true; rw [hi]; exact beq_self_eq_true _), List.find?_cons_of_pos (by show e.key.isStr n = true; rw [hi]; exact beq_self_eq_true _), if_neg q]
        · have w' : ¬ (fun x : DictEntry => x.key.isStr b) e = true := by show ¬ e.key.isStr b = true; rw [hi]; simpa using w
          rw [List.find?_cons_of_neg (p := fun x : DictEntry => x.key.isStr b) w', List.find?_cons_of_neg (p := fun x : DictEntry => x.key.isStr b) w', List.any_cons, List.any_cons, href, Bool.false_or, Bool.false_or]
          exact k
theorem getL_some {es : List DictEntry} (h : StrKs es) (b : Str) : (getL b es).isSome = true := by
  unfold getL
  split
  · rfl
  · rw [if_neg]; rfl
    intro q
    obtain ⟨e, he, hr⟩ := List.any_eq_true.mp q
    obtain ⟨n, t, hk⟩ := h e he
    unfold DictEntry.refKey at hr
    rw [hk] at hr; cases hr
theorem putL_length {a : Str} {h : Int} {k v : Value} : ∀ {es : List DictEntry}, (putL a h k v es).length ≤ es.length + 1
  | [] => by simp [putL]
  | e :: r => by
    unfold putL
    split
    · simp
    · simpa using putL_length (es := r)
/-- a body that lays its parameters into self -/
inductive SetsOf : List Stmt → List (Str × Str) → Prop
  | nil : SetsOf [] []
  | cons {a p : Str} {p1 p2 p3 pos : Pos} {body : List Stmt} {rest : List (Str × Str)} : SetsOf body rest → SetsOf (.Assign [.Attribute (.Name "self" p1) a p2] (.Name p p3) pos :: body) ((a, p) :: rest)
section
variable {prog : Program} {w : World} {A : Around} {E : Value → Shared → Prop} {K : Frag} {C x dx L' : Addr} {g : Heap} {m : Str → Option Value} {env : Env}
theorem sets_ok (X₀ : K.In g) (hk : env.scope.kind = .function) (hL : env.locals = L') (hxd : x ≠ dx) (hself : env.scope.names.lookup ("self" : Str) = some .local) (hm : m "self" = some (.ref x))
    (hs : findIn K (.ref C) "__setattr__" = some (some (.builtin "object.__setattr__"))) (hpo : plainOver K C = true) (hh : hasDictIn K C = true) :
    ∀ {body : List Stmt} {sets : List (Str × Str)}, SetsOf body sets → ∀ {vals : List Value} {es : List DictEntry} {n : Nat} {done : List (Str × Value)} {s : Shared} {Q : Flow → Shared → Prop},
      (∀ q ∈ sets, env.scope.names.lookup q.2 = some .local ∧ takerIn K C q.1 = some none ∧ (q.2 == ("__debug__" : Str)) = false) → sets.map (fun q => m q.2) = vals.map some → (done.map (·.1) ++ sets.map (·.1)).Nodup → StrKs es → es.length + sets.length ≤ 1000 → (∀ q ∈ done, getL q.1 es = some (some q.2)) →
      Fr g L' s.heap m → News g L' s.heap [(x, instObj C dx), (dx, dictOf es n)] →
      (∀ h' es' n' tk, Fr g L' h' m → News g L' h' [(x, instObj C dx), (dx, dictOf es' n')] → (∀ q ∈ done ++ (sets.map (·.1)).zip vals, getL q.1 es' = some (some q.2)) → (∀ b, b ∉ sets.map (·.1) → getL b es' = getL b es) → s.toks ≤ tk → Q .next { s with heap := h', toks := tk }) → wpAny (model prog w) A (execs body env) Q E s := by
  intro body sets r
  induction r with
  | nil =>
    intro vals es n done s Q _ hv _ _ _ hd F N q
    exact wpAny_execs_nil (q s.heap es n s.toks F N (by simpa using hd) (fun _ _ => rfl) (Nat.le_refl _))
  | @cons a p p1 p2 p3 pos body rest r ih =>
    intro vals es n done s Q hq hv hnd hst hlen hd F N q
    cases vals with
    | nil => cases hv
    | cons v vs =>
      simp only [List.map_cons, List.cons.injEq] at hv
      obtain ⟨q1, q2, q3⟩ := hq _ (.head _)
      subst hL
      refine wpAny_execs_cons (plainObj_wpAny_Assign_Attribute (wpAny_Name (wpAny_loadName_local hk q1 F.ns hv.1 (wpAny_Name (wpAny_loadName_local hk hself F.ns hm ?_) (by decide))) q3))
      refine set_dict (es' := putL a (PyData.keyHash w.params a) (.str a (s.toks + 1)) v es) (n' := putN a es n) (news' := [(x, instObj C dx), (dx, dictOf (putL a (PyData.keyHash w.params a) (.str a (s.toks + 1)) v es) (putN a es n))]) F X₀ N (.of_news N (.head _) (.tail _ (.head _))) rfl hs hpo q2 hh (getL_some hst _) rfl (.tail hxd (.head (fun p hp => by cases hp))) ?_ fun h' F' N' => ?_
      · have := putL_length (a := a) (h := PyData.keyHash w.params a) (k := .str a (s.toks + 1)) (v := v) (es := es)
        simp only [List.length_cons] at hlen
        omega
      · obtain ⟨k1, k2⟩ := getL_put (a := a) (h := PyData.keyHash w.params a) (t := s.toks + 1) (v := v) hst
        refine ih (vals := vs) (es := putL a (PyData.keyHash w.params a) (.str a (s.toks + 1)) v es) (n := putN a es n) (done := done ++ [(a, v)]) (s := { s with heap := h', toks := s.toks + 2 }) (fun q hq' => hq q (.tail _ hq')) hv.2 (by rw [List.map_append, List.append_assoc]; exact hnd) k1 ?_ (fun y hy => ?_) F' N' fun h'' es'' n'' tk'' F'' N'' hd'' hgone htk => q h'' es'' n'' tk'' F'' N'' (by simpa using hd'') (fun b hb => by
          rw [List.map_cons, List.mem_cons, not_or] at hb
          rw [hgone b hb.2, k2, if_neg hb.1]) (by show s.toks ≤ _; have : s.toks + 2 ≤ tk'' := htk; omega)
        · have := putL_length (a := a) (h := PyData.keyHash w.params a) (k := .str a (s.toks + 1)) (v := v) (es := es)
          simp only [List.length_cons] at hlen
          omega
        · rw [k2]
          rcases List.mem_append.mp hy with hy | hy
          · rw [if_neg, hd y hy]
            intro e
            simp only [List.map_cons, List.nodup_append] at hnd
            exact hnd.2.2 _ (List.mem_map_of_mem hy) _ (.head _) e
          · rw [List.mem_singleton.mp hy, if_pos rfl]
end
theorem news_kept {g : Heap} {H h' : Heap} {L' : Addr} {m : Str → Option Value} {D : List Addr} (F : Fr (hideAll H D) L' h' m) : ∀ b o, H.get? b = some o → b ∉ D → h'.get? b = some o := fun b o e n => F.keep b o (hideAll_get _ e n)
theorem fn_make {C fI : Addr} {r : Nat} {ns : List Str} {oc cdv dV kV doc pm ct : Value} {od an : Option Addr} {osl : Array (Option Value)} {nm qual : Str} {params : Arguments} {body : List Stmt} {scope : Scope} {ps : List Str} {sets : List (Str × Str)}
    (hr : 1 ≤ r) (hm : ∀ P, makesIn (KK P) C = true) (hi : ∀ P, findIn (KK P) (.ref C) "__init__" = some (some (.ref fI))) (hf : ∀ P, typeIn (KK P) (.ref fI) = some (.type "function"))
    (hk : ∀ P, (KK P).lookup fI = some ⟨oc, od, .func (fnOf nm qual params body scope dV kV doc pm an cdv ct), osl⟩) (hcd : ∀ P, codeIn (KK P) cdv qual = true)
    (hb : ∀ P (s : Shared) (xs : List Value), (KK P).In s.heap → xs.length = ps.length → BindsTo s (fnOf nm qual params body scope dV kV doc pm an cdv ct) ⟨xs, []⟩ (ps.zip xs))
    (hloc : ∀ x ∈ ps, scope.names.lookup x = some .local) (hn : ps.Nodup) (hcell : ∀ x ∈ scope.names, x.2 ≠ .cell)
    (hS : SetsOf body sets) (hps : ps = ("self" : Str) :: sets.map (·.2)) (hns : ns = sets.map (·.1)) (hnd : ns.Nodup) (hlen : ns.length ≤ 10)
    (hs : ∀ P, findIn (KK P) (.ref C) "__setattr__" = some (some (.builtin "object.__setattr__"))) (hpo : ∀ P, plainOver (KK P) C = true) (hh : ∀ P, hasDictIn (KK P) C = true)
    (htk : ∀ P, ∀ q ∈ sets, takerIn (KK P) C q.1 = some none) (hdb : ∀ q ∈ sets, (q.2 == ("__debug__" : Str)) = false)
    (hco : scope.isCoroutine = false := by rfl) (hgen : scope.isGenerator = false := by rfl) (hkf : scope.kind = .function := by rfl) :
    Fn C r (fun σ vs Q X => vs.length = ns.length ∧ Q (.inst C ns vs) σ) := by
  intro c G hroom vs xs Q X st I μ s Q' E' z t inv rs q x
  obtain ⟨hvl, hQ⟩ := t
  obtain ⟨m, F, L⟩ := inv.fr
  have hxl : xs.length = sets.length := by rw [← VRs.length rs, hvl, hns, List.length_map]
  refine wpAny_call ?_
  obtain ⟨hh0, gg, d, tk, os⟩ := s
  have X₀ := G.K.keeps F.keep
  refine make_core (makes_of X₀ (hm _)) (looks_findIn X₀ (hi _)) (fun self => bind_fn X₀ self (hf _)) (.inl rfl) ?_
  generalize hdx : hh0.objs.size = dx at *
  have hH1 : (hh0.push emptyDict).objs.size = dx + 1 := by rw [Heap.size_push, hdx]
  have kept2 : ∀ b o, hh0.get? b = some o → ((hh0.push emptyDict).push (instObj C dx)).get? b = some o := fun b o e => Heap.get?_push_of_some _ (Heap.get?_push_of_some _ e)
  have gdx : ((hh0.push emptyDict).push (instObj C dx)).get? dx = some emptyDict := Heap.get?_push_of_some _ (hdx ▸ Heap.get?_push_size hh0 rfl)
  have gx : ((hh0.push emptyDict).push (instObj C dx)).get? (dx + 1) = some (instObj C dx) := hH1 ▸ Heap.get?_push_size _ rfl
  have hsz : ((hh0.push emptyDict).push (instObj C dx)).objs.size = dx + 2 := by rw [Heap.size_push, hH1]
  have Fk : ∀ b o, c.h₀.get? b = some o → ((hh0.push emptyDict).push (instObj C dx)).get? b = some o := fun b o e => kept2 b o (F.keep b o e)
  have Xg : (KK c.w.params).In (hideAll ((hh0.push emptyDict).push (instObj C dx)) [dx + 1, dx]) := fun b o e => by
    have := G.K b o e
    refine hideAll_get _ (Fk b o this) fun hm => ?_
    have lt := Heap.lt_size (F.keep b o this)
    rw [hdx] at lt
    rcases List.mem_cons.mp hm with w | hm
    · rw [w] at lt; exact absurd lt (Nat.not_lt.mpr (Nat.le_succ _))
    · rw [List.mem_singleton.mp hm] at lt; exact absurd lt (Nat.lt_irrefl _)
  generalize hH2 : (hh0.push emptyDict).push (instObj C dx) = H2 at *
  have hpsl : (Value.ref (dx + 1) :: xs).length = ps.length := by rw [hps, List.length_cons, List.length_cons, List.length_map, hxl]
  refine codeAny_call_def (fd := fnOf nm qual params body scope dV kV doc pm an cdv ct) (body := body) (binds := ps.zip (Value.ref (dx + 1) :: xs)) (by show c.A₀.depth + 1 + 1 < _; have := G.depth; omega)
    (Fk _ _ (G.K _ _ (hk _))) rfl (G.top.nolimit.keeps Fk) (codeRec_of (G.K.keeps Fk) (hcd _)) rfl (hb c.w.params _ _ (G.K.keeps Fk) hpsl) hcell
    (fun y hy => hloc _ (List.of_mem_zip hy).1) (fun h₁ hns₁ hk₁ => ?_) hco hgen hkf
  dsimp only at hns₁ hk₁ ⊢
  have look : ∀ i y v, ps[i]? = some y → (Value.ref (dx + 1) :: xs)[i]? = some v → (ps.zip (Value.ref (dx + 1) :: xs)).reverse.lookup y = some v := fun i y v h1 h2 => by
    refine lookup_mem ?_ ?_
    · rw [List.map_reverse, List.map_fst_zip (by rw [hpsl]; exact Nat.le_refl _)]
      exact ((List.reverse_perm _).nodup_iff).mpr hn
    · rw [List.mem_reverse, List.mem_iff_getElem?]
      exact ⟨i, by rw [List.getElem?_zip_eq_some]; exact ⟨h1, h2⟩⟩
  have F₁ : Fr (hideAll H2 [dx + 1, dx]) H2.objs.size h₁ (fun y => (ps.zip (Value.ref (dx + 1) :: xs)).reverse.lookup y) := ⟨hns₁, fun b o e => hk₁ b o (of_hideAll _ e), by rw [hideAll_size]; exact Nat.le_refl _⟩
  have N₁ : News (hideAll H2 [dx + 1, dx]) H2.objs.size h₁ [(dx + 1, instObj C dx), (dx, dictOf [] 0)] := by
    intro p hp
    rcases List.mem_cons.mp hp with rfl | hp
    · exact ⟨hk₁ _ _ gx, by show dx + 1 ≠ _; rw [hsz]; exact Nat.ne_of_lt (Nat.lt_succ_self _), hideAll_none _ (.head _)⟩
    · rw [List.mem_singleton.mp hp]
      exact ⟨hk₁ _ _ gdx, by show dx ≠ _; rw [hsz]; exact Nat.ne_of_lt (Nat.lt_succ_of_lt (Nat.lt_succ_self _)), hideAll_none _ (.tail _ (.head _))⟩
  have hlen2 : ([] : List DictEntry).length + sets.length ≤ 1000 := by
    have e : ns.length = sets.length := by rw [hns, List.length_map]
    simp only [List.length_nil]; omega
  refine sets_ok (w := c.w) (m := fun y => (ps.zip (Value.ref (dx + 1) :: xs)).reverse.lookup y) Xg hkf rfl (Nat.succ_ne_self _) (hloc _ (by rw [hps]; exact .head _)) (look 0 _ _ (by rw [hps]; rfl) rfl) (hs _) (hpo _) (hh _) hS (vals := xs) (es := []) (n := 0) (done := []) (s := ⟨h₁, gg, d, tk + (ps.zip (Value.ref (dx + 1) :: xs)).length, os⟩)
    (fun q hq => ⟨hloc _ (by rw [hps]; exact .tail _ (List.mem_map_of_mem hq)), htk _ q hq, hdb q hq⟩) ?_ (by rw [List.map_nil, List.nil_append, ← hns]; exact hnd) (fun e he => by cases he) hlen2 (fun q hq => by cases hq) F₁ N₁ fun h' es' n' tk' F' N' hget hgone htk' => ?_
  · refine List.ext_getElem? fun i => ?_
    rw [List.getElem?_map, List.getElem?_map]
    cases e1 : sets[i]? with
    | none =>
      have : xs[i]? = none := by rw [List.getElem?_eq_none_iff] at e1 ⊢; omega
      rw [this]; rfl
    | some qq =>
      have hlt : i < xs.length := by rw [hxl]; exact (List.getElem?_eq_some_iff.mp e1).1
      rw [List.getElem?_eq_getElem hlt]
      simp only [Option.map_some]
      congr 1
      exact look (i + 1) _ _ (by rw [hps, List.getElem?_cons_succ, List.getElem?_map, e1]; rfl) (by rw [List.getElem?_cons_succ, List.getElem?_eq_getElem hlt])
  · refine ⟨rfl, ?_⟩
    have keepall : ∀ b o, hh0.get? b = some o → h'.get? b = some o := fun b o e => by
      refine F'.keep b o (hideAll_get _ (kept2 b o e) fun hm => ?_)
      have lt := Heap.lt_size e
      rw [hdx] at lt
      rcases List.mem_cons.mp hm with w | hm
      · rw [w] at lt; exact absurd lt (Nat.not_lt.mpr (Nat.le_succ _))
      · rw [List.mem_singleton.mp hm] at lt; exact absurd lt (Nat.lt_irrefl _)
    have inv' : Inv c I μ st h' := inv.keeps keepall
    obtain ⟨w1, w2, w3⟩ := inv'.widen
    have nx : hh0.get? (dx + 1) = none := by
      cases e : hh0.get? (dx + 1) with
      | none => rfl
      | some o => have := Heap.lt_size e; rw [hdx] at this; exact absurd this (Nat.not_lt.mpr (Nat.le_succ _))
    have nd : hh0.get? dx = none := hdx ▸ Heap.none_size _
    obtain ⟨a1, a2, a3, a4, a5⟩ := inv.fresh nx
    obtain ⟨b1, b2, b3, b4, b5⟩ := inv.fresh nd
    refine q _ _ _ _ μ h' tk' hQ w1 w2 (List.prefix_refl _) (.inst (w3 _ _ (N' _ (.head _)).1 a1 a2 a3 a4 a5 nofun) (w3 _ _ (N' _ (.tail _ (.head _))).1 b1 b2 b3 b4 b5 nofun) (xs := xs) ?_ (rs.up w2 (List.prefix_refl _)) (fun b hb => by rw [hgone b (by rw [← hns]; exact hb)]; rfl))
    refine List.ext_getElem? fun i => ?_
    rw [List.getElem?_map, List.getElem?_map, hns, List.getElem?_map]
    cases e1 : sets[i]? with
    | none =>
      have : xs[i]? = none := by rw [List.getElem?_eq_none_iff] at e1 ⊢; omega
      rw [this]; rfl
    | some qq =>
      have hlt : i < xs.length := by rw [hxl]; exact (List.getElem?_eq_some_iff.mp e1).1
      rw [List.getElem?_eq_getElem hlt]
      simp only [Option.map_some]
      congr 1
      refine hget (qq.1, xs[i]) ?_
      rw [List.nil_append, List.mem_iff_getElem?]
      exact ⟨i, by rw [List.getElem?_zip_eq_some, List.getElem?_map, e1]; exact ⟨rfl, List.getElem?_eq_getElem hlt⟩⟩
theorem f_Line : Fn 38 1 (fun σ vs Q X => vs.length = 2 ∧ Q (.inst 38 [Str.ofString "text", Str.ofString "places"] vs) σ) := by
  refine' fn_make (ns := [Str.ofString "text", Str.ofString "places"]) (fI := 28) (ps := [Str.ofString "self", Str.ofString "text", Str.ofString "spots"]) (sets := [(Str.ofString "text", Str.ofString "text"), (Str.ofString "places", Str.ofString "spots")]) (Nat.le_refl _) (fun P => by kernel_rfl) (fun P => by kernel_rfl) (fun P => by kernel_rfl) (fun P => by rfl) (fun P => by kernel_rfl) ?b ?l ?n ?c ?S rfl rfl (by decide) (by decide) (fun P => by kernel_rfl) (fun P => by kernel_rfl) (fun P => by kernel_rfl) ?t ?d
  case b => intro P s xs _ h; match xs, h with | [a, b, c], _ => exact BindsTo.of_eq rfl
  case l => decide
  case n => decide
  case c => decide
  case S => exact .cons (.cons .nil)
  case t => intro P q hq; rcases List.mem_cons.mp hq with rfl | hq; kernel_rfl; rcases List.mem_cons.mp hq with rfl | hq; kernel_rfl; cases hq
  case d => decide
theorem f_Token : Fn 109 1 (fun σ vs Q X => vs.length = 4 ∧ Q (.inst 109 [Str.ofString "kind", Str.ofString "worth", Str.ofString "at", Str.ofString "is_in_a"] vs) σ) := by
  refine' fn_make (ns := [Str.ofString "kind", Str.ofString "worth", Str.ofString "at", Str.ofString "is_in_a"]) (fI := 99) (ps := [Str.ofString "self", Str.ofString "kind", Str.ofString "worth", Str.ofString "at", Str.ofString "is_in_a"]) (sets := [(Str.ofString "kind", Str.ofString "kind"), (Str.ofString "worth", Str.ofString "worth"), (Str.ofString "at", Str.ofString "at"), (Str.ofString "is_in_a", Str.ofString "is_in_a")]) (Nat.le_refl _) (fun P => by kernel_rfl) (fun P => by kernel_rfl) (fun P => by kernel_rfl) (fun P => by rfl) (fun P => by kernel_rfl) ?b ?l ?n ?c ?S rfl rfl (by decide) (by decide) (fun P => by kernel_rfl) (fun P => by kernel_rfl) (fun P => by kernel_rfl) ?t ?d
  case b => intro P s xs k h; match xs, h with | [a, b, c, d, e], _ => exact BindsTo.of_defaults rfl (k _ _ (by rfl)) rfl rfl rfl
  case l => decide
  case n => decide
  case c => decide
  case S => exact .cons (.cons (.cons (.cons .nil)))
  case t =>
    intro P q hq
    rcases List.mem_cons.mp hq with rfl | hq; kernel_rfl
    rcases List.mem_cons.mp hq with rfl | hq; kernel_rfl
    rcases List.mem_cons.mp hq with rfl | hq; kernel_rfl
    rcases List.mem_cons.mp hq with rfl | hq; kernel_rfl
    cases hq
  case d => decide
end Mine
namespace Mine
noncomputable abbrev bm81 : List Value := [.ref 68, .type "Exception", .type "BaseException", .type "object"]
noncomputable def Cls81 (h : Heap) : Prop := ∃ (nm q : Str) (N : Addr) (bs : List Value) (sn : List Str) (sub : List Value) (ab : Bool) (col : Option Bool) (dd : Option Addr) (k0 k1 k2 k3 k5 : Option Value),
  h.get? 81 = some (excClassObj nm q 81 N bs bm81 true sn sub ab col dd k0 k1 k2 k3 k5 "Exception.__new__")
theorem cls81 {P : Params} {h : Heap} (X : (KK P).In h) : Cls81 h := ⟨_, _, _, _, _, _, _, _, _, _, _, _, _, _, X 81 _ (by rfl)⟩
theorem FE : ExcBaseFacts "Exception" "Exception.__new__" "Exception.__init__" [.type "Exception", .type "BaseException", .type "object"] := PySem.F.excBase_Exception
noncomputable abbrev exc0 (t : Addr) : Obj := { cls := .ref 81, data := .fields #[.ref t, .none, .none, .none, .bool false, .none] }
noncomputable abbrev tup0 (xs : List Value) : Obj := { cls := .type "tuple", data := .seq xs.toArray }
section
variable {M : Model} {A : Around} {E : Value → Shared → Prop} {h : Heap} {g : Array GenState} {d : Drawn} {t : Nat} {os : OsState}
theorem check_new81 {rest : List Value} {Q : Unit → Shared → Prop} (c : Cls81 h) (hq : Q () ⟨h, g, d, t, os⟩) : wpAny M A (checkBuiltinCall "Exception.__new__" ⟨.ref 81 :: rest, []⟩) Q E ⟨h, g, d, t, os⟩ := by
  obtain ⟨nm, q, N, bs, sn, sub, ab, col, dd, k0, k1, k2, k3, k5, hC⟩ := c
  have F := FE
  have hcont : (Value.ref 81 :: bm81).contains (.type "Exception") = true := by decide +kernel
  have hstar := F.noStar
  simp only [checkBuiltinCall, F.newKind, F.newSplit, F.newRow]
  repeat (first | refine wpAny_loadPart_at hC ?_ | (refine wpAny_isSubtype_exc hC ?_; rw [hcont]) | refine wpAny_staticBase_exc hC ?_ | refine wpAny_madeBy_exc hC ?_ | simp only [bne_self_eq_false, Bool.false_eq_true, if_false] | wp_step)
  exact hq
theorem check_init81 {e : Addr} {oe : Obj} {rest : List Value} {Q : Unit → Shared → Prop} (c : Cls81 h) (he : h.get? e = some oe) (hcls : oe.cls = .ref 81) (hq : Q () ⟨h, g, d, t, os⟩) :
    wpAny M A (checkBuiltinCall "Exception.__init__" ⟨.ref e :: rest, []⟩) Q E ⟨h, g, d, t, os⟩ := by
  obtain ⟨nm, q, N, bs, sn, sub, ab, col, dd, k0, k1, k2, k3, k5, hC⟩ := c
  have F := FE
  have hcB : (Value.ref 81 :: bm81).contains (.type "Exception") = true := by decide +kernel
  have hshort := F.noStar
  simp only [checkBuiltinCall, F.initKind, F.initSplit, F.initRow]
  repeat (first | (with_reducible refine wpAny_loadPart_at he ?_; rw [hcls]) | with_reducible refine wpAny_loadPart_at hC ?_ | (with_reducible refine wpAny_isSubtype_exc hC ?_; rw [hcB]) | wp_step)
  refine wpAny_onRaise ?_
  rw [show ∀ (a b : String) (n : Nat), Bind.check ⟨.positional, "*", "Exception", .self, [⟨"args", .varPos, false⟩]⟩ a b n (List.map (fun x => x.fst) ({ pos := Value.ref e :: rest } : Args).kw) = pure () from
    fun a b n => check_star_args _ _ _ _ _ _]
  exact wpAny_pure hq
end
section
variable {prog : Program} {w : World} {A : Around} {R : Result → Shared → Prop} {h : Heap} {g : Array GenState} {d : Drawn} {t : Nat} {os : OsState}
theorem new81 {rest : List Value} (c : Cls81 h) (hrest : rest.length ≤ sizeLine)
    (hq : R (.ok (.ret (.ref (h.objs.size + 1)))) ⟨(h.push (tup0 rest)).push (exc0 h.objs.size), g, d, t, os⟩) :
    codeAny (model prog w) A (.builtin "Exception.__new__" ⟨.ref 81 :: rest, []⟩) R ⟨h, g, d, t, os⟩ := by
  obtain ⟨nm, q, N, bs, sn, sub, ab, col, dd, k0, k1, k2, k3, k5, hC⟩ := c
  have F := FE
  have hends := F.ends
  have hcB : (Value.ref 81 :: bm81).contains (.type "Exception") = true := by decide +kernel
  have hcA : (Value.ref 81 :: bm81).contains (.type "AttributeError") = false := by decide +kernel
  have hcN : (Value.ref 81 :: bm81).contains (.type "NameError") = false := by decide +kernel
  refine codeAny_builtinAt F.entry ?_
  unfold Builtin.«BaseException.__new__»
  refine PySem.wpAt_bind ?_
  show PySem.wpAt _ _ _ (stack >>= _) _ _ _
  refine PySem.wpAt_bind (PySem.wpAt_stack fun p below => PySem.wpAt_of_wpAny ?_)
  wp_walk
  refine PySem.wpAt_of_wpAny ?_
  rw [F.owner]
  repeat (first | with_reducible refine wpAny_madeHere_exc F.canon hC ?_ | with_reducible refine wpAny_loadPart_at hC ?_ | (with_reducible refine wpAny_isSubtype_exc hC ?_; first | rw [hcB] | rw [hcA] | rw [hcN]) | wp_step)
  show R _ _
  rw [Heap.size_push]
  exact hq
end
/-- the making of an exception, up to the call of its own __init__ -/
theorem make81 {prog : Program} {w : World} {A : Around} {K : Frag} {R : Result → Shared → Prop} {h : Heap} {g : Array GenState} {d : Drawn} {t : Nat} {os : OsState} {rest : List Value} (X : K.In h) (c : Cls81 h) (hrest : rest.length ≤ sizeLine)
    (hi : findIn K (.ref 81) "__init__" = some (some (.ref 58))) (hf : typeIn K (.ref 58) = some (.type "function"))
    (hq : codeAny (model prog w) (A.under (.builtin "type.__call__" ⟨.ref 81 :: rest, []⟩)) (.call (.ref 58) ⟨.ref (h.objs.size + 1) :: rest, []⟩) (InitBack (h.objs.size + 1) R) ⟨(h.push (tup0 rest)).push (exc0 h.objs.size), g, d, t, os⟩) :
    codeAny (model prog w) A (.call (.ref 81) ⟨rest, []⟩) R ⟨h, g, d, t, os⟩ := by
  obtain ⟨nm, q, N, bs, sn, sub, ab, col, dd, k0, k1, k2, k3, k5, hC⟩ := id c
  have f1 := tc_lookup
  have f2 := tc_bind (.ref 81)
  have hT : (⟨h, g, d, t, os⟩ : Shared).TypeIs (.ref 81) "type" := ⟨_, hC, rfl⟩
  refine codeAny_of_tree ?_
  show wpAny _ _ (callAny (.ref 81) _) _ _ _
  repeat (any_goals (first | assumption | with_reducible refine wpAny_loadPart_at hC ?_ | wp_step))
  refine ⟨rfl, ?_⟩
  refine codeAny_call_builtin_at (Code.quiet_builtin _ (by decide +kernel)) entry_typeCall (wpAny_check_type_call_sub hC ?_)
  repeat (first | with_reducible refine wpAny_loadPart_at hC ?_ | with_reducible refine wpAny_madeBy_exc hC ?_ | wp_step)
  refine codeAny_call_builtin_code (Code.quiet_builtin _ FE.quiet) (check_new81 c ?_)
  refine new81 c hrest ?_
  show wpAny _ _ _ _ _ (⟨(h.push (tup0 rest)).push (exc0 h.objs.size), g, d, t, os⟩ : Shared)
  have k : ∀ b o, h.get? b = some o → ((h.push (tup0 rest)).push (exc0 h.objs.size)).get? b = some o := fun b o e => Heap.get?_push_of_some _ (Heap.get?_push_of_some _ e)
  have hC₁ := k _ _ hC
  have hget : ((h.push (tup0 rest)).push (exc0 h.objs.size)).get? (h.objs.size + 1) = some { cls := .ref 81, data := .fields #[.ref h.objs.size, .none, .none, .none, .bool false, .none] } := by heap_get
  have hcC : (Value.ref 81 :: bm81).contains (.ref 81) = true := by simp
  unfold isInstance
  repeat (first | with_reducible refine wpAny_loadPart_at hget ?_ | (with_reducible refine wpAny_isSubtype_exc hC₁ ?_; rw [hcC]) | wp_step)
  show wpAny _ _ (typeLookup (.ref 81) _) _ _ _
  refine (looks_findIn (X.keeps k) hi).here ?_
  refine wpAny_holding (wpAny_bind ((bind_fn (X.keeps k) _ hf).here ?_))
  refine wpAny_bind (wpAny_call (codeAny_mono hq fun r s' z => ?_))
  rcases r with e | (v | _ | _ | _) <;> first | exact z | exact z.elim | skip
  obtain ⟨rfl, z⟩ := z
  exact wpAny_pure (wpAny_pure z)
end Mine
namespace Mine
open PySem.Builtin PySem.Builtin.ObjectAttr
section
variable {prog : Program} {w : World} {A : Around} {E : Value → Shared → Prop} {s : Shared}
theorem storeInDict_ok {d : Addr} {es : List DictEntry} {n : Nat} {name : Str} {tk : Tok} {v : Value} {Q : Fin → Shared → Prop} (D : s.heap.get? d = some (dictOf es n)) (hs : StrKs es) (hl : es.length ≤ 1000)
    (h : ∀ h', h'.get? d = some (dictOf (putL name (PyData.keyHash w.params name) (.str name s.toks) v es) (putN name es n)) → (∀ b o, b ≠ d → s.heap.get? b = some o → h'.get? b = some o) → Q (.done (.ret .none)) { s with heap := h', toks := s.toks + 1 }) :
    wpAny (model prog w) A (storeInDict d (.str name tk) name v) Q E s := by
  have e := putName_dict name (PyData.keyHash w.params name) (.str name s.toks) v es n
  have D' : (s.heap.update d (Obj.putName name (PyData.keyHash w.params name) (.str name s.toks) v)).get? d = some (dictOf (putL name (PyData.keyHash w.params name) (.str name s.toks) v es) (putN name es n)) := by
    rw [← e]; exact Heap.get?_update_self _ D (by rw [e]; rfl)
  unfold storeInDict newKeyGuard
  refine wpAny_bind (wpAny_pure (wpAny_bind ?_))
  unfold nsSet
  refine wpAny_bind (wpAny_bind (wpAny_askSetting (wpAny_pure (wpAny_bind (wpAny_mkText (wpAny_bind (wpAny_loadPart D ?_)))))))
  dsimp only
  have c : (!es.toArray.any (·.key.isStr name) && es.toArray.any (·.refKey)) = false := by
    have : (es.toArray.any fun x : DictEntry => x.refKey) = false := by
      rw [← Array.any_toList, List.any_eq_false]
      intro x hx
      obtain ⟨n, t, hk⟩ := hs x (by simpa using hx)
      show ¬ (DictEntry.refKey x) = true
      unfold DictEntry.refKey
      rw [hk]; exact Bool.false_ne_true
    rw [this, Bool.and_false]
  rw [aRefKeyMayBeTheName_at, c]
  refine wpAny_updatePart D ?_
  refine wpAny_bind (wpAny_lookBehind D' (pastItsLine_dict (by
    have := putL_length (a := name) (h := PyData.keyHash w.params name) (k := .str name s.toks) (v := v) (es := es)
    rw [List.size_toArray, sizeLine_eq]; omega)) ?_)
  exact wpAny_pure (h _ D' fun b o hb q => (Heap.get?_update_ne _ _ _ _ hb).trans q)
/-- an exception's dictionary, as it stands -/
noncomputable def XD (h : Heap) (e : Addr) (vs : Array Value) (sl : Array (Option Value)) (od : Option Addr) (es : List DictEntry) : Prop :=
  h.get? e = some ⟨.ref 81, od, .fields vs, sl⟩ ∧ StrKs es ∧ es.length ≤ 100 ∧ ((od = none ∧ es = []) ∨ ∃ d n, od = some d ∧ d ≠ e ∧ h.get? d = some (dictOf es n))
theorem exc_store {P : Params} {name : Str} {v : Value} {e : Addr} {vs : Array Value} {sl : Array (Option Value)} {od : Option Addr} {es : List DictEntry} {Q : Unit → Shared → Prop} (X : (KK P).In s.heap) (x : XD s.heap e vs sl od es)
    (hs : findIn (KK P) (.ref 81) "__setattr__" = some (some (.builtin "object.__setattr__"))) (hm : (clsIn (KK P) 81).map (·.mro) = some (.ref 81 :: bm81)) (hd : (clsIn (KK P) 81).map (·.hasDict) = some true) (ht : findIn (KK P) (.ref 81) name = some none)
    (h : ∀ h' tk d es', XD h' e vs sl (some d) es' → es'.length ≤ es.length + 1 → (∀ b, getL b es' = if b = name then some (some v) else getL b es) → (∀ b o, b ≠ e → od ≠ some b → s.heap.get? b = some o → h'.get? b = some o) → (od = none → s.heap.get? d = none) → (∀ d₀, od = some d₀ → d = d₀) → s.toks ≤ tk → Q () { s with heap := h', toks := tk }) (hlen : es.length ≤ 50) :
    wpAny (model prog w) A (setAttr (.ref e) name v) Q E s := by
  obtain ⟨he, hk, _, hdict⟩ := x
  have SE := PySem.F.store_Exception
  have SF := PySem.F.store_object
  obtain ⟨cd, hc, hm⟩ := Option.map_eq_some_iff.mp hm
  obtain ⟨cd', hc', hd⟩ := Option.map_eq_some_iff.mp hd
  rw [hc] at hc'; cases hc'
  obtain ⟨odo, I⟩ : ∃ odo, InstAt s.heap e ⟨.ref 81, od, .fields vs, sl⟩ 81 odo := by
    rcases hdict with ⟨rfl, _⟩ | ⟨d, n, rfl, _, hd'⟩
    · exact ⟨none, he, rfl, rfl, trivial⟩
    · exact ⟨some _, he, rfl, rfl, hd'⟩
  refine set_plain X I hs ?_
  have sub : Looks (model prog w) s.heap (isInstance (.ref e) (.type "object")) true := I.type.andThen (looks_mroIn X (by unfold mroIn; rw [hc, Option.bind_some, hm]; rfl))
  refine codeAny_call_builtin SF.slot.plain SF.entry (@check_slot (model prog w) _ _ { s with toks := s.toks + 1 } "object.__setattr__" "object" "__setattr__" (.ref e) [.str name s.toks, v] [] _ SF.kind SF.split sub (SF.args (.ref e) (.str name s.toks) v) ?_)
  have hmL : Looks (model prog w) s.heap (mroOf (.ref 81)) cd.mro := (looks_clsIn X hc).andThen .now
  have L3 : Looks (model prog w) s.heap (storeTaker? none) none := .now
  rw [osa_eq, refuse_eq]
  refine wpAny_bind (wpAny_bind (Looks.here (s := { s with toks := s.toks + 1 }) I.type (wpAny_bind (Looks.here (s := { s with toks := s.toks + 1 }) hmL ?_))))
  rw [hm, refuseLoop_ref, refuseLoop_ref, SE.passes]
  refine wpAny_pure (wpAny_bind (Looks.here (s := { s with toks := s.toks + 1 }) I.type (wpAny_bind (Looks.here (s := { s with toks := s.toks + 1 }) (looks_findIn X ht) (wpAny_bind (Looks.here (s := { s with toks := s.toks + 1 }) L3 ?_))))))
  have fin : ∀ (s₁ : Shared) (d : Addr) (n : Nat), s₁.heap.get? e = some ⟨.ref 81, some d, .fields vs, sl⟩ → d ≠ e → s₁.heap.get? d = some (dictOf es n) → (∀ b o, b ≠ e → od ≠ some b → s.heap.get? b = some o → b ≠ d ∧ s₁.heap.get? b = some o) → (od = none → s.heap.get? d = none) → (∀ d₀, od = some d₀ → d = d₀) → s.toks ≤ s₁.toks → s₁ = { s with heap := s₁.heap, toks := s₁.toks } →
      wpAny (model prog w) A.in1 (storeInDict d (.str name s.toks) name v) (fun fin s' => match fin with | .done f => (match (Except.ok f : Result) with | .ok (.ret _) => Q () s' | .ok _ => False | .error e => E e s') | .again c' => c'.quiet = true ∧ codeAny (model prog w) A c' (fun r s' => match r with | .ok (.ret _) => Q () s' | .ok _ => False | .error e => E e s') s') (fun e s' => E e s') s₁ := by
    intro s₁ d n a1 a2 a3 a4 a5 a6 a7 a8
    refine storeInDict_ok a3 hk (by omega) fun h' g1 g2 => ?_
    obtain ⟨k1, k2⟩ := getL_put (a := name) (h := PyData.keyHash w.params name) (t := s₁.toks) (v := v) hk
    have kl := putL_length (a := name) (h := PyData.keyHash w.params name) (k := .str name s₁.toks) (v := v) (es := es)
    rw [a8]
    exact h h' (s₁.toks + 1) d _ ⟨g2 _ _ (Ne.symm a2) a1, k1, by omega, .inr ⟨d, _, rfl, a2, g1⟩⟩ kl k2 (fun b o hb1 hb2 q => g2 b o (a4 b o hb1 hb2 q).1 (a4 b o hb1 hb2 q).2) a5 a6 (by omega)
  rcases hdict with ⟨rfl, rfl⟩ | ⟨d, n, rfl, hde, hd'⟩
  · refine wpAny_bind (wpAny_pure (wpAny_bind (wpAny_bind (wpAny_loadPart he (wpAny_bind (Looks.here (s := { s with toks := s.toks + 1 }) (looks_clsIn X hc) ?_))))))
    rw [hd]
    show wpAny _ _ (alloc { cls := .type "dict", data := .dict #[] } >>= fun d => update e (fun o => { o with dict := some d }) >>= fun _ => dictMade (.ref 81) e d) _ _ _
    have hx₁ : (s.heap.push { cls := .type "dict", data := .dict #[] }).get? e = some ⟨.ref 81, none, .fields vs, sl⟩ := Heap.get?_push_of_some _ he
    have hxs : e ≠ s.heap.objs.size := Nat.ne_of_lt (Heap.lt_size he)
    refine wpAny_bind (wpAny_alloc (wpAny_bind (wpAny_update hx₁ ?_)))
    refine wpAny_pure ?_
    refine fin _ s.heap.objs.size 0 (Heap.get?_update_self _ hx₁ rfl) (Ne.symm hxs) ((Heap.get?_update_ne _ _ _ _ (Ne.symm hxs)).trans (Heap.get?_push_at rfl rfl)) (fun b o h1 _ q => ⟨Nat.ne_of_lt (Heap.lt_size q), (Heap.get?_update_ne _ _ _ _ h1).trans (Heap.get?_push_of_some _ q)⟩) (fun _ => Heap.none_size _) (fun d₀ q => by cases q) (Nat.le_succ _) rfl
  · refine wpAny_bind (wpAny_pure (wpAny_bind (wpAny_bind (wpAny_loadPart he (wpAny_bind (Looks.here (s := { s with toks := s.toks + 1 }) (looks_clsIn X hc) ?_))))))
    rw [hd]
    refine wpAny_pure (a := some d) ?_
    exact fin _ d n he hde hd' (fun b o h1 h2 q => ⟨fun e => h2 (by rw [e]), q⟩) (fun q => by cases q) (fun d₀ q => by cases q; rfl) (Nat.le_succ _) rfl
end
/-- the body of the exception's own __init__ -/
noncomputable def CallForm (p1 p2 p3 p4 p5 : Pos) (pl : Env → Sem Bool) : Prop := ∀ env, eval (.Call (.Attribute (.Name "Exception" p1) "__init__" p2) [.Name "self" p3, .Name "what" p4] [] p5) env = (do
      let ov ← eval (.Name "Exception" p1) env
      standAt p2.atName
      let (f, first) ← holding [ov] (getMethod ov "__init__" (pl env))
      callWith p5 f first (backTo p5 (starEach [.Name "self" p3, .Name "what" p4] env)) [])
noncomputable def InitBody (body : List Stmt) : Prop := ∃ p1 p2 p3 p4 p5 p6 q1 q2 q3 q4 r1 r2 r3 r4 pl, CallForm p1 p2 p3 p4 p5 pl ∧
  body = [.Expr (.Call (.Attribute (.Name "Exception" p1) "__init__" p2) [.Name "self" p3, .Name "what" p4] [] p5) p6,
    .Assign [.Attribute (.Name "self" q1) "what" q2] (.Name "what" q3) q4, .Assign [.Attribute (.Name "self" r1) "at" r2] (.Name "at" r3) r4]
theorem bexc_init {M : Model} {A : Around} {E : Value → Shared → Prop} {h : Heap} {g : Array GenState} {d : Drawn} {t : Nat} {os : OsState} {e tp : Addr} {v1 v2 v3 v4 v5 : Value} {xw : Value} {Q : Fin → Shared → Prop}
    (he : h.get? e = some { cls := .ref 81, data := .fields #[.ref tp, v1, v2, v3, v4, v5] })
    (hq : ∀ h' v, h'.get? e = some { cls := .ref 81, data := .fields #[v, v1, v2, v3, v4, v5] } → (∀ b o, b ≠ e → h.get? b = some o → h'.get? b = some o) → Q (.done (.ret .none)) ⟨h', g, d, t, os⟩) :
    wpAny M A (Builtin.«BaseException.__init__» ⟨[.ref e, xw], []⟩) Q E ⟨h, g, d, t, os⟩ := by
  wp_walk
  refine hq _ (.ref h.objs.size) ?_ fun b o hb q => ?_
  · rw [Heap.get?_update_self _ (Heap.get?_push_of_some _ he) rfl]; rfl
  · exact (Heap.get?_update_other _ _ (Ne.symm hb)).trans (Heap.get?_push_of_some _ q)
theorem exc_stmt1 {pl : Env → Sem Bool} {prog : Program} {w : World} {A : Around} {E : Value → Shared → Prop} {s : Shared} {P : Params} {env : Env} {m mg mb : Str → Option Value} {g : Heap} {L e tp : Addr} {v1 v2 v3 v4 v5 xw : Value} {p1 p2 p3 p4 p5 p6 : Pos} {Q : Flow → Shared → Prop}
    (hcf : CallForm p1 p2 p3 p4 p5 pl) (hk : env.scope.kind = .function) (hin : interactive env = false) (hl1 : env.scope.names.lookup ("self" : Str) = some .local) (hl2 : env.scope.names.lookup ("what" : Str) = some .local) (hl4 : env.kindOf ("Exception" : Str) = some .globalImplicit)
    (ns : s.heap.Ns env.locals m) (m1 : m "self" = some (.ref e)) (m2 : m "what" = some xw) (gs : s.heap.Ns env.globals mg) (g1 : mg "Exception" = none) (bs : s.heap.Ns env.builtins mb) (b1 : mb "Exception" = some (.type "Exception"))
    (F : Fr g L s.heap m) (X : (KK P).In g) (hx3 : findCls (KK P) (.type "Exception") (.type "type") "__init__" = some (.val (.builtin "Exception.__init__"))) (he : s.heap.get? e = some { cls := .ref 81, data := .fields #[.ref tp, v1, v2, v3, v4, v5] })
    (hq : ∀ h' v, h'.get? e = some { cls := .ref 81, data := .fields #[v, v1, v2, v3, v4, v5] } → (∀ b o, b ≠ e → s.heap.get? b = some o → h'.get? b = some o) → Q .next { s with heap := h', toks := s.toks + 1 }) :
    wpAny (model prog w) A (exec (.Expr (.Call (.Attribute (.Name "Exception" p1) "__init__" p2) [.Name "self" p3, .Name "what" p4] [] p5) p6) env) Q E s := by
  refine wpAny_Expr_any ?_ hin rfl
  refine MethodCall_ ?_ (hcf env)
  · refine Name_function_global hk hl4 (loadGlobal_builtin gs g1 bs b1 ?_)
    refine method_type F X (by kernel_rfl) (by decide +kernel) hx3 rfl ?_
    refine PyProof.Rows.callWith_builtin1 ?_ rfl rfl
    refine wpAny_items_cons ?_ rfl
    refine wpAny_Name (wpAny_loadName_local hk hl1 ns m1 ?_) (by decide)
    refine wpAny_items_cons ?_ rfl
    refine wpAny_Name (wpAny_loadName_local hk hl2 ns m2 ?_) (by decide)
    refine wpAny_items_nil ?_
    obtain ⟨h, gg, d, tk, os⟩ := s
    have X₁ := X.keeps F.keep
    refine wpAny_call (codeAny_call_builtin FE.init.plain FE.initEntry (check_init81 (cls81 X₁) he rfl (bexc_init he fun h₂ v2 g2 k2 => ?_)))
    exact hq h₂ v2 g2 k2
theorem fn_fault {r : Nat} {oc cdv dV kV doc pm ct : Value} {od an : Option Addr} {osl : Array (Option Value)} {nm qual : Str} {params : Arguments} {body : List Stmt} {scope : Scope}
    (hr : 1 ≤ r) (hi : ∀ P, findIn (KK P) (.ref 81) "__init__" = some (some (.ref 58))) (hf : ∀ P, typeIn (KK P) (.ref 58) = some (.type "function"))
    (hk : ∀ P, (KK P).lookup 58 = some ⟨oc, od, .func (fnOf nm qual params body scope dV kV doc pm an cdv ct), osl⟩) (hcd : ∀ P, codeIn (KK P) cdv qual = true)
    (hb : ∀ P (s : Shared) (a b c : Value), (KK P).In s.heap → BindsTo s (fnOf nm qual params body scope dV kV doc pm an cdv ct) ⟨[a, b, c], []⟩ [(Str.ofString "self", a), (Str.ofString "what", b), (Str.ofString "at", c)])
    (hl1 : scope.names.lookup ("self" : Str) = some .local) (hl2 : scope.names.lookup ("what" : Str) = some .local) (hl3 : scope.names.lookup ("at" : Str) = some .local) (hl4 : scope.names.lookup ("Exception" : Str) = some .globalImplicit) (hcell : ∀ x ∈ scope.names, x.2 ≠ .cell)
    (hB : InitBody body) (hx1 : ∀ P, nsIn (KK P) mainGlobals ("Exception" : Str) = some none) (hx2 : bootBuiltins ("Exception" : Str) = some (.type "Exception"))
    (hx3 : ∀ P, findCls (KK P) (.type "Exception") (.type "type") "__init__" = some (.val (.builtin "Exception.__init__")))
    (hs : ∀ P, findIn (KK P) (.ref 81) "__setattr__" = some (some (.builtin "object.__setattr__"))) (hm : ∀ P, (clsIn (KK P) 81).map (·.mro) = some (.ref 81 :: bm81)) (hd : ∀ P, (clsIn (KK P) 81).map (·.hasDict) = some true)
    (ht1 : ∀ P, findIn (KK P) (.ref 81) "what" = some none) (ht2 : ∀ P, findIn (KK P) (.ref 81) "at" = some none)
    (hco : scope.isCoroutine = false := by rfl) (hgen : scope.isGenerator = false := by rfl) (hkf : scope.kind = .function := by rfl) :
    Fn 81 r (fun σ vs Q X => match vs with
      | [.str w, p] => nl p = true ∧ σ.pend = none ∧ ∀ e, Q (.obj (.ref e)) { σ with pend := some (e, ⟨w, p⟩) }
      | _ => False) := by
  intro c G hroom vs xs Q X st I μ s Q' E' z t inv rs q x
  dsimp only at t
  split at t
  · rename_i w pv
    obtain ⟨hnp, hpn, hQ⟩ := t
    cases rs with | cons rw rs =>
    cases rs with | cons rp rs =>
    cases rs
    rename_i xw xp
    obtain ⟨m, F, L⟩ := inv.fr
    refine wpAny_call ?_
    obtain ⟨hh0, gg, d, tk, os⟩ := s
    have X₀ := G.K.keeps F.keep
    refine make81 X₀ (cls81 X₀) (by rw [sizeLine_eq]; show 2 ≤ _; omega) (hi _) (hf _) ?_
    generalize hdx : hh0.objs.size = dx at *
    have hH1 : (hh0.push (tup0 [xw, xp])).objs.size = dx + 1 := by rw [Heap.size_push, hdx]
    have kept2 : ∀ b o, hh0.get? b = some o → ((hh0.push (tup0 [xw, xp])).push (exc0 dx)).get? b = some o := fun b o e => Heap.get?_push_of_some _ (Heap.get?_push_of_some _ e)
    have gx : ((hh0.push (tup0 [xw, xp])).push (exc0 dx)).get? (dx + 1) = some (exc0 dx) := hH1 ▸ Heap.get?_push_size _ rfl
    generalize hH2 : (hh0.push (tup0 [xw, xp])).push (exc0 dx) = H2 at *
    have Fk : ∀ b o, c.h₀.get? b = some o → H2.get? b = some o := fun b o e => kept2 b o (F.keep b o e)
    generalize hex : dx + 1 = e at *
    have neE : ∀ b o, hh0.get? b = some o → b ≠ e := fun b o q => by
      have := Heap.lt_size q
      rw [hdx] at this
      exact Nat.ne_of_lt (Nat.lt_of_lt_of_le this (by rw [← hex]; exact Nat.le_succ _))
    have newE : hh0.get? e = none := by
      cases q : hh0.get? e with
      | none => rfl
      | some o => exact absurd rfl (neE e o q)
    refine codeAny_call_def (fd := fnOf nm qual params body scope dV kV doc pm an cdv ct) (body := body) (by show c.A₀.depth + 1 + 1 < _; have := G.depth; omega)
      (Fk _ _ (G.K _ _ (hk _))) rfl (G.top.nolimit.keeps Fk) (codeRec_of (G.K.keeps Fk) (hcd _)) rfl (hb c.w.params _ _ _ _ (G.K.keeps Fk)) hcell
      (fun y hy => ?_) (fun h₁ hns₁ hk₁ => ?_) hco hgen hkf
    · rcases List.mem_cons.mp hy with rfl | hy
      · exact hl1
      rcases List.mem_cons.mp hy with rfl | hy
      · exact hl2
      rcases List.mem_cons.mp hy with rfl | hy
      · exact hl3
      · cases hy
    dsimp only at hns₁ hk₁ ⊢
    obtain ⟨p1, p2, p3, p4, p5, p6, q1, q2, q3, q4, r1, r2, r3, r4, pl, hcf, rfl⟩ := hB
    have gx₁ := hk₁ _ _ gx
    have K₁ : ∀ b o, hh0.get? b = some o → h₁.get? b = some o := fun b o e => hk₁ _ _ (kept2 b o e)
    have l1 : [(Str.ofString "self", Value.ref e), (Str.ofString "what", xw), (Str.ofString "at", xp)].reverse.lookup (Str.ofString "self") = some (.ref e) := by rfl
    have l2 : [(Str.ofString "self", Value.ref e), (Str.ofString "what", xw), (Str.ofString "at", xp)].reverse.lookup (Str.ofString "what") = some xw := by rfl
    have l3 : [(Str.ofString "self", Value.ref e), (Str.ofString "what", xw), (Str.ofString "at", xp)].reverse.lookup (Str.ofString "at") = some xp := by rfl
    generalize hmm : (fun y => [(Str.ofString "self", Value.ref e), (Str.ofString "what", xw), (Str.ofString "at", xp)].reverse.lookup y) = mm at hns₁
    have l1 : mm (Str.ofString "self") = some (.ref e) := by rw [← hmm]; exact l1
    have l2 : mm (Str.ofString "what") = some xw := by rw [← hmm]; exact l2
    have l3 : mm (Str.ofString "at") = some xp := by rw [← hmm]; exact l3
    have key : ∀ h' : Heap, (∀ o, h₁.get? H2.objs.size = some o → h'.get? H2.objs.size = some o) → h'.Ns H2.objs.size mm := fun h' hk' => by
      obtain ⟨o, es, ep, a, b⟩ := hns₁
      exact ⟨o, es, ep, hk' _ a, b⟩
    have F₁ : Fr H2 H2.objs.size h₁ mm := ⟨hns₁, hk₁, Nat.le_refl _⟩
    have X2 := G.K.keeps Fk
    have eL : e ≠ H2.objs.size := Nat.ne_of_lt (Heap.lt_size gx)
    have eK : ∀ b o, (KK c.w.params).lookup b = some o → b ≠ e := fun b o q => neE b o (X₀ b o q)
    obtain ⟨oLc, _, _, gLc, _⟩ := id hns₁
    refine wpAny_execs_cons (exc_stmt1 hcf hkf (by show (scope.kind == .module && _) = false; rw [hkf]; rfl) hl1 hl2 hl4 hns₁ l1 l2 (G.top.g.keeps fun b o e => K₁ _ _ (F.keep b o e)) (mg_none_of G.K G.top.g (hx1 _)) (G.top.b.keeps fun b o e => K₁ _ _ (F.keep b o e)) ((G.top.builtins _ (by decide)).trans hx2) F₁ X2 (hx3 _) gx₁ fun h₂ v2 g2 k2 => ?_)
    have X₂ : (KK c.w.params).In h₂ := fun b o q => k2 b o (eK b o q) (X2.keeps hk₁ b o q)
    have ns₂ : h₂.Ns H2.objs.size mm := key h₂ fun o q => k2 _ _ (Ne.symm eL) q
    refine wpAny_execs_cons (plainObj_wpAny_Assign_Attribute (wpAny_Name (wpAny_loadName_local hkf hl2 ns₂ l2 (wpAny_Name (wpAny_loadName_local hkf hl1 ns₂ l1 ?_) (by decide))) (by decide)) rfl)
    refine exc_store (es := []) (od := none) X₂ ⟨g2, fun e he => (by cases he), Nat.zero_le _, .inl ⟨rfl, rfl⟩⟩ (hs _) (hm _) (hd _) (ht1 _) (fun h₃ tk₃ d₃ es₃ x₃ n₃ gl₃ k₃ nd₃ _ _ => ?_) (Nat.zero_le _)
    have X₃ : (KK c.w.params).In h₃ := fun b o q => k₃ b o (eK b o q) (by simp) (X₂ b o q)
    have ns₃ : h₃.Ns H2.objs.size mm := key h₃ fun o q => k₃ _ _ (Ne.symm eL) (by simp) (k2 _ _ (Ne.symm eL) q)
    refine wpAny_execs_cons (plainObj_wpAny_Assign_Attribute (wpAny_Name (wpAny_loadName_local hkf hl3 ns₃ l3 (wpAny_Name (wpAny_loadName_local hkf hl1 ns₃ l1 ?_) (by decide))) (by decide)) rfl)
    refine exc_store X₃ x₃ (hs _) (hm _) (hd _) (ht2 _) (fun h₄ tk₄ d₄ es₄ x₄ n₄ gl₄ k₄ _ dd₄ _ => ?_) (Nat.le_trans n₃ (by simp))
    obtain rfl := dd₄ d₃ rfl
    refine wpAny_execs_nil ⟨rfl, ?_⟩
    have d2 : h₂.get? d₄ = none := nd₃ rfl
    have dk : ∀ b o, hh0.get? b = some o → b ≠ d₄ := fun b o q w => by
      have := k2 b o (neE b o q) (K₁ b o q)
      rw [w, d2] at this; cases this
    have all : ∀ b o, hh0.get? b = some o → h₄.get? b = some o := fun b o q => k₄ b o (neE b o q) (fun w => dk b o q (Option.some.inj w).symm) (k₃ b o (neE b o q) (by simp) (k2 b o (neE b o q) (K₁ b o q)))
    have inv₄ : Inv c I μ st h₄ := inv.keeps all
    obtain ⟨w1, w2, w3⟩ := inv₄.widen
    have newD : hh0.get? d₄ = none := by
      cases q : hh0.get? d₄ with
      | none => rfl
      | some o => exact absurd rfl (dk _ o q)
    obtain ⟨b1, b2, b3, b4, b5⟩ := inv.fresh newD
    obtain ⟨he₄, hk₄, _, hx₄⟩ := x₄
    rcases hx₄ with ⟨w, _⟩ | ⟨d₅, n₅, hd₅, hde, hdg⟩
    · cases w
    cases hd₅
    have inv₅ : Inv c (still c μ h₄) μ { st with σ := { st.σ with pend := some (e, ⟨w, pv⟩) } } h₄ := { w1 with
      pend := fun e' x' q => by
        obtain ⟨rfl, rfl⟩ := Prod.mk.inj (Option.some.inj q)
        refine ⟨low_new inv newE, d₄, _, _, es₄, n₅, [xw, xp], he₄, rfl, w3 _ _ hdg b1 b2 b3 b4 b5 nofun, ?_, .cons ((rw.up w2 (List.prefix_refl _)).any [] rfl) (.cons ((rp.up w2 (List.prefix_refl _)).any [] hnp) .nil), .inl ⟨rfl, .inl rfl⟩⟩
        rw [List.map_cons, List.map_cons, List.map_nil, gl₄, gl₄, if_neg (by decide), if_pos rfl, gl₃, if_pos rfl]
        rfl }
    exact q _ _ _ _ μ h₄ tk₄ (hQ e) inv₅ w2 (List.prefix_refl _) (.obj _)
  · exact t.elim
theorem f_TokenFault : Fn 81 1 (fun σ vs Q X => match vs with
      | [.str w, p] => nl p = true ∧ σ.pend = none ∧ ∀ e, Q (.obj (.ref e)) { σ with pend := some (e, ⟨w, p⟩) }
      | _ => False) := by
  refine' fn_fault (Nat.le_refl _) (fun P => by kernel_rfl) (fun P => by kernel_rfl) (fun P => by rfl) (fun P => by kernel_rfl) ?b (by rfl) (by rfl) (by rfl) (by rfl) ?c ?B (fun P => by kernel_rfl) (by boot_fast) (fun P => by kernel_rfl) (fun P => by kernel_rfl) (fun P => by kernel_rfl) (fun P => by kernel_rfl) (fun P => by kernel_rfl) (fun P => by kernel_rfl)
  case b => intro P s a b c k; exact BindsTo.of_defaults rfl (k _ _ (by rfl)) rfl rfl rfl
  case c => decide
  case B => exact ⟨_, _, _, _, _, _, _, _, _, _, _, _, _, _, _, fun env => rfl, rfl⟩
end Mine
namespace Mine
theorem Inv.toUp {c : Cx} {I : Heap} {μ : List Addr} {st : St} {h : Heap} (i : Inv c I μ st h) : InvR UpS c I μ st h :=
  i
theorem excFrom81 {M : Model} {A : Around} {E : Value → Shared → Prop} {s : Shared} {a : Addr} {od : Option Addr} {vs : Array Value} {sl : Array (Option Value)} {msg : String} {Q : Value → Shared → Prop} (c : Cls81 s.heap) (he : s.heap.get? a = some ⟨.ref 81, od, .fields vs, sl⟩) (hq : Q (.ref a) s) :
    wpAny M A (excFromValue (.ref a) msg) Q E s := by
  obtain ⟨nm, q, N, bs, sn, sub, ab, col, dd, k0, k1, k2, k3, k5, hC⟩ := c
  obtain ⟨h, g, d, tk, os⟩ := s
  have hcB : (Value.ref 81 :: bm81).contains (.type "BaseException") = true := by decide +kernel
  have hcT : (Value.ref 81 :: bm81).contains (.type "type") = false := by decide +kernel
  unfold excFromValue isExcClass
  repeat (first | with_reducible refine wpAny_loadPart_at he ?_ | with_reducible refine wpAny_loadPart_at hC ?_ | (with_reducible refine wpAny_isSubtype_exc hC ?_; first | rw [hcB] | rw [hcT]) | wp_step)
  exact hq
theorem isType81 {M : Model} {A : Around} {E : Value → Shared → Prop} {s : Shared} {a : Addr} {od : Option Addr} {vs : Array Value} {sl : Array (Option Value)} {Q : Bool → Shared → Prop} (c : Cls81 s.heap) (he : s.heap.get? a = some ⟨.ref 81, od, .fields vs, sl⟩) (hq : Q false s) :
    wpAny M A (isType (.ref a)) Q E s := by
  obtain ⟨nm, q, N, bs, sn, sub, ab, col, dd, k0, k1, k2, k3, k5, hC⟩ := c
  obtain ⟨h, g, d, tk, os⟩ := s
  have hcT : (Value.ref 81 :: bm81).contains (.type "type") = false := by decide +kernel
  repeat (first | with_reducible refine wpAny_loadPart_at he ?_ | with_reducible refine wpAny_loadPart_at hC ?_ | (with_reducible refine wpAny_isSubtype_exc hC ?_; first | rw [hcT]) | wp_step)
  exact hq
theorem raisedInst81 {M : Model} {A : Around} {E : Value → Shared → Prop} {s : Shared} {a : Addr} {od : Option Addr} {vs : Array Value} {sl : Array (Option Value)} {Q : Value → Shared → Prop} (c : Cls81 s.heap) (he : s.heap.get? a = some ⟨.ref 81, od, .fields vs, sl⟩) (hq : Q (.ref a) s) :
    wpAny M A (raisedInstance (.ref a)) Q E s := by
  obtain ⟨nm, q, N, bs, sn, sub, ab, col, dd, k0, k1, k2, k3, k5, hC⟩ := c
  obtain ⟨h, g, d, tk, os⟩ := s
  unfold raisedInstance
  repeat (first | with_reducible refine wpAny_loadPart_at he ?_ | with_reducible refine wpAny_loadPart_at hC ?_ | wp_step)
  exact hq
section
variable {sc : Scope} {rm : Nat} {pos : Pos}
theorem ex_raise {e : PySem.Expr} {T : Tr V} (h : Ev sc rm e T) (h1 : 1 ≤ rm) :
    Ex sc rm (.Raise (some e) none pos) (fun Q X st => T (fun v st₁ => match v with | .obj (.ref a) => ∃ x, st₁.σ.pend = some (a, x) ∧ X x { st₁ with σ := { st₁.σ with pend := none } } | _ => False) X st) := by
  intro c G hs Q X st I μ s Q' E' z t inv q x
  have hnd := G.nohd (room_pos h1 hs)
  have hA := A_handled G (room_pos h1 hs)
  rw [arm_exec_Raise]
  refine wpAny_bind (wpAny_standAt ?_)
  show wpAny _ _ (raiseStmt c.env (some (eval e c.env >>= fun v => standAt pos >>= fun _ => pure v)) none) _ _ _
  unfold raiseStmt
  refine wpAny_bind (wpAny_bind (h.use G hs z t inv ?_ x))
  intro va a st₁ I₁ μ₁ h₁' tk₁ t₁ inv₁ k₁ p₁ r₁ z₁
  refine wpAny_bind (wpAny_standAt (wpAny_pure ?_))
  split at t₁
  · rename_i ea
    cases r₁
    obtain ⟨xc, hpd, hX⟩ := t₁
    have xo := inv₁.pend ea xc hpd
    obtain ⟨lo, d, vs, sl, es, n, xs, h1, h2, h3, h4, h5, h6⟩ := id xo
    obtain ⟨m, F, L⟩ := inv₁.fr
    have c81 : Cls81 h₁' := cls81 (G.K.keeps F.keep)
    refine wpAny_bind (wpAny_pure ?_)
    refine wpAny_bind (wpAny_holding (excFrom81 (s := { s with heap := h₁', toks := tk₁ }) c81 h1 ?_))
    refine wpAny_bind (isType81 (s := { s with heap := h₁', toks := tk₁ }) c81 h1 ?_)
    refine wpAny_bind (raisedInst81 (s := { s with heap := h₁', toks := tk₁ }) c81 h1 ?_)
    have inv₂ : InvR UpS c I₁ μ₁ { st₁ with σ := { st₁.σ with pend := none } } h₁' := { inv₁.toUp with pend := fun e x q => by cases q }
    refine wpAny_bind (flight_ok (s := { s with heap := h₁', toks := tk₁ }) G inv₂ hnd rfl xo fun h₂ inv₃ xo₃ => ?_)
    refine wpAny_raiseNew_none hA ?_
    exact x xc ea _ I₁ μ₁ h₂ tk₁ hX ⟨inv₃, hnd, rfl, xo₃.keeps (fun _ _ _ a _ => a) fun fl w => by
      rcases w with ⟨w, _⟩ | w
      · exact .inl w
      · exact .inr (.inl w)⟩ k₁ p₁
  · exact t₁.elim
end
end Mine
namespace Mine
theorem excMatch81 {M : Model} {A : Around} {E : Value → Shared → Prop} {s : Shared} {a : Addr} {od : Option Addr} {vs : Array Value} {sl : Array (Option Value)} {Q : Bool → Shared → Prop} (c : Cls81 s.heap) (he : s.heap.get? a = some ⟨.ref 81, od, .fields vs, sl⟩) (hq : Q true s) :
    wpAny M A (excMatches (.ref a) (.ref 81)) Q E s := by
  obtain ⟨nm, q, N, bs, sn, sub, ab, col, dd, k0, k1, k2, k3, k5, hC⟩ := c
  obtain ⟨h, g, d, tk, os⟩ := s
  have hcB : (Value.ref 81 :: bm81).contains (.type "BaseException") = true := by decide +kernel
  have hc1 : (Value.ref 81 :: bm81).contains (.ref 81) = true := by decide +kernel
  have t1 := tc_notTuple
  have t2 := tc_sub
  unfold excMatches isExcClass
  repeat (first | with_reducible refine wpAny_loadPart_at he ?_ | with_reducible refine wpAny_loadPart_at hC ?_ | (with_reducible refine wpAny_isSubtype_exc hC ?_; first | rw [hcB] | rw [hc1]) | wp_step)
  exact hq
section
variable {sc : Scope} {rm : Nat} {pos : Pos}
/-- the frame of a handler's suite -/
noncomputable abbrev Cx.hand (c : Cx) (e : Addr) (h : Heap) : Cx := { c with hd := some (.ref e), room := 0, snap := h }
theorem hand_good {c : Cx} {e : Addr} {h : Heap} (G : Good c) : Good (c.hand e h) :=
  ⟨G.stack, G.frames, G.K, G.top, G.fn, G.ffn, G.lav, G.hid, G.handled, .inr rfl, by show c.A₀.depth + 0 + 2 < _; have := G.depth; omega, by show c.A₀.units + 10 * (0 + 10) < _; have := G.units; omega⟩
theorem hand_inv {c : Cx} {I : Heap} {μ : List Addr} {st : St} {h : Heap} {e : Addr} {x : Exc} (inv : Inv c I μ st h) (hp : st.σ.pend = some (e, x)) : Inv (c.hand e h) I μ st h :=
  { inv with
    avoid := fun a ha => ⟨(inv.avoid a ha).1, let ⟨_, o', es, n, _, e', _, d⟩ := (inv.avoid a ha).2; ⟨o', o', es, n, e', e', .refl _, d⟩⟩
    hdl := fun v q => by
      cases q
      obtain ⟨_, d, vs, sl, es, n, xs, h1, h2, _⟩ := inv.pend e x hp
      exact ⟨e, _, vs, rfl, h1, rfl, h2⟩ }
theorem hand_back {c : Cx} {I I' : Heap} {μ μ' : List Addr} {st st' : St} {h h' : Heap} {e : Addr} (inv : Inv c I μ st h) (i : Inv (c.hand e h) I' μ' st' h') (hn : c.hd = none) : Inv c I' μ' st' h' :=
  { i with
    avoid := fun a ha => ⟨(i.avoid a ha).1, by
      obtain ⟨_, o1, o', es, n, a1, a2, r, d⟩ := i.avoid a ha
      obtain ⟨_, o0, o1', _, _, b1, b2, b3, _⟩ := inv.avoid a ha
      have a1 : h.get? a = some o1 := a1
      rw [a1] at b2; cases b2
      exact ⟨o0, o', es, n, b1, a2, b3.trans r, d⟩⟩
    hdl := fun v q => by rw [hn] at q; cases q }
theorem ex_try {n : Str} {i : Nat} {body suite : List Stmt} {b₀ : Stmt} {np hpos : Pos} {T₁ T₂ : Tr Fl} (hB : Exs sc rm body T₁) (hS : Exs sc 0 (b₀ :: suite) T₂) (hi : idxIn sc.names n = some i) (hl : sc.names.lookup n = some .local) (h1 : 1 ≤ rm)
    (ht : Ev sc 0 (.Name "TokenFault" np) (fun Q _ st => Q (.obj (.ref 81)) st)) :
    Ex sc rm (.Try body [.ExceptHandler (some (.Name "TokenFault" np)) (some n) (b₀ :: suite) hpos] [] [] pos) (fun Q X st => T₁ Q (fun x st₁ => ∀ e, T₂ (fun f st₂ => st₂.σ.pend = some (e, x) ∧ Q f { st₂ with vars := [], σ := { st₂.σ with pend := none } }) (fun _ _ => False)
      { st₁ with vars := st₁.vars.set i (some (.obj (.ref e))), σ := { st₁.σ with pend := some (e, x) } }) st) := by
  intro c G hs Q X st I μ s Q' E' z t inv q x
  have hnd := G.nohd (room_pos h1 hs)
  refine wpAny_Try_except (wpAny_with_toks (n := 1) z (hB c G hs Q _ st I μ s _ _ z t inv ?_ ?_))
  · intro v val st' I' μ' h' tk b i' k' p' r' z'
    cases r' with
    | next => exact wpAny_execs_nil (q _ _ _ _ _ _ _ b i' k' p' .next)
    | brk => exact q _ _ _ _ _ _ _ b i' k' p' .brk
    | cont => exact q _ _ _ _ _ _ _ b i' k' p' .cont
    | ret r => exact q _ _ _ _ _ _ _ b i' k' p' (.ret r)
  · intro xc e st₁ I₁ μ₁ h₁ tk₁ hx f₁ k₁ p₁ z₁
    refine note_ok (s := { s with heap := h₁, toks := tk₁ }) G f₁ fun h₂ f₂ t₂ => ?_
    refine flight_ok (s := { s with heap := h₂, toks := tk₁ }) G f₂.inv f₂.nohd f₂.nop t₂ fun h₃ i₃ t₃ => ?_
    have xo₃ : ExcObj c.h₀ I₁ e xc h₃ (fun fl => fl = none ∨ fl = some .none) := t₃.keeps (fun _ _ _ a _ => a) fun fl w => by
      rcases w with ⟨w, _⟩ | w
      · exact .inl w
      · exact .inr w
    let st₂ : St := { st₁ with σ := { st₁.σ with pend := some (e, xc) } }
    have inv₃ : Inv c I₁ μ₁ st₂ h₃ := { i₃ with
      pend := fun e' x' w => by
        obtain ⟨rfl, rfl⟩ := Prod.mk.inj (Option.some.inj w)
        exact xo₃ }
    have xF : ∀ {c' : Cx} {I' : Heap} {μ' : List Addr} {s' : Shared} {E'' : Value → Shared → Prop}, ExQ c' I' μ' s' (fun _ _ => False) E'' := fun _ _ _ _ _ _ _ w => w.elim
    refine wpAny_handleBy_cons (codeAny_handlers_test ?_) (by intro q; cases q)
    refine ht.use (c := c.hand e h₃) (hand_good G) ⟨hs.1, Nat.zero_le _⟩ (Q := fun v st' => v = .obj (.ref 81) ∧ st' = st₂) (X := fun _ _ => False) (s := { s with heap := h₃, toks := tk₁ }) z₁ ⟨rfl, rfl⟩ (hand_inv inv₃ rfl) ?_ xF
    rintro _ cv st' I₄ μ₄ h₄ tk₄ ⟨rfl, rfl⟩ inv₄ k₄ p₄ r₄ z₄
    cases r₄
    have inv₄' := hand_back inv₃ inv₄ hnd
    obtain ⟨lo, d, vs, sl, es, nn, xs, g1, g2, g3, g4, g5, g6⟩ := id (inv₄'.pend e xc rfl)
    obtain ⟨m, F, L⟩ := inv₄'.fr
    refine excMatch81 (s := { s with heap := h₄, toks := tk₄ }) (cls81 (G.K.keeps F.keep)) g1 ?_
    show codeAny _ _ _ _ _
    refine codeAny_handlers_suite_as ?_
    have inv₅ : Inv c I₄ μ₄ st₁ h₄ := { inv₄' with pend := fun e' x' w => by rw [f₂.nop] at w; cases w }
    refine flight_ok (s := { s with heap := h₄, toks := tk₄ }) G inv₅ hnd f₂.nop (inv₄'.pend e xc rfl) fun h₅ i₅ t₅ => ?_
    have inv₆ : Inv c I₄ μ₄ st₂ h₅ := { i₅ with
      pend := fun e' x' w => by
        obtain ⟨rfl, rfl⟩ := Prod.mk.inj (Option.some.inj w)
        exact t₅.keeps (fun _ _ _ a _ => a) fun fl w => by
          rcases w with ⟨w, _⟩ | w
          · exact .inl w
          · exact .inr w }
    obtain ⟨rfl, hrm⟩ := hs
    refine store_okT (c := c.hand e h₅) (s := { s with heap := h₅, toks := tk₄ }) (hand_good G) z₄ hi hl (hand_inv inv₆ rfl) (.obj _) fun h₆ tk₆ z₆ inv₇ => ?_
    refine hS.use (c := c.hand e h₅) (hand_good G) ⟨rfl, Nat.zero_le _⟩ (X := fun _ _ => False) (s := { s with heap := h₆, toks := tk₆ }) z₆ (hx e) inv₇ ?_ xF
    intro fv fl st₈ I₈ μ₈ h₈ tk₈ t₈ inv₈ k₈ p₈ r₈ z₈
    obtain ⟨hpd, hQ⟩ := t₈
    have inv₉ := hand_back inv₆ inv₈ hnd
    obtain ⟨m₉, F₉, _⟩ := inv₉.fr
    refine wpAny_nameGoes (s := { s with heap := h₈, toks := tk₈ }) hl F₉.ns (by show (c.scope.kind == .class || (c.scope.kind == .module && c.L != mainGlobals)) = false; rw [G.fn]; rfl) fun h₁₀ m₁₀ hn₁₀ hs₁₀ => ?_
    have inv₁₀ := Inv.relocal (vars := []) G.lav inv₉ hn₁₀ hs₁₀ (fun x i v _ w => by cases w)
    exact q _ _ _ I₈ μ₈ h₁₀ _ hQ { inv₁₀ with pend := fun e x w => by cases w } (stays_trans k₁ (stays_trans k₄ k₈)) (p₁.trans (p₄.trans p₈)) r₈
end
end Mine
namespace Mine
section
variable {sc : Scope} {rm : Nat} {pos : Pos}
noncomputable def opSub (a b : V) (Q : V → Prop) : Prop := withNat a fun i => withNat b fun j => j ≤ i ∧ Q (.int ((i - j : Nat) : Int))
noncomputable def opMod (a b : V) (Q : V → Prop) : Prop := withNat a fun i => withNat b fun j => j ≠ 0 ∧ Q (.int ((i % j : Nat) : Int))
noncomputable def opDiv (a b : V) (Q : V → Prop) : Prop := withNat a fun i => withNat b fun j => j ≠ 0 ∧ j < 1073741824 ∧ Q (.int ((i / j : Nat) : Int))
noncomputable def opPow (a b : V) (Q : V → Prop) : Prop := withNat a fun i => withNat b fun j => j ≤ 1000 ∧ i < 2 ^ 64 ∧ Q (.int ((i ^ j : Nat) : Int))
noncomputable def opMul (a b : V) (Q : V → Prop) : Prop := withStr a fun x => withNat b fun n => 2 ≤ n ∧ n ≤ 1000 ∧ x.length = 1 ∧ Q (.str (List.replicate n (x.headD 0)))
theorem ev_sub {l r : PySem.Expr} {T₁ T₂ : Tr V} (h₁ : Ev sc rm l T₁) (h₂ : Ev sc rm r T₂) :
    Ev sc rm (.BinOp l .Sub r pos) (fun Q X st => T₁ (fun va st₁ => T₂ (fun vb st₂ => opSub va vb (fun v => Q v st₂)) X st₁) X st) := by
  refine ev_bin h₁ h₂ ?_
  intro c G va vb a b Q st I μ s Q' E' z t inv ra rb q
  obtain ⟨i, rfl, t'⟩ := withNat_inv t
  obtain ⟨j, rfl, t''⟩ := withNat_inv t'
  obtain ⟨_, rfl⟩ := ra.intI; obtain ⟨_, rfl⟩ := rb.intI
  refine sub_int (same_heapT q _ t''.2 inv ?_)
  rw [Int.ofNat_sub t''.1]; exact .int _ _
theorem ev_mod {l r : PySem.Expr} {T₁ T₂ : Tr V} (h₁ : Ev sc rm l T₁) (h₂ : Ev sc rm r T₂) :
    Ev sc rm (.BinOp l .Mod r pos) (fun Q X st => T₁ (fun va st₁ => T₂ (fun vb st₂ => opMod va vb (fun v => Q v st₂)) X st₁) X st) := by
  refine ev_bin h₁ h₂ ?_
  intro c G va vb a b Q st I μ s Q' E' z t inv ra rb q
  obtain ⟨i, rfl, t'⟩ := withNat_inv t
  obtain ⟨j, rfl, t''⟩ := withNat_inv t'
  obtain ⟨_, rfl⟩ := ra.intI; obtain ⟨_, rfl⟩ := rb.intI
  refine mod_int' (fun e => t''.1 (Int.ofNat.inj e)) (same_heapT q _ t''.2 inv ?_)
  rw [← Int.ofNat_fmod]; exact .int _ _
theorem ev_floordiv {l r : PySem.Expr} {T₁ T₂ : Tr V} (h₁ : Ev sc rm l T₁) (h₂ : Ev sc rm r T₂) :
    Ev sc rm (.BinOp l .FloorDiv r pos) (fun Q X st => T₁ (fun va st₁ => T₂ (fun vb st₂ => opDiv va vb (fun v => Q v st₂)) X st₁) X st) := by
  refine ev_bin h₁ h₂ ?_
  intro c G va vb a b Q st I μ s Q' E' z t inv ra rb q
  obtain ⟨i, rfl, t'⟩ := withNat_inv t
  obtain ⟨j, rfl, t''⟩ := withNat_inv t'
  obtain ⟨_, rfl⟩ := ra.intI; obtain ⟨_, rfl⟩ := rb.intI
  refine floordiv_int (fun e => t''.1 (Int.ofNat.inj e)) (same_heapT q _ t''.2.2 inv ?_) (.inl (PyProof.noPylong_small t''.2.1))
  rw [← Int.ofNat_fdiv]; exact .int _ _
theorem ev_pow {l r : PySem.Expr} {T₁ T₂ : Tr V} (h₁ : Ev sc rm l T₁) (h₂ : Ev sc rm r T₂) :
    Ev sc rm (.BinOp l .Pow r pos) (fun Q X st => T₁ (fun va st₁ => T₂ (fun vb st₂ => opPow va vb (fun v => Q v st₂)) X st₁) X st) := by
  refine ev_bin h₁ h₂ ?_
  intro c G va vb a b Q st I μ s Q' E' z t inv ra rb q
  obtain ⟨i, rfl, t'⟩ := withNat_inv t
  obtain ⟨j, rfl, t''⟩ := withNat_inv t'
  obtain ⟨_, rfl⟩ := ra.intI; obtain ⟨_, rfl⟩ := rb.intI
  refine pow_int_small (Int.natCast_nonneg _) (by have := t''.1; omega) t''.2.1 (same_heapT q _ t''.2.2 inv ?_)
  rw [show ((i : Int) ^ (j : Int).toNat) = ((i ^ j : Nat) : Int) from (Int.natCast_pow i j).symm]; exact .int _ _
theorem foldl_rep (c : Nat) : ∀ (n : Nat) (acc : Array Nat), ((List.replicate n #[c]).foldl (· ++ ·) acc).toList = acc.toList ++ List.replicate n c
  | 0, acc => by simp
  | n + 1, acc => by rw [List.replicate_succ, List.foldl_cons, foldl_rep c n, Array.toList_append, List.replicate_succ]; simp
theorem ev_mult {l r : PySem.Expr} {T₁ T₂ : Tr V} (h₁ : Ev sc rm l T₁) (h₂ : Ev sc rm r T₂) :
    Ev sc rm (.BinOp l .Mult r pos) (fun Q X st => T₁ (fun va st₁ => T₂ (fun vb st₂ => opMul va vb (fun v => Q v st₂)) X st₁) X st) := by
  refine ev_bin h₁ h₂ ?_
  intro c G va vb a b Q st I μ s Q' E' z t inv ra rb q
  obtain ⟨l, rfl, t'⟩ := withStr_inv t
  obtain ⟨n, rfl, h1, h2, h3, t⟩ := withNat_inv t'
  obtain ⟨x, tx, rfl, hx, ok⟩ := ra.strI; obtain ⟨_, rfl⟩ := rb.intI
  match l, h3 with
  | [ch], _ =>
    have hl := len_of hx
    have e1 : ¬ (n : Int) < 1 := by omega
    have e2 : ((n : Int) == 1 || x.length == 0) = false := by rw [hl]; simp only [List.length_cons, List.length_nil]; simp; omega
    refine SB.mul ⟨?_, fun _ _ => ?_, fun _ _ => ?_⟩ fun t' k => same_heapT q _ t inv ?_
    · simp; omega
    · rw [hl]
      have : (9223372036854775807 : Int) / n ≥ 1 := by
        have := Int.ediv_le_ediv (c := (n : Int)) (by omega) (show (1000 : Int) ≤ 9223372036854775807 by omega)
        have h3 : 1 ≤ 1000 / (n : Int) := (Int.le_ediv_iff_mul_le (by omega)).mpr (by omega)
        omega
      show ¬ ((1 : Nat) : Int) > (2 ^ 63 - 1) / n
      have e : ((2 : Int) ^ 63 - 1) = 9223372036854775807 := by decide
      rw [e]; omega
    · rw [hl]; unfold PySem.Builtin.Str.tooLong sizeLine
      exact decide_eq_false (by simp only [List.length_cons, List.length_nil]; omega)
    · refine .str _ ?_ ⟨fun d hd => ?_, by simp; omega⟩
      · unfold Txt.mul
        rw [if_neg e1, e2, if_neg Bool.false_ne_true]
        rw [str_of hx]
        show ((List.replicate n #[ch]).foldl (· ++ ·) #[]).toList = _
        rw [foldl_rep]; rfl
      · rw [List.eq_of_mem_replicate hd]; exact ok.1 _ (.head _)
/-- lists laid end to end -/
noncomputable def opAddL : V → V → (V → Prop) → Prop
  | .list a, .list b, Q => a.length + b.length ≤ 1000 ∧ Q (.list (a ++ b))
  | _, _, _ => False
theorem VRs.append {I : Heap} {μ : List Addr} : ∀ {l m : List V} {xs ys : List Value}, VRs I μ l xs → VRs I μ m ys → VRs I μ (l ++ m) (xs ++ ys)
  | _, _, _, _, .nil, b => b
  | _, _, _, _, .cons a r, b => .cons a (VRs.append r b)
theorem ev_addL {l r : PySem.Expr} {T₁ T₂ : Tr V} (h₁ : Ev sc rm l T₁) (h₂ : Ev sc rm r T₂) :
    Ev sc rm (.BinOp l .Add r pos) (fun Q X st => T₁ (fun va st₁ => T₂ (fun vb st₂ => opAddL va vb (fun v => Q v st₂)) X st₁) X st) := by
  refine ev_bin h₁ h₂ ?_
  intro c G va vb a b Q st I μ s Q' E' z t inv ra rb q
  unfold opAddL at t
  split at t
  · cases ra with | @list _ a1 vs1 n1 g1 r1 =>
    cases rb with | @list _ a2 vs2 n2 g2 r2 =>
    have e1 := VRs.length r1
    have e2 := VRs.length r2
    have e3 : vs1.toList.length = vs1.size := Array.length_toList
    have e4 : vs2.toList.length = vs2.size := Array.length_toList
    obtain ⟨I₂, i2, k2, g3⟩ := inv.grow (o := { cls := .type "list", data := .seq (vs1 ++ vs2) }) rfl nofun
    refine P.add_list (inv.stays _ _ g1) (inv.stays _ _ g2) ?_ (by rw [sizeLine_eq]; have := t.1; omega)
    exact q _ _ _ I₂ μ _ _ t.2 i2 k2 (List.prefix_refl _) (.list g3 (by rw [Array.toList_append]; exact (r1.up k2 (List.prefix_refl _)).append (r2.up k2 (List.prefix_refl _))))
  · exact t.elim
end
end Mine
namespace Mine
noncomputable def upA (c : Nat) : Nat := if 97 ≤ c ∧ c ≤ 122 then c - 32 else c
theorem upA_lt {c : Nat} (h : c < 128) : upA c < 128 := by unfold upA; split <;> omega
theorem upper_ascii : ((List.range 128).all fun c => Unicode.upperOf c == [upA c]) = true := by decide +kernel
theorem upperOf_ascii {c : Nat} (h : c < 128) : Unicode.upperOf c = [upA c] := by
  have := List.all_eq_true.mp upper_ascii c (List.mem_range.mpr h)
  exact beq_iff_eq.mp this
theorem upper_toList {x : Str} {l : List Nat} (hx : x.cps.toList = l) (ok : okS l) : (Txt.upper x).cps.toList = l.map upA := by
  show ((x.cps.mapIdx fun i c => (Unicode.upperOf c).toArray).flatten).toList = _
  rw [Array.toList_flatten, Array.toList_mapIdx, hx]
  have : ∀ (l : List Nat), (∀ c ∈ l, c < 128) → (List.map Array.toList (List.mapIdx (fun (_ : Nat) c => (Unicode.upperOf c).toArray) l)).flatten = l.map upA := by
    intro l
    induction l with
    | nil => intro _; rfl
    | cons a r ih =>
      intro h
      rw [List.mapIdx_cons, List.map_cons, List.flatten_cons, upperOf_ascii (h a (.head _)), List.map_cons]
      rw [show List.mapIdx (fun (i : Nat) c => (fun (_ : Nat) c => (Unicode.upperOf c).toArray) (i + 1) c) r = List.mapIdx (fun (_ : Nat) c => (Unicode.upperOf c).toArray) r from rfl, ih fun c hc => h c (.tail _ hc)]
      rfl
  exact this l ok.1
theorem okS_up {l : List Nat} (ok : okS l) : okS (l.map upA) := ⟨fun c hc => by
  obtain ⟨d, hd, rfl⟩ := List.mem_map.mp hc
  exact upA_lt (ok.1 d hd), by rw [List.length_map]; exact ok.2⟩
section
variable {sc : Scope} {rm : Nat} {pos : Pos}
noncomputable def oUpper (_ : Led) (vs : List V) (Q : V → Prop) : Prop := one vs fun v => withStr v fun l => Q (.str (l.map upA))
theorem b_upper : BSound rm (.builtin "str.upper") oUpper := by
  intro c G hrm vs xs Q st I μ s Q' E' z t inv r q
  obtain ⟨v, x, rfl, r1, t1⟩ := one_inv t r
  obtain ⟨l, rfl, t2⟩ := withStr_inv t1
  obtain ⟨_, _, rfl, hx, ok⟩ := r1.strI
  have hl := len_of hx
  have h2 := ok.2
  exact SCL.upper (by omega) fun _ => same_heapT q _ t2 inv (.str _ (upper_toList hx ok) (okS_up ok))
/-- the texts of a list -/
noncomputable def strsOf : List V → Option (List (List Nat))
  | [] => some []
  | .str s :: r => (strsOf r).map (s :: ·)
  | _ :: _ => none
theorem strsOf_vals {I : Heap} {μ : List Addr} : ∀ {l : List V} {xs : List Value} {ts : List (List Nat)}, VRs I μ l xs → strsOf l = some ts → ∃ ps : List (Str × Tok), strValues ps = xs ∧ ps.map (fun p => p.1.cps.toList) = ts ∧ ∀ t ∈ ts, okS t
  | _, _, _, .nil, e => by cases e; exact ⟨[], rfl, rfl, nofun⟩
  | _, _, _, .cons a b, e => by
    unfold strsOf at e
    split at e
    · rename_i h; cases h
    · rename_i s r h
      cases h
      obtain ⟨ts, e1, rfl⟩ := Option.map_eq_some_iff.mp e
      obtain ⟨ps, p1, p2, p3⟩ := strsOf_vals b e1
      cases a with | @str _ x t hx ok =>
      refine ⟨(x, t) :: ps, by rw [← p1]; rfl, by rw [List.map_cons, p2, hx], fun t ht => ?_⟩
      rcases List.mem_cons.mp ht with rfl | ht
      · exact ok
      · exact p3 t ht
    · cases e
theorem glued_empty {sep : Str} (hs : sep.cps.toList = []) : ∀ (ps : List Str) (acc : Array Nat), (ps.foldl (fun acc p => acc ++ sep.cps ++ p.cps) acc).toList = acc.toList ++ (ps.map fun p => p.cps.toList).flatten
  | [], acc => by simp
  | p :: r, acc => by
    rw [List.foldl_cons, glued_empty hs r, Array.toList_append, Array.toList_append, hs]
    simp
noncomputable def oJoin (_ : Led) : List V → (V → Prop) → Prop
  | [.str [], .list l], Q => (match strsOf l with | some ts => ts.flatten.length ≤ 65536 ∧ Q (.str ts.flatten) | none => False)
  | _, _ => False
theorem b_join : BSound rm (.builtin "str.join") oJoin := by
  intro c G hrm vs xs Q st I μ s Q' E' z t inv r q
  unfold oJoin at t
  split at t
  · cases r with | cons r1 r2 =>
    cases r2 with | cons r3 r4 =>
    cases r4
    cases r1 with | @str _ sep tk hx ok =>
    cases r3 with | @list _ a vs n g1 rs =>
    split at t
    · rename_i ts hts
      obtain ⟨ps, p1, p2, p3⟩ := strsOf_vals rs hts
      have hL : Heap.IsList s.heap a (strValues ps).toArray := by rw [p1]; exact ⟨_, inv.stays _ _ g1, rfl, n, by simp⟩
      have hj : (Txt.join sep (ps.map (·.1))).cps.toList = ts.flatten := by
        rw [← p2]
        unfold Txt.join
        cases ps with
        | nil => rfl
        | cons p r =>
          show ((r.map (·.1)).foldl (fun acc p => acc ++ sep.cps ++ p.cps) p.1.cps).toList = _
          rw [glued_empty hx]
          simp [Function.comp_def]
      refine SC.join hL rfl ?_ fun t' k => same_heapT q _ t.2 inv (.str _ hj ⟨fun c hc => ?_, t.1⟩)
      · unfold JoinOk
        rw [Bool.not_eq_true', StrLaws.joinTotal]
        have e1 : ∀ (l : List (Str × Tok)), ((l.map (·.1)).map (·.length)).sum = ((l.map fun p => p.1.cps.toList).flatten).length := by
          intro l
          induction l with
          | nil => rfl
          | cons a r ih =>
            rw [List.map_cons, List.map_cons, List.sum_cons, ih, List.map_cons, List.flatten_cons, List.length_append]
            rw [show a.1.length = a.1.cps.toList.length from Array.length_toList.symm]
        have e2 : sep.length = 0 := by rw [len_of hx]; rfl
        rw [e1, e2, p2]
        unfold PySem.Builtin.Str.tooLong sizeLine
        exact decide_eq_false (by have := t.1; omega)
      · obtain ⟨t, ht, hc⟩ := List.mem_flatten.mp hc
        exact (p3 t ht).1 c hc
    · exact t.elim
  · exact t.elim
/-- isinstance of a list, a tuple -/
noncomputable def oIsL (_ : Led) (vs : List V) (Q : V → Prop) : Prop := two vs fun v w => w = .obj (.type "list") ∧ match v with
  | .int _ => Q (.bool false)
  | .list _ => Q (.bool true)
  | .loc _ => Q (.bool true)
  | .tup _ => Q (.bool false)
  | _ => False
noncomputable def oIsT (_ : Led) (vs : List V) (Q : V → Prop) : Prop := two vs fun v w => w = .obj (.type "tuple") ∧ match v with
  | .int _ => Q (.bool false)
  | .tup _ => Q (.bool true)
  | _ => False
end
end Mine
namespace Mine
theorem loc_obj {c : Cx} {I : Heap} {μ : List Addr} {st : St} {h : Heap} {R : Obj → Obj → Prop} (inv : InvR R c I μ st h) {k : Nat} {a : Addr} (hk : μ[k]? = some a) : ∃ vs n, h.get? a = some (listOf vs n) ∧ VRs I [] (st.σ.ls.getD k []) vs.toList ∧ k < st.σ.ls.length := by
  have hlt := (List.getElem?_eq_some_iff.mp hk).1
  rw [inv.led.1] at hlt
  obtain ⟨vs, n, e1, e2, _⟩ := inv.led.2.2 k a _ hk (getD_at hlt)
  exact ⟨vs, n, e1, e2, hlt⟩
section
variable {sc : Scope} {rm : Nat} {pos : Pos}
theorem b_isL : BSound rm (.builtin "isinstance") oIsL := by
  intro c G hrm vs xs Q st I μ s Q' E' z t inv r q
  obtain ⟨v, w, x, y, rfl, r1, r2, rfl, t1⟩ := two_inv t r
  rw [r2.objI]
  split at t1
  · obtain ⟨_, rfl⟩ := r1.intI
    exact IsiPair.int_list (same_heapT q _ t1 inv (.bool _))
  · obtain ⟨_, _, _, rfl, g, _⟩ := r1.listI
    exact IsiPair.list_list (inv.stays _ _ g) rfl (same_heap q t1 inv (.bool _))
  · obtain ⟨_, rfl, hk⟩ := r1.locI
    obtain ⟨_, _, e, _⟩ := loc_obj inv hk
    exact IsiPair.list_list e rfl (same_heap q t1 inv (.bool _))
  · obtain ⟨_, _, _, _, rfl, g1, g2, _⟩ := r1.tupI
    exact IsiPair.tuple_list (inv.stays _ _ g1) g2 (same_heapT q _ t1 inv (.bool _))
  · exact t1.elim
theorem b_isT : BSound rm (.builtin "isinstance") oIsT := by
  intro c G hrm vs xs Q st I μ s Q' E' z t inv r q
  obtain ⟨v, w, x, y, rfl, r1, r2, rfl, t1⟩ := two_inv t r
  rw [r2.objI]
  split at t1
  · obtain ⟨_, rfl⟩ := r1.intI
    exact IsiPair.int_tuple (same_heapT q _ t1 inv (.bool _))
  · obtain ⟨_, _, _, _, rfl, g1, g2, _⟩ := r1.tupI
    exact IsiPair.tuple_tuple (inv.stays _ _ g1) g2 (same_heap q t1 inv (.bool _))
  · exact t1.elim
/-- a turned list grows -/
theorem Inv.append {c : Cx} {I : Heap} {μ : List Addr} {st : St} {h h' : Heap} {k : Nat} {a : Addr} {vs : Array Value} {n n' : Nat} {v : V} {x : Value} (inv : Inv c I μ st h) (hk : μ[k]? = some a) (e : h.get? a = some (listOf vs n)) (rs : VRs I [] (st.σ.ls.getD k []) vs.toList)
    (r : VR I [] v x) (hs : Heap.SameBut a h h') (e' : h'.get? a = some (listOf (vs.push x) n')) : Inv c I μ { st with σ := { st.σ with ls := st.σ.ls.set k (st.σ.ls.getD k [] ++ [v]) } } h' := by
  have hlt := (List.getElem?_eq_some_iff.mp hk).1
  rw [inv.led.1] at hlt
  obtain ⟨_, _, _, _, aL, a0, aI⟩ := inv.led.2.2 k a _ hk (getD_at hlt)
  have ne : ∀ b o, h.get? b = some o → (∀ vs n, o ≠ listOf vs n) → b ≠ a := fun b o q nl w => by rw [w, e] at q; cases q; exact nl _ _ rfl
  have nd : ∀ {o : Obj} {es ep}, o.data = .dict es ep → ∀ vs n, o ≠ listOf vs n := fun d vs n q => by rw [q] at d; cases d
  have nf : ∀ {o : Obj} {vs'}, o.data = .fields vs' → ∀ vs n, o ≠ listOf vs n := fun d vs n q => by rw [q] at d; cases d
  have kp : ∀ b o, b ≠ a → h.get? b = some o → h'.get? b = some o := fun b o w q => (hs.2 b w).trans q
  refine ⟨?_, ⟨by rw [inv.led.1]; exact (List.length_set ..).symm, inv.led.2.1, fun j b l e1 e2 => ?_⟩, fun b o q => kp b o (fun w => by rw [w, aI] at q; cases q) (inv.stays b o q), inv.own, inv.nof, fun b hb => ⟨(inv.avoid b hb).1, let ⟨o, o', es, m, q1, q2, q3, q4⟩ := (inv.avoid b hb).2; ⟨o, o', es, m, q1, kp _ _ (ne _ _ q2 (nd q4)) q2, q3, q4⟩⟩,
    fun b hb => ⟨(inv.shy b hb).1, ?_⟩, ⟨inv.frame.1, let ⟨o, es, m, q1, q2⟩ := inv.frame.2; ⟨o, es, m, kp _ _ (ne _ _ q1 (nd q2)) q1, q2⟩⟩, inv.cells, fun b x q => (inv.pend b x q).keeps (fun b o vs q1 q2 => kp b o (ne _ _ q1 (nf q2)) q1) fun _ a => a, fun v q => let ⟨b, o, vs, q1, q2, q3, q4⟩ := inv.hdl v q; ⟨b, o, vs, q1, kp _ _ (ne _ _ q2 (nf q3)) q2, q3, q4⟩⟩
  · obtain ⟨m, F, L⟩ := inv.fr
    obtain ⟨oL, es, ep, q1, q2, q3⟩ := F.ns
    exact ⟨m, ⟨⟨oL, es, ep, kp _ _ (Ne.symm aL) q1, q2, q3⟩, fun b o q => kp b o (fun w => by rw [w, a0] at q; cases q) (F.keep b o q), F.off⟩, L⟩
  · rw [List.getElem?_set] at e2
    by_cases w : k = j
    · subst w
      rw [if_pos rfl, if_pos hlt] at e2
      cases e2
      have : b = a := Option.some.inj (e1.symm.trans hk)
      subst this
      exact ⟨_, n', e', by rw [Array.toList_push]; exact rs.snoc r, aL, a0, aI⟩
    · rw [if_neg w] at e2
      obtain ⟨us, m, q1, q2, q3⟩ := inv.led.2.2 j b l e1 e2
      refine ⟨us, m, kp b _ (fun q => w ?_) q1, q2, q3⟩
      subst q
      exact (List.getElem?_inj (List.getElem?_eq_some_iff.mp hk).1 inv.led.2.1).mp (hk.trans e1.symm)
  · obtain ⟨_, o, q1, q2⟩ := inv.shy b hb
    by_cases w : b = a
    · exact ⟨_, w ▸ e', fun vs q => by cases q⟩
    · exact ⟨o, kp b o w q1, q2⟩
theorem ex_append {e a : PySem.Expr} {ap ep : Pos} {pl : Env → Sem Bool} {T₁ T₂ : Tr V} (h : Ev sc rm e T₁) (ha : Ev sc rm a T₂) (g1 : ∀ env, starEach [a] env = (false, eval a env) :: starEach [] env)
    (h3 : ∀ env, eval (.Call (.Attribute e "append" ap) [a] [] ep) env = (do let ov ← eval e env; standAt ap.atName; let x ← holding [ov] (getMethod ov "append" (pl env)); match x with | (f, first) => callWith ep f first (backTo ep (starEach [a] env)) []))
    (hsw : ∀ env, swapsWith (.Call (.Attribute e "append" ap) [a] [] ep) none pos.line env = pure false) :
    Ex sc rm (.Expr (.Call (.Attribute e "append" ap) [a] [] ep) pos) (fun Q X st => T₁ (fun v st₁ => match v with
      | .loc k => T₂ (fun u st₂ => nl u = true ∧ (st₂.σ.ls.getD k []).length ≤ 65536 ∧ Q .next { st₂ with σ := { st₂.σ with ls := st₂.σ.ls.set k (st₂.σ.ls.getD k [] ++ [u]) } }) X st₁
      | _ => False) X st) := by
  intro c G hs Q X st I μ s Q' E' z t inv q x
  refine wpAny_Expr_any ?_ (by show (c.scope.kind == .module && _) = false; rw [G.fn]; rfl) (hsw _)
  refine MethodCall_ (h.use G hs z t inv ?_ x) (h3 _)
  intro va av st₁ I₁ μ₁ h₁' tk₁ t₁ inv₁ k₁ p₁ r₁ z₁
  split at t₁
  · rename_i k
    cases r₁ with | @loc _ ad hk =>
    obtain ⟨vs₀, n₀, e₀, _, _⟩ := loc_obj inv₁ hk
    refine getMethod_list_append (s := { s with heap := h₁', toks := tk₁ }) e₀ rfl rfl ?_
    refine callWith_method1 ((evs_cons (pos := ep) ha evs_nil g1).use G hs (Q := fun vs st₂ => match vs with | [u] => nl u = true ∧ (st₂.σ.ls.getD k []).length ≤ 65536 ∧ Q .next { st₂ with σ := { st₂.σ with ls := st₂.σ.ls.set k (st₂.σ.ls.getD k [] ++ [u]) } } | _ => False) (s := { s with heap := h₁', toks := tk₁ }) z₁ t₁ inv₁ ?_ (x.up k₁ p₁)) (g1 _) rfl
    intro vs xs st₂ I₂ μ₂ h₂' tk₂ t₂ inv₂ k₂ p₂ r₂ z₂
    split at t₂
    · rename_i u
      cases r₂ with | cons r3 r4 =>
      cases r4
      obtain ⟨hn, hl, hQ⟩ := t₂
      have hk₂ := pre_get p₂ hk
      obtain ⟨us, n, e, rs, hlt⟩ := loc_obj inv₂ hk₂
      have e1 := VRs.length rs
      have e2 : us.toList.length = us.size := Array.length_toList
      refine append_at (s := { s with heap := h₂', toks := tk₂ }) e (fun h' hs' e' => ?_) (by rw [sizeLine_eq]; omega)
      exact ((q.up (h₁ := h₁') (t₁ := tk₁) k₁ p₁).up (h₁ := h₂') (t₁ := tk₂) k₂ p₂) _ _ _ _ _ h' tk₂ hQ (inv₂.append hk₂ e rs (r3.any [] hn) hs' e') (fun _ _ e => e) (List.prefix_refl _) .next
    · exact t₂.elim
  · exact t₁.elim
/-- a method of the text's own -/
noncomputable def MethOk (C : Addr) (name : Str) (f : Addr) : Prop := ∀ P, plainGet (KK P) C name = true ∧ findIn (KK P) (.ref C) name = some (some (.ref f)) ∧ typeIn (KK P) (.ref f) = some (.type "function") ∧ keepIn (KK P) (.ref f) = true
theorem ev_meth {e : PySem.Expr} {name : Str} {ap : Pos} {pl : Env → Sem Bool} {T : Tr V} {C f : Addr} {r : Nat} {o : Sp} (h : Ev sc rm e T) (hM : MethOk C name f) (hF : Fn f r o) (hr : r ≤ rm)
    (h3 : ∀ env, eval (.Call (.Attribute e name ap) [] [] pos) env = (do let ov ← eval e env; standAt ap.atName; let x ← holding [ov] (getMethod ov name (pl env)); match x with | (f, first) => callWith pos f first (backTo pos (starEach [] env)) [])) :
    Ev sc rm (.Call (.Attribute e name ap) [] [] pos) (fun Q X st => T (fun v st₁ => match v with
      | .inst C' ns vs => C' = C ∧ name ∉ ns ∧ o st₁.σ [v] (fun v σ' => Q v { st₁ with σ := σ' }) (fun x σ' => X x { st₁ with σ := σ' })
      | _ => False) X st) := by
  intro c G hs Q X st I μ s Q' E' z t inv q x
  refine MethodCall_ (h.use G hs z t inv ?_ x) (h3 _)
  intro va av st₁ I₁ μ₁ h₁' tk₁ t₁ inv₁ k₁ p₁ r₁ z₁
  split at t₁
  · rename_i C' ns vs
    obtain ⟨rfl, hnn, t₁⟩ := t₁
    have r₀ := r₁
    cases r₁ with | @inst _ _ _ ad d es n xs a1 a2 a3 a4 a5 =>
    obtain ⟨m, F, L⟩ := inv₁.fr
    obtain ⟨b1, b2, b3, b4⟩ := hM c.w.params
    have X₁ := G.K.keeps F.keep
    have sh : shadowIn (some (dictOf es n)) name = some false := by
      show (lookIn name (dictOf es n)).map _ = _
      rw [lookIn_dict, a5 _ hnn]; rfl
    refine method_fn (s := { s with heap := h₁', toks := tk₁ }) X₁ ⟨inv₁.stays _ _ a1, rfl, rfl, inv₁.stays _ _ a2⟩ (plainGet_of b1).1 (plainGet_of b1).2 b2 b3 sh ?_
    refine callWith_K0 (s := { s with heap := h₁', toks := tk₁ }) X₁ b4 ?_
    exact hF c G (Nat.le_trans hr hs.2) [_] [_] Q X st₁ I₁ μ₁ { s with heap := h₁', toks := tk₁ } Q' E' z₁ t₁ inv₁ (.cons r₀ .nil) (q.up k₁ p₁) (x.up k₁ p₁)
  · exact t₁.elim
end
end Mine
namespace Mine
section
variable {prog : Program} {w : World} {A : Around} {E : Value → Shared → Prop}
theorem check_ga81 {M : Model} {h : Heap} {g : Array GenState} {d : Drawn} {t : Nat} {os : OsState} {e : Addr} {oe : Obj} {nv : Value} {Q : Unit → Shared → Prop} (c : Cls81 h) (he : h.get? e = some oe) (hcls : oe.cls = .ref 81) (hq : Q () ⟨h, g, d, t, os⟩) :
    wpAny M A (checkBuiltinCall "BaseException.__getattribute__" ⟨[.ref e, nv], []⟩) Q E ⟨h, g, d, t, os⟩ := by
  obtain ⟨nm, q, N, bs, sn, sub, ab, col, dd, k0, k1, k2, k3, k5, hC⟩ := c
  have hk : builtinKind "BaseException.__getattribute__" = some .slot := by decide +kernel
  have hsplit : splitId "BaseException.__getattribute__" = some ("BaseException", "__getattribute__") := by decide +kernel
  have hcB : (Value.ref 81 :: bm81).contains (.type "BaseException") = true := by decide +kernel
  have ha := F.args_bexc_ga (.ref e) nv
  simp only [checkBuiltinCall, hk, hsplit]
  refine wpAny_bind ?_
  unfold isInstance
  repeat (first | (with_reducible refine wpAny_loadPart_at he ?_; rw [hcls]) | (with_reducible refine wpAny_isSubtype_exc hC ?_; rw [hcB]) | wp_step)
  exact hq
theorem get_exc {P : Params} {s : Shared} {e : Addr} {oe : Obj} {od : Option Obj} {name : Str} {v : Value} {expr : Bool} {Q : Value → Shared → Prop} (X : (KK P).In s.heap) (I : InstAt s.heap e oe 81 od)
    (hga : findIn (KK P) (.ref 81) "__getattribute__" = some (some (.builtin "BaseException.__getattribute__"))) (hgt : findIn (KK P) (.ref 81) "__getattr__" = some none)
    (hf : findObj (KK P) 81 od name = some (.value v)) (hh : handedIn v = true) (h : Q v { s with toks := s.toks + 1 }) : wpAny (model prog w) A (getAttr (.ref e) name expr) Q E s := by
  obtain ⟨hp, g, d, t, os⟩ := s
  have L0 := I.type (M := model prog w)
  have L1 := looks_findIn (M := model prog w) X hga
  have L2 := looks_findIn (M := model prog w) X hgt
  have L3 := looks_find (M := model prog w) X I hf
  have FB := F.excAttr_ValueError
  have hx2 : (Value.builtin "BaseException.__getattribute__" == Value.builtin "object.__getattribute__") = false := by decide +kernel
  unfold getAttr getAttrBy
  refine wpAny_bind (wpAny_mkText (wpAny_holding (wpAny_bind (L0.at (wpAny_bind (L1.at ?_))))))
  show wpAny _ _ (if _ then _ else getAttrByItsOwn _ _ _ _ _ _) _ _ _
  rw [hx2, Bool.and_false, if_neg Bool.false_ne_true]
  unfold getAttrByItsOwn hookBefore
  refine wpAny_bind ?_
  show wpAny _ _ (typeLookup _ _) _ _ _
  refine L2.at ?_
  have hx0 : (expr && onTheHeap (Value.builtin "BaseException.__getattribute__")) = false := by cases expr <;> rfl
  refine wpAny_bind ?_
  unfold callGetattribute
  rw [hx0, if_neg Bool.false_ne_true]
  unfold boundAndCalled
  rw [FB.ga.bind]
  refine wpAny_attempt (wpAny_holding (wpAny_bind (wpAny_pure ?_)))
  refine wpAny_call (codeAny_call_builtin FB.ga.plain F.entry_bexc_ga (check_ga81 (cls81 X) I.at_ I.cls ?_))
  refine wpAny_bind (wpAny_pure (wpAny_bind (wpAny_pure (wpAny_bind (L0.at (wpAny_bind (L3.at (wpAny_pure ?_))))))))
  show wpAny _ _ (handedOut v) _ _ _
  rw [handedOut_of hh]; exact wpAny_pure h
end
section
variable {sc : Scope} {rm : Nat} {pos : Pos}
noncomputable def ExcAt : Prop := ∀ P, findIn (KK P) (.ref 81) "__getattribute__" = some (some (.builtin "BaseException.__getattribute__")) ∧ findIn (KK P) (.ref 81) "__getattr__" = some none ∧ hasDictIn (KK P) 81 = true ∧ ∃ attr, findIn (KK P) (.ref 81) (Str.ofString "at") = some attr ∧ noGet (KK P) attr = true
/-- what an exception bears -/
theorem ev_excAt {e : PySem.Expr} {T : Tr V} (h : Ev sc rm e T) (hA : ExcAt)
    (h3 : ∀ env, eval (.Attribute e "at" pos) env = (do let o ← eval e env; standAt pos.atName; let r ← holding [o] (getAttr o "at" true); letTemporaryGo e o r; pure r)) :
    Ev sc rm (.Attribute e "at" pos) (fun Q X st => T (fun v st₁ => match v with
      | .obj (.ref a) => ∃ x, st₁.σ.pend = some (a, x) ∧ notObj x.at_ ∧ Q x.at_ st₁
      | _ => False) X st) := by
  intro c G hsc Q X st I μ s Q' E' z t inv q x
  refine Attribute_any_ (h.use G hsc z t inv ?_ x) (h3 _)
  intro va a st₁ I₁ μ₁ h₁' tk₁ t₁ inv₁ k₁ p₁ r₁ z₁
  split at t₁
  · rename_i ea
    cases r₁
    obtain ⟨xc, hpd, hno, hQ⟩ := t₁
    obtain ⟨lo, d, vs, sl, es, n, xs, h1, h2, h3', h4, h5, h6⟩ := inv₁.pend ea xc hpd
    obtain ⟨m, F, L⟩ := inv₁.fr
    obtain ⟨b0, b1, b2, attr, b3, b4⟩ := hA c.w.params
    cases h5 with | cons q1 q2 =>
    cases q2 with | cons q2 q3 =>
    cases q3
    rename_i y1 y2
    have hy : getL (Str.ofString "at") es = some (some y2) := by
      simp only [List.map_cons, List.map_nil, List.cons.injEq] at h4
      exact h4.2.1
    refine get_exc (s := { s with heap := h₁', toks := tk₁ }) (G.K.keeps F.keep) ⟨h1, rfl, rfl, inv₁.stays _ _ h3'⟩ b0 b1 (findObj_own b2 b3 b4 ((lookIn_dict _ _ _).trans hy)) (handed_no q2 hno) (same_heapT (q.up (h₁ := h₁') (t₁ := tk₁) k₁ p₁) _ hQ inv₁ (q2.up (fun _ _ e => e) List.nil_prefix))
  · exact t₁.elim
end
theorem entry_unchain : entryFor table "proto.unchain" = some Builtin.«proto.unchain» := entryFor_of_tree (by kernel_rfl)
section
variable {prog : Program} {w : World} {A : Around} {E : Value → Shared → Prop} {s : Shared}
/-- a new exception raised while another is handled that has no context -/
theorem raiseNew_in {a e : Addr} {oa oe : Obj} {va ve : Array Value} {α : Type} {Q : α → Shared → Prop} (hh : A.handled = some (.ref e)) (hae : a ≠ e) (ha : s.heap.get? a = some oa) (da : oa.data = .fields va) (sa : 2 < va.size)
    (he : s.heap.get? e = some oe) (de : oe.data = .fields ve) (ce : ve[2]? = some .none) (h : E (.ref a) { s with heap := s.heap.update a (Obj.mapFields (·.setIfInBounds 2 (.ref e))) }) : wpAny (model prog w) A (raiseNew (.ref a) : Sem α) Q E s := by
  unfold raiseNew
  refine wpAny_bind (wpAny_handled ?_)
  rw [hh]
  dsimp only
  rw [if_pos (by simpa using fun q => hae q.symm)]
  refine wpAny_bind (wpAny_holding (runValue_entry entry_unchain ?_))
  refine wpAny_bind (wpAny_field he de ce ?_)
  rw [if_pos (show (Value.none == Value.none) = true from by decide)]
  refine wpAny_pure ⟨.none, rfl, ?_⟩
  unfold updateField
  refine wpAny_bind (wpAny_bind (wpAny_load ha ?_))
  rw [da]
  dsimp only
  rw [if_pos sa]
  exact wpAny_update ha (wpAny_throw h)
theorem tuple_end_in {it t e : Addr} {i : Nat} {items} {oe : Obj} {ve : Array Value} {Q : Option Value → Shared → Prop} (hh : A.handled = some (.ref e)) (he : s.heap.get? e = some oe) (de : oe.data = .fields ve) (ce : ve[2]? = some .none) (hie : it ≠ e)
    (hit : s.heap.IsTupleIter it t i) (ht : s.heap.IsTuple t items) (hx : items[i]? = none)
    (hQ : ∀ h', Heap.ExtBut it s.heap h' → Q none { s with heap := h' }) : wpAny (model prog w) A (pyNext (.ref it)) Q E s := by
  obtain ⟨o, ho, hc, hd⟩ := id hit
  obtain ⟨ol, hol, _, nl, hdl⟩ := ht
  unfold pyNext
  refine wpAny_bind (wpAny_attempt (wpAny_callSpecial?_slot (name := Str.ofString "__next__") hit.typeIs F.slot_tuple_iterator_next
    (wpAny_call_entry F.slot_tuple_iterator_next hit.typeIs F.entry_tuple_iterator_next ?_ (F.args_tuple_iterator_next_1 _))))
  show wpAny _ _ (field (.ref it) 0 >>= _) _ _ s
  refine wpAny_bind (wpAny_field ho hd (x := .ref t) rfl ?_)
  show wpAny _ _ (if (Value.ref t == Value.none) = true then _ else _) _ _ s
  rw [if_neg (show ¬ ((Value.ref t == Value.none) = true) from Bool.false_ne_true)]
  show wpAny _ _ (field (.ref it) 1 >>= _) _ _ s
  refine wpAny_bind (wpAny_field ho hd (x := .int i 0) rfl ?_)
  show wpAny _ _ (seqItems? (.ref t) >>= _) _ _ s
  refine wpAny_bind (wpAny_seqItems hol hdl ?_)
  simp only [Int.toNat_natCast, hx]
  refine wpAny_bind (wpAny_rule (wpAny_bind (wpAny_setField ho hd (by simp) ?_)))
  show wpAny _ _ (newExc (.type "StopIteration") [] >>= _) _ _ _
  refine wpAny_bind ?_
  simp only [newExc, newTuple]
  refine wpAny_bind (wpAny_newObj_type ?_ (by size_fits))
  refine wpAny_bind (m := firstArgMember _ _) (wpAny_of_eq (a := Value.none) (by first | rfl | (simp only [firstArgMember]; rfl)) ?_)
  refine wpAny_newObj_type ?_ (by size_fits)
  have ks : ∀ (o1 o2 : Obj) b o', b ≠ it → s.heap.get? b = some o' → (((s.heap.update it (Obj.mapFields fun x => x.setIfInBounds 0 Value.none)).push o1).push o2).get? b = some o' := fun _ _ b o' hb q => Heap.get?_push_of_some _ (Heap.get?_push_of_some _ ((Heap.get?_update_ne _ _ _ _ hb).trans q))
  refine raiseNew_in (A := A.in1) (e := e) hh (fun q => ?_) (Heap.get?_push_size _ rfl) rfl (by simp; omega) (ks _ _ e oe (Ne.symm hie) he) de ce ?_
  · have q : ((s.heap.update it (Obj.mapFields fun x => x.setIfInBounds 0 Value.none)).push { cls := .type "tuple", data := .seq #[] }).objs.size = e := q
    have lt := Heap.lt_size ((Heap.get?_update_ne s.heap _ _ (Obj.mapFields fun x => x.setIfInBounds 0 Value.none) (Ne.symm hie)).trans he)
    rw [← q, Heap.size_push] at lt
    exact absurd lt (Nat.not_lt.mpr (Nat.le_succ _))
  have gS := Heap.get?_update_self (h := ((s.heap.update it (Obj.mapFields fun x => x.setIfInBounds 0 Value.none)).push { cls := .type "tuple", data := .seq #[] }).push { cls := .type "StopIteration", data := .fields (#[.ref (s.heap.update it (Obj.mapFields fun x => x.setIfInBounds 0 Value.none)).objs.size, .none, .none, .none, .bool false, .none] ++ ownMembersOf (Value.type "StopIteration") []) }) (Obj.mapFields (·.setIfInBounds 2 (.ref e))) (Heap.get?_push_size _ rfl) rfl
  refine wpAny_bind (wpAny_isInstance (T := "StopIteration") (b := true) ⟨_, gS, rfl⟩ isSubtype_stop ?_)
  refine wpAny_pure (hQ _ fun b o hb q => ?_)
  refine (Heap.get?_update_ne _ _ _ _ (fun w => ?_)).trans (ks _ _ b o hb q)
  have lt := Heap.lt_size ((Heap.get?_update_ne s.heap _ _ (Obj.mapFields fun x => x.setIfInBounds 0 Value.none) hb).trans q)
  have w : b = ((s.heap.update it (Obj.mapFields fun x => x.setIfInBounds 0 Value.none)).push { cls := .type "tuple", data := .seq #[] }).objs.size := w
  rw [w, Heap.size_push] at lt
  exact absurd lt (Nat.not_lt.mpr (Nat.le_succ _))
end
end Mine
namespace Mine
theorem walks_tuple_in {prog : Program} {w : World} {A : Around} {e : Addr} {oe : Obj} {ve : Array Value} (hh : A.handled = some (.ref e)) (de : oe.data = .fields ve) (ce : ve[2]? = some .none) (I ax : Addr) (hne : ax ≠ I) (hIe : I ≠ e) (items : Array Value) :
    Walks prog w A I [I, ax, e] [I] items.size (fun i v => items[i]? = some v) (fun i h => h.IsTupleIter I ax i ∧ h.IsTuple ax items ∧ h.get? e = some oe) where
  sub := fun b hb => by simp at hb; simp [hb]
  frame := fun _ _ _ st hk => ⟨st.1.at fun o e => hk I (by simp) o e, st.2.1.at fun o e => hk ax (by simp) o e, hk e (by simp) _ st.2.2⟩
  item := fun i s Q E hi st hQ => by
    refine wpAny_pyNext_tuple_item st.1 st.2.1 (x := items[i]) (by simp [hi]) fun h' hit' hs' => ?_
    exact hQ _ h' s.toks (by simp [hi]) ⟨hit', st.2.1.extBut hs'.extBut hne, hs'.extBut e _ (Ne.symm hIe) st.2.2⟩ fun b o hb e => hs'.extBut b o (fun h => hb (by simp [h])) e
  done := fun s Q E st hQ => tuple_end_in hh st.2.2 de ce hIe st.1 st.2.1 (by simp) fun h' he' => hQ h' s.toks fun b o hb e => he' b o (fun h => hb (by simp [h])) e
  self := fun _ _ _ _ st hQ => wpAny_pyIter_tupleiter st.1 hQ
theorem min_in {prog : Program} {w : World} {A : Around} {E : Value → Shared → Prop} {s : Shared} {e : Addr} {oe : Obj} {ve : Array Value} {a b : Int} {t u : Tok} {Q : Value → Shared → Prop} (hh : A.handled = some (.ref e)) (he : s.heap.get? e = some oe) (de : oe.data = .fields ve) (ce : ve[2]? = some .none)
    (h : ∀ h' tk, (∀ c o, s.heap.get? c = some o → h'.get? c = some o) → Q (if b < a then .int b u else .int a t) { s with heap := h', toks := tk }) :
    wpAny (model prog w) A (call (.builtin "min") [.int a t, .int b u]) Q E s := by
  have hT : (s.heap.push { cls := .type "tuple", data := .seq #[.int a t, .int b u] }).IsTuple s.heap.objs.size (intItems #[(a, t), (b, u)]) := ⟨_, Heap.get?_push_size _ rfl, rfl, 0, by simp [intItems]⟩
  refine call_min_two (wpAny_pyIter_tuple hT ?_)
  have hsz : (s.heap.push { cls := .type "tuple", data := .seq #[.int a t, .int b u] }).objs.size = s.heap.objs.size + 1 := Heap.size_push ..
  have hlt := Heap.lt_size he
  refine ⟨_, [_, s.heap.objs.size, e], [_], _, _, _, _, rfl, walks_tuple_in (A := A.in1) hh de ce _ s.heap.objs.size (by rw [hsz]; exact Nat.ne_of_lt (Nat.lt_succ_self _)) (by rw [hsz]; exact Nat.ne_of_gt (Nat.lt_succ_of_lt hlt)) (intItems #[(a, t), (b, u)]),
    ⟨⟨_, Heap.get?_push_size _ rfl, rfl, rfl⟩, hT.push _, Heap.get?_push_of_some _ (Heap.get?_push_of_some _ he)⟩, fun c hc => ?_, by simp [intItems], CmpOf.ints_lt (numAt #[(a, t), (b, u)]) (fun _ _ => intItems_at), fun v h' tk hP hk => ?_⟩
  · show c < ((s.heap.push _).push _).objs.size
    rw [Heap.size_push, hsz]
    rcases List.mem_cons.mp hc with rfl | hc
    · rw [hsz]; exact Nat.lt_succ_self _
    · rcases List.mem_cons.mp hc with rfl | hc
      · exact Nat.lt_succ_of_lt (Nat.lt_succ_self _)
      · rw [List.mem_singleton.mp hc]
        exact Nat.lt_succ_of_lt (Nat.lt_succ_of_lt hlt)
  · have hold : ∀ c o, s.heap.get? c = some o → h'.get? c = some o := fun c o e => by
      refine hk c o (fun hm => ?_) (Heap.get?_push_of_some _ (Heap.get?_push_of_some _ e))
      rcases List.mem_cons.mp hm with e1 | hm
      · have := Heap.lt_size e; rw [e1, hsz] at this; exact Nat.lt_irrefl _ (Nat.lt_of_succ_lt this)
      · cases hm
    have := h h' tk hold
    have hv : v = if b < a then Value.int b u else Value.int a t := by
      have hP' : (intItems #[(a, t), (b, u)])[argBest (fun i j => decide (numAt #[(a, t), (b, u)] i < numAt #[(a, t), (b, u)] j)) 1]? = some v := by
        have hsz2 : (intItems #[(a, t), (b, u)]).size - 1 = 1 := by simp [intItems]
        rw [← hsz2]; exact hP
      by_cases hba : b < a
      · have e : argBest (fun i j => decide (numAt #[(a, t), (b, u)] i < numAt #[(a, t), (b, u)] j)) 1 = 1 := by simp [argBest, numAt, hba]
        rw [e] at hP'
        simpa [intItems, hba] using hP'.symm
      · have e : argBest (fun i j => decide (numAt #[(a, t), (b, u)] i < numAt #[(a, t), (b, u)] j)) 1 = 0 := by simp [argBest, numAt, hba]
        rw [e] at hP'
        simpa [intItems, hba] using hP'.symm
    rw [hv]; exact this
/-- min, in a handler too -/
theorem b_minH {rm : Nat} : BSound rm (.builtin "min") oMin := by
  intro c G hrm vs xs Q st I μ s Q' E' z t inv r q
  obtain ⟨v, w, x, y, rfl, r1, r2, t1⟩ := two_inv t r
  obtain ⟨a, rfl, t2⟩ := withNat_inv t1
  obtain ⟨b, rfl, t3⟩ := withNat_inv t2
  obtain ⟨t', rfl⟩ := r1.intI; obtain ⟨u, rfl⟩ := r2.intI
  have fin : ∀ h' tk, (∀ c o, s.heap.get? c = some o → h'.get? c = some o) → Q' (if (b : Int) < (a : Int) then Value.int b u else Value.int a t') { s with heap := h', toks := tk } := fun h' tk hk => by
    obtain ⟨tt, e⟩ := min_tok (a := a) (b := b) t' u
    rw [e]
    exact q _ _ _ _ _ h' tk t3 (inv.keeps hk) (fun _ _ e => e) (List.prefix_refl _) (.int _ _)
  cases hd : c.hd with
  | none => exact min_two_ints (by show c.hd.or c.A₀.handled = none; rw [hd, G.handled]; rfl) fin
  | some v =>
    obtain ⟨e, o, ve, rfl, g1, g2, g3⟩ := inv.hdl v hd
    exact min_in (e := e) (by show c.hd.or c.A₀.handled = _; rw [hd]; rfl) g1 g2 g3 fin
end Mine
namespace Mine
section
variable {sc : Scope} {rm : Nat} {pos : Pos}
theorem clipAt_nat (n b : Nat) : clipAt n (b : Int) = min b n := by
  unfold clipAt
  first | omega | (simp; omega) | (split <;> omega)
theorem VRs.take {I : Heap} {μ : List Addr} : ∀ {l : List V} {xs : List Value} (k : Nat), VRs I μ l xs → VRs I μ (l.take k) (xs.take k)
  | _, _, 0, _ => by simp; exact .nil
  | _, _, _ + 1, .nil => .nil
  | _, _, k + 1, .cons a b => .cons a (VRs.take k b)
theorem ev_sliceNSL {v b : PySem.Expr} {p : Pos} {T₁ T₂ : Tr V} (h₁ : Ev sc rm v T₁) (h₂ : Ev sc rm b T₂)
    (hs : ∀ o r, subscripted (.Slice none (some b) none p) false o (.ref r) = operate [.ref r, o] (getItem o (.ref r))) :
    Ev sc rm (.Subscript v (.Slice none (some b) none p) pos) (fun Q X st => T₁ (fun x st₁ => T₂ (fun i st₂ => match x, i with
      | .list l, .int i => 0 ≤ i ∧ l.length ≤ 65536 ∧ Q (.list (l.take i.toNat)) st₂ | _, _ => False) X st₁) X st) := by
  intro c G hsc Q X st I μ s Q' E' z t inv q x
  refine Subscript_ (h₁.use G hsc z t inv ?_ x)
  intro va x₁ st₁ I₁ μ₁ h₁' tk₁ t₁ inv₁ k₁ p₁ r₁ z₁
  refine wpAny_Slice (evalPart_none_step (evalPart_some_step (h₂.use G hsc (st := st₁) z₁ t₁ inv₁ ?_ (x.up k₁ p₁))))
  intro vi xi st₂ I₂ μ₂ h₂' tk₂ t₂ inv₂ k₂ p₂ r₂ z₂
  refine evalPart_none_step ?_
  have q₃ := (q.up (h₁ := h₁') (t₁ := tk₁) k₁ p₁).up (h₁ := h₂') (t₁ := tk₂) k₂ p₂
  split at t₂
  · rename_i l i
    cases r₁ with | @list _ a vs n g1 rs =>
    cases r₂ with | int _ ti =>
    obtain ⟨h0, hlen, t₂⟩ := t₂
    obtain ⟨i, rfl⟩ := Int.eq_ofNat_of_zero_le h0
    have g2 := inv₂.stays _ _ (k₂ _ _ g1)
    have hL : Heap.IsList (h₂'.push { cls := .type "slice", data := .fields #[.none, .int i ti, .none] }) a vs := ⟨_, Heap.get?_push_of_some _ g2, rfl, n, rfl⟩
    have e1 := VRs.length rs
    have e2 : vs.toList.length = vs.size := Array.length_toList
    refine tail_any (s := { s with heap := h₂'.push { cls := .type "slice", data := .fields #[.none, .int i ti, .none] }, toks := tk₂ }) hL.typeIs slot_list_getitem.lookup
      (wpAny_getItem_list_slice (s := { s with heap := h₂'.push { cls := .type "slice", data := .fields #[.none, .int i ti, .none] }, toks := tk₂ }) hL (Heap.IsSliceOf.new ..) .none (.int _ ti) .none (by simp) ?_ (by rw [sizeLine_eq]; omega)) (hs _ _)
    rw [slicePick_plain]
    have e3 : (List.take (Option.elim (some (i : Int)) vs.size (clipAt vs.size) - Option.elim none 0 (clipAt vs.size)) (List.drop (Option.elim none 0 (clipAt vs.size)) vs.toList)) = vs.toList.take i := by
      show List.take (clipAt vs.size (i : Int) - 0) (List.drop 0 vs.toList) = _
      rw [clipAt_nat, List.drop_zero, Nat.sub_zero]
      rcases Nat.le_total i vs.size with w | w
      · rw [Nat.min_eq_left w]
      · rw [Nat.min_eq_right w, List.take_of_length_le (by omega), List.take_of_length_le (by omega)]
    rw [e3]
    obtain ⟨I₃, i3, k3, g3⟩ := (inv₂.push { cls := .type "slice", data := .fields #[.none, .int i ti, .none] }).grow (o := { cls := .type "list", data := .seq (vs.toList.take i).toArray }) rfl nofun
    refine q₃ _ _ _ I₃ μ₂ _ tk₂ t₂ i3 k3 (List.prefix_refl _) (.list g3 ?_)
    rw [Int.toNat_natCast]
    simpa using ((rs.up (stays_trans k₂ k3) p₂).take i)
  · exact t₂.elim
end
end Mine
namespace Mine
section
variable {sc : Scope} {rm : Nat} {pos : Pos}
theorem reads_strs {h : Heap} : ∀ (ps : List (Str × Tok)), ∃ as, ReadsAll h (strValues ps) (ps.map fun p => .str p.1) as
  | [] => ⟨_, .nil⟩
  | (x, t) :: r => let ⟨as, q⟩ := reads_strs r; ⟨_, .cons (.str x t) q⟩
/-- a text among the parts of a constant text -/
theorem tst_inSplit {e v : PySem.Expr} {y : Str} {k : Nat} {ap cp yp : Pos} {pl : Env → Sem Bool} {T₁ T₂ : Tr V} {parts : List (List Nat)} {l₂ : List Nat} (h₁ : Ev sc rm e T₁) (h₂ : Ev sc rm v (fun Q _ st => Q (.str l₂) st))
    (hy : (y.length == 0) = false) (hp : (Txt.split ⟨l₂.toArray⟩ y).map (fun p => p.cps.toList) = parts) (hl : l₂.length ≤ 1000) (hsz : (Builtin.Str.partsBetween ⟨l₂.toArray⟩ (Builtin.Str.occurrences ⟨l₂.toArray⟩ y 0 (Str.mk l₂.toArray).length ((Str.mk l₂.toArray).length + 1)) y.length).length ≤ sizeLine)
    (hok : parts.all (fun l => l.all fun c => decide (c < 128)) = true)
    (h3 : ∀ env, eval (.Call (.Attribute v "split" ap) [.Constant (.str y) k yp] [] cp) env = (do let ov ← eval v env; standAt ap.atName; let x ← holding [ov] (getMethod ov "split" (pl env)); match x with | (f, first) => callWith cp f first (backTo cp (starEach [.Constant (.str y) k yp] env)) []))
    (hm : behindInMarks .In (.Call (.Attribute v "split" ap) [.Constant (.str y) k yp] [] cp) = false) :
    Tst sc rm (.Compare e [.In] [.Call (.Attribute v "split" ap) [.Constant (.str y) k yp] [] cp] pos) (fun Q X st => T₁ (fun va st₁ => match va with | .str a => Q (decide (a ∈ parts)) st₁ | _ => False) X st) := by
  intro c G hs Q X st I μ s Q' E' z t inv q x
  refine wpAny_isTrue_Compare1 (h₁.use G hs z t inv ?_ x) hm
  intro va a st₁ I₁ μ₁ h₁' tk₁ t₁ inv₁ k₁ p₁ r₁ z₁
  split at t₁
  · rename_i la
    refine MethodCall_ (h₂.use G hs (Q := fun v st' => v = .str l₂ ∧ st₁ = st') (s := { s with heap := h₁', toks := tk₁ }) z₁ ⟨rfl, rfl⟩ inv₁ ?_ (x.up k₁ p₁)) (h3 _)
    rintro v' bv st' I₂ μ₂ h₂' tk₂ ⟨rfl, rfl⟩ inv₂ k₂ p₂ r₂ z₂
    cases r₂ with | @str _ xs tx hx ok =>
    cases r₁ with | @str _ xa ta hxa oka =>
    obtain rfl := str_of hx
    refine GM.split ?_
    refine callWith_method1 (wpAny_items_cons (wpAny_Constant_str (wpAny_items_nil ?_)) rfl) rfl rfl
    refine SCH.split1 (s := { s with heap := h₂', toks := tk₂ + 1 }) (P := fun h => Inv c I₂ μ₂ st₁ h) Inv.kept inv₂ hy (fun D ps h' kk hps inv₃ hL => ?_) (by show l₂.toArray.size ≤ _; rw [List.size_toArray, sizeLine_eq]; omega) hsz
    obtain ⟨o, g1, g2, n, g3⟩ := hL
    obtain ⟨as, ra⟩ := reads_strs (h := h') ps
    have hu := units_ok G
    have hall : ∀ p ∈ ps, p.1.cps.toList ∈ parts := fun p hp' => by
      rw [← hp, ← hps, List.map_map]
      exact List.mem_map_of_mem (f := (fun p => p.cps.toList) ∘ fun x => x.1) hp'
    have okp : ∀ p ∈ ps, PyData.strOk p.1 = true := fun p hp' => by
      have := List.all_eq_true.mp hok _ (hall p hp')
      unfold PyData.strOk
      rw [← Array.all_toList, List.all_eq_true]
      intro ch hch
      have := of_decide_eq_true (List.all_eq_true.mp this ch hch)
      exact decide_eq_true (by omega)
    have lay : PyData.canLayAll0 (ps.map fun p => PyData.str p.1) = true := by
      clear ra hps hall g3
      induction ps with
      | nil => rw [List.map_nil, PyData.canLayAll0]
      | cons p r ih =>
        rw [List.map_cons, PyData.canLayAll0, PyData.canLay0, okp p (.head _), ih fun q hq => okp q (.tail _ hq)]; rfl
    refine SeqAt.in_list_reads (s := { s with heap := h', toks := kk }) (.list g1 g2 (by rw [g3]) (by simpa using ra)) (.str xa ta) lay (by rw [PyData.canLay0]; exact strOk_of hxa oka) ?_ ?_
    · have e1 := Nat.min_le_right (PyData.depthAll (ps.map fun p => PyData.str p.1)) (PyData.str xa).depth
      have e2 : (PyData.str xa).depth ≤ 8 := by unfold PyData.depth; omega
      omega
    · refine wpAny_truthy_bool ?_
      have e : ((ps.map fun p => PyData.str p.1).any fun y => PyData.eqv y (.str xa)) = decide (la ∈ parts) := by
        rw [← hp, ← hps, List.map_map]
        rw [Bool.eq_iff_iff, List.any_eq_true, decide_eq_true_eq]
        constructor
        · rintro ⟨y, hy, e⟩
          obtain ⟨p, hp', rfl⟩ := List.mem_map.mp hy
          have e : (p.1 == xa) = true := by simpa [PyData.eqv] using e
          refine List.mem_map.mpr ⟨p, hp', ?_⟩
          show p.1.cps.toList = la
          rw [eq_of_beq e, hxa]
        · intro hm
          obtain ⟨p, hp', e⟩ := List.mem_map.mp hm
          refine ⟨_, List.mem_map_of_mem hp', ?_⟩
          have e : p.1.cps.toList = la := e
          have : p.1 = xa := (str_of e).trans (str_of hxa).symm
          rw [this]; simp [PyData.eqv]
      rw [e]
      exact same_heap (s := { s with heap := h', toks := kk }) ((q.up (h₁ := h₁') (t₁ := tk₁) k₁ p₁).up (h₁ := h') (t₁ := kk) k₂ p₂) t₁ inv₃ rfl
  · exact t₁.elim
/-- a sign struck out: x.replace('c', '') -/
theorem ev_strike {e : PySem.Expr} {ch : Nat} {k1 k2 : Nat} {y z : Str} {ap c1 c2 : Pos} {pl : Env → Sem Bool} {T : Tr V} (h : Ev sc rm e T) (hy : y = ⟨#[ch]⟩) (hz : z = ⟨#[]⟩)
    (h3 : ∀ env, eval (.Call (.Attribute e "replace" ap) [.Constant (.str y) k1 c1, .Constant (.str z) k2 c2] [] pos) env = (do let ov ← eval e env; standAt ap.atName; let x ← holding [ov] (getMethod ov "replace" (pl env)); match x with | (f, first) => callWith pos f first (backTo pos (starEach [.Constant (.str y) k1 c1, .Constant (.str z) k2 c2] env)) [])) :
    Ev sc rm (.Call (.Attribute e "replace" ap) [.Constant (.str y) k1 c1, .Constant (.str z) k2 c2] [] pos) (fun Q X st => T (fun v st₁ => match v with | .str l => Q (.str (l.filter (· != ch))) st₁ | _ => False) X st) := by
  intro c G hs Q X st I μ s Q' E' z0 t inv q x
  refine MethodCall_ (h.use G hs z0 t inv ?_ x) (h3 _)
  intro va av st₁ I₁ μ₁ h₁' tk₁ t₁ inv₁ k₁ p₁ r₁ z₁
  split at t₁
  · rename_i l
    cases r₁ with | @str _ xs tx hx ok =>
    refine GM.replace ?_
    refine callWith_method1 (wpAny_items_cons (wpAny_Constant_str (wpAny_items_cons (wpAny_Constant_str (wpAny_items_nil ?_)) rfl)) rfl) rfl rfl
    have hl := len_of hx
    have h2 := ok.2
    refine SC.replace (s := { s with heap := h₁', toks := tk₁ + 1 + 1 }) (by show tk₁ ≠ 0; omega) (by show tk₁ + 1 ≠ 0; omega) (by show tk₁ ≠ tk₁ + 1; omega) (by rw [hy, hz]; rfl) (by rw [hz]; show xs.length + (xs.length + 1) * 0 ≤ _; omega) fun t' k => ?_
    refine same_heapT (s := { s with heap := h₁', toks := k }) (q.up (h₁ := h₁') (t₁ := k) k₁ p₁) k t₁ inv₁ (.str _ ?_ ⟨fun d hd => ok.1 d (List.mem_filter.mp hd).1, Nat.le_trans (List.length_filter_le _ _) ok.2⟩)
    rw [hy, hz, replace_strikes, hx]
  · exact t₁.elim
end
end Mine
open Builtin Builtin.Str
namespace Mine
noncomputable def undbl (c : Nat) : List Nat → List Nat
  | [] => []
  | [a] => [a]
  | a :: b :: r => if a = c ∧ b = c then c :: undbl c r else a :: undbl c (b :: r)
noncomputable def pairAt (c : Nat) (l : List Nat) (k : Nat) : Prop := l[k]? = some c ∧ l[k + 1]? = some c
theorem undbl_free (c : Nat) : ∀ (l : List Nat), (∀ k, ¬ pairAt c l k) → undbl c l = l
  | [], _ => rfl
  | [a], _ => rfl
  | a :: b :: r, h => by
    unfold undbl
    rw [if_neg fun q => h 0 ⟨by simp [q.1], by simp [q.2]⟩, undbl_free c (b :: r) fun k q => h (k + 1) ⟨by simpa using q.1, by simpa using q.2⟩]
theorem undbl_split (c : Nat) : ∀ (n : Nat) (l : List Nat), (∀ k, k < n → ¬ pairAt c l k) → pairAt c l n → undbl c l = l.take n ++ c :: undbl c (l.drop (n + 2))
  | 0, a :: b :: r, _, h => by
    have h1 : a = c := by simpa [pairAt] using h.1
    have h2 : b = c := by simpa [pairAt] using h.2
    rw [undbl, if_pos ⟨h1, h2⟩]; rfl
  | 0, [], _, h => by simp [pairAt] at h
  | 0, [a], _, h => by simp [pairAt] at h
  | n + 1, [], _, h => by simp [pairAt] at h
  | n + 1, [a], _, h => by simp [pairAt] at h
  | n + 1, a :: b :: r, hn, h => by
    have ih := undbl_split c n (b :: r) (fun k hk q => hn (k + 1) (by omega) ⟨by simpa using q.1, by simpa using q.2⟩) ⟨by simpa using h.1, by simpa using h.2⟩
    rw [undbl, if_neg fun q => hn 0 (by omega) ⟨by simp [q.1], by simp [q.2]⟩, ih]
    rfl
theorem at_pair (x : Str) (c k : Nat) : StrLaws.At x ⟨#[c, c]⟩ x.length k ↔ pairAt c x.cps.toList k := by
  unfold StrLaws.At pairAt
  rw [StrLaws.subAt_eq]
  show (k + 2 ≤ x.length ∧ ((x.cps.toList.drop k).take 2 == [c, c]) = true) ↔ _
  have hl : x.cps.toList.length = x.length := Array.length_toList
  rw [beq_iff_eq]
  constructor
  · rintro ⟨_, h⟩
    have h0 := congrArg (·[0]?) h
    have h1 := congrArg (·[1]?) h
    simp only [List.getElem?_take, List.getElem?_drop] at h0 h1
    exact ⟨by simpa using h0, by simpa using h1⟩
  · rintro ⟨h0, h1⟩
    obtain ⟨l1, _⟩ := List.getElem?_eq_some_iff.mp h1
    refine ⟨by omega, List.ext_getElem? fun i => ?_⟩
    rw [List.getElem?_take, List.getElem?_drop]
    match i with
    | 0 => simpa using h0
    | 1 => simpa using h1
    | i + 2 => simp; omega
theorem join_undbl (x : Str) (c : Nat) : ∀ (cuts : List Nat) (a f : Nat), StrLaws.ChainG x ⟨#[c, c]⟩ x.length a cuts f → (∀ k, f ≤ k → ¬ StrLaws.At x ⟨#[c, c]⟩ x.length k) →
    (Str.join ⟨#[c]⟩ (StrLaws.partsFrom x 2 a cuts)).cps.toList = undbl c (x.cps.toList.drop a)
  | [], a, f, h, hn => by
    have e : f = a := h
    subst e
    show (strSub x f x.length).cps.toList = _
    rw [StrLaws.strSub_toList, undbl_free]
    · rw [List.take_of_length_le]
      rw [List.length_drop, Array.length_toList]; exact Nat.le_refl _
    · intro k q
      refine hn (f + k) (by omega) ((at_pair x c _).mpr ⟨?_, ?_⟩)
      · have := q.1; rwa [List.getElem?_drop] at this
      · have := q.2; rw [List.getElem?_drop] at this; rw [show f + k + 1 = f + (k + 1) by omega]; exact this
  | i :: r, a, f, h, hn => by
    obtain ⟨h1, h2, h3, h4⟩ := h
    have ih := join_undbl x c r (i + 2) f h4 hn
    obtain ⟨p, q, e⟩ := StrLaws.partsFrom_ne x 2 (i + 2) r
    have e0 : StrLaws.partsFrom x 2 a (i :: r) = strSub x a i :: StrLaws.partsFrom x 2 (i + 2) r := rfl
    rw [e0, e]
    rw [e] at ih
    show (strSub x a i ++ ⟨#[c]⟩ ++ Str.join ⟨#[c]⟩ (p :: q)).cps.toList = _
    simp only [Str.cps_append, Array.toList_append]
    rw [ih, StrLaws.strSub_toList, undbl_split c (i - a) (x.cps.toList.drop a)]
    · rw [List.drop_drop, List.append_assoc, show a + (i - a + 2) = i + 2 by omega]
      rfl
    · intro k hk q
      refine h3 (a + k) (by omega) (by omega) ((at_pair x c _).mpr ⟨?_, ?_⟩)
      · have := q.1; rwa [List.getElem?_drop] at this
      · have := q.2; rw [List.getElem?_drop] at this; rw [show a + k + 1 = a + (k + 1) by omega]; exact this
    · obtain ⟨q1, q2⟩ := (at_pair x c i).mp h2
      refine ⟨?_, ?_⟩
      · rw [List.getElem?_drop, show a + (i - a) = i by omega]; exact q1
      · rw [List.getElem?_drop, show a + (i - a + 1) = i + 1 by omega]; exact q2
theorem replace_undbl (x : Str) (c : Nat) : (Txt.replace x ⟨#[c, c]⟩ ⟨#[c]⟩).cps.toList = undbl c x.cps.toList := by
  obtain ⟨f, hc, hn⟩ := StrLaws.occ_tight x ⟨#[c, c]⟩ (by show 1 ≤ 2; omega)
  have key := join_undbl x c _ 0 f hc hn
  unfold Txt.replace
  split
  · rename_i he
    have he : (occurrences x ⟨#[c, c]⟩ 0 x.length (x.length + 1)).isEmpty = true := by
      rcases Bool.or_eq_true_iff.mp he with q | q
      · exact q
      · exact absurd q (by show ¬ ((2 == 0) && (1 == 0)) = true; decide)
    rw [List.isEmpty_iff.mp he] at key
    rw [List.drop_zero] at key
    rw [← key]
    show _ = (strSub x 0 x.length).cps.toList
    rw [StrLaws.strSub_toList, List.drop_zero, List.take_of_length_le]
    rw [Array.length_toList]; exact Nat.le_refl _
  · rw [StrLaws.glued_eq_join, StrLaws.partsBetween_eq]
    rw [List.drop_zero] at key
    exact key
end Mine
namespace Mine
section
variable {sc : Scope} {rm : Nat} {pos : Pos}
theorem undbl_sub (c : Nat) : ∀ (l : List Nat), (∀ d ∈ undbl c l, d ∈ l) ∧ (undbl c l).length ≤ l.length
  | [] => ⟨fun _ h => h, Nat.le_refl _⟩
  | [a] => ⟨fun _ h => h, Nat.le_refl _⟩
  | a :: b :: r => by
    unfold undbl
    split
    · rename_i q
      obtain ⟨h1, h2⟩ := undbl_sub c r
      refine ⟨fun d hd => ?_, by simp only [List.length_cons]; omega⟩
      rcases List.mem_cons.mp hd with rfl | hd
      · rw [q.1]; exact .head _
      · exact .tail _ (.tail _ (h1 d hd))
    · obtain ⟨h1, h2⟩ := undbl_sub c (b :: r)
      refine ⟨fun d hd => ?_, by simp only [List.length_cons] at h2 ⊢; omega⟩
      rcases List.mem_cons.mp hd with rfl | hd
      · exact .head _
      · exact .tail _ (h1 d hd)
theorem undbl_ok {c : Nat} {l : List Nat} (h : okS l) : okS (undbl c l) := okS_sub h (undbl_sub c l).1 (undbl_sub c l).2
/-- a sign is read, and its doubling undone in another text -/
theorem exs_undbl {qn wn : Str} {iq iw : Nat} {v i recv : PySem.Expr} {rest : List Stmt} {qp p1 pos1 wp ap p2 p3 p4 p5 p6 pos2 : Pos} {pl : Env → Sem Bool} {Tv Ti Tr_ : Tr V} {Tx : Tr Fl} (hv : Ev sc rm v Tv) (hi : Ev sc rm i Ti) (hr : Ev sc rm recv Tr_) (hx : Exs sc rm rest Tx)
    (iqe : idxIn sc.names qn = some iq) (iql : sc.names.lookup qn = some .local) (iwe : idxIn sc.names wn = some iw) (iwl : sc.names.lookup wn = some .local) (hdq : (qn == ("__debug__" : Str)) = false)
    (hsub : ∀ o k u, subscripted i false o (.int k u) = operate [o, .int k u] (getItem o (.int k u)))
    (hsw1 : ∀ env, swapsWith (.Subscript v i p1) (some (.Name qn qp)) pos1.line env = pure false)
    (hsw2 : ∀ env, swapsWith (.Call (.Attribute recv "replace" ap) [.BinOp (.Name qn p2) .Add (.Name qn p3) p4, .Name qn p5] [] p6) (some (.Name wn wp)) pos2.line env = pure false)
    (h3 : ∀ env, eval (.Call (.Attribute recv "replace" ap) [.BinOp (.Name qn p2) .Add (.Name qn p3) p4, .Name qn p5] [] p6) env = (do let ov ← eval recv env; standAt ap.atName; let x ← holding [ov] (getMethod ov "replace" (pl env)); match x with | (f, first) => callWith p6 f first (backTo p6 (starEach [.BinOp (.Name qn p2) .Add (.Name qn p3) p4, .Name qn p5] env)) [])) :
    Exs sc rm (.Assign [.Name qn qp] (.Subscript v i p1) pos1 :: .Assign [.Name wn wp] (.Call (.Attribute recv "replace" ap) [.BinOp (.Name qn p2) .Add (.Name qn p3) p4, .Name qn p5] [] p6) pos2 :: rest)
      (fun Q X st => Tv (fun a st₁ => Ti (fun b st₂ => match a, b with
        | .str l, .int n => l.length < 2 ^ 63 ∧ (match seqIndex? n l.length with
          | some j => ∀ tq, Tr_ (fun r st₄ => match r with
            | .str l' => st₄.vars[iq]? = some (some (.obj (.str ⟨#[l.getD j 0]⟩ tq))) ∧ Tx Q X { st₄ with vars := st₄.vars.set iw (some (.str (undbl (l.getD j 0) l'))) }
            | _ => False) X { st₂ with vars := st₂.vars.set iq (some (.obj (.str ⟨#[l.getD j 0]⟩ tq))) }
          | none => False)
        | _, _ => False) X st₁) X st) := by
  intro c G hs Q X st I μ s Q' E' z t inv q x
  refine wpAny_execs_cons (wpAny_Assign_Name (Subscript_ (hv.use G hs z t inv ?_ x)) (hsw1 _))
  intro va a st₁ I₁ μ₁ h₁' tk₁ t₁ inv₁ k₁ p₁ r₁ z₁
  refine hi.use G hs (st := st₁) z₁ t₁ inv₁ ?_ (x.up k₁ p₁)
  intro vb b st₂ I₂ μ₂ h₂' tk₂ t₂ inv₂ k₂ p₂ r₂ z₂
  split at t₂
  · rename_i l n
    obtain ⟨l63, t₂⟩ := t₂
    cases r₂ with | int _ u =>
    cases r₁ with | @str _ xv tk hxl ok =>
    split at t₂
    · rename_i j hj
      obtain ⟨hlt, hlo, hhi⟩ := seqIndex?_lt hj
      have hl := len_of hxl
      refine tail_of_ItemOn (s := { s with heap := h₂', toks := tk₂ }) (SBL.item (by rw [hl]; exact hlo) (by rw [hl]; exact hhi) (by rw [hl]; omega) fun _ => ?_) (hsub _ _ _) fun _ => letTemp_str _ _ _ _
      have hval : Txt.item xv n = (⟨#[l.getD j 0]⟩ : Str) := by
        unfold Txt.item Txt.charAt
        rw [hl, hj, Option.bind_some, ← Array.getElem?_toList, hxl, List.getElem?_eq_getElem hlt, List.getD_eq_getElem?_getD, List.getElem?_eq_getElem hlt]
      have hch : l.getD j 0 < 128 := ok.1 _ (by rw [List.getD_eq_getElem?_getD, List.getElem?_eq_getElem hlt]; exact List.getElem_mem hlt)
      rw [hval]
      generalize l.getD j 0 = ch at *
      obtain ⟨rfl, hrm⟩ := hs
      refine wpAny_with_toks (n := tk₂ + 1) (Nat.le_refl _) (store_ok (s := { s with heap := h₂', toks := tk₂ + 1 }) G iqe iql inv₂ (.obj (.str ⟨#[ch]⟩ tk₂)) fun h₃ tk₃ inv₃ z₃ => ?_)
      have z₃ : tk₂ + 1 ≤ tk₃ := z₃
      refine wpAny_execs_cons (wpAny_Assign_Name (MethodCall_ (wpAny_with_toks (n := tk₂ + 1) z₃ (hr c G ⟨rfl, hrm⟩ _ X _ I₂ μ₂ { s with heap := h₃, toks := tk₃ } _ _ (by show 0 < tk₃; omega) (t₂ tk₂) inv₃ ?_ (fun v e st' I' μ' h' tk b1 b2 b3 b4 _ => (x.up (h₁ := h₃) (t₁ := tk₃) (stays_trans k₁ k₂) (p₁.trans p₂)) v e st' I' μ' h' tk b1 b2 b3 b4))) (h3 _)) (hsw2 _))
      intro vr xr st₄ I₄ μ₄ h₄ tk₄ t₄ inv₄ k₄ p₄ r₄ z₄
      have z₄ : tk₂ + 1 ≤ tk₄ := z₄
      split at t₄
      · rename_i l'
        cases r₄ with | @str _ xs tx hxs oks =>
        obtain ⟨hvq, t₄⟩ := t₄
        obtain ⟨m₄, F₄, L₄⟩ := inv₄.fr
        obtain ⟨val, hm, hrv⟩ := L₄ qn iq _ iqe hvq
        cases hrv
        refine GM.replace ?_
        refine callWith_method1 (wpAny_items_cons (wpAny_BinOp (wpAny_Name (wpAny_loadName_local G.fn iql F₄.ns hm (wpAny_Name (wpAny_loadName_local G.fn iql F₄.ns hm ?_) hdq)) hdq)) rfl) rfl rfl
        refine P.add_str ?_
        rw [if_neg (show ¬ ((⟨#[ch]⟩ : Str).length == 0) = true from Bool.false_ne_true), if_neg (show ¬ ((⟨#[ch]⟩ : Str).length == 0) = true from Bool.false_ne_true)]
        refine ⟨by rw [sizeLine_eq]; show 2 ≤ _; omega, ?_⟩
        refine wpAny_items_cons (wpAny_Name (wpAny_loadName_local (s := { s with heap := h₄, toks := tk₄ + 1 }) G.fn iql F₄.ns hm (wpAny_items_nil ?_)) hdq) rfl
        have hl' := len_of hxs
        have h2' := oks.2
        show wpAny (model c.prog c.w) c.A (call (.builtin "str.replace") [.str xs tx, .str (⟨#[ch]⟩ ++ ⟨#[ch]⟩) tk₄, .str ⟨#[ch]⟩ tk₂]) _ E' { s with heap := h₄, toks := tk₄ + 1 }
        refine wpAny_with_toks (n := 1) (by show 1 ≤ tk₄ + 1; omega) (SC.replace (show tk₄ ≠ 0 by omega) (show tk₂ ≠ 0 by omega) (show tk₄ ≠ tk₂ by omega) (beq_eq_false_iff_ne.mpr fun w => by have := congrArg Str.length w; exact absurd this (by show ¬ (2 = 1); decide)) (by show xs.length + (xs.length + 1) * 1 ≤ _; omega) fun t' k zk => ?_)
        have hu : (Txt.replace xs (⟨#[ch]⟩ ++ ⟨#[ch]⟩) ⟨#[ch]⟩).cps.toList = undbl ch l' := by rw [show (⟨#[ch]⟩ ++ ⟨#[ch]⟩ : Str) = ⟨#[ch, ch]⟩ from rfl, replace_undbl, hxs]
        have oku : okS (undbl ch l') := undbl_ok oks
        refine store_okT (s := { s with heap := h₄, toks := k }) G zk iwe iwl inv₄ (.str t' hu oku) fun h₅ tk₅ z₅ inv₅ => ?_
        refine hx c G ⟨rfl, hrm⟩ _ X _ I₄ μ₄ { s with heap := h₅, toks := tk₅ } _ _ z₅ t₄ inv₅ ?_ ?_
        · exact (q.up (h₁ := h₅) (t₁ := tk₅) (stays_trans k₁ (stays_trans k₂ k₄)) (p₁.trans (p₂.trans p₄)))
        · exact (x.up (h₁ := h₅) (t₁ := tk₅) (stays_trans k₁ (stays_trans k₂ k₄)) (p₁.trans (p₂.trans p₄)))
      · exact t₄.elim
    · exact t₂.elim
  · exact t₂.elim
end
end Mine
namespace Mine
noncomputable abbrev Cx.calleeC (c : Cx) (μ : List Addr) (h : Heap) (qual : Str) (scope : Scope) (L f : Addr) (cd : Value) (cl : List (Str × Addr)) : Cx := { c.callee μ h qual scope L f cd with cells := cl, fcells := cl }
theorem calleeC_good {c : Cx} {I : Heap} {μ : List Addr} {st : St} {h : Heap} {qual : Str} {scope : Scope} {f : Addr} {cd : Value} {cl : List (Str × Addr)} (G : Good c) (inv : Inv c I μ st h) (hr : 0 < c.room) (hkf : scope.kind = .function) : Good (c.calleeC μ h qual scope h.objs.size f cd cl) :=
  let G' := callee_good (qual := qual) (f := f) (cd := cd) G inv hr hkf
  ⟨G'.stack, G'.frames, G'.K, G'.top, G'.fn, G'.ffn, G'.lav, G'.hid, G'.handled, G'.hd, G'.depth, G'.units⟩
theorem calleeC_off {c : Cx} {I' : Heap} {μ μ' : List Addr} {st' : St} {h h' : Heap} {qual : Str} {scope : Scope} {L f : Addr} {cd : Value} {cl : List (Str × Addr)} (i : Inv (c.calleeC μ h qual scope L f cd cl) I' μ' st' h') : Inv (c.callee μ h qual scope L f cd) I' μ' { st' with cv := [] } h' :=
  ⟨i.fr, i.led, i.stays, i.own, i.nof, i.avoid, i.shy, i.frame, fun x j v a b => (by cases b), i.pend, i.hdl⟩
theorem getElem?_set_some {α : Type} {l : List (Option α)} {i j : Nat} {a v : α} (h : (l.set i (some a))[j]? = some (some v)) : (i = j ∧ v = a) ∨ (i ≠ j ∧ l[j]? = some (some v)) := by
  rw [List.getElem?_set] at h
  by_cases e : i = j
  · rw [if_pos e] at h
    split at h
    · exact .inl ⟨e, (Option.some.inj (Option.some.inj h)).symm⟩
    · cases h
  · rw [if_neg e] at h; exact .inr ⟨e, h⟩
theorem rep_none {α : Type} {n j : Nat} {v : α} (h : (List.replicate n (none : Option α))[j]? = some (some v)) : False := by
  rw [List.getElem?_replicate] at h
  split at h <;> cases h
theorem cidx_inj {names : List (Str × NameKind)} {x y : Str} {i : Nat} (a : cidx names x = some i) (b : cidx names y = some i) : x = y := by
  have h1 := cidx_name a
  have h2 := cidx_name b
  rw [h1] at h2
  exact (Prod.mk.inj (Option.some.inj h2)).1
/-- a def of three parameters, the last two of them cells -/
theorem fn_cells {f : Addr} {r rm : Nat} {o : Sp} {oc cdv dV kV doc pm ct : Value} {od an : Option Addr} {osl : Array (Option Value)} {nm qual p1 p2 p3 : Str} {it j2 j3 : Nat} {params : Arguments} {body : List Stmt} {scope : Scope} {T : Tr Fl}
    (hk : ∀ P, (KK P).lookup f = some ⟨oc, od, .func (fnOf nm qual params body scope dV kV doc pm an cdv ct), osl⟩) (hcd : ∀ P, codeIn (KK P) cdv qual = true)
    (hb : ∀ a b c : Value, bindArgs (fnOf nm qual params body scope dV kV doc pm an cdv ct) ⟨[a, b, c], []⟩ = pure [(p1, a), (p2, b), (p3, c)])
    (l1 : scope.names.lookup p1 = some .local) (l2 : scope.names.lookup p2 = some .cell) (l3 : scope.names.lookup p3 = some .cell) (i1 : idxIn scope.names p1 = some it) (i2 : cidx scope.names p2 = some j2) (i3 : cidx scope.names p3 = some j3) (n12 : p1 ≠ p2) (n13 : p1 ≠ p3) (n23 : p2 ≠ p3)
    (hT : Exs scope rm body T) (hr : rm + 1 ≤ r)
    (h : ∀ (σ : Led) vs (Q : V → Led → Prop) X, o σ vs Q X → σ.pend = none ∧ ∃ a b d, vs = [a, b, d] ∧ T (fun f st => back σ Q f st.σ) (fun x st => backX σ X x st.σ) ⟨(List.replicate scope.names.length none).set it (some a), σ, ((List.replicate scope.names.length none).set j2 (some b)).set j3 (some d)⟩)
    (hco : scope.isCoroutine = false := by rfl) (hgen : scope.isGenerator = false := by rfl) (hkf : scope.kind = .function := by rfl) : Fn f r o := by
  intro c G hroom vs xs Q X st I μ s Q' E' z t inv rs q x
  obtain ⟨hpn, va, vb, vd, rfl, hT'⟩ := h _ _ _ _ t
  cases rs with | cons ra rs =>
  cases rs with | cons rb rs =>
  cases rs with | cons rd rs =>
  cases rs
  rename_i xa xb xd
  have hr0 : 0 < c.room := by omega
  obtain ⟨m, F, Lr⟩ := inv.fr
  have hnew : s.heap.get? s.heap.objs.size = none := dead_size (Nat.le_refl _)
  obtain ⟨oL, es, ep, hL, hLd, hLr⟩ := F.ns
  refine wpAny_call (codeAny_call_function (fd := fnOf nm qual params body scope dV kV doc pm an cdv ct) (body := body) (by show c.A₀.depth + 1 < _; have := G.depth; omega)
    (F.keep _ _ (G.K _ _ (hk _))) rfl hco hgen rfl (codeRec_of (G.K.keeps F.keep) (hcd _)) (wpAny_of_eq (hb _ _ _) ?_))
  refine wpAny_with_toks (n := 1) z (wpAny_newFunctionEnv_cells hkf (fun y hy => ?_) fun env' he s' xc z1 => ?_)
  · rcases List.mem_cons.mp hy with rfl | hy
    · exact .inl l1
    rcases List.mem_cons.mp hy with rfl | hy
    · exact .inr ⟨l2, cellsFrom_some _ _ _ (.inl l2)⟩
    rcases List.mem_cons.mp hy with rfl | hy
    · exact .inr ⟨l3, cellsFrom_some _ _ _ (.inl l3)⟩
    · cases hy
  subst he
  refine ⟨(G.top.nolimit.keeps F.keep).keeps xc.toInCall.keep, codeAny_func ?_⟩
  obtain ⟨h₁, tk, rfl, _⟩ := xc.done
  have hk₁ := xc.toInCall.keep
  have ns₁ := xc.toInCall.ns
  have hcell := xc.cell
  have habove := xc.above
  generalize hcl : cellsFrom (s.heap.objs.size + 1) scope.names [] = cl at *
  have k1 : (newEnv scope s.heap.objs.size mainGlobals cl (qual ++ ".<locals>.") (some f) cdv none builtinsNs).kindOf p1 = some .local := l1
  have k2 : (newEnv scope s.heap.objs.size mainGlobals cl (qual ++ ".<locals>.") (some f) cdv none builtinsNs).kindOf p2 = some .cell := l2
  have k3 : (newEnv scope s.heap.objs.size mainGlobals cl (qual ++ ".<locals>.") (some f) cdv none builtinsNs).kindOf p3 = some .cell := l3
  let c' := c.calleeC μ s.heap qual scope s.heap.objs.size f cdv cl
  have G' : Good c' := calleeC_good G inv hr0 hkf
  have hsz : (hid c μ s.heap).objs.size = s.heap.objs.size := hideAll_size _ _
  have hIn : I.get? s.heap.objs.size = none := by
    cases q : I.get? s.heap.objs.size with
    | none => rfl
    | some ob => rw [inv.stays _ _ q] at hnew; cases hnew
  have old : ∀ b o, s.heap.get? b = some o → b ≠ s.heap.objs.size := fun b o e => Nat.ne_of_lt (Heap.lt_size e)
  dsimp only [newEnv] at ns₁ hcell
  have inv₀ : Inv c' I μ ⟨(List.replicate scope.names.length none).set it (some va), st.σ, []⟩ h₁ := by
    refine ⟨⟨_, ⟨ns₁, fun b ob e => hk₁ b ob (of_hideAll _ e), dead_size (Nat.le_of_eq hsz)⟩, fun y j v hj hv => ?_⟩, ⟨inv.led.1, inv.led.2.1, fun k a l e1 e2 => ?_⟩, fun b ob e => hk₁ b ob (inv.stays b ob e), hIn, inv.nof, fun a ha => ?_, fun a ha => ⟨(inv.shy a ha).1, let ⟨o, e, d⟩ := (inv.shy a ha).2; ⟨o, hk₁ _ _ e, d⟩⟩, ⟨hIn, let ⟨o, es, ep, h1, h2, _⟩ := ns₁; ⟨o, es, ep, h1, h2⟩⟩, fun y j v a b => (by cases b), fun e x w => ?_, fun v w => (by cases w)⟩
    · rcases getElem?_set_some hv with ⟨rfl, rfl⟩ | ⟨_, hv⟩
      · have hy : y = p1 := idxIn_inj hj i1
        subst hy
        have e : bindL (newEnv scope s.heap.objs.size mainGlobals cl (qual ++ ".<locals>.") (some f) cdv none builtinsNs).kindOf [(y, xa), (p2, xb), (p3, xd)] (fun _ => none) y = some xa := by simp [bindL, k1, k2, k3]
        exact ⟨xa, e, ra⟩
      · exact (rep_none hv).elim
    · obtain ⟨us, n, q1, q2, q3, q4, q5⟩ := inv.led.2.2 k a l e1 e2
      exact ⟨us, n, hk₁ _ _ q1, q2, old _ _ q1, hideAll_none _ (List.mem_append_right _ (List.mem_of_getElem? e1)), q5⟩
    · rcases List.mem_cons.mp ha with rfl | ha
      · exact ⟨inv.own, _, _, _, _, hL, hk₁ _ _ hL, .refl _, hLd⟩
      rcases List.mem_cons.mp ha with rfl | ha
      · obtain ⟨ofp, efp, nfp, hfp, dfp⟩ := inv.frame.2
        exact ⟨inv.frame.1, _, _, _, _, hfp, hk₁ _ _ hfp, .refl _, dfp⟩
      · obtain ⟨w1, o, o', es, n, _, w2, _, w3⟩ := inv.avoid a ha
        exact ⟨w1, _, _, _, _, w2, hk₁ _ _ w2, .refl _, w3⟩
    · have w : st.σ.pend = some (e, x) := w
      rw [hpn] at w; cases w
  obtain ⟨w1, w2, w3⟩ := inv₀.widen
  have far : ∀ n ad, cl.lookup n = some ad → ∀ v, (∃ o, h₁.get? ad = some o ∧ o.data = .cell v) → ∃ o, (still c' μ h₁).get? ad = some o ∧ o.data = .cell v := fun n ad hn v ⟨o, e, d⟩ => by
    have ab : s.heap.objs.size < ad := habove n ad (mem_of_lookup hn)
    have nn : ∀ b o, s.heap.get? b = some o → ad ≠ b := fun b o q w => by have := Heap.lt_size q; rw [← w] at this; exact absurd (Nat.lt_trans this ab) (Nat.lt_irrefl _)
    refine ⟨o, w3 ad o e (Nat.ne_of_gt ab) (Nat.ne_of_gt ab) (fun hm => ?_) (fun hm => ?_) (fun hm => ?_) (fun vs q => by rw [d] at q; cases q), d⟩
    · rcases List.mem_cons.mp hm with w | hm
      · exact nn _ _ hL w
      rcases List.mem_cons.mp hm with w | hm
      · obtain ⟨_, o, _, _, q, _⟩ := inv.frame; exact nn _ _ q w
      · obtain ⟨_, _, o, _, _, _, q, _⟩ := inv.avoid _ hm; exact nn _ _ q rfl
    · obtain ⟨k, hk'⟩ := List.getElem?_of_mem hm
      obtain ⟨_, _, q, _⟩ := loc_obj inv hk'
      exact nn _ _ q rfl
    · obtain ⟨_, o, q, _⟩ := inv.shy _ hm; exact nn _ _ q rfl
  have some2 : ∃ ad, cl.lookup p2 = some ad := Option.isSome_iff_exists.mp (hcl ▸ cellsFrom_some _ _ _ (.inl l2))
  have some3 : ∃ ad, cl.lookup p3 = some ad := Option.isSome_iff_exists.mp (hcl ▸ cellsFrom_some _ _ _ (.inl l3))
  obtain ⟨a2, ha2⟩ := some2
  obtain ⟨a3, ha3⟩ := some3
  have c2 : ∃ o, h₁.get? a2 = some o ∧ o.data = .cell (some xb) := by
    have := hcell p2 a2 ha2
    have e : bindC (newEnv scope s.heap.objs.size mainGlobals cl (qual ++ ".<locals>.") (some f) cdv none builtinsNs).kindOf [(p1, xa), (p2, xb), (p3, xd)] (fun _ => none) p2 = some xb := by simp [bindC, k1, k2, k3, n23]
    obtain ⟨o, q, d⟩ := this
    exact ⟨o, q, d.trans (congrArg _ e)⟩
  have c3 : ∃ o, h₁.get? a3 = some o ∧ o.data = .cell (some xd) := by
    have := hcell p3 a3 ha3
    have e : bindC (newEnv scope s.heap.objs.size mainGlobals cl (qual ++ ".<locals>.") (some f) cdv none builtinsNs).kindOf [(p1, xa), (p2, xb), (p3, xd)] (fun _ => none) p3 = some xd := by simp [bindC, k1, k2, k3]
    obtain ⟨o, q, d⟩ := this
    exact ⟨o, q, d.trans (congrArg _ e)⟩
  have inv' : Inv c' (still c' μ h₁) μ ⟨(List.replicate scope.names.length none).set it (some va), st.σ, ((List.replicate scope.names.length none).set j2 (some vb)).set j3 (some vd)⟩ h₁ := { w1 with
    cells := fun y j v hj hv => by
      have hj : cidx scope.names y = some j := hj
      rcases getElem?_set_some hv with ⟨rfl, rfl⟩ | ⟨_, hv⟩
      · obtain rfl := cidx_inj hj i3
        obtain ⟨o, q, d⟩ := far _ _ ha3 _ c3
        exact ⟨a3, o, xd, ha3, q, d, rd.up w2 (List.prefix_refl _)⟩
      · rcases getElem?_set_some hv with ⟨rfl, rfl⟩ | ⟨_, hv⟩
        · obtain rfl := cidx_inj hj i2
          obtain ⟨o, q, d⟩ := far _ _ ha2 _ c2
          exact ⟨a2, o, xb, ha2, q, d, rb.up w2 (List.prefix_refl _)⟩
        · exact (rep_none hv).elim }
  refine hT c' G' ⟨rfl, by show rm ≤ c.room - 1; omega⟩ _ _ _ (still c' μ h₁) μ { s with heap := h₁, toks := tk } _ _ z1 hT' inv' ?_ ?_
  · intro fv fl st' I' μ' h' tk b i' k' p' r'
    have k' := stays_trans w2 k'
    have ib := calleeC_off i'
    have whole : Inv c I' μ' { st with σ := st'.σ } h' := InvR.back (st' := { st' with cv := [] }) G inv hr0 ib k' p'
    have hv := fr_val r'
    rcases b with b | ⟨b1, b2, b3⟩
    · exact q _ _ _ I' μ' h' tk b whole k' p' hv
    · obtain ⟨hpre, tk'⟩ := take_inv inv whole k' p' b2
      refine q _ _ { st with σ := { st'.σ with ls := st'.σ.ls.take st.σ.ls.length } } I' (μ'.take st.σ.ls.length) h' tk b3 (tk' ?_) k' hpre (hv.any _ b1)
      obtain ⟨m', F', L'⟩ := whole.fr
      refine ⟨m, ⟨?_, F'.keep, F'.off⟩, Lr⟩
      obtain ⟨_, o, o', _, _, a1, a2, r, _⟩ := i'.avoid c.L (.head _)
      have a1 : s.heap.get? c.L = some o := a1
      rw [hL] at a1; cases a1
      exact ⟨o', es, ep, a2, r.data.trans hLd, hLr⟩
  · intro xc e st' I' μ' h' tk b f' k' p'
    have k' := stays_trans w2 k'
    refine wpAny_bind ?_
    refine note_ok (s := { s with heap := h', toks := tk }) G' f' fun h₂ f₂ t₂ => ?_
    refine flight_ok (c := c') (s := { s with heap := h₂, toks := tk }) G' f₂.inv f₂.nohd f₂.nop t₂ fun h₃ i₃ t₃ => ?_
    have whole : InvR UpS c I' μ' { st with σ := st'.σ } h₃ := InvR.back (st' := { st' with cv := [] }) G inv hr0 (calleeC_off i₃) k' p'
    have hd0 : c.hd = none := by rcases G.hd with e | e; exact e; omega
    have t₄ := (t₃.keeps (P' := fun fl => fl = none ∨ fl = some .none ∨ fl = some (rawInt c.fp)) (fun _ _ _ a _ => a) fun fl w => by
      rcases w with ⟨_, w⟩ | w
      · cases w
      · exact .inr (.inl w)).low (hid_h₀ G inv)
    rcases b with b | ⟨b1, b2⟩
    · exact x xc e { st with σ := st'.σ } I' μ' h₃ tk b ⟨whole, hd0, f'.nop, t₄⟩ k' p'
    · obtain ⟨hpre, tk'⟩ := take_inv inv whole k' p' b1
      refine x xc e { st with σ := { st'.σ with ls := st'.σ.ls.take st.σ.ls.length } } I' (μ'.take st.σ.ls.length) h₃ tk b2 ⟨tk' ?_, hd0, f'.nop, t₄⟩ k' hpre
      obtain ⟨m', F', L'⟩ := whole.fr
      refine ⟨m, ⟨?_, F'.keep, F'.off⟩, Lr⟩
      obtain ⟨_, o, o', _, _, a1, a2, r, _⟩ := i₃.avoid c.L (.head _)
      have a1 : s.heap.get? c.L = some o := a1
      rw [hL] at a1; cases a1
      exact ⟨o', es, ep, a2, r.data.trans hLd, hLr⟩
end Mine
namespace Mine
section
variable {sc : Scope} {rm : Nat} {pos : Pos}
/-- the last sign: x[-1:] -/
noncomputable def slM (x i : V) (Q : V → Prop) : Prop := withStr x fun l => i = .int (-1) ∧ 0 < l.length ∧ Q (.str (l.drop (l.length - 1)))
theorem slice_last (x : Str) (h : 0 < x.length) : (Txt.slice x (some (-1)) none).cps.toList = x.cps.toList.drop (x.length - 1) := by
  have e : Txt.slice x (some (-1)) none = Txt.slice x (some ((x.length - 1 : Nat) : Int)) none := by
    show StrLaws.sliceText _ _ _ = StrLaws.sliceText _ _ _
    rw [StrLaws.sliceText_neg_lo x none (by decide) (by omega), show (-1 + (x.length : Int)) = ((x.length - 1 : Nat) : Int) by omega]
  rw [e, slice_from]
theorem ev_sliceM {v a : PySem.Expr} {p : Pos} {T₁ T₂ : Tr V} (h₁ : Ev sc rm v T₁) (h₂ : Ev sc rm a T₂)
    (hs : ∀ o r, subscripted (.Slice (some a) none none p) false o (.ref r) = operate [.ref r, o] (getItem o (.ref r))) :
    Ev sc rm (.Subscript v (.Slice (some a) none none p) pos) (fun Q X st => T₁ (fun x st₁ => T₂ (fun i st₂ => slM x i fun v => Q v st₂) X st₁) X st) := by
  intro c G hsc Q X st I μ s Q' E' z t inv q x
  refine Subscript_ (h₁.use G hsc z t inv ?_ x)
  intro va x₁ st₁ I₁ μ₁ h₁' tk₁ t₁ inv₁ k₁ p₁ r₁ z₁
  refine wpAny_Slice (evalPart_some_step (h₂.use G hsc (st := st₁) z₁ t₁ inv₁ ?_ (x.up k₁ p₁)))
  intro vi xi st₂ I₂ μ₂ h₂' tk₂ t₂ inv₂ k₂ p₂ r₂ z₂
  refine evalPart_none_step (evalPart_none_step ?_)
  have q₃ := (q.up (h₁ := h₁') (t₁ := tk₁) k₁ p₁).up (h₁ := h₂') (t₁ := tk₂) k₂ p₂
  obtain ⟨l, e1, e2, hl, t₄⟩ := withStr_inv t₂
  rw [e1] at r₁; rw [e2] at r₂
  obtain ⟨y, _, rfl, hx, ok⟩ := r₁.strI; obtain ⟨_, rfl⟩ := r₂.intI
  have fin := q₃.kept t₄ ok (fun c hc => List.mem_of_mem_drop hc) (by rw [List.length_drop]; exact Nat.sub_le _ _)
  have hln := len_of hx
  exact tail_of_ItemOn (SBH.sliceItem_sn (Inv.kept (c := c) (I := I₂) (μ := μ₂) (st := st₂)) inv₂ (fun h' t' k inv' => fin h' _ t' k (by rw [slice_last y (by omega), hx, hln]) inv') (by rw [hln]; exact len63 ok)) (hs _ _) fun _ => letTemp_str _ _ _ _
noncomputable def opNeg (v : V) (Q : V → Prop) : Prop := match v with | .int i => Q (.int (-i)) | _ => False
theorem ev_neg {e : PySem.Expr} {T : Tr V} (h : Ev sc rm e T) : Ev sc rm (.UnaryOp .USub e pos) (fun Q X st => T (fun v st₁ => opNeg v fun v => Q v st₁) X st) := by
  intro c G hs Q X st I μ s Q' E' z t inv q x
  refine UnaryOp_ (h.use G hs z t inv ?_ x)
  intro va a st₁ I₁ μ₁ h₁' tk₁ t₁ inv₁ k₁ p₁ r₁ z₁
  unfold opNeg at t₁
  split at t₁
  · obtain ⟨_, rfl⟩ := r₁.intI
    exact neg_int (same_heapT (q.up k₁ p₁) _ t₁ inv₁ (.int _ _))
  · exact t₁.elim
theorem ex_expr {e : PySem.Expr} {T : Tr V} (h : Ev sc rm e T) (hsw : ∀ env, swapsWith e none pos.line env = pure false) : Ex sc rm (.Expr e pos) (fun Q X st => T (fun _ st₁ => Q .next st₁) X st) := by
  intro c G hs Q X st I μ s Q' E' z t inv q x
  refine wpAny_Expr_any ?_ (by show (c.scope.kind == .module && _) = false; rw [G.fn]; rfl) (hsw _)
  exact h c G hs _ X st I μ s _ E' z t inv (fun v val st' I' μ' h' tk b1 b2 b3 b4 _ => q _ _ _ _ _ _ _ b1 b2 b3 b4 .next) x
end
end Mine
namespace Mine
-- the readings' parts by name
section
variable (T T₁ T₂ T₃ : Tr V) (L : Tr (List V)) (B B₁ B₂ : Tr Bool) (F F₁ F₂ : Tr Fl) (i j k n : Nat)
noncomputable def tVal (v : V) : Tr V := fun Q _ st => Q v st
noncomputable def tVar : Tr V := fun Q _ st => match st.vars[i]? with | some (some v) => Q v st | _ => False
noncomputable def tCell : Tr V := fun Q _ st => match st.cv[i]? with | some (some v) => Q v st | _ => False
noncomputable def tBin (op : V → V → (V → Prop) → Prop) : Tr V := fun Q X st => T₁ (fun va st₁ => T₂ (fun vb st₂ => op va vb (fun v => Q v st₂)) X st₁) X st
noncomputable def tCmp (op : CmpOp) : Tr V := fun Q X st => T₁ (fun va st₁ => T₂ (fun vb st₂ => opCmp st₂.σ op va vb fun b => Q (.bool b) st₂) X st₁) X st
noncomputable def tNot : Tr V := fun Q X st => T (fun v st₁ => truth v fun b => Q (.bool (!b)) st₁) X st
noncomputable def tNeg : Tr V := fun Q X st => T (fun v st₁ => opNeg v fun v => Q v st₁) X st
noncomputable def tAnd : Tr V := fun Q X st => T₁ (fun v st₁ => truth v fun b => bIf b (T₂ Q X st₁) (Q (.bool false) st₁)) X st
noncomputable def tOr : Tr V := fun Q X st => T₁ (fun v st₁ => truth v fun b => bIf b (Q (.bool true) st₁) (T₂ Q X st₁)) X st
noncomputable def tIfe : Tr V := fun Q X st => B (fun c st₁ => bIf c (T₁ Q X st₁) (T₂ Q X st₁)) X st
noncomputable def tTup : Tr V := fun Q X st => L (fun vs st₁ => vs.length < 1000 ∧ Q (.tup vs) st₁) X st
noncomputable def tLst : Tr V := fun Q X st => L (fun vs st₁ => vs.length < 1000 ∧ Q (.list vs) st₁) X st
noncomputable def tLstL : Tr V := fun Q X st => L (fun vs st₁ => vs.length < 1000 ∧ nls vs = true ∧ Q (.loc st₁.σ.ls.length) { st₁ with σ := { st₁.σ with ls := st₁.σ.ls ++ [vs] } }) X st
noncomputable def tBlt (o : Led → List V → (V → Prop) → Prop) : Tr V := fun Q X st => L (fun vs st₁ => o st₁.σ vs fun v => Q v st₁) X st
noncomputable def tCall (o : Sp) : Tr V := fun Q X st => L (fun vs st₁ => o st₁.σ vs (fun v σ' => Q v { st₁ with σ := σ' }) (fun x σ' => X x { st₁ with σ := σ' })) X st
noncomputable def tM0 (o : Led → List V → (V → Prop) → Prop) : Tr V := fun Q X st => T (fun v st₁ => withStr v fun l => o st₁.σ [.str l] fun v => Q v st₁) X st
noncomputable def tM1 (o : Led → List V → (V → Prop) → Prop) : Tr V := fun Q X st => T (fun v st₁ => withStr v fun l => L (fun vs st₂ => o st₂.σ (.str l :: vs) fun v => Q v st₂) X st₁) X st
noncomputable def tNil : Tr (List V) := fun Q _ st => Q [] st
noncomputable def tCons : Tr (List V) := fun Q X st => T (fun v st₁ => L (fun vs st₂ => Q (v :: vs) st₂) X st₁) X st
noncomputable def tSS : Tr V := fun Q X st => T₁ (fun x st₁ => T₂ (fun i st₂ => T₃ (fun j st₃ => slSS x i j fun v => Q v st₃) X st₂) X st₁) X st
noncomputable def tSl (o : V → V → (V → Prop) → Prop) : Tr V := fun Q X st => T₁ (fun x st₁ => T₂ (fun i st₂ => o x i fun v => Q v st₂) X st₁) X st
noncomputable def tNSL : Tr V := fun Q X st => T₁ (fun x st₁ => T₂ (fun i st₂ => match x, i with
  | .list l, .int i => 0 ≤ i ∧ l.length ≤ 65536 ∧ Q (.list (l.take i.toNat)) st₂ | _, _ => False) X st₁) X st
noncomputable def tItem : Tr V := fun Q X st => T₁ (fun a st₁ => T₂ (fun b st₂ => opItem st₂.σ a b fun v => Q v st₂) X st₁) X st
noncomputable def tAttr (C : Addr) (name : Str) : Tr V := fun Q X st => T (fun v st₁ => attrP C name v fun v => Q v st₁) X st
noncomputable def tStrike (ch : Nat) : Tr V := fun Q X st => T (fun v st₁ => match v with | .str l => Q (.str (l.filter (· != ch))) st₁ | _ => False) X st
noncomputable def tMeth (C : Addr) (name : Str) (o : Sp) : Tr V := fun Q X st => T (fun v st₁ => match v with
      | .inst C' ns vs => C' = C ∧ name ∉ ns ∧ o st₁.σ [v] (fun v σ' => Q v { st₁ with σ := σ' }) (fun x σ' => X x { st₁ with σ := σ' })
      | _ => False) X st
noncomputable def tExcAt : Tr V := fun Q X st => T (fun v st₁ => match v with
      | .obj (.ref a) => ∃ x, st₁.σ.pend = some (a, x) ∧ notObj x.at_ ∧ Q x.at_ st₁
      | _ => False) X st
noncomputable def tItr (fz : Bool) : Tr (List V) := fun Q X st => T (fun v st₁ => match v with
    | .str l => Q (l.map fun c => .str [c]) st₁
    | .list l => Q l st₁
    | .loc k => fz = true ∧ Q (st₁.σ.ls.getD k []) st₁
    | _ => False) X st
noncomputable def tRange : Tr (List V) := fun Q X st => T (fun v st₁ => match v with
      | .int i => 0 ≤ i ∧ i ≤ 65536 ∧ Q ((List.range i.toNat).map fun (k : Nat) => V.int (k : Int)) st₁
      | _ => False) X st
noncomputable def tComp (cs sc : Scope) (nv : Nat) (b : V → List (Option V) → Option (List (Option V))) : Tr V := fun Q X st => cvOk cs sc st.cv = true ∧ L (fun items st₁ => st₁.σ.pend = none ∧ st₁.cv = st.cv ∧ items.length ≤ 65536 ∧ nls items = true ∧ ∃ f : V → Option V,
      (∀ v ∈ items, match b v (vars0 nv []) with
        | some vars => B (fun b st₂ => bIf b (T₂ (fun u st₃ => nl u = true ∧ f v = some u) (fun _ _ => False) st₂) (f v = none)) (fun _ _ => False) ⟨vars, ⟨[], none⟩, cvOf cs sc st.cv⟩
        | none => False) ∧ Q (.list (items.filterMap f)) st₁) X st
noncomputable def bCmp (op : CmpOp) : Tr Bool := fun Q X st => T₁ (fun va st₁ => T₂ (fun vb st₂ => opCmp st₂.σ op va vb fun b => Q b st₂) X st₁) X st
noncomputable def bChain (op₁ op₂ : CmpOp) : Tr Bool := fun Q X st => T₁ (fun va st₁ => T₂ (fun vb st₂ => opCmp st₂.σ op₁ va vb fun b =>
  bIf b (T₃ (fun vc st₃ => opCmp st₃.σ op₂ vb vc fun b' => Q b' st₃) X st₂) (Q false st₂)) X st₁) X st
noncomputable def tChain (op₁ op₂ : CmpOp) : Tr V := fun Q X st => T₁ (fun va st₁ => T₂ (fun vb st₂ => opCmp st₂.σ op₁ va vb fun b =>
  bIf b (T₃ (fun vc st₃ => opCmp st₃.σ op₂ vb vc fun b' => Q (.bool b') st₃) X st₂) (Q (.bool false) st₂)) X st₁) X st
noncomputable def bNot : Tr Bool := fun Q X st => B (fun b st₁ => Q (!b) st₁) X st
noncomputable def bVal (b : Bool) : Tr Bool := fun Q _ st => Q b st
noncomputable def bAnd : Tr Bool := fun Q X st => B₁ (fun b st₁ => bIf b (B₂ Q X st₁) (Q false st₁)) X st
noncomputable def bOr : Tr Bool := fun Q X st => B₁ (fun b st₁ => bIf b (Q true st₁) (B₂ Q X st₁)) X st
noncomputable def bPlain : Tr Bool := fun Q X st => T (fun v st₁ => truth v fun b => Q b st₁) X st
noncomputable def bSplit (parts : List (List Nat)) : Tr Bool := fun Q X st => T (fun va st₁ => match va with | .str a => Q (decide (a ∈ parts)) st₁ | _ => False) X st
noncomputable def tEnd : Tr Fl := fun Q _ st => Q .next st
noncomputable def tSeq : Tr Fl := fun Q X st => F₁ (fun f st₁ => match f with | .next => F₂ Q X st₁ | f => Q f st₁) X st
noncomputable def tRet : Tr Fl := fun Q X st => T (fun v st₁ => Q (.ret v) st₁) X st
noncomputable def tRet0 : Tr Fl := fun Q _ st => Q (.ret .none) st
noncomputable def tCont : Tr Fl := fun Q _ st => Q .cont st
noncomputable def tSet : Tr Fl := fun Q X st => T (fun v st₁ => Q .next { st₁ with vars := st₁.vars.set i (some v) }) X st
noncomputable def tIf : Tr Fl := fun Q X st => B (fun c st₁ => bIf c (F₁ Q X st₁) (F₂ Q X st₁)) X st
noncomputable def tExpr : Tr Fl := fun Q X st => T (fun _ st₁ => Q .next st₁) X st
noncomputable def tWhile : Tr Fl := fun Q X st => ∃ (P : Nat → St → Prop) (n : Nat), P n st ∧ ∀ n st, P n st →
      B (fun c st₁ => bIf c (F (fun f st₂ => match f with | .next => ∃ k, k < n ∧ P k st₂ | .cont => ∃ k, k < n ∧ P k st₂ | .brk => Q .next st₂ | .ret v => Q (.ret v) st₂) X st₁) (Q .next st₁)) X st
noncomputable def tFor : Tr Fl := fun Q X st => L (fun items st₁ => ∃ P : Nat → St → Prop, P 0 st₁ ∧ ∀ k st₂, P k st₂ → st₂.σ.pend = none ∧
      (∀ v, items[k]? = some v → F (fun f st₃ => match f with | .next => P (k + 1) st₃ | .cont => P (k + 1) st₃ | .brk => Q .next st₃ | .ret v => Q (.ret v) st₃) X { st₂ with vars := st₂.vars.set i (some v) }) ∧ (k = items.length → Q .next st₂)) X st
noncomputable def tRaise : Tr Fl := fun Q X st => T (fun v st₁ => match v with | .obj (.ref a) => ∃ x, st₁.σ.pend = some (a, x) ∧ X x { st₁ with σ := { st₁.σ with pend := none } } | _ => False) X st
noncomputable def tSetB (b : V → List (Option V) → Option (List (Option V))) : Tr Fl := fun Q X st => T (fun v st₁ => match b v st₁.vars with | some vars' => Q .next { st₁ with vars := vars' } | none => False) X st
noncomputable def tSet2 : Tr Fl := fun Q X st => T (fun v st₁ => match v with | .tup [a, b] => Q .next { st₁ with vars := (st₁.vars.set j (some b)).set i (some a) } | _ => False) X st
noncomputable def tSet3 : Tr Fl := fun Q X st => T (fun v st₁ => match v with | .tup [a, b, d] => Q .next { st₁ with vars := ((st₁.vars.set k (some d)).set j (some b)).set i (some a) } | _ => False) X st
noncomputable def tAppend : Tr Fl := fun Q X st => T₁ (fun v st₁ => match v with
      | .loc k => T₂ (fun u st₂ => nl u = true ∧ (st₂.σ.ls.getD k []).length ≤ 65536 ∧ Q .next { st₂ with σ := { st₂.σ with ls := st₂.σ.ls.set k (st₂.σ.ls.getD k [] ++ [u]) } }) X st₁
      | _ => False) X st
noncomputable def tTry : Tr Fl := fun Q X st => F₁ Q (fun x st₁ => ∀ e, F₂ (fun f st₂ => st₂.σ.pend = some (e, x) ∧ Q f { st₂ with vars := [], σ := { st₂.σ with pend := none } }) (fun _ _ => False)
      { st₁ with vars := st₁.vars.set i (some (.obj (.ref e))), σ := { st₁.σ with pend := some (e, x) } }) st
noncomputable def tUndbl : Tr Fl := fun Q X st => T₁ (fun a st₁ => T₂ (fun b st₂ => match a, b with
        | .str l, .int n => l.length < 2 ^ 63 ∧ (match seqIndex? n l.length with
          | some jj => ∀ tq, T₃ (fun r st₄ => match r with
            | .str l' => st₄.vars[i]? = some (some (.obj (.str ⟨#[l.getD jj 0]⟩ tq))) ∧ F Q X { st₄ with vars := st₄.vars.set j (some (.str (undbl (l.getD jj 0) l'))) }
            | _ => False) X { st₂ with vars := st₂.vars.set i (some (.obj (.str ⟨#[l.getD jj 0]⟩ tq))) }
          | none => False)
        | _, _ => False) X st₁) X st
end
section
variable {sc : Scope} {rm : Nat} {pos : Pos} {T T₀ T₁ T₂ T₃ : Tr V} {L : Tr (List V)} {B B₁ B₂ : Tr Bool} {F F₁ F₂ : Tr Fl} {e l r a b : PySem.Expr} {es : List PySem.Expr}
theorem cx_expr (h : Ev sc rm e T) (hsw : ∀ env, swapsWith e none pos.line env = pure false) : Ex sc rm (.Expr e pos) (tExpr T) := ex_expr h hsw
theorem cv_none {k} : Ev sc rm (.Constant .none k pos) (tVal .none) := ev_none
theorem cv_bool {k b} : Ev sc rm (.Constant (.bool b) k pos) (tVal (.bool b)) := ev_bool
theorem cv_nat {k} (n : Nat) : Ev sc rm (.Constant (.int (n : Int)) k pos) (tVal (.int (n : Int))) := ev_int
theorem cv_str0 {k x} (h : okB (strL x) = true) : Ev sc rm (.Constant (.str x) k pos) (tVal (.str (strL x))) := ev_str h
theorem cv_neg (h : Ev sc rm e T) : Ev sc rm (.UnaryOp .USub e pos) (tNeg T) := ev_neg h
theorem cv_boolop {op : BoolOp} (h : EvL sc rm op es T) : Ev sc rm (.BoolOp op es pos) T := h pos
theorem cl_one {op : BoolOp} (h : Ev sc rm e T) : EvL sc rm op [e] T := evl_one h
theorem cv_str {k x} {l : List Nat} (e : strL x = l) (h : okB l = true) : Ev sc rm (.Constant (.str x) k pos) (tVal (.str l)) := by subst e; exact ev_str h
theorem cv_var {x : Str} {i : Nat} (hi : idxIn sc.names x = some i) (hl : sc.names.lookup x = some .local) (hd : (x == ("__debug__" : Str)) = false := by decide) : Ev sc rm (.Name x pos) (tVar i) := ev_var hi hl hd
theorem cv_cell {x : Str} {i : Nat} (hi : cidx sc.names x = some i) (hl : sc.names.lookup x = some .cell) (hd : (x == ("__debug__" : Str)) = false := by decide) : Ev sc rm (.Name x pos) (tCell i) := ev_cell hi hl hd
theorem cv_add (h₁ : Ev sc rm l T₁) (h₂ : Ev sc rm r T₂) : Ev sc rm (.BinOp l .Add r pos) (tBin T₁ T₂ opAdd) := ev_add h₁ h₂
theorem cv_addL (h₁ : Ev sc rm l T₁) (h₂ : Ev sc rm r T₂) : Ev sc rm (.BinOp l .Add r pos) (tBin T₁ T₂ opAddL) := ev_addL h₁ h₂
theorem cv_sub (h₁ : Ev sc rm l T₁) (h₂ : Ev sc rm r T₂) : Ev sc rm (.BinOp l .Sub r pos) (tBin T₁ T₂ opSub) := ev_sub h₁ h₂
theorem cv_mod (h₁ : Ev sc rm l T₁) (h₂ : Ev sc rm r T₂) : Ev sc rm (.BinOp l .Mod r pos) (tBin T₁ T₂ opMod) := ev_mod h₁ h₂
theorem cv_floordiv (h₁ : Ev sc rm l T₁) (h₂ : Ev sc rm r T₂) : Ev sc rm (.BinOp l .FloorDiv r pos) (tBin T₁ T₂ opDiv) := ev_floordiv h₁ h₂
theorem cv_pow (h₁ : Ev sc rm l T₁) (h₂ : Ev sc rm r T₂) : Ev sc rm (.BinOp l .Pow r pos) (tBin T₁ T₂ opPow) := ev_pow h₁ h₂
theorem cv_mult (h₁ : Ev sc rm l T₁) (h₂ : Ev sc rm r T₂) : Ev sc rm (.BinOp l .Mult r pos) (tBin T₁ T₂ opMul) := ev_mult h₁ h₂
theorem cv_cmp {op} (h₁ : Ev sc rm l T₁) (h₂ : Ev sc rm r T₂) (hm : behindInMarks op r = false) : Ev sc rm (.Compare l [op] [r] pos) (tCmp T₁ T₂ op) := ev_cmp h₁ h₂ hm
theorem cv_not (h : Ev sc rm e T) : Ev sc rm (.UnaryOp .Not e pos) (tNot T) := ev_not h
theorem cl_and {e₁ e₂ : PySem.Expr} (h₁ : Ev sc rm e₁ T₁) (h₂ : EvL sc rm .And (e₂ :: es) T₂) : EvL sc rm .And (e₁ :: e₂ :: es) (tAnd T₁ T₂) := evl_and h₁ h₂
theorem cl_or {e₁ e₂ : PySem.Expr} (h₁ : Ev sc rm e₁ T₁) (h₂ : EvL sc rm .Or (e₂ :: es) T₂) : EvL sc rm .Or (e₁ :: e₂ :: es) (tOr T₁ T₂) := evl_or h₁ h₂
theorem cv_ife {t : PySem.Expr} (h₀ : Tst sc rm t B) (h₁ : Ev sc rm a T₁) (h₂ : Ev sc rm b T₂) : Ev sc rm (.IfExp t a b pos) (tIfe T₁ T₂ B) := ev_ife h₀ h₁ h₂
theorem cs_nil : Evs sc rm pos [] tNil := evs_nil
theorem cs_cons (h₁ : Ev sc rm e T) (h₂ : Evs sc rm pos es L) (hp : ∀ env, starEach (e :: es) env = (false, eval e env) :: starEach es env) : Evs sc rm pos (e :: es) (tCons T L) := evs_cons h₁ h₂ hp
theorem cv_tuple {k : Nat} (h : Evs sc rm pos es L) : Ev sc rm (.Tuple es k pos) (tTup L) := ev_tuple h
theorem cv_list (h : Evs sc rm pos es L) : Ev sc rm (.List es pos) (tLst L) := ev_list h
theorem cv_listL (h : Evs sc rm pos es L) : Ev sc rm (.List es pos) (tLstL L) := ev_listL h
theorem cv_sliceSS {v : PySem.Expr} {p : Pos} (h₁ : Ev sc rm v T₁) (h₂ : Ev sc rm a T₂) (h₃ : Ev sc rm b T₃) (hs : ∀ o r, subscripted (.Slice (some a) (some b) none p) false o (.ref r) = operate [.ref r, o] (getItem o (.ref r))) :
    Ev sc rm (.Subscript v (.Slice (some a) (some b) none p) pos) (tSS T₁ T₂ T₃) := ev_sliceSS h₁ h₂ h₃ hs
theorem cv_sliceSN {v : PySem.Expr} {p : Pos} (h₁ : Ev sc rm v T₁) (h₂ : Ev sc rm a T₂) (hs : ∀ o r, subscripted (.Slice (some a) none none p) false o (.ref r) = operate [.ref r, o] (getItem o (.ref r))) :
    Ev sc rm (.Subscript v (.Slice (some a) none none p) pos) (tSl T₁ T₂ slSN) := ev_sliceSN h₁ h₂ hs
theorem cv_sliceM {v : PySem.Expr} {p : Pos} (h₁ : Ev sc rm v T₁) (h₂ : Ev sc rm a T₂) (hs : ∀ o r, subscripted (.Slice (some a) none none p) false o (.ref r) = operate [.ref r, o] (getItem o (.ref r))) :
    Ev sc rm (.Subscript v (.Slice (some a) none none p) pos) (tSl T₁ T₂ slM) := ev_sliceM h₁ h₂ hs
theorem cv_sliceNS {v : PySem.Expr} {p : Pos} (h₁ : Ev sc rm v T₁) (h₂ : Ev sc rm b T₂) (hs : ∀ o r, subscripted (.Slice none (some b) none p) false o (.ref r) = operate [.ref r, o] (getItem o (.ref r))) :
    Ev sc rm (.Subscript v (.Slice none (some b) none p) pos) (tSl T₁ T₂ slNS) := ev_sliceNS h₁ h₂ hs
theorem cv_sliceNSL {v : PySem.Expr} {p : Pos} (h₁ : Ev sc rm v T₁) (h₂ : Ev sc rm b T₂) (hs : ∀ o r, subscripted (.Slice none (some b) none p) false o (.ref r) = operate [.ref r, o] (getItem o (.ref r))) :
    Ev sc rm (.Subscript v (.Slice none (some b) none p) pos) (tNSL T₁ T₂) := ev_sliceNSL h₁ h₂ hs
theorem cv_item {v i : PySem.Expr} (h₁ : Ev sc rm v T₁) (h₂ : Ev sc rm i T₂) (hs : ∀ o k u, subscripted i false o (.int k u) = operate [o, .int k u] (getItem o (.int k u))) : Ev sc rm (.Subscript v i pos) (tItem T₁ T₂) := ev_item h₁ h₂ hs
theorem cv_callB {fn : PySem.Expr} {id : String} {o : Led → List V → (V → Prop) → Prop} (hf : Ev sc rm fn (tVal (.obj (.builtin id)))) (ha : Evs sc rm pos (e :: es) L) (hb : BSound rm (.builtin id) o)
    (g1 : ∀ env, starEach (e :: es) env = (false, eval e env) :: starEach es env) (g2 : ∀ env, ((backTo pos (starEach es env)).any fun x => x.1) = false)
    (g3 : ∀ env, eval (.Call fn (e :: es) [] pos) env = (do callWith pos (← eval fn env) [] (backTo pos (starEach (e :: es) env)) (backToKw pos (keywordEach [] env)))) :
    Ev sc rm (.Call fn (e :: es) [] pos) (tBlt L o) := ev_callB hf ha hb g1 g2 g3
theorem cv_call {fn : PySem.Expr} {f : Addr} {r : Nat} {o : Sp} (hF : Fn f r o) (hr : r ≤ rm) (hf : Ev sc rm fn (tVal (.obj (.ref f)))) (ha : Evs sc rm pos (e :: es) L) (hk : ∀ P, keepIn (KK P) (.ref f) = true)
    (g1 : ∀ env, starEach (e :: es) env = (false, eval e env) :: starEach es env) (g2 : ∀ env, ((backTo pos (starEach es env)).any fun x => x.1) = false)
    (g3 : ∀ env, eval (.Call fn (e :: es) [] pos) env = (do callWith pos (← eval fn env) [] (backTo pos (starEach (e :: es) env)) (backToKw pos (keywordEach [] env)))) :
    Ev sc rm (.Call fn (e :: es) [] pos) (tCall L o) := ev_call hF hr hf ha hk g1 g2 g3
theorem cv_upper {ap : Pos} {pl : Sem Bool} (h : Ev sc rm e T) (h3 : ∀ env, eval (.Call (.Attribute e (Str.ofString "upper") ap) [] [] pos) env = (do let ov ← eval e env; standAt ap.atName; let x ← holding [ov] (getMethod ov (Str.ofString "upper") pl); match x with | (f, first) => callWith pos f first (backTo pos (starEach [] env)) [])) :
    Ev sc rm (.Call (.Attribute e (Str.ofString "upper") ap) [] [] pos) (tM0 T oUpper) := ev_meth0 h GM.upper b_upper h3
theorem cv_join {ap : Pos} {pl : Sem Bool} (h : Ev sc rm e T) (ha : Evs sc rm pos (a :: es) L)
    (g1 : ∀ env, starEach (a :: es) env = (false, eval a env) :: starEach es env) (g2 : ∀ env, ((backTo pos (starEach es env)).any fun x => x.1) = false)
    (h3 : ∀ env, eval (.Call (.Attribute e (Str.ofString "join") ap) (a :: es) [] pos) env = (do let ov ← eval e env; standAt ap.atName; let x ← holding [ov] (getMethod ov (Str.ofString "join") pl); match x with | (f, first) => callWith pos f first (backTo pos (starEach (a :: es) env)) [])) :
    Ev sc rm (.Call (.Attribute e (Str.ofString "join") ap) (a :: es) [] pos) (tM1 T L oJoin) := ev_meth1 h ha GM.join b_join g1 g2 h3
theorem cv_attr {name : Str} (h : Ev sc rm e T) (C : Addr) (hA : AttrOk C name)
    (h3 : ∀ env, eval (.Attribute e name pos) env = (do let o ← eval e env; standAt pos.atName; let r ← holding [o] (getAttr o name true); letTemporaryGo e o r; pure r)) :
    Ev sc rm (.Attribute e name pos) (tAttr T C name) := ev_attr h C hA h3
theorem cv_strike {ch k1 k2 : Nat} {y z : Str} {ap c1 c2 : Pos} {pl : Env → Sem Bool} (h : Ev sc rm e T) (hy : y = ⟨#[ch]⟩) (hz : z = ⟨#[]⟩)
    (h3 : ∀ env, eval (.Call (.Attribute e "replace" ap) [.Constant (.str y) k1 c1, .Constant (.str z) k2 c2] [] pos) env = (do let ov ← eval e env; standAt ap.atName; let x ← holding [ov] (getMethod ov "replace" (pl env)); match x with | (f, first) => callWith pos f first (backTo pos (starEach [.Constant (.str y) k1 c1, .Constant (.str z) k2 c2] env)) [])) :
    Ev sc rm (.Call (.Attribute e "replace" ap) [.Constant (.str y) k1 c1, .Constant (.str z) k2 c2] [] pos) (tStrike T ch) := ev_strike h hy hz h3
theorem cv_meth {name : Str} {ap : Pos} {pl : Env → Sem Bool} {C f : Addr} {r : Nat} {o : Sp} (h : Ev sc rm e T) (hM : MethOk C name f) (hF : Fn f r o) (hr : r ≤ rm)
    (h3 : ∀ env, eval (.Call (.Attribute e name ap) [] [] pos) env = (do let ov ← eval e env; standAt ap.atName; let x ← holding [ov] (getMethod ov name (pl env)); match x with | (f, first) => callWith pos f first (backTo pos (starEach [] env)) [])) :
    Ev sc rm (.Call (.Attribute e name ap) [] [] pos) (tMeth T C name o) := ev_meth h hM hF hr h3
theorem cv_excAt (h : Ev sc rm e T) (hA : ExcAt)
    (h3 : ∀ env, eval (.Attribute e "at" pos) env = (do let o ← eval e env; standAt pos.atName; let r ← holding [o] (getAttr o "at" true); letTemporaryGo e o r; pure r)) :
    Ev sc rm (.Attribute e "at" pos) (tExcAt T) := ev_excAt h hA h3
theorem cv_comp {cs : Scope} {nv : Nat} {elt target iter : PySem.Expr} {ifs : List PySem.Expr} {b} (h1 : 1 ≤ rm) (hI : Itr sc rm true iter L) (hB : Bnd (relS cs sc) target b) (hc : Cnd (relS cs sc) rm ifs B) (he : Ev (relS cs sc) rm elt T₂)
    (hcell : ∀ y ∈ cs.names, y.2 ≠ .cell) (hnames : ∀ x ∈ cs.names, x.2 = .local → cs.names.lookup x.1 = some .local) (hkind : cs.kind = .function) (hsf : ∀ env x, foldedSetIterable iter env x = pure x) (hnv : cs.names.length = nv := by rfl) :
    Ev sc rm (.ListComp elt [⟨target, iter, ifs, 0⟩] cs pos) (tComp T₂ L B cs sc nv b) := ev_comp h1 hI hB hc he hcell hnames hkind hsf hnv
theorem ci_ev {fz : Bool} (h : Ev sc rm e T) (h1 : 1 ≤ rm) : Itr sc rm fz e (tItr T fz) := itr_ev h h1
theorem ci_range {fz : Bool} {np : Pos} (h : Ev sc rm e T) (h1 : 1 ≤ rm) (hf : Ev sc rm (.Name (Str.ofString "range") np) (tVal (.obj (.type "range"))))
    (g1 : ∀ env, starEach [e] env = (false, eval e env) :: starEach [] env)
    (g3 : ∀ env, eval (.Call (.Name (Str.ofString "range") np) [e] [] pos) env = (do callWith pos (← eval (.Name (Str.ofString "range") np) env) [] (backTo pos (starEach [e] env)) (backToKw pos (keywordEach [] env)))) :
    Itr sc rm fz (.Call (.Name (Str.ofString "range") np) [e] [] pos) (tRange T) := itr_range h h1 hf g1 g3
theorem cc_nil : Cnd sc rm [] (bVal true) := cnd_nil
theorem cc_one (h : Tst sc rm e B) : Cnd sc rm [e] B := cnd_one h
theorem cb_cmp {op} (h₁ : Ev sc rm l T₁) (h₂ : Ev sc rm r T₂) (hm : behindInMarks op r = false) : Tst sc rm (.Compare l [op] [r] pos) (bCmp T₁ T₂ op) := tst_cmp h₁ h₂ hm
theorem cv_chain2 {r₁ r₂ : PySem.Expr} {op₁ op₂} (h₁ : Ev sc rm l T₁) (h₂ : Ev sc rm r₁ T₂) (h₃ : Ev sc rm r₂ T₃) (hm : lastMarks [op₁, op₂] [r₁, r₂] = false) : Ev sc rm (.Compare l [op₁, op₂] [r₁, r₂] pos) (tChain T₁ T₂ T₃ op₁ op₂) := ev_chain2 h₁ h₂ h₃ hm
theorem cb_bool {op : BoolOp} (h : TstL sc rm op es B) : Tst sc rm (.BoolOp op es pos) B := tst_bool h
theorem cb_chain2 {r₁ r₂ : PySem.Expr} {op₁ op₂} (h₁ : Ev sc rm l T₁) (h₂ : Ev sc rm r₁ T₂) (h₃ : Ev sc rm r₂ T₃) (hm : lastMarks [op₁, op₂] [r₁, r₂] = false) : Tst sc rm (.Compare l [op₁, op₂] [r₁, r₂] pos) (bChain T₁ T₂ T₃ op₁ op₂) := tst_chain2 h₁ h₂ h₃ hm
theorem cb_not (h : Tst sc rm e B) : Tst sc rm (.UnaryOp .Not e pos) (bNot B) := tst_not h
theorem cb_and_nil : TstL sc rm .And [] (bVal true) := tsts_and_nil
theorem cb_or_nil : TstL sc rm .Or [] (bVal false) := tsts_or_nil
theorem cb_and (h₁ : Tst sc rm e B₁) (h₂ : TstL sc rm .And es B₂) : TstL sc rm .And (e :: es) (bAnd B₁ B₂) := tsts_and h₁ h₂
theorem cb_or (h₁ : Tst sc rm e B₁) (h₂ : TstL sc rm .Or es B₂) : TstL sc rm .Or (e :: es) (bOr B₁ B₂) := tsts_or h₁ h₂
theorem cb_plain (h : Ev sc rm e T) (hp : ∀ env, isTrue e env (eval e env) = (do let v ← eval e env; standAt e.pos; holding [v] (truthy v))) : Tst sc rm e (bPlain T) := tst_plain h hp
theorem cb_inSplit {v : PySem.Expr} {y : Str} {k : Nat} {ap cp yp : Pos} {pl : Env → Sem Bool} {parts : List (List Nat)} {l₂ : List Nat} (h₁ : Ev sc rm e T) (h₂ : Ev sc rm v (tVal (.str l₂)))
    (hy : (y.length == 0) = false) (hp : (Txt.split ⟨l₂.toArray⟩ y).map (fun p => p.cps.toList) = parts) (hl : l₂.length ≤ 1000) (hsz : (Builtin.Str.partsBetween ⟨l₂.toArray⟩ (Builtin.Str.occurrences ⟨l₂.toArray⟩ y 0 (Str.mk l₂.toArray).length ((Str.mk l₂.toArray).length + 1)) y.length).length ≤ sizeLine)
    (hok : parts.all (fun l => l.all fun c => decide (c < 128)) = true)
    (h3 : ∀ env, eval (.Call (.Attribute v "split" ap) [.Constant (.str y) k yp] [] cp) env = (do let ov ← eval v env; standAt ap.atName; let x ← holding [ov] (getMethod ov "split" (pl env)); match x with | (f, first) => callWith cp f first (backTo cp (starEach [.Constant (.str y) k yp] env)) []))
    (hm : behindInMarks .In (.Call (.Attribute v "split" ap) [.Constant (.str y) k yp] [] cp) = false) :
    Tst sc rm (.Compare e [.In] [.Call (.Attribute v "split" ap) [.Constant (.str y) k yp] [] cp] pos) (bSplit T parts) := tst_inSplit (T₂ := T) h₁ h₂ hy hp hl hsz hok h3 hm
theorem cx_nil : Exs sc rm [] tEnd := exs_nil
theorem cx_cons {a : Stmt} {l : List Stmt} (h₁ : Ex sc rm a F₁) (h₂ : Exs sc rm l F₂) : Exs sc rm (a :: l) (tSeq F₁ F₂) := exs_cons h₁ h₂
theorem cx_ret (h : Ev sc rm e T) : Ex sc rm (.Return (some e) pos) (tRet T) := ex_ret h
theorem cx_ret0 : Ex sc rm (.Return none pos) tRet0 := ex_ret0
theorem cx_cont : Ex sc rm (.Continue pos) tCont := ex_cont
theorem cx_assign {x : Str} {i : Nat} {np : Pos} (h : Ev sc rm e T) (hi : idxIn sc.names x = some i) (hl : sc.names.lookup x = some .local) (hsw : ∀ env, swapsWith e (some (.Name x np)) pos.line env = pure false) : Ex sc rm (.Assign [.Name x np] e pos) (tSet T i) := ex_assign h hi hl hsw
theorem cx_if {a b : List Stmt} (h₀ : Tst sc rm e B) (h₁ : Exs sc rm a F₁) (h₂ : Exs sc rm b F₂) : Ex sc rm (.If e a b pos) (tIf B F₁ F₂) := ex_if h₀ h₁ h₂
theorem cx_while {b : List Stmt} (h₀ : Tst sc rm e B) (h₁ : Exs sc rm b F) : Ex sc rm (.While e b [] pos) (tWhile B F) := ex_while h₀ h₁
theorem cx_for {x : Str} {i : Nat} {np : Pos} {body : List Stmt} (hI : Itr sc rm false e L) (hB : Exs sc rm body F) (hi : idxIn sc.names x = some i) (hl : sc.names.lookup x = some .local) (h1 : 1 ≤ rm)
    (hsf : ∀ env x, foldedSetIterable e env x = pure x) : Ex sc rm (.For (.Name x np) e body [] pos) (tFor L F i) := ex_for hI hB hi hl h1 hsf
theorem cx_raise (h : Ev sc rm e T) (h1 : 1 ≤ rm) : Ex sc rm (.Raise (some e) none pos) (tRaise T) := ex_raise h h1
theorem cx_append {ap ep : Pos} {pl : Env → Sem Bool} (h : Ev sc rm e T₁) (ha : Ev sc rm a T₂) (g1 : ∀ env, starEach [a] env = (false, eval a env) :: starEach [] env)
    (h3 : ∀ env, eval (.Call (.Attribute e "append" ap) [a] [] ep) env = (do let ov ← eval e env; standAt ap.atName; let x ← holding [ov] (getMethod ov "append" (pl env)); match x with | (f, first) => callWith ep f first (backTo ep (starEach [a] env)) []))
    (hsw : ∀ env, swapsWith (.Call (.Attribute e "append" ap) [a] [] ep) none pos.line env = pure false) :
    Ex sc rm (.Expr (.Call (.Attribute e "append" ap) [a] [] ep) pos) (tAppend T₁ T₂) := ex_append h ha g1 h3 hsw
theorem cx_try {n : Str} {i : Nat} {body suite : List Stmt} {b₀ : Stmt} {np hpos : Pos} (hB : Exs sc rm body F₁) (hS : Exs sc 0 (b₀ :: suite) F₂) (hi : idxIn sc.names n = some i) (hl : sc.names.lookup n = some .local) (h1 : 1 ≤ rm)
    (ht : Ev sc 0 (.Name "TokenFault" np) (tVal (.obj (.ref 81)))) :
    Ex sc rm (.Try body [.ExceptHandler (some (.Name "TokenFault" np)) (some n) (b₀ :: suite) hpos] [] [] pos) (tTry F₁ F₂ i) := ex_try hB hS hi hl h1 ht
theorem cx_assignT {k : Nat} {tp : Pos} {b} (h : Ev sc rm e T) (hB : Bnd sc (.Tuple es k tp) b) (h1 : 1 ≤ rm) (hsw : ∀ env, swapsWithSole [.Tuple es k tp] e pos.line env = pure false) (hss : ∀ env, env.scope = sc → swappedStores [.Tuple es k tp] e env = pure none) :
    Ex sc rm (.Assign [.Tuple es k tp] e pos) (tSetB T b) := ex_assignT h hB h1 hsw hss
theorem cx_assignS2 {x0 y : Str} {i j k : Nat} {p p' tp : Pos} (h : Ev sc rm e T) (hi : idxIn sc.names x0 = some i) (hl : sc.names.lookup x0 = some .local) (hj : idxIn sc.names y = some j) (hm : sc.names.lookup y = some .local) (h1 : 1 ≤ rm)
    (hsw : ∀ env, swapsWithSole [.Tuple [.Name x0 p, .Name y p'] k tp] e pos.line env = pure false) (hss : ∀ env, env.scope = sc → swappedStores [.Tuple [.Name x0 p, .Name y p'] k tp] e env = pure (some [x0, y])) :
    Ex sc rm (.Assign [.Tuple [.Name x0 p, .Name y p'] k tp] e pos) (tSet2 T i j) := ex_assignS2 h hi hl hj hm h1 hsw hss
theorem cx_assignS3 {x0 y w : Str} {i j n k : Nat} {p p' p'' tp : Pos} (h : Ev sc rm e T) (hi : idxIn sc.names x0 = some i) (hl : sc.names.lookup x0 = some .local) (hj : idxIn sc.names y = some j) (hm : sc.names.lookup y = some .local) (hw : idxIn sc.names w = some n) (hn : sc.names.lookup w = some .local) (h1 : 1 ≤ rm)
    (hsw : ∀ env, swapsWithSole [.Tuple [.Name x0 p, .Name y p', .Name w p''] k tp] e pos.line env = pure false) (hss : ∀ env, env.scope = sc → swappedStores [.Tuple [.Name x0 p, .Name y p', .Name w p''] k tp] e env = pure (some [x0, y, w])) :
    Ex sc rm (.Assign [.Tuple [.Name x0 p, .Name y p', .Name w p''] k tp] e pos) (tSet3 T i j n) := ex_assignS3 h hi hl hj hm hw hn h1 hsw hss
theorem cx_undbl {qn wn : Str} {iq iw : Nat} {v i recv : PySem.Expr} {rest : List Stmt} {qp p1 pos1 wp ap p2 p3 p4 p5 p6 pos2 : Pos} {pl : Env → Sem Bool} (hv : Ev sc rm v T₁) (hi : Ev sc rm i T₂) (hr : Ev sc rm recv T₃) (hx : Exs sc rm rest F)
    (iqe : idxIn sc.names qn = some iq) (iql : sc.names.lookup qn = some .local) (iwe : idxIn sc.names wn = some iw) (iwl : sc.names.lookup wn = some .local) (hdq : (qn == ("__debug__" : Str)) = false)
    (hsub : ∀ o k u, subscripted i false o (.int k u) = operate [o, .int k u] (getItem o (.int k u)))
    (hsw1 : ∀ env, swapsWith (.Subscript v i p1) (some (.Name qn qp)) pos1.line env = pure false)
    (hsw2 : ∀ env, swapsWith (.Call (.Attribute recv "replace" ap) [.BinOp (.Name qn p2) .Add (.Name qn p3) p4, .Name qn p5] [] p6) (some (.Name wn wp)) pos2.line env = pure false)
    (h3 : ∀ env, eval (.Call (.Attribute recv "replace" ap) [.BinOp (.Name qn p2) .Add (.Name qn p3) p4, .Name qn p5] [] p6) env = (do let ov ← eval recv env; standAt ap.atName; let x ← holding [ov] (getMethod ov "replace" (pl env)); match x with | (f, first) => callWith p6 f first (backTo p6 (starEach [.BinOp (.Name qn p2) .Add (.Name qn p3) p4, .Name qn p5] env)) [])) :
    Exs sc rm (.Assign [.Name qn qp] (.Subscript v i p1) pos1 :: .Assign [.Name wn wp] (.Call (.Attribute recv "replace" ap) [.BinOp (.Name qn p2) .Add (.Name qn p3) p4, .Name qn p5] [] p6) pos2 :: rest) (tUndbl T₁ T₂ T₃ F iq iw) :=
  exs_undbl hv hi hr hx iqe iql iwe iwl hdq hsub hsw1 hsw2 h3
theorem exs_as {l : List Stmt} {F' : Tr Fl} (h : Exs sc rm l F') (e : F = F') : Exs sc rm l F := e ▸ h
/-- a reading may be given a stronger demand -/
theorem tst_by (h : Tst sc rm e B) (w : ∀ Q X st, B₁ Q X st → B Q X st) : Tst sc rm e B₁ := fun c G hs Q X st I μ s Q' E' z t inv q x => h c G hs Q X st I μ s Q' E' z (w _ _ _ t) inv q x
theorem ev_by (h : Ev sc rm e T) (w : ∀ Q X st, T₁ Q X st → T Q X st) : Ev sc rm e T₁ := fun c G hs Q X st I μ s Q' E' z t inv q x => h c G hs Q X st I μ s Q' E' z (w _ _ _ t) inv q x
theorem exs_by {l : List Stmt} (h : Exs sc rm l F) (w : ∀ Q X st, F₁ Q X st → F Q X st) : Exs sc rm l F₁ := fun c G hs Q X st I μ s Q' E' z t inv q x => h c G hs Q X st I μ s Q' E' z (w _ _ _ t) inv q x
theorem ex_by {l : Stmt} (h : Ex sc rm l F) (w : ∀ Q X st, F₁ Q X st → F Q X st) : Ex sc rm l F₁ := fun c G hs Q X st I μ s Q' E' z t inv q x => h c G hs Q X st I μ s Q' E' z (w _ _ _ t) inv q x
end
end Mine
namespace Mine
theorem g_Line {sc rm pos} (hk : sc.names.lookup (Str.ofString "Line") = some .globalImplicit) : Ev sc rm (.Name (Str.ofString "Line") pos) (tVal (.obj (.ref 38))) :=
  ev_glob hk (fun P => ⟨.ref 38, by kernel_rfl, fun _ _ => .obj _⟩) (by decide)
theorem g_LedgerError {sc rm pos} (hk : sc.names.lookup (Str.ofString "LedgerError") = some .globalImplicit) : Ev sc rm (.Name (Str.ofString "LedgerError") pos) (tVal (.obj (.ref 68))) :=
  ev_glob hk (fun P => ⟨.ref 68, by kernel_rfl, fun _ _ => .obj _⟩) (by decide)
theorem g_TokenFault {sc rm pos} (hk : sc.names.lookup (Str.ofString "TokenFault") = some .globalImplicit) : Ev sc rm (.Name (Str.ofString "TokenFault") pos) (tVal (.obj (.ref 81))) :=
  ev_glob hk (fun P => ⟨.ref 81, by kernel_rfl, fun _ _ => .obj _⟩) (by decide)
theorem g_Token {sc rm pos} (hk : sc.names.lookup (Str.ofString "Token") = some .globalImplicit) : Ev sc rm (.Name (Str.ofString "Token") pos) (tVal (.obj (.ref 109))) :=
  ev_glob hk (fun P => ⟨.ref 109, by kernel_rfl, fun _ _ => .obj _⟩) (by decide)
theorem g_capital_of {sc rm pos} (hk : sc.names.lookup (Str.ofString "capital_of") = some .globalImplicit) : Ev sc rm (.Name (Str.ofString "capital_of") pos) (tVal (.obj (.ref 120))) :=
  ev_glob hk (fun P => ⟨.ref 120, by kernel_rfl, fun _ _ => .obj _⟩) (by decide)
theorem g_capitals {sc rm pos} (hk : sc.names.lookup (Str.ofString "capitals") = some .globalImplicit) : Ev sc rm (.Name (Str.ofString "capitals") pos) (tVal (.obj (.ref 125))) :=
  ev_glob hk (fun P => ⟨.ref 125, by kernel_rfl, fun _ _ => .obj _⟩) (by decide)
theorem g_is_word_sign {sc rm pos} (hk : sc.names.lookup (Str.ofString "is_word_sign") = some .globalImplicit) : Ev sc rm (.Name (Str.ofString "is_word_sign") pos) (tVal (.obj (.ref 132))) :=
  ev_glob hk (fun P => ⟨.ref 132, by kernel_rfl, fun _ _ => .obj _⟩) (by decide)
theorem g_is_parted {sc rm pos} (hk : sc.names.lookup (Str.ofString "is_parted") = some .globalImplicit) : Ev sc rm (.Name (Str.ofString "is_parted") pos) (tVal (.obj (.ref 139))) :=
  ev_glob hk (fun P => ⟨.ref 139, by kernel_rfl, fun _ _ => .obj _⟩) (by decide)
theorem g_line_fault {sc rm pos} (hk : sc.names.lookup (Str.ofString "line_fault") = some .globalImplicit) : Ev sc rm (.Name (Str.ofString "line_fault") pos) (tVal (.obj (.ref 146))) :=
  ev_glob hk (fun P => ⟨.ref 146, by kernel_rfl, fun _ _ => .obj _⟩) (by decide)
theorem g_run_end {sc rm pos} (hk : sc.names.lookup (Str.ofString "run_end") = some .globalImplicit) : Ev sc rm (.Name (Str.ofString "run_end") pos) (tVal (.obj (.ref 153))) :=
  ev_glob hk (fun P => ⟨.ref 153, by kernel_rfl, fun _ _ => .obj _⟩) (by decide)
theorem g_number_end {sc rm pos} (hk : sc.names.lookup (Str.ofString "number_end") = some .globalImplicit) : Ev sc rm (.Name (Str.ofString "number_end") pos) (tVal (.obj (.ref 160))) :=
  ev_glob hk (fun P => ⟨.ref 160, by kernel_rfl, fun _ _ => .obj _⟩) (by decide)
theorem g_literal_end {sc rm pos} (hk : sc.names.lookup (Str.ofString "literal_end") = some .globalImplicit) : Ev sc rm (.Name (Str.ofString "literal_end") pos) (tVal (.obj (.ref 167))) :=
  ev_glob hk (fun P => ⟨.ref 167, by kernel_rfl, fun _ _ => .obj _⟩) (by decide)
theorem g_picture_end {sc rm pos} (hk : sc.names.lookup (Str.ofString "picture_end") = some .globalImplicit) : Ev sc rm (.Name (Str.ofString "picture_end") pos) (tVal (.obj (.ref 174))) :=
  ev_glob hk (fun P => ⟨.ref 174, by kernel_rfl, fun _ _ => .obj _⟩) (by decide)
theorem g_checked_word {sc rm pos} (hk : sc.names.lookup (Str.ofString "checked_word") = some .globalImplicit) : Ev sc rm (.Name (Str.ofString "checked_word") pos) (tVal (.obj (.ref 179))) :=
  ev_glob hk (fun P => ⟨.ref 179, by kernel_rfl, fun _ _ => .obj _⟩) (by decide)
theorem g_checked_number {sc rm pos} (hk : sc.names.lookup (Str.ofString "checked_number") = some .globalImplicit) : Ev sc rm (.Name (Str.ofString "checked_number") pos) (tVal (.obj (.ref 186))) :=
  ev_glob hk (fun P => ⟨.ref 186, by kernel_rfl, fun _ _ => .obj _⟩) (by decide)
theorem g_checked_literal {sc rm pos} (hk : sc.names.lookup (Str.ofString "checked_literal") = some .globalImplicit) : Ev sc rm (.Name (Str.ofString "checked_literal") pos) (tVal (.obj (.ref 193))) :=
  ev_glob hk (fun P => ⟨.ref 193, by kernel_rfl, fun _ _ => .obj _⟩) (by decide)
theorem g_checked_picture {sc rm pos} (hk : sc.names.lookup (Str.ofString "checked_picture") = some .globalImplicit) : Ev sc rm (.Name (Str.ofString "checked_picture") pos) (tVal (.obj (.ref 200))) :=
  ev_glob hk (fun P => ⟨.ref 200, by kernel_rfl, fun _ _ => .obj _⟩) (by decide)
theorem g_need_apart {sc rm pos} (hk : sc.names.lookup (Str.ofString "need_apart") = some .globalImplicit) : Ev sc rm (.Name (Str.ofString "need_apart") pos) (tVal (.obj (.ref 207))) :=
  ev_glob hk (fun P => ⟨.ref 207, by kernel_rfl, fun _ _ => .obj _⟩) (by decide)
theorem g_mark_at {sc rm pos} (hk : sc.names.lookup (Str.ofString "mark_at") = some .globalImplicit) : Ev sc rm (.Name (Str.ofString "mark_at") pos) (tVal (.obj (.ref 214))) :=
  ev_glob hk (fun P => ⟨.ref 214, by kernel_rfl, fun _ _ => .obj _⟩) (by decide)
theorem g_worth_at {sc rm pos} (hk : sc.names.lookup (Str.ofString "worth_at") = some .globalImplicit) : Ev sc rm (.Name (Str.ofString "worth_at") pos) (tVal (.obj (.ref 221))) :=
  ev_glob hk (fun P => ⟨.ref 221, by kernel_rfl, fun _ _ => .obj _⟩) (by decide)
theorem g_is_blank_at {sc rm pos} (hk : sc.names.lookup (Str.ofString "is_blank_at") = some .globalImplicit) : Ev sc rm (.Name (Str.ofString "is_blank_at") pos) (tVal (.obj (.ref 228))) :=
  ev_glob hk (fun P => ⟨.ref 228, by kernel_rfl, fun _ _ => .obj _⟩) (by decide)
theorem g_is_picture_next {sc rm pos} (hk : sc.names.lookup (Str.ofString "is_picture_next") = some .globalImplicit) : Ev sc rm (.Name (Str.ofString "is_picture_next") pos) (tVal (.obj (.ref 235))) :=
  ev_glob hk (fun P => ⟨.ref 235, by kernel_rfl, fun _ _ => .obj _⟩) (by decide)
theorem g_add_tokens {sc rm pos} (hk : sc.names.lookup (Str.ofString "add_tokens") = some .globalImplicit) : Ev sc rm (.Name (Str.ofString "add_tokens") pos) (tVal (.obj (.ref 242))) :=
  ev_glob hk (fun P => ⟨.ref 242, by kernel_rfl, fun _ _ => .obj _⟩) (by decide)
theorem g_is_word_is {sc rm pos} (hk : sc.names.lookup (Str.ofString "is_word_is") = some .globalImplicit) : Ev sc rm (.Name (Str.ofString "is_word_is") pos) (tVal (.obj (.ref 249))) :=
  ev_glob hk (fun P => ⟨.ref 249, by kernel_rfl, fun _ _ => .obj _⟩) (by decide)
theorem g_tokens_of {sc rm pos} (hk : sc.names.lookup (Str.ofString "tokens_of") = some .globalImplicit) : Ev sc rm (.Name (Str.ofString "tokens_of") pos) (tVal (.obj (.ref 256))) :=
  ev_glob hk (fun P => ⟨.ref 256, by kernel_rfl, fun _ _ => .obj _⟩) (by decide)
theorem g_law_piece {sc rm pos} (hk : sc.names.lookup (Str.ofString "_law_piece") = some .globalImplicit) : Ev sc rm (.Name (Str.ofString "_law_piece") pos) (tVal (.obj (.ref 263))) :=
  ev_glob hk (fun P => ⟨.ref 263, by kernel_rfl, fun _ _ => .obj _⟩) (by decide)
theorem g_law_text {sc rm pos} (hk : sc.names.lookup (Str.ofString "_law_text") = some .globalImplicit) : Ev sc rm (.Name (Str.ofString "_law_text") pos) (tVal (.obj (.ref 270))) :=
  ev_glob hk (fun P => ⟨.ref 270, by kernel_rfl, fun _ _ => .obj _⟩) (by decide)
theorem g_law_run {sc rm pos} (hk : sc.names.lookup (Str.ofString "_law_run") = some .globalImplicit) : Ev sc rm (.Name (Str.ofString "_law_run") pos) (tVal (.obj (.ref 277))) :=
  ev_glob hk (fun P => ⟨.ref 277, by kernel_rfl, fun _ _ => .obj _⟩) (by decide)
theorem g_law_apart {sc rm pos} (hk : sc.names.lookup (Str.ofString "_law_apart") = some .globalImplicit) : Ev sc rm (.Name (Str.ofString "_law_apart") pos) (tVal (.obj (.ref 284))) :=
  ev_glob hk (fun P => ⟨.ref 284, by kernel_rfl, fun _ _ => .obj _⟩) (by decide)
theorem g_law_quoted {sc rm pos} (hk : sc.names.lookup (Str.ofString "_law_quoted") = some .globalImplicit) : Ev sc rm (.Name (Str.ofString "_law_quoted") pos) (tVal (.obj (.ref 291))) :=
  ev_glob hk (fun P => ⟨.ref 291, by kernel_rfl, fun _ _ => .obj _⟩) (by decide)
theorem g_law_next {sc rm pos} (hk : sc.names.lookup (Str.ofString "_law_next") = some .globalImplicit) : Ev sc rm (.Name (Str.ofString "_law_next") pos) (tVal (.obj (.ref 296))) :=
  ev_glob hk (fun P => ⟨.ref 296, by kernel_rfl, fun _ _ => .obj _⟩) (by decide)
theorem g_law_read {sc rm pos} (hk : sc.names.lookup (Str.ofString "_law_read") = some .globalImplicit) : Ev sc rm (.Name (Str.ofString "_law_read") pos) (tVal (.obj (.ref 303))) :=
  ev_glob hk (fun P => ⟨.ref 303, by kernel_rfl, fun _ _ => .obj _⟩) (by decide)
theorem g_law_right {sc rm pos} (hk : sc.names.lookup (Str.ofString "_law_right") = some .globalImplicit) : Ev sc rm (.Name (Str.ofString "_law_right") pos) (tVal (.obj (.ref 308))) :=
  ev_glob hk (fun P => ⟨.ref 308, by kernel_rfl, fun _ _ => .obj _⟩) (by decide)
noncomputable def t_QUOTES : List Nat := [34, 39]
theorem g_QUOTES {sc rm pos} (hk : sc.names.lookup (Str.ofString "QUOTES") = some .globalImplicit) : Ev sc rm (.Name (Str.ofString "QUOTES") pos) (tVal (.str t_QUOTES)) :=
  ev_glob hk (fun P => ⟨.str (Str.ofString "\"'") 189, by kernel_rfl, fun _ _ => .str _ (by kernel_rfl) (okS_of (by decide))⟩) (by decide)
noncomputable def t_LETTERS : List Nat := [65, 66, 67, 68, 69, 70, 71, 72, 73, 74, 75, 76, 77, 78, 79, 80, 81, 82, 83, 84, 85, 86, 87, 88, 89, 90]
theorem g_LETTERS {sc rm pos} (hk : sc.names.lookup (Str.ofString "LETTERS") = some .globalImplicit) : Ev sc rm (.Name (Str.ofString "LETTERS") pos) (tVal (.str t_LETTERS)) :=
  ev_glob hk (fun P => ⟨.str (Str.ofString "ABCDEFGHIJKLMNOPQRSTUVWXYZ") 289, by kernel_rfl, fun _ _ => .str _ (by kernel_rfl) (okS_of (by decide))⟩) (by decide)
noncomputable def t_FIGURES : List Nat := [48, 49, 50, 51, 52, 53, 54, 55, 56, 57]
theorem g_FIGURES {sc rm pos} (hk : sc.names.lookup (Str.ofString "FIGURES") = some .globalImplicit) : Ev sc rm (.Name (Str.ofString "FIGURES") pos) (tVal (.str t_FIGURES)) :=
  ev_glob hk (fun P => ⟨.str (Str.ofString "0123456789") 291, by kernel_rfl, fun _ _ => .str _ (by kernel_rfl) (okS_of (by decide))⟩) (by decide)
noncomputable def t_WORD_SIGNS : List Nat := [65, 66, 67, 68, 69, 70, 71, 72, 73, 74, 75, 76, 77, 78, 79, 80, 81, 82, 83, 84, 85, 86, 87, 88, 89, 90, 48, 49, 50, 51, 52, 53, 54, 55, 56, 57, 45]
theorem g_WORD_SIGNS {sc rm pos} (hk : sc.names.lookup (Str.ofString "WORD_SIGNS") = some .globalImplicit) : Ev sc rm (.Name (Str.ofString "WORD_SIGNS") pos) (tVal (.str t_WORD_SIGNS)) :=
  ev_glob hk (fun P => ⟨.str (Str.ofString "ABCDEFGHIJKLMNOPQRSTUVWXYZ0123456789-") 295, by kernel_rfl, fun _ _ => .str _ (by kernel_rfl) (okS_of (by decide))⟩) (by decide)
noncomputable def t_SINGLE_SIGNS : List Nat := [40, 41, 58, 43, 45, 42, 47, 61, 60, 62]
theorem g_SINGLE_SIGNS {sc rm pos} (hk : sc.names.lookup (Str.ofString "SINGLE_SIGNS") = some .globalImplicit) : Ev sc rm (.Name (Str.ofString "SINGLE_SIGNS") pos) (tVal (.str t_SINGLE_SIGNS)) :=
  ev_glob hk (fun P => ⟨.str (Str.ofString "():+-*/=<>") 297, by kernel_rfl, fun _ _ => .str _ (by kernel_rfl) (okS_of (by decide))⟩) (by decide)
noncomputable def t_DOUBLE_SIGNS : List Nat := [42, 42, 32, 60, 61, 32, 62, 61]
theorem g_DOUBLE_SIGNS {sc rm pos} (hk : sc.names.lookup (Str.ofString "DOUBLE_SIGNS") = some .globalImplicit) : Ev sc rm (.Name (Str.ofString "DOUBLE_SIGNS") pos) (tVal (.str t_DOUBLE_SIGNS)) :=
  ev_glob hk (fun P => ⟨.str (Str.ofString "** <= >=") 299, by kernel_rfl, fun _ _ => .str _ (by kernel_rfl) (okS_of (by decide))⟩) (by decide)
noncomputable def t_ENDS : List Nat := [46, 44, 59]
theorem g_ENDS {sc rm pos} (hk : sc.names.lookup (Str.ofString "ENDS") = some .globalImplicit) : Ev sc rm (.Name (Str.ofString "ENDS") pos) (tVal (.str t_ENDS)) :=
  ev_glob hk (fun P => ⟨.str (Str.ofString ".,;") 301, by kernel_rfl, fun _ _ => .str _ (by kernel_rfl) (okS_of (by decide))⟩) (by decide)
noncomputable def t_law_figures : List Nat := [48, 49, 50, 51, 52, 53, 54, 55, 56, 57]
theorem g_law_figures {sc rm pos} (hk : sc.names.lookup (Str.ofString "_law_figures") = some .globalImplicit) : Ev sc rm (.Name (Str.ofString "_law_figures") pos) (tVal (.str t_law_figures)) :=
  ev_glob hk (fun P => ⟨.str (Str.ofString "0123456789") 543, by kernel_rfl, fun _ _ => .str _ (by kernel_rfl) (okS_of (by decide))⟩) (by decide)
noncomputable def t_law_letters : List Nat := [65, 66, 67, 68, 69, 70, 71, 72, 73, 74, 75, 76, 77, 78, 79, 80, 81, 82, 83, 84, 85, 86, 87, 88, 89, 90]
theorem g_law_letters {sc rm pos} (hk : sc.names.lookup (Str.ofString "_law_letters") = some .globalImplicit) : Ev sc rm (.Name (Str.ofString "_law_letters") pos) (tVal (.str t_law_letters)) :=
  ev_glob hk (fun P => ⟨.str (Str.ofString "ABCDEFGHIJKLMNOPQRSTUVWXYZ") 545, by kernel_rfl, fun _ _ => .str _ (by kernel_rfl) (okS_of (by decide))⟩) (by decide)
theorem g_MOST_WORD {sc rm pos} (hk : sc.names.lookup (Str.ofString "MOST_WORD") = some .globalImplicit) : Ev sc rm (.Name (Str.ofString "MOST_WORD") pos) (tVal (.int ((30 : Nat) : Int))) :=
  ev_glob hk (fun P => ⟨.int 30 303, by kernel_rfl, fun _ _ => .int _ _⟩) (by decide)
theorem g_MOST_FIGURES {sc rm pos} (hk : sc.names.lookup (Str.ofString "MOST_FIGURES") = some .globalImplicit) : Ev sc rm (.Name (Str.ofString "MOST_FIGURES") pos) (tVal (.int ((18 : Nat) : Int))) :=
  ev_glob hk (fun P => ⟨.int 18 305, by kernel_rfl, fun _ _ => .int _ _⟩) (by decide)
theorem g_MOST_LITERAL {sc rm pos} (hk : sc.names.lookup (Str.ofString "MOST_LITERAL") = some .globalImplicit) : Ev sc rm (.Name (Str.ofString "MOST_LITERAL") pos) (tVal (.int ((160 : Nat) : Int))) :=
  ev_glob hk (fun P => ⟨.int 160 307, by kernel_rfl, fun _ _ => .int _ _⟩) (by decide)
theorem g_ord {sc rm pos} (hk : sc.names.lookup (Str.ofString "ord") = some .globalImplicit) : Ev sc rm (.Name (Str.ofString "ord") pos) (tVal (.obj (.builtin "ord"))) :=
  ev_builtin hk (fun P => by kernel_rfl) (by boot_fast) (by decide) (by decide)
theorem g_chr {sc rm pos} (hk : sc.names.lookup (Str.ofString "chr") = some .globalImplicit) : Ev sc rm (.Name (Str.ofString "chr") pos) (tVal (.obj (.builtin "chr"))) :=
  ev_builtin hk (fun P => by kernel_rfl) (by boot_fast) (by decide) (by decide)
theorem g_len {sc rm pos} (hk : sc.names.lookup (Str.ofString "len") = some .globalImplicit) : Ev sc rm (.Name (Str.ofString "len") pos) (tVal (.obj (.builtin "len"))) :=
  ev_builtin hk (fun P => by kernel_rfl) (by boot_fast) (by decide) (by decide)
theorem g_min {sc rm pos} (hk : sc.names.lookup (Str.ofString "min") = some .globalImplicit) : Ev sc rm (.Name (Str.ofString "min") pos) (tVal (.obj (.builtin "min"))) :=
  ev_builtin hk (fun P => by kernel_rfl) (by boot_fast) (by decide) (by decide)
theorem g_abs {sc rm pos} (hk : sc.names.lookup (Str.ofString "abs") = some .globalImplicit) : Ev sc rm (.Name (Str.ofString "abs") pos) (tVal (.obj (.builtin "abs"))) :=
  ev_builtin hk (fun P => by kernel_rfl) (by boot_fast) (by decide) (by decide)
theorem g_isinstance {sc rm pos} (hk : sc.names.lookup (Str.ofString "isinstance") = some .globalImplicit) : Ev sc rm (.Name (Str.ofString "isinstance") pos) (tVal (.obj (.builtin "isinstance"))) :=
  ev_builtin hk (fun P => by kernel_rfl) (by boot_fast) (by decide) (by decide)
end Mine
namespace Mine
noncomputable abbrev lns : List Str := [Str.ofString "text", Str.ofString "places"]
noncomputable def lnV (l : List Nat) (ps : List V) : V := .inst 38 lns [.str l, .list ps]
theorem len1 {α : Type} {xs : List α} (h : xs.length = 1) : ∃ a, xs = [a] := List.length_eq_one_iff.mp h
theorem lenS {α : Type} {xs : List α} {n : Nat} (h : xs.length = n + 1) : ∃ a ys, xs = a :: ys ∧ ys.length = n := by
  cases xs with
  | nil => cases h
  | cons a ys => exact ⟨a, ys, rfl, Nat.succ.inj h⟩
theorem len2 {α : Type} {xs : List α} (h : xs.length = 2) : ∃ a b, xs = [a, b] := by
  obtain ⟨a, ys, rfl, h'⟩ := lenS h; obtain ⟨b, rfl⟩ := len1 h'; exact ⟨a, b, rfl⟩
theorem len3 {α : Type} {xs : List α} (h : xs.length = 3) : ∃ a b c, xs = [a, b, c] := by
  obtain ⟨a, ys, rfl, h'⟩ := lenS h; obtain ⟨b, c, rfl⟩ := len2 h'; exact ⟨a, b, c, rfl⟩
theorem hp_of {scope : Scope} {ps : List Str} (h : (scope.names.map (·.1)).take ps.length = ps) : ∀ x i, idxIn scope.names x = some i → i < ps.length → ps[i]? = some x := fun x i hi hl => by
  have := idxIn_name hi
  rw [← h, List.getElem?_take_of_lt hl]; exact this
theorem back_ret {σ : Led} {Q : V → Led → Prop} {v : V} (h : Q v σ) : back σ Q (.ret v) σ := .inl h
theorem back_next {σ : Led} {Q : V → Led → Prop} (h : Q .none σ) : back σ Q .next σ := .inl h
theorem backX_of {σ : Led} {X : Exc → Led → Prop} {x : Exc} (h : X x σ) : backX σ X x σ := .inl h
theorem backE {σ : Led} {X : Exc → Led → Prop} {x : Exc} (hp : σ.pend = none) (h : X x σ) : backX σ X x { ls := σ.ls } := by
  have hσ : ({ ls := σ.ls } : Led) = σ := by cases σ; simp only at hp; subst hp; rfl
  rw [hσ]; exact .inl h
section
variable {σ : Led} {Q : V → Prop} {R : Bool → Prop} {N : Nat → Prop} {S : List Nat → Prop} {W : V → V → Prop} {a b : V} {l m : List Nat} {vs : List V} {i j n k : Nat} {A B : Prop}
theorem d_int : V.int (no_index (@OfNat.ofNat Int n instOfNat)) = V.int ((OfNat.ofNat n : Nat) : Int) := rfl
theorem d_neg : V.int (-((i : Nat) : Int)) = V.int (-((i : Nat) : Int)) := rfl
theorem d_nat : withNat (.int (i : Int)) N = N i := rfl
theorem d_str : withStr (.str l) S = S l := rfl
theorem d_one : one [a] Q = Q a := rfl
theorem d_two : two [a, b] W = W a b := rfl
theorem d_addN : opAdd (.int (i : Int)) (.int (j : Int)) Q = Q (.int ((i + j : Nat) : Int)) := rfl
theorem d_addS : opAdd (.str l) (.str m) Q = ((l ++ m).length ≤ 65536 ∧ Q (.str (l ++ m))) := rfl
theorem d_itS : opItem σ (.str l) (.int (i : Int)) Q = (i < l.length ∧ Q (.str [l.getD i 0])) := rfl
theorem d_itT : opItem σ (.tup vs) (.int (i : Int)) Q = (vs.length < 2 ^ 63 ∧ i < vs.length ∧ Q (vs.getD i .none)) := rfl
theorem d_itL : opItem σ (.list vs) (.int (i : Int)) Q = (vs.length < 2 ^ 63 ∧ i < vs.length ∧ Q (vs.getD i .none)) := rfl
theorem d_itK : opItem σ (.loc k) (.int (i : Int)) Q = ((σ.ls.getD k []).length < 2 ^ 63 ∧ i < (σ.ls.getD k []).length ∧ Q ((σ.ls.getD k []).getD i .none)) := rfl
theorem d_itSM : opItem σ (.str l) (.int (-((1 : Nat) : Int))) Q = (0 < l.length ∧ Q (.str [l.getD (l.length - 1) 0])) := rfl
theorem d_itKM : opItem σ (.loc k) (.int (-((1 : Nat) : Int))) Q = ((σ.ls.getD k []).length < 2 ^ 63 ∧ 0 < (σ.ls.getD k []).length ∧ Q ((σ.ls.getD k []).getD ((σ.ls.getD k []).length - 1) .none)) := rfl
theorem d_eq1 : eqS [i] [j] = (i = j) := rfl
theorem d_nt : (!true) = false := rfl
theorem d_nf : (!false) = true := rfl
theorem d_t : bIf true A B = A := rfl
theorem d_f : bIf false A B = B := rfl
theorem d_text {x : List Nat} {y : V} : attrP 38 (Str.ofString "text") (.inst 38 [Str.ofString "text", Str.ofString "places"] [.str x, y]) Q = Q (.str x) := rfl
theorem d_textL {x : List Nat} {y : List V} : attrP 38 (Str.ofString "text") (lnV x y) Q = Q (.str x) := rfl
theorem d_placesL {x : List Nat} {y : List V} : attrP 38 (Str.ofString "places") (lnV x y) Q = Q (.list y) := rfl
theorem d_places {x : V} {y : List V} : attrP 38 (Str.ofString "places") (.inst 38 [Str.ofString "text", Str.ofString "places"] [x, .list y]) Q = Q (.list y) := rfl
theorem d_kind {x : List Nat} {y z u : V} : attrP 109 (Str.ofString "kind") (.inst 109 [Str.ofString "kind", Str.ofString "worth", Str.ofString "at", Str.ofString "is_in_a"] [.str x, y, z, u]) Q = Q (.str x) := rfl
theorem d_worth {x : List Nat} {y z u : V} : attrP 109 (Str.ofString "worth") (.inst 109 [Str.ofString "kind", Str.ofString "worth", Str.ofString "at", Str.ofString "is_in_a"] [y, .str x, z, u]) Q = Q (.str x) := rfl
theorem d_at {x : List V} {y z u : V} : attrP 109 (Str.ofString "at") (.inst 109 [Str.ofString "kind", Str.ofString "worth", Str.ofString "at", Str.ofString "is_in_a"] [y, z, .tup x, u]) Q = Q (.tup x) := rfl
theorem d_isin {x : Bool} {y z u : V} : attrP 109 (Str.ofString "is_in_a") (.inst 109 [Str.ofString "kind", Str.ofString "worth", Str.ofString "at", Str.ofString "is_in_a"] [y, z, u, .bool x]) Q = Q (.bool x) := rfl
end
theorem at_text : AttrOk 38 (Str.ofString "text") := fun P => ⟨by kernel_rfl, by kernel_rfl, (findIn (KK P) (.ref 38) (Str.ofString "text")).getD .none, by kernel_rfl, by kernel_rfl⟩
theorem at_places : AttrOk 38 (Str.ofString "places") := fun P => ⟨by kernel_rfl, by kernel_rfl, (findIn (KK P) (.ref 38) (Str.ofString "places")).getD .none, by kernel_rfl, by kernel_rfl⟩
theorem at_kind : AttrOk 109 (Str.ofString "kind") := fun P => ⟨by kernel_rfl, by kernel_rfl, (findIn (KK P) (.ref 109) (Str.ofString "kind")).getD .none, by kernel_rfl, by kernel_rfl⟩
theorem at_worth : AttrOk 109 (Str.ofString "worth") := fun P => ⟨by kernel_rfl, by kernel_rfl, (findIn (KK P) (.ref 109) (Str.ofString "worth")).getD .none, by kernel_rfl, by kernel_rfl⟩
theorem at_at : AttrOk 109 (Str.ofString "at") := fun P => ⟨by kernel_rfl, by kernel_rfl, (findIn (KK P) (.ref 109) (Str.ofString "at")).getD .none, by kernel_rfl, by kernel_rfl⟩
theorem at_isin : AttrOk 109 (Str.ofString "is_in_a") := fun P => ⟨by kernel_rfl, by kernel_rfl, (findIn (KK P) (.ref 109) (Str.ofString "is_in_a")).getD .none, by kernel_rfl, by kernel_rfl⟩
theorem at_exc : ExcAt := fun P => ⟨by kernel_rfl, by kernel_rfl, by kernel_rfl, (findIn (KK P) (.ref 81) (Str.ofString "at")).getD .none, by kernel_rfl, by kernel_rfl⟩
theorem se_Constant {a b p es env} : starEach (.Constant a b p :: es) env = (false, eval (.Constant a b p) env) :: starEach es env := rfl
theorem se_Name {a p es env} : starEach (.Name a p :: es) env = (false, eval (.Name a p) env) :: starEach es env := rfl
theorem se_BinOp {a b c p es env} : starEach (.BinOp a b c p :: es) env = (false, eval (.BinOp a b c p) env) :: starEach es env := rfl
theorem se_UnaryOp {a b p es env} : starEach (.UnaryOp a b p :: es) env = (false, eval (.UnaryOp a b p) env) :: starEach es env := rfl
theorem se_BoolOp {a b p es env} : starEach (.BoolOp a b p :: es) env = (false, eval (.BoolOp a b p) env) :: starEach es env := rfl
theorem se_Compare {a b c p es env} : starEach (.Compare a b c p :: es) env = (false, eval (.Compare a b c p) env) :: starEach es env := rfl
theorem se_Call {a b c p es env} : starEach (.Call a b c p :: es) env = (false, eval (.Call a b c p) env) :: starEach es env := rfl
theorem se_Attribute {a b p es env} : starEach (.Attribute a b p :: es) env = (false, eval (.Attribute a b p) env) :: starEach es env := rfl
theorem se_Subscript {a b p es env} : starEach (.Subscript a b p :: es) env = (false, eval (.Subscript a b p) env) :: starEach es env := rfl
theorem se_Tuple {a b p es env} : starEach (.Tuple a b p :: es) env = (false, eval (.Tuple a b p) env) :: starEach es env := rfl
theorem se_List {a p es env} : starEach (.List a p :: es) env = (false, eval (.List a p) env) :: starEach es env := rfl
theorem se_ListComp {a b c p es env} : starEach (.ListComp a b c p :: es) env = (false, eval (.ListComp a b c p) env) :: starEach es env := rfl
theorem se_IfExp {a b c p es env} : starEach (.IfExp a b c p :: es) env = (false, eval (.IfExp a b c p) env) :: starEach es env := rfl
end Mine
namespace Mine
noncomputable abbrev big : Nat := 60000
theorem le1 {a b : Nat} : ¬ ([a] : List Nat) < [b] ↔ b ≤ a := by rw [List.cons_lt_cons_iff]; simp
theorem f_capital_of : Fn 120 1 (fun σ vs Q X => ∃ c, vs = [.str [c]] ∧ σ.pend = none ∧ Q (.str [upA c]) σ) := by
  refine' fn_intro (n := 3) (rm := 0) (T := _) (ps := [Str.ofString "sign"]) (fun P => by rfl) (fun P => by kernel_rfl) ?r1 ?r2 (hp_of (by rfl)) ?r4 ?r5 ?r6 (Nat.le_refl _) ?r7 (by rfl)
  case r6 =>
    refine' @exs_as _ _ _ _ _ ((cx_cons (cx_ret (cv_ife (cb_chain2 (cv_str (l := [97]) (by decide) (by decide)) (cv_var rfl rfl) (cv_str (l := [122]) (by decide) (by decide)) rfl) (cv_callB (g_chr rfl) (cs_cons (cv_sub (cv_callB (g_ord rfl) (cs_cons (cv_var rfl rfl) cs_nil (fun _ => se_Name)) b_ord (fun _ => rfl) (fun _ => rfl) (fun _ => rfl)) (cv_nat 32)) cs_nil (fun _ => se_BinOp)) b_chr (fun _ => rfl) (fun _ => rfl) (fun _ => rfl)) (cv_var rfl rfl))) cx_nil)) rfl
  case r1 => intro xs h; obtain ⟨a, rfl⟩ := len1 h; rfl
  case r2 => decide
  case r4 => decide
  case r5 => decide
  case r7 =>
    rintro σ _ Q X ⟨c, rfl, hp, hQ⟩
    refine ⟨hp, rfl, ?_⟩
    dsimp only [tVal,  tVar, tCell, tBin, tCmp, tNot, tNeg, tAnd, tOr, tIfe, tTup, tLst, tLstL, tBlt, tCall, tM0, tM1, tNil, tCons, tSS, tSl, tNSL, tItem, tAttr, tStrike, tMeth, tExcAt, tItr, tRange, tComp, bCmp, bChain, tChain, bNot, bVal, bAnd, bOr, bPlain, bSplit, tEnd, tSeq, tRet, tRet0, tCont, tSet, tIf, tExpr, tWhile, tFor, tRaise, tSetB, tSet2, tSet3, tAppend, tTry, tUndbl, d_eq1, vars0, d_int, d_nat, d_str, d_one, d_two, d_addN, d_addS, d_itS, d_itT, d_itL, d_itK, d_itSM, d_itKM, d_nt, d_nf, d_t, d_f, opNeg, slM, d_text, d_places, d_textL, d_placesL, d_kind, d_worth, d_at, d_isin, opSub, opMod, opDiv, opPow, opMul, opCmp, cLt, cLe, cLes, cEq, cIn, cNin, sp, slSS, slSN, slNS, oLen, oOrd, oChr, oMin, oAbs, oUpper, oIsL, oIsT, truth, bName, bTup2, bTup3, List.getElem?_cons_zero, List.getElem?_cons_succ, List.map_cons, List.map_nil, List.set_cons_zero, List.set_cons_succ]
    unfold upA at hQ
    refine ⟨fun h1 => ⟨fun h2 => ⟨Nat.le_trans (by decide) (le1.mp h1), by have := le1.mp h2; omega, back_ret ?_⟩, fun h2 => back_ret ?_⟩, fun h1 => back_ret ?_⟩
    · rwa [if_pos ⟨le1.mp h1, le1.mp h2⟩] at hQ
    · rwa [if_neg fun h => h2 (le1.mpr h.2)] at hQ
    · rwa [if_neg fun h => h1 (le1.mpr h.1)] at hQ
theorem f_is_word_sign : Fn 132 2 (fun σ vs Q X => ∃ c, vs = [.str [c]] ∧ σ.pend = none ∧ sp (upA c ∈ t_WORD_SIGNS) (fun b => Q (.bool b) σ)) := by
  refine' fn_intro (n := 3) (rm := 1) (T := _) (ps := [Str.ofString "sign"]) (fun P => by rfl) (fun P => by kernel_rfl) ?r1 ?r2 (hp_of (by rfl)) ?r4 ?r5 ?r6 (Nat.le_refl _) ?r7 (by rfl)
  case r6 =>
    refine' @exs_as _ _ _ _ _ ((cx_cons (cx_ret (cv_cmp (cv_call f_capital_of (by decide) (g_capital_of rfl) (cs_cons (cv_var rfl rfl) cs_nil (fun _ => se_Name)) (fun P => by kernel_rfl) (fun _ => rfl) (fun _ => rfl) (fun _ => rfl)) (g_WORD_SIGNS rfl) rfl)) cx_nil)) rfl
  case r1 => intro xs h; obtain ⟨a, rfl⟩ := len1 h; rfl
  case r2 => decide
  case r4 => decide
  case r5 => decide
  case r7 =>
    rintro σ _ Q X ⟨c, rfl, hp, hQ⟩
    refine ⟨hp, rfl, ?_⟩
    dsimp only [tVal,  tVar, tCell, tBin, tCmp, tNot, tNeg, tAnd, tOr, tIfe, tTup, tLst, tLstL, tBlt, tCall, tM0, tM1, tNil, tCons, tSS, tSl, tNSL, tItem, tAttr, tStrike, tMeth, tExcAt, tItr, tRange, tComp, bCmp, bChain, tChain, bNot, bVal, bAnd, bOr, bPlain, bSplit, tEnd, tSeq, tRet, tRet0, tCont, tSet, tIf, tExpr, tWhile, tFor, tRaise, tSetB, tSet2, tSet3, tAppend, tTry, tUndbl, d_eq1, vars0, d_int, d_nat, d_str, d_one, d_two, d_addN, d_addS, d_itS, d_itT, d_itL, d_itK, d_itSM, d_itKM, d_nt, d_nf, d_t, d_f, opNeg, slM, d_text, d_places, d_textL, d_placesL, d_kind, d_worth, d_at, d_isin, opSub, opMod, opDiv, opPow, opMul, opCmp, cLt, cLe, cLes, cEq, cIn, cNin, sp, slSS, slSN, slNS, oLen, oOrd, oChr, oMin, oAbs, oUpper, oIsL, oIsT, truth, bName, bTup2, bTup3, List.getElem?_cons_zero, List.getElem?_cons_succ, List.map_cons, List.map_nil, List.set_cons_zero, List.set_cons_succ]
    exact ⟨c, rfl, hp, fun h => back_ret (hQ.1 h), fun h => back_ret (hQ.2 h)⟩
/-- the end of the text or a blank stands there -/
noncomputable abbrev Parted (l : List Nat) (i : Nat) : Prop := l.length ≤ i ∨ l.getD i 0 = 32
theorem f_is_parted : Fn 139 1 (fun σ vs Q X => ∃ l i, vs = [.str l, .int (i : Nat)] ∧ σ.pend = none ∧ sp (Parted l i) (fun b => Q (.bool b) σ)) := by
  refine' fn_intro (n := 3) (rm := 0) (T := _) (ps := [Str.ofString "text", Str.ofString "at"]) (fun P => by rfl) (fun P => by kernel_rfl) ?r1 ?r2 (hp_of (by rfl)) ?r4 ?r5 ?r6 (Nat.le_refl _) ?r7 (by rfl)
  case r6 =>
    refine' @exs_as _ _ _ _ _ ((cx_cons (cx_ret (cv_boolop (cl_or (cv_cmp (cv_var rfl rfl) (cv_callB (g_len rfl) (cs_cons (cv_var rfl rfl) cs_nil (fun _ => se_Name)) b_len (fun _ => rfl) (fun _ => rfl) (fun _ => rfl)) rfl) (cl_one (cv_cmp (cv_item (cv_var rfl rfl) (cv_var rfl rfl) (fun _ _ _ => rfl)) (cv_str (l := [32]) (by decide) (by decide)) rfl))))) cx_nil)) rfl
  case r1 => intro xs h; obtain ⟨a, b, rfl⟩ := len2 h; rfl
  case r2 => decide
  case r4 => decide
  case r5 => decide
  case r7 =>
    rintro σ _ Q X ⟨l, i, rfl, hp, hQ⟩
    refine ⟨hp, rfl, ?_⟩
    dsimp only [tVal,  tVar, tCell, tBin, tCmp, tNot, tNeg, tAnd, tOr, tIfe, tTup, tLst, tLstL, tBlt, tCall, tM0, tM1, tNil, tCons, tSS, tSl, tNSL, tItem, tAttr, tStrike, tMeth, tExcAt, tItr, tRange, tComp, bCmp, bChain, tChain, bNot, bVal, bAnd, bOr, bPlain, bSplit, tEnd, tSeq, tRet, tRet0, tCont, tSet, tIf, tExpr, tWhile, tFor, tRaise, tSetB, tSet2, tSet3, tAppend, tTry, tUndbl, d_eq1, vars0, d_int, d_nat, d_str, d_one, d_two, d_addN, d_addS, d_itS, d_itT, d_itL, d_itK, d_itSM, d_itKM, d_nt, d_nf, d_t, d_f, opNeg, slM, d_text, d_places, d_textL, d_placesL, d_kind, d_worth, d_at, d_isin, opSub, opMod, opDiv, opPow, opMul, opCmp, cLt, cLe, cLes, cEq, cIn, cNin, sp, slSS, slSN, slNS, oLen, oOrd, oChr, oMin, oAbs, oUpper, oIsL, oIsT, truth, bName, bTup2, bTup3, List.getElem?_cons_zero, List.getElem?_cons_succ, List.map_cons, List.map_nil, List.set_cons_zero, List.set_cons_succ]
    exact ⟨fun h => back_ret (hQ.1 (.inl h)), fun h => ⟨Nat.lt_of_not_le h, fun h1 => back_ret (hQ.1 (.inr h1)), fun h1 => back_ret (hQ.2 fun q => q.elim h h1)⟩⟩
/-- where a run of the signs ends -/
noncomputable def runEnd (l : List Nat) (i : Nat) (s : List Nat) : Nat := i + ((l.drop i).takeWhile fun c => decide (upA c ∈ s)).length
theorem drop_at {l : List Nat} {i : Nat} (h : i < l.length) : l.drop i = l.getD i 0 :: l.drop (i + 1) := by
  rw [List.drop_eq_getElem_cons h, List.getD_eq_getElem?_getD, List.getElem?_eq_getElem h]; rfl
theorem runEnd_step {l : List Nat} {i : Nat} {s : List Nat} (h : i < l.length) (hs : upA (l.getD i 0) ∈ s) : runEnd l i s = runEnd l (i + 1) s := by
  unfold runEnd; rw [drop_at h, List.takeWhile_cons_of_pos (by simpa using hs), List.length_cons]; omega
theorem runEnd_stop {l : List Nat} {i : Nat} {s : List Nat} (h : i < l.length) (hs : upA (l.getD i 0) ∉ s) : runEnd l i s = i := by
  unfold runEnd; rw [drop_at h, List.takeWhile_cons_of_neg (by simpa using hs)]; rfl
theorem runEnd_end {l : List Nat} {i : Nat} {s : List Nat} (h : l.length ≤ i) : runEnd l i s = i := by
  unfold runEnd; rw [List.drop_eq_nil_of_le h]; rfl
theorem runEnd_ge {l : List Nat} {i : Nat} {s : List Nat} : i ≤ runEnd l i s := Nat.le_add_right _ _
theorem runEnd_le {l : List Nat} {i : Nat} {s : List Nat} (h : i ≤ l.length) : runEnd l i s ≤ l.length := by
  unfold runEnd; have := (List.takeWhile_prefix (p := fun c => decide (upA c ∈ s)) (l := l.drop i)).length_le; rw [List.length_drop] at this; omega
theorem f_run_end : Fn 153 2 (fun σ vs Q X => ∃ l i s, vs = [.str l, .int (i : Nat), .str s] ∧ σ.pend = none ∧ Q (.int (runEnd l i s : Nat)) σ) := by
  refine' fn_intro (n := 5) (rm := 1) (T := _) (ps := [Str.ofString "text", Str.ofString "at", Str.ofString "signs"]) (fun P => by rfl) (fun P => by kernel_rfl) ?r1 ?r2 (hp_of (by rfl)) ?r4 ?r5 ?r6 (Nat.le_refl _) ?r7 (by rfl)
  case r6 =>
    refine' @exs_as _ _ _ _ _ ((cx_cons (cx_while (cb_bool (cb_and (cb_cmp (cv_var rfl rfl) (cv_callB (g_len rfl) (cs_cons (cv_var rfl rfl) cs_nil (fun _ => se_Name)) b_len (fun _ => rfl) (fun _ => rfl) (fun _ => rfl)) rfl) (cb_and (cb_cmp (cv_call f_capital_of (by decide) (g_capital_of rfl) (cs_cons (cv_item (cv_var rfl rfl) (cv_var rfl rfl) (fun _ _ _ => rfl)) cs_nil (fun _ => se_Subscript)) (fun P => by kernel_rfl) (fun _ => rfl) (fun _ => rfl) (fun _ => rfl)) (cv_var rfl rfl) rfl) cb_and_nil))) (cx_cons (cx_assign (cv_add (cv_var rfl rfl) (cv_nat 1)) rfl rfl (fun _ => rfl)) cx_nil)) (cx_cons (cx_ret (cv_var rfl rfl)) cx_nil))) rfl
  case r1 => intro xs h; obtain ⟨a, b, c, rfl⟩ := len3 h; rfl
  case r2 => decide
  case r4 => decide
  case r5 => decide
  case r7 =>
    rintro σ _ Q X ⟨l, i, s, rfl, hp, hQ⟩
    refine ⟨hp, rfl, ?_⟩
    refine ⟨fun n st => ∃ j : Nat, st = ⟨[some (.str l), some (.int j), some (.str s), none, none], σ, []⟩ ∧ n = l.length - j ∧ runEnd l j s = runEnd l i s, _, ⟨i, rfl, rfl, rfl⟩, ?_⟩
    rintro n _ ⟨j, rfl, rfl, he⟩
    dsimp only [tVal,  tVar, tCell, tBin, tCmp, tNot, tNeg, tAnd, tOr, tIfe, tTup, tLst, tLstL, tBlt, tCall, tM0, tM1, tNil, tCons, tSS, tSl, tNSL, tItem, tAttr, tStrike, tMeth, tExcAt, tItr, tRange, tComp, bCmp, bChain, tChain, bNot, bVal, bAnd, bOr, bPlain, bSplit, tEnd, tSeq, tRet, tRet0, tCont, tSet, tIf, tExpr, tWhile, tFor, tRaise, tSetB, tSet2, tSet3, tAppend, tTry, tUndbl, d_eq1, vars0, d_int, d_nat, d_str, d_one, d_two, d_addN, d_addS, d_itS, d_itT, d_itL, d_itK, d_itSM, d_itKM, d_nt, d_nf, d_t, d_f, opNeg, slM, d_text, d_places, d_textL, d_placesL, d_kind, d_worth, d_at, d_isin, opSub, opMod, opDiv, opPow, opMul, opCmp, cLt, cLe, cLes, cEq, cIn, cNin, sp, slSS, slSN, slNS, oLen, oOrd, oChr, oMin, oAbs, oUpper, oIsL, oIsT, truth, bName, bTup2, bTup3, List.getElem?_cons_zero, List.getElem?_cons_succ, List.map_cons, List.map_nil, List.set_cons_zero, List.set_cons_succ]
    refine ⟨fun h => ⟨h, _, rfl, hp, fun h1 => ⟨_, ?_, j + 1, rfl, rfl, (runEnd_step h h1).symm.trans he⟩, fun h1 => back_ret ?_⟩, fun h => back_ret ?_⟩
    · omega
    · rw [← runEnd_stop h h1, he]; exact hQ
    · rw [← runEnd_end (s := s) (Nat.le_of_not_lt h), he]; exact hQ
noncomputable def capV : V → Option V
  | .str [c] => some (.str [upA c])
  | _ => none
theorem nls_chars {l : List Nat} : nls (l.map fun c => V.str [c]) = true := by induction l with | nil => rfl | cons a l ih => exact ih
theorem caps_map {l : List Nat} : (l.map fun c => V.str [c]).filterMap capV = (l.map upA).map fun c => V.str [c] := by
  induction l with | nil => rfl | cons a l ih => rw [List.map_cons, List.filterMap_cons, ih]; rfl
theorem strsOf_chars {l : List Nat} : strsOf (l.map fun c => V.str [c]) = some (l.map fun c => [c]) := by
  induction l with | nil => rfl | cons a l ih => rw [List.map_cons, strsOf, ih]; rfl
theorem flat_chars {l : List Nat} : (l.map fun c => [c]).flatten = l := by
  induction l with | nil => rfl | cons a l ih => rw [List.map_cons, List.flatten_cons, ih]; rfl
theorem oJoin_chars {σ : Led} {l : List Nat} {Q : V → Prop} (h : l.length ≤ 65536) (q : Q (.str l)) : oJoin σ [.str [], .list (l.map fun c => V.str [c])] Q := by
  show match strsOf (l.map fun c => V.str [c]) with | some ts => ts.flatten.length ≤ 65536 ∧ Q (.str ts.flatten) | none => False
  rw [strsOf_chars]; dsimp only; rw [flat_chars]; exact ⟨h, q⟩
theorem f_capitals : Fn 125 2 (fun σ vs Q X => ∃ l, vs = [.str l] ∧ σ.pend = none ∧ l.length ≤ big ∧ Q (.str (l.map upA)) σ) := by
  refine' fn_intro (n := 1) (rm := 1) (T := _) (ps := [Str.ofString "text"]) (fun P => by rfl) (fun P => by kernel_rfl) ?r1 ?r2 (hp_of (by rfl)) ?r4 ?r5 ?r6 (Nat.le_refl _) ?r7 (by rfl)
  case r6 =>
    refine' @exs_as _ _ _ _ _ ((cx_cons (cx_ret (cv_join (cv_str (l := []) (by decide) (by decide)) (cs_cons (cv_comp (nv := 3) (by decide) (ci_ev (cv_var rfl rfl) (by decide)) (bnd_name rfl rfl) cc_nil (cv_call f_capital_of (by decide) (g_capital_of rfl) (cs_cons (cv_var rfl rfl) cs_nil (fun _ => se_Name)) (fun P => by kernel_rfl) (fun _ => rfl) (fun _ => rfl) (fun _ => rfl)) (by decide) (by decide) rfl (fun _ _ => rfl)) cs_nil (fun _ => se_ListComp)) (fun _ => rfl) (fun _ => rfl) (fun _ => rfl))) cx_nil)) rfl
  case r1 => intro xs h; obtain ⟨a, rfl⟩ := len1 h; rfl
  case r2 => decide
  case r4 => decide
  case r5 => decide
  case r7 =>
    rintro σ _ Q X ⟨l, rfl, hp, hl, hQ⟩
    refine ⟨hp, rfl, ?_⟩
    dsimp only [tVal,  tVar, tCell, tBin, tCmp, tNot, tNeg, tAnd, tOr, tIfe, tTup, tLst, tLstL, tBlt, tCall, tM0, tM1, tNil, tCons, tSS, tSl, tNSL, tItem, tAttr, tStrike, tMeth, tExcAt, tItr, tRange, tComp, bCmp, bChain, tChain, bNot, bVal, bAnd, bOr, bPlain, bSplit, tEnd, tSeq, tRet, tRet0, tCont, tSet, tIf, tExpr, tWhile, tFor, tRaise, tSetB, tSet2, tSet3, tAppend, tTry, tUndbl, d_eq1, vars0, d_int, d_nat, d_str, d_one, d_two, d_addN, d_addS, d_itS, d_itT, d_itL, d_itK, d_itSM, d_itKM, d_nt, d_nf, d_t, d_f, opNeg, slM, d_text, d_places, d_textL, d_placesL, d_kind, d_worth, d_at, d_isin, opSub, opMod, opDiv, opPow, opMul, opCmp, cLt, cLe, cLes, cEq, cIn, cNin, sp, slSS, slSN, slNS, oLen, oOrd, oChr, oMin, oAbs, oUpper, oIsL, oIsT, truth, bName, bTup2, bTup3, List.getElem?_cons_zero, List.getElem?_cons_succ, List.map_cons, List.map_nil, List.set_cons_zero, List.set_cons_succ]
    refine ⟨by rfl, hp, rfl, by rw [List.length_map]; exact Nat.le_trans hl (by decide), nls_chars, capV, ?_, ?_⟩
    · intro v hv
      obtain ⟨c, hc, rfl⟩ := List.mem_map.mp hv
      exact ⟨c, rfl, rfl, rfl, rfl⟩
    · rw [caps_map]
      exact oJoin_chars (by rw [List.length_map]; exact Nat.le_trans hl (by decide)) (back_ret hQ)
end Mine
namespace Mine
structure LineOk (l : List Nat) (ps : List V) : Prop where
  le : l.length ≤ big
  len : ps.length = l.length
  nl : nls ps = true
  pos : 0 < l.length
theorem LineOk.lt {l : List Nat} {ps : List V} (h : LineOk l ps) : l.length < 2 ^ 60 := Nat.lt_of_le_of_lt h.le (by decide)
noncomputable def fault (ps : List V) (w : List Nat) (i : Nat) : Exc := ⟨w, ps.getD (min i (ps.length - 1)) .none⟩
theorem nls_getD : ∀ {ps : List V} {i : Nat}, nls ps = true → nl (ps.getD i .none) = true
  | [], _, _ => rfl
  | p :: ps, 0, h => by rw [nls, Bool.and_eq_true] at h; exact h.1
  | p :: ps, i + 1, h => by rw [nls, Bool.and_eq_true] at h; exact nls_getD (ps := ps) h.2
theorem f_line_fault : Fn 146 2 (fun σ vs Q X => ∃ l ps i w, vs = [lnV l ps, .int (i : Nat), .str w] ∧ σ.pend = none ∧ LineOk l ps ∧ (∀ e, Q (.obj (.ref e)) { σ with pend := some (e, fault ps w i) })) := by
  refine' fn_intro (n := 6) (rm := 1) (T := _) (ps := [Str.ofString "line", Str.ofString "at", Str.ofString "what"]) (fun P => by rfl) (fun P => by kernel_rfl) ?r1 ?r2 (hp_of (by rfl)) ?r4 ?r5 ?r6 (Nat.le_refl _) ?r7 (by rfl)
  case r6 =>
    refine' @exs_as _ _ _ _ _ ((cx_cons (cx_ret (cv_call f_TokenFault (by decide) (g_TokenFault rfl) (cs_cons (cv_var rfl rfl) (cs_cons (cv_item (cv_attr (cv_var rfl rfl) 38 at_places (fun _ => rfl)) (cv_callB (g_min rfl) (cs_cons (cv_var rfl rfl) (cs_cons (cv_sub (cv_callB (g_len rfl) (cs_cons (cv_attr (cv_var rfl rfl) 38 at_places (fun _ => rfl)) cs_nil (fun _ => se_Attribute)) b_len (fun _ => rfl) (fun _ => rfl) (fun _ => rfl)) (cv_nat 1)) cs_nil (fun _ => se_BinOp)) (fun _ => se_Name)) b_minH (fun _ => rfl) (fun _ => rfl) (fun _ => rfl)) (fun _ _ _ => rfl)) cs_nil (fun _ => se_Subscript)) (fun _ => se_Name)) (fun P => by kernel_rfl) (fun _ => rfl) (fun _ => rfl) (fun _ => rfl))) cx_nil)) rfl
  case r1 => intro xs h; obtain ⟨a, b, c, rfl⟩ := len3 h; rfl
  case r2 => decide
  case r4 => decide
  case r5 => decide
  case r7 =>
    rintro σ _ Q X ⟨l, ps, i, w, rfl, hp, hL, hQ⟩
    refine ⟨hp, rfl, ?_⟩
    dsimp only [tVal,  tVar, tCell, tBin, tCmp, tNot, tNeg, tAnd, tOr, tIfe, tTup, tLst, tLstL, tBlt, tCall, tM0, tM1, tNil, tCons, tSS, tSl, tNSL, tItem, tAttr, tStrike, tMeth, tExcAt, tItr, tRange, tComp, bCmp, bChain, tChain, bNot, bVal, bAnd, bOr, bPlain, bSplit, tEnd, tSeq, tRet, tRet0, tCont, tSet, tIf, tExpr, tWhile, tFor, tRaise, tSetB, tSet2, tSet3, tAppend, tTry, tUndbl, d_eq1, vars0, d_int, d_nat, d_str, d_one, d_two, d_addN, d_addS, d_itS, d_itT, d_itL, d_itK, d_itSM, d_itKM, d_nt, d_nf, d_t, d_f, opNeg, slM, d_text, d_places, d_textL, d_placesL, d_kind, d_worth, d_at, d_isin, opSub, opMod, opDiv, opPow, opMul, opCmp, cLt, cLe, cLes, cEq, cIn, cNin, sp, slSS, slSN, slNS, oLen, oOrd, oChr, oMin, oAbs, oUpper, oIsL, oIsT, truth, bName, bTup2, bTup3, List.getElem?_cons_zero, List.getElem?_cons_succ, List.map_cons, List.map_nil, List.set_cons_zero, List.set_cons_succ]
    have h1 := hL.lt; have h2 := hL.len; have h3 := hL.pos
    exact ⟨by omega, by omega, by omega, by omega, nls_getD hL.nl, hp, fun e => back_ret (hQ e)⟩
/-- whether a figure stands there -/
noncomputable abbrev FigAt (l : List Nat) (j : Nat) : Prop := j < l.length ∧ l.getD j 0 ∈ t_FIGURES
noncomputable def numEnd (l : List Nat) (i : Nat) : Nat := if runEnd l i t_FIGURES < l.length ∧ l.getD (runEnd l i t_FIGURES) 0 = 46 ∧ FigAt l (runEnd l i t_FIGURES + 1) then runEnd l (runEnd l i t_FIGURES + 1) t_FIGURES else runEnd l i t_FIGURES
theorem cut_le {l : List Nat} (i j : Nat) : (cut l i j).length ≤ l.length := by unfold cut; rw [List.length_take, List.length_drop]; omega
theorem cut1 {l : List Nat} {i : Nat} (h : i < l.length) : cut l i (i + 1) = [l.getD i 0] := by
  unfold cut; rw [drop_at h, Nat.add_sub_cancel_left]; rfl
theorem cut_nil {l : List Nat} {i j : Nat} (h : l.length ≤ i) : cut l i j = [] := by
  unfold cut; rw [List.drop_eq_nil_of_le h, List.take_nil]
theorem cut1_eq {l : List Nat} {i c : Nat} : eqS (cut l i (i + 1)) [c] ↔ i < l.length ∧ l.getD i 0 = c := by
  rw [eqS_iff]
  by_cases h : i < l.length
  · rw [cut1 h]; simp [h]
  · rw [cut_nil (Nat.le_of_not_lt h)]; simp [h]
theorem cut1_nil {l : List Nat} {i : Nat} : eqS (cut l i (i + 1)) [] ↔ l.length ≤ i := by
  rw [eqS_iff]
  by_cases h : i < l.length
  · rw [cut1 h]; simp [h]
  · rw [cut_nil (Nat.le_of_not_lt h)]; simp [Nat.le_of_not_lt h]
theorem f_number_end : Fn 160 3 (fun σ vs Q X => ∃ l i, vs = [.str l, .int (i : Nat)] ∧ σ.pend = none ∧ Q (.int (numEnd l i : Nat)) σ) := by
  refine' fn_intro (n := 5) (rm := 2) (T := _) (ps := [Str.ofString "text", Str.ofString "at"]) (fun P => by rfl) (fun P => by kernel_rfl) ?r1 ?r2 (hp_of (by rfl)) ?r4 ?r5 ?r6 (Nat.le_refl _) ?r7 (by rfl)
  case r6 =>
    refine' @exs_as _ _ _ _ _ ((cx_cons (cx_assign (cv_call f_run_end (by decide) (g_run_end rfl) (cs_cons (cv_var rfl rfl) (cs_cons (cv_var rfl rfl) (cs_cons (g_FIGURES rfl) cs_nil (fun _ => se_Name)) (fun _ => se_Name)) (fun _ => se_Name)) (fun P => by kernel_rfl) (fun _ => rfl) (fun _ => rfl) (fun _ => rfl)) rfl rfl (fun _ => rfl)) (cx_cons (cx_if (cb_bool (cb_and (cb_cmp (cv_sliceSS (cv_var rfl rfl) (cv_var rfl rfl) (cv_add (cv_var rfl rfl) (cv_nat 1)) (fun _ _ => rfl)) (cv_str (l := [46]) (by decide) (by decide)) rfl) (cb_and (cb_cmp (cv_sliceSS (cv_var rfl rfl) (cv_add (cv_var rfl rfl) (cv_nat 1)) (cv_add (cv_var rfl rfl) (cv_nat 2)) (fun _ _ => rfl)) (cv_str (l := []) (by decide) (by decide)) rfl) (cb_and (cb_cmp (cv_item (cv_var rfl rfl) (cv_add (cv_var rfl rfl) (cv_nat 1)) (fun _ _ _ => rfl)) (g_FIGURES rfl) rfl) cb_and_nil)))) (cx_cons (cx_assign (cv_call f_run_end (by decide) (g_run_end rfl) (cs_cons (cv_var rfl rfl) (cs_cons (cv_add (cv_var rfl rfl) (cv_nat 1)) (cs_cons (g_FIGURES rfl) cs_nil (fun _ => se_Name)) (fun _ => se_BinOp)) (fun _ => se_Name)) (fun P => by kernel_rfl) (fun _ => rfl) (fun _ => rfl) (fun _ => rfl)) rfl rfl (fun _ => rfl)) cx_nil) cx_nil) (cx_cons (cx_ret (cv_var rfl rfl)) cx_nil)))) rfl
  case r1 => intro xs h; obtain ⟨a, b, rfl⟩ := len2 h; rfl
  case r2 => decide
  case r4 => decide
  case r5 => decide
  case r7 =>
    rintro σ _ Q X ⟨l, i, rfl, hp, hQ⟩
    refine ⟨hp, rfl, ?_⟩
    dsimp only [tVal,  tVar, tCell, tBin, tCmp, tNot, tNeg, tAnd, tOr, tIfe, tTup, tLst, tLstL, tBlt, tCall, tM0, tM1, tNil, tCons, tSS, tSl, tNSL, tItem, tAttr, tStrike, tMeth, tExcAt, tItr, tRange, tComp, bCmp, bChain, tChain, bNot, bVal, bAnd, bOr, bPlain, bSplit, tEnd, tSeq, tRet, tRet0, tCont, tSet, tIf, tExpr, tWhile, tFor, tRaise, tSetB, tSet2, tSet3, tAppend, tTry, tUndbl, d_eq1, vars0, d_int, d_nat, d_str, d_one, d_two, d_addN, d_addS, d_itS, d_itT, d_itL, d_itK, d_itSM, d_itKM, d_nt, d_nf, d_t, d_f, opNeg, slM, d_text, d_places, d_textL, d_placesL, d_kind, d_worth, d_at, d_isin, opSub, opMod, opDiv, opPow, opMul, opCmp, cLt, cLe, cLes, cEq, cIn, cNin, sp, slSS, slSN, slNS, oLen, oOrd, oChr, oMin, oAbs, oUpper, oIsL, oIsT, truth, bName, bTup2, bTup3, List.getElem?_cons_zero, List.getElem?_cons_succ, List.map_cons, List.map_nil, List.set_cons_zero, List.set_cons_succ]
    unfold numEnd at hQ
    refine ⟨_, _, _, rfl, hp, fun h1 => ⟨fun h2 => back_ret ?_, fun h2 => ⟨Nat.lt_of_not_le fun q => h2 (cut1_nil.mpr q), fun h3 => ⟨_, _, _, rfl, hp, back_ret ?_⟩, fun h3 => back_ret ?_⟩⟩, fun h1 => back_ret ?_⟩
    · rwa [if_neg fun q => Nat.not_le_of_lt q.2.2.1 (cut1_nil.mp h2)] at hQ
    · rwa [if_pos ⟨(cut1_eq.mp h1).1, (cut1_eq.mp h1).2, Nat.lt_of_not_le fun q => h2 (cut1_nil.mpr q), h3⟩] at hQ
    · rwa [if_neg fun q => h3 q.2.2.2] at hQ
    · rwa [if_neg fun q => h1 (cut1_eq.mpr ⟨q.1, q.2.1⟩)] at hQ
noncomputable abbrev BlankAt (l : List Nat) (i : Nat) : Prop := l.getD i 0 = 32 ∨ (l.getD i 0 ∈ [44, 59] ∧ Parted l (i + 1))
theorem f_is_blank_at : Fn 228 2 (fun σ vs Q X => ∃ l i, vs = [.str l, .int (i : Nat)] ∧ σ.pend = none ∧ i < l.length ∧ sp (BlankAt l i) (fun b => Q (.bool b) σ)) := by
  refine' fn_intro (n := 3) (rm := 1) (T := _) (ps := [Str.ofString "text", Str.ofString "at"]) (fun P => by rfl) (fun P => by kernel_rfl) ?r1 ?r2 (hp_of (by rfl)) ?r4 ?r5 ?r6 (Nat.le_refl _) ?r7 (by rfl)
  case r6 =>
    refine' @exs_as _ _ _ _ _ ((cx_cons (cx_ret (cv_boolop (cl_or (cv_cmp (cv_item (cv_var rfl rfl) (cv_var rfl rfl) (fun _ _ _ => rfl)) (cv_str (l := [32]) (by decide) (by decide)) rfl) (cl_one (cv_boolop (cl_and (cv_cmp (cv_item (cv_var rfl rfl) (cv_var rfl rfl) (fun _ _ _ => rfl)) (cv_str (l := [44, 59]) (by decide) (by decide)) rfl) (cl_one (cv_call f_is_parted (by decide) (g_is_parted rfl) (cs_cons (cv_var rfl rfl) (cs_cons (cv_add (cv_var rfl rfl) (cv_nat 1)) cs_nil (fun _ => se_BinOp)) (fun _ => se_Name)) (fun P => by kernel_rfl) (fun _ => rfl) (fun _ => rfl) (fun _ => rfl))))))))) cx_nil)) rfl
  case r1 => intro xs h; obtain ⟨a, b, rfl⟩ := len2 h; rfl
  case r2 => decide
  case r4 => decide
  case r5 => decide
  case r7 =>
    rintro σ _ Q X ⟨l, i, rfl, hp, hi, hQ⟩
    refine ⟨hp, rfl, ?_⟩
    dsimp only [tVal,  tVar, tCell, tBin, tCmp, tNot, tNeg, tAnd, tOr, tIfe, tTup, tLst, tLstL, tBlt, tCall, tM0, tM1, tNil, tCons, tSS, tSl, tNSL, tItem, tAttr, tStrike, tMeth, tExcAt, tItr, tRange, tComp, bCmp, bChain, tChain, bNot, bVal, bAnd, bOr, bPlain, bSplit, tEnd, tSeq, tRet, tRet0, tCont, tSet, tIf, tExpr, tWhile, tFor, tRaise, tSetB, tSet2, tSet3, tAppend, tTry, tUndbl, d_eq1, vars0, d_int, d_nat, d_str, d_one, d_two, d_addN, d_addS, d_itS, d_itT, d_itL, d_itK, d_itSM, d_itKM, d_nt, d_nf, d_t, d_f, opNeg, slM, d_text, d_places, d_textL, d_placesL, d_kind, d_worth, d_at, d_isin, opSub, opMod, opDiv, opPow, opMul, opCmp, cLt, cLe, cLes, cEq, cIn, cNin, sp, slSS, slSN, slNS, oLen, oOrd, oChr, oMin, oAbs, oUpper, oIsL, oIsT, truth, bName, bTup2, bTup3, List.getElem?_cons_zero, List.getElem?_cons_succ, List.map_cons, List.map_nil, List.set_cons_zero, List.set_cons_succ]
    exact ⟨hi, fun h => back_ret (hQ.1 (.inl h)), fun h => ⟨hi, fun h1 => ⟨_, _, rfl, hp, fun h2 => back_ret (hQ.1 (.inr ⟨h1, h2⟩)), fun h2 => back_ret (hQ.2 fun q => q.elim h fun q => h2 q.2)⟩, fun h1 => back_ret (hQ.2 fun q => q.elim h fun q => h1 q.1)⟩⟩
/-- the word IS stands there -/
noncomputable abbrev IsIs (l : List Nat) (i : Nat) : Prop := (cut l i (i + 2)).map upA = [73, 83] ∧ Parted l (i + 2)
theorem f_is_word_is : Fn 249 3 (fun σ vs Q X => ∃ l i, vs = [.str l, .int (i : Nat)] ∧ σ.pend = none ∧ l.length ≤ big ∧ sp (IsIs l i) (fun b => Q (.bool b) σ)) := by
  refine' fn_intro (n := 4) (rm := 2) (T := _) (ps := [Str.ofString "text", Str.ofString "at"]) (fun P => by rfl) (fun P => by kernel_rfl) ?r1 ?r2 (hp_of (by rfl)) ?r4 ?r5 ?r6 (Nat.le_refl _) ?r7 (by rfl)
  case r6 =>
    refine' @exs_as _ _ _ _ _ ((cx_cons (cx_ret (cv_boolop (cl_and (cv_cmp (cv_call f_capitals (by decide) (g_capitals rfl) (cs_cons (cv_sliceSS (cv_var rfl rfl) (cv_var rfl rfl) (cv_add (cv_var rfl rfl) (cv_nat 2)) (fun _ _ => rfl)) cs_nil (fun _ => se_Subscript)) (fun P => by kernel_rfl) (fun _ => rfl) (fun _ => rfl) (fun _ => rfl)) (cv_str (l := [73, 83]) (by decide) (by decide)) rfl) (cl_one (cv_call f_is_parted (by decide) (g_is_parted rfl) (cs_cons (cv_var rfl rfl) (cs_cons (cv_add (cv_var rfl rfl) (cv_nat 2)) cs_nil (fun _ => se_BinOp)) (fun _ => se_Name)) (fun P => by kernel_rfl) (fun _ => rfl) (fun _ => rfl) (fun _ => rfl)))))) cx_nil)) rfl
  case r1 => intro xs h; obtain ⟨a, b, rfl⟩ := len2 h; rfl
  case r2 => decide
  case r4 => decide
  case r5 => decide
  case r7 =>
    rintro σ _ Q X ⟨l, i, rfl, hp, hl, hQ⟩
    refine ⟨hp, rfl, ?_⟩
    dsimp only [tVal,  tVar, tCell, tBin, tCmp, tNot, tNeg, tAnd, tOr, tIfe, tTup, tLst, tLstL, tBlt, tCall, tM0, tM1, tNil, tCons, tSS, tSl, tNSL, tItem, tAttr, tStrike, tMeth, tExcAt, tItr, tRange, tComp, bCmp, bChain, tChain, bNot, bVal, bAnd, bOr, bPlain, bSplit, tEnd, tSeq, tRet, tRet0, tCont, tSet, tIf, tExpr, tWhile, tFor, tRaise, tSetB, tSet2, tSet3, tAppend, tTry, tUndbl, d_eq1, vars0, d_int, d_nat, d_str, d_one, d_two, d_addN, d_addS, d_itS, d_itT, d_itL, d_itK, d_itSM, d_itKM, d_nt, d_nf, d_t, d_f, opNeg, slM, d_text, d_places, d_textL, d_placesL, d_kind, d_worth, d_at, d_isin, opSub, opMod, opDiv, opPow, opMul, opCmp, cLt, cLe, cLes, cEq, cIn, cNin, sp, slSS, slSN, slNS, oLen, oOrd, oChr, oMin, oAbs, oUpper, oIsL, oIsT, truth, bName, bTup2, bTup3, List.getElem?_cons_zero, List.getElem?_cons_succ, List.map_cons, List.map_nil, List.set_cons_zero, List.set_cons_succ]
    exact ⟨_, rfl, hp, Nat.le_trans (cut_le _ _) hl, fun h => ⟨_, _, rfl, hp, fun h1 => back_ret (hQ.1 ⟨eqS_iff.mp h, h1⟩), fun h1 => back_ret (hQ.2 fun q => h1 q.2)⟩, fun h => back_ret (hQ.2 fun q => h (eqS_iff.mpr q.1))⟩
end Mine
namespace Mine
theorem cut2_one {l : List Nat} {i : Nat} (h : i < l.length) (h1 : l.length ≤ i + 1) : cut l i (i + 2) = [l.getD i 0] := by
  unfold cut; rw [drop_at h, List.drop_eq_nil_of_le h1, Nat.add_sub_cancel_left]; rfl
theorem cut2_two {l : List Nat} {i : Nat} (h : i + 1 < l.length) : cut l i (i + 2) = [l.getD i 0, l.getD (i + 1) 0] := by
  unfold cut; rw [drop_at (Nat.lt_of_succ_lt h), drop_at h, Nat.add_sub_cancel_left]; rfl
/-- what stands there needs no blank ahead of it -/
noncomputable abbrev Apart (l : List Nat) (i : Nat) : Prop := l.length ≤ i ∨ (¬ (upA (l.getD i 0) ∈ t_WORD_SIGNS ∧ l.getD i 0 ≠ 45) ∧ l.getD i 0 ∉ t_QUOTES ∧ ¬ (l.getD i 0 = 46 ∧ FigAt l (i + 1)))
theorem raised {σ : Led} {X : Exc → Led → Prop} {l m : List Nat} {ps : List V} {i : Nat} (hp : σ.pend = none) (hL : LineOk l ps) (hX : ∀ w, X (fault ps w i) σ) :
    ∃ l' ps' i' w, [lnV l ps, V.int (i : Int), V.str m] = [lnV l' ps', V.int (i' : Nat), V.str w] ∧ σ.pend = none ∧ LineOk l' ps' ∧ ∀ (e : Addr), ∃ x, some (e, fault ps' w i') = some (e, x) ∧ backX σ X x { ls := σ.ls } :=
  ⟨l, ps, i, m, rfl, hp, hL, fun e => ⟨_, rfl, backE hp (hX _)⟩⟩
theorem f_need_apart : Fn 207 4 (fun σ vs Q X => ∃ l ps i, vs = [lnV l ps, .int (i : Nat)] ∧ σ.pend = none ∧ LineOk l ps ∧ (Apart l i → Q .none σ) ∧ (¬ Apart l i → ∀ w, X (fault ps w i) σ)) := by
  refine' fn_intro (n := 7) (rm := 3) (T := _) (ps := [Str.ofString "line", Str.ofString "end"]) (fun P => by rfl) (fun P => by kernel_rfl) ?r1 ?r2 (hp_of (by rfl)) ?r4 ?r5 ?r6 (Nat.le_refl _) ?r7 (by rfl)
  case r6 =>
    refine' @exs_as _ _ _ _ _ ((cx_cons (cx_assign (cv_sliceSS (cv_attr (cv_var rfl rfl) 38 at_text (fun _ => rfl)) (cv_var rfl rfl) (cv_add (cv_var rfl rfl) (cv_nat 2)) (fun _ _ => rfl)) rfl rfl (fun _ => rfl)) (cx_cons (cx_if (cb_cmp (cv_var rfl rfl) (cv_str (l := []) (by decide) (by decide)) rfl) (cx_cons cx_ret0 cx_nil) cx_nil) (cx_cons (cx_if (cb_bool (cb_or (cb_bool (cb_and (cb_plain (cv_call f_is_word_sign (by decide) (g_is_word_sign rfl) (cs_cons (cv_item (cv_var rfl rfl) (cv_nat 0) (fun _ _ _ => rfl)) cs_nil (fun _ => se_Subscript)) (fun P => by kernel_rfl) (fun _ => rfl) (fun _ => rfl) (fun _ => rfl)) (fun _ => rfl)) (cb_and (cb_cmp (cv_item (cv_var rfl rfl) (cv_nat 0) (fun _ _ _ => rfl)) (cv_str (l := [45]) (by decide) (by decide)) rfl) cb_and_nil))) (cb_or (cb_cmp (cv_item (cv_var rfl rfl) (cv_nat 0) (fun _ _ _ => rfl)) (g_QUOTES rfl) rfl) cb_or_nil))) (cx_cons (cx_raise (cv_call f_line_fault (by decide) (g_line_fault rfl) (cs_cons (cv_var rfl rfl) (cs_cons (cv_var rfl rfl) (cs_cons (cv_str0 (by decide)) cs_nil (fun _ => se_Constant)) (fun _ => se_Name)) (fun _ => se_Name)) (fun P => by kernel_rfl) (fun _ => rfl) (fun _ => rfl) (fun _ => rfl)) (by decide)) cx_nil) cx_nil) (cx_cons (cx_if (cb_bool (cb_and (cb_cmp (cv_item (cv_var rfl rfl) (cv_nat 0) (fun _ _ _ => rfl)) (cv_str (l := [46]) (by decide) (by decide)) rfl) (cb_and (cb_cmp (cv_sliceSN (cv_var rfl rfl) (cv_nat 1) (fun _ _ => rfl)) (cv_str (l := []) (by decide) (by decide)) rfl) (cb_and (cb_cmp (cv_item (cv_var rfl rfl) (cv_nat 1) (fun _ _ _ => rfl)) (g_FIGURES rfl) rfl) cb_and_nil)))) (cx_cons (cx_raise (cv_call f_line_fault (by decide) (g_line_fault rfl) (cs_cons (cv_var rfl rfl) (cs_cons (cv_var rfl rfl) (cs_cons (cv_str0 (by decide)) cs_nil (fun _ => se_Constant)) (fun _ => se_Name)) (fun _ => se_Name)) (fun P => by kernel_rfl) (fun _ => rfl) (fun _ => rfl) (fun _ => rfl)) (by decide)) cx_nil) cx_nil) cx_nil))))) rfl
  case r1 => intro xs h; obtain ⟨a, b, rfl⟩ := len2 h; rfl
  case r2 => decide
  case r4 => decide
  case r5 => decide
  case r7 =>
    rintro σ _ Q X ⟨l, ps, i, rfl, hp, hL, hQ, hX⟩
    refine ⟨hp, rfl, ?_⟩
    dsimp only [tVal,  tVar, tCell, tBin, tCmp, tNot, tNeg, tAnd, tOr, tIfe, tTup, tLst, tLstL, tBlt, tCall, tM0, tM1, tNil, tCons, tSS, tSl, tNSL, tItem, tAttr, tStrike, tMeth, tExcAt, tItr, tRange, tComp, bCmp, bChain, tChain, bNot, bVal, bAnd, bOr, bPlain, bSplit, tEnd, tSeq, tRet, tRet0, tCont, tSet, tIf, tExpr, tWhile, tFor, tRaise, tSetB, tSet2, tSet3, tAppend, tTry, tUndbl, d_eq1, vars0, d_int, d_nat, d_str, d_one, d_two, d_addN, d_addS, d_itS, d_itT, d_itL, d_itK, d_itSM, d_itKM, d_nt, d_nf, d_t, d_f, opNeg, slM, d_text, d_places, d_textL, d_placesL, d_kind, d_worth, d_at, d_isin, opSub, opMod, opDiv, opPow, opMul, opCmp, cLt, cLe, cLes, cEq, cIn, cNin, sp, slSS, slSN, slNS, oLen, oOrd, oChr, oMin, oAbs, oUpper, oIsL, oIsT, truth, bName, bTup2, bTup3, List.getElem?_cons_zero, List.getElem?_cons_succ, List.map_cons, List.map_nil, List.set_cons_zero, List.set_cons_succ]
    by_cases h0 : l.length ≤ i
    · rw [cut_nil h0]
      exact ⟨fun _ => back_ret (hQ (.inl h0)), fun h => (h rfl).elim⟩
    have hb := fun (h : ¬ Apart l i) (m : List Nat) => raised (m := m) hp hL (hX h)
    have hn := fun (h : Apart l i) => back_next (σ := σ) (hQ h)
    by_cases h1 : l.length ≤ i + 1
    · rw [cut2_one (Nat.lt_of_not_le h0) h1]
      dsimp only [d_eq1, List.getD_cons_zero, List.getD_cons_succ, List.length_cons, List.length_nil, List.drop_succ_cons, List.drop_zero]
      have h46 : Apart l i ↔ ¬ (upA (l.getD i 0) ∈ t_WORD_SIGNS ∧ l.getD i 0 ≠ 45) ∧ l.getD i 0 ∉ t_QUOTES := ⟨fun h => h.elim (fun q => (h0 q).elim) fun q => ⟨q.1, q.2.1⟩, fun h => .inr ⟨h.1, h.2, fun q => Nat.not_le_of_lt q.2.1 h1⟩⟩
      refine ⟨fun h => (by cases h), fun _ => ⟨Nat.one_pos, _, rfl, hp, fun w => ⟨Nat.one_pos, fun k => ⟨Nat.one_pos, fun q => hb (fun z => (h46.mp z).2 q) _, fun q => ⟨Nat.one_pos, fun d => ⟨fun _ => ?_, fun z => (z rfl).elim⟩, fun d => ?_⟩⟩, fun k => hb (fun z => (h46.mp z).1 ⟨w, k⟩) _⟩,
        fun w => ⟨Nat.one_pos, fun q => hb (fun z => (h46.mp z).2 q) _, fun q => ⟨Nat.one_pos, fun d => ⟨fun _ => ?_, fun z => (z rfl).elim⟩, fun d => ?_⟩⟩⟩⟩
      · exact hn (h46.mpr ⟨fun z => z.2 k, q⟩)
      · exact hn (h46.mpr ⟨fun z => z.2 k, q⟩)
      · exact hn (h46.mpr ⟨fun z => w z.1, q⟩)
      · exact hn (h46.mpr ⟨fun z => w z.1, q⟩)
    · have h1' := Nat.lt_of_not_le h1
      rw [cut2_two h1']
      dsimp only [d_eq1, List.getD_cons_zero, List.getD_cons_succ, List.length_cons, List.length_nil, List.drop_succ_cons, List.drop_zero]
      have h46 : Apart l i ↔ ¬ (upA (l.getD i 0) ∈ t_WORD_SIGNS ∧ l.getD i 0 ≠ 45) ∧ l.getD i 0 ∉ t_QUOTES ∧ ¬ (l.getD i 0 = 46 ∧ l.getD (i + 1) 0 ∈ t_FIGURES) := ⟨fun h => h.elim (fun q => (h0 q).elim) fun q => ⟨q.1, q.2.1, fun z => q.2.2 ⟨z.1, h1', z.2⟩⟩, fun h => .inr ⟨h.1, h.2.1, fun q => h.2.2 ⟨q.1, q.2.2⟩⟩⟩
      have rest : ∀ (q : l.getD i 0 ∉ t_QUOTES) (w : ¬ (upA (l.getD i 0) ∈ t_WORD_SIGNS ∧ l.getD i 0 ≠ 45)) (m : List Nat), 0 < 1 + 1 ∧ (l.getD i 0 = 46 → (eqS [l.getD (i + 1) 0] [] → back σ Q Fl.next σ) ∧ (¬ eqS [l.getD (i + 1) 0] [] → 1 < 1 + 1 ∧ (l.getD (i + 1) 0 ∈ t_FIGURES →
          ∃ l' ps' i' w, [lnV l ps, V.int (i : Int), V.str m] = [lnV l' ps', V.int (i' : Nat), V.str w] ∧ σ.pend = none ∧ LineOk l' ps' ∧ ∀ (e : Addr), ∃ x, some (e, fault ps' w i') = some (e, x) ∧ backX σ X x { ls := σ.ls }) ∧ (¬ l.getD (i + 1) 0 ∈ t_FIGURES → back σ Q Fl.next σ))) ∧ (¬ l.getD i 0 = 46 → back σ Q Fl.next σ) :=
        fun q w m => ⟨Nat.two_pos, fun d => ⟨fun z => (by cases z), fun _ => ⟨Nat.one_lt_two, fun f => hb (fun z => (h46.mp z).2.2 ⟨d, f⟩) m, fun f => hn (h46.mpr ⟨w, q, fun z => f z.2⟩)⟩⟩, fun d => hn (h46.mpr ⟨w, q, fun z => d z.1⟩)⟩
      exact ⟨fun h => (by cases h), fun _ => ⟨Nat.two_pos, _, rfl, hp, fun w => ⟨Nat.two_pos, fun k => ⟨Nat.two_pos, fun q => hb (fun z => (h46.mp z).2.1 q) _, fun q => rest q (fun z => z.2 k) _⟩, fun k => hb (fun z => (h46.mp z).1 ⟨w, k⟩) _⟩,
        fun w => ⟨Nat.two_pos, fun q => hb (fun z => (h46.mp z).2.1 q) _, fun q => rest q (fun z => w z.1) _⟩⟩⟩
end Mine
namespace Mine
/-- where a picture's run ends -/
noncomputable def picRun (l : List Nat) (i : Nat) : Nat := i + ((l.drop i).takeWhile fun c => decide (c ∉ [32, 61])).length
theorem picRun_step {l : List Nat} {i : Nat} (h : i < l.length) (hs : l.getD i 0 ∉ [32, 61]) : picRun l i = picRun l (i + 1) := by
  unfold picRun; rw [drop_at h, List.takeWhile_cons_of_pos (by simpa using hs), List.length_cons]; omega
theorem picRun_stop {l : List Nat} {i : Nat} (h : i < l.length) (hs : l.getD i 0 ∈ [32, 61]) : picRun l i = i := by
  unfold picRun; rw [drop_at h, List.takeWhile_cons_of_neg (by rw [decide_eq_true_eq]; exact fun q => q hs)]; rfl
theorem picRun_end {l : List Nat} {i : Nat} (h : l.length ≤ i) : picRun l i = i := by
  unfold picRun; rw [List.drop_eq_nil_of_le h]; rfl
theorem picRun_ge {l : List Nat} {i : Nat} : i ≤ picRun l i := Nat.le_add_right _ _
theorem picRun_le {l : List Nat} {i : Nat} (h : i ≤ l.length) : picRun l i ≤ l.length := by
  unfold picRun; have := (List.takeWhile_prefix (p := fun c => decide (c ∉ [32, 61])) (l := l.drop i)).length_le; rw [List.length_drop] at this; omega
noncomputable def picEnd (l : List Nat) (i : Nat) : Nat := if i < picRun l i ∧ l.getD (picRun l i - 1) 0 ∈ t_ENDS then picRun l i - 1 else picRun l i
theorem f_picture_end : Fn 174 2 (fun σ vs Q X => ∃ l i, vs = [.str l, .int (i : Nat)] ∧ σ.pend = none ∧ i ≤ l.length ∧ Q (.int (picEnd l i : Nat)) σ) := by
  refine' fn_intro (n := 5) (rm := 1) (T := _) (ps := [Str.ofString "text", Str.ofString "at"]) (fun P => by rfl) (fun P => by kernel_rfl) ?r1 ?r2 (hp_of (by rfl)) ?r4 ?r5 ?r6 (Nat.le_refl _) ?r7 (by rfl)
  case r6 =>
    refine' @exs_as _ _ _ _ _ ((cx_cons (cx_assign (cv_var rfl rfl) rfl rfl (fun _ => rfl)) (cx_cons (cx_while (cb_bool (cb_and (cb_cmp (cv_var rfl rfl) (cv_callB (g_len rfl) (cs_cons (cv_var rfl rfl) cs_nil (fun _ => se_Name)) b_len (fun _ => rfl) (fun _ => rfl) (fun _ => rfl)) rfl) (cb_and (cb_cmp (cv_item (cv_var rfl rfl) (cv_var rfl rfl) (fun _ _ _ => rfl)) (cv_str (l := [32, 61]) (by decide) (by decide)) rfl) cb_and_nil))) (cx_cons (cx_assign (cv_add (cv_var rfl rfl) (cv_nat 1)) rfl rfl (fun _ => rfl)) cx_nil)) (cx_cons (cx_ret (cv_ife (cb_bool (cb_and (cb_cmp (cv_var rfl rfl) (cv_var rfl rfl) rfl) (cb_and (cb_cmp (cv_item (cv_var rfl rfl) (cv_sub (cv_var rfl rfl) (cv_nat 1)) (fun _ _ _ => rfl)) (g_ENDS rfl) rfl) cb_and_nil))) (cv_sub (cv_var rfl rfl) (cv_nat 1)) (cv_var rfl rfl))) cx_nil)))) rfl
  case r1 => intro xs h; obtain ⟨a, b, rfl⟩ := len2 h; rfl
  case r2 => decide
  case r4 => decide
  case r5 => decide
  case r7 =>
    rintro σ _ Q X ⟨l, i, rfl, hp, hi, hQ⟩
    refine ⟨hp, rfl, ?_⟩
    refine ⟨fun n st => ∃ j : Nat, st = ⟨[some (.str l), some (.int i), some (.int j), none, none], σ, []⟩ ∧ n = l.length - j ∧ i ≤ j ∧ j ≤ l.length ∧ picRun l j = picRun l i, _, ⟨i, rfl, rfl, Nat.le_refl _, hi, rfl⟩, ?_⟩
    rintro n _ ⟨j, rfl, rfl, hij, hjl, he⟩
    dsimp only [tVal,  tVar, tCell, tBin, tCmp, tNot, tNeg, tAnd, tOr, tIfe, tTup, tLst, tLstL, tBlt, tCall, tM0, tM1, tNil, tCons, tSS, tSl, tNSL, tItem, tAttr, tStrike, tMeth, tExcAt, tItr, tRange, tComp, bCmp, bChain, tChain, bNot, bVal, bAnd, bOr, bPlain, bSplit, tEnd, tSeq, tRet, tRet0, tCont, tSet, tIf, tExpr, tWhile, tFor, tRaise, tSetB, tSet2, tSet3, tAppend, tTry, tUndbl, d_eq1, vars0, d_int, d_nat, d_str, d_one, d_two, d_addN, d_addS, d_itS, d_itT, d_itL, d_itK, d_itSM, d_itKM, d_nt, d_nf, d_t, d_f, opNeg, slM, d_text, d_places, d_textL, d_placesL, d_kind, d_worth, d_at, d_isin, opSub, opMod, opDiv, opPow, opMul, opCmp, cLt, cLe, cLes, cEq, cIn, cNin, sp, slSS, slSN, slNS, oLen, oOrd, oChr, oMin, oAbs, oUpper, oIsL, oIsT, truth, bName, bTup2, bTup3, List.getElem?_cons_zero, List.getElem?_cons_succ, List.map_cons, List.map_nil, List.set_cons_zero, List.set_cons_succ]
    have fin : picRun l j = j → (i < j → 1 ≤ j ∧ j - 1 < l.length ∧ (l.getD (j - 1) 0 ∈ t_ENDS → 1 ≤ j ∧ back σ Q (Fl.ret (V.int ((j - 1 : Nat) : Int))) σ) ∧ (¬ l.getD (j - 1) 0 ∈ t_ENDS → back σ Q (Fl.ret (V.int (j : Int))) σ)) ∧ (¬ i < j → back σ Q (Fl.ret (V.int (j : Int))) σ) := fun q => by
      have hq : picRun l i = j := he.symm.trans q
      unfold picEnd at hQ
      rw [hq] at hQ
      refine ⟨fun h => ⟨by omega, by omega, fun h1 => ⟨by omega, back_ret ?_⟩, fun h1 => back_ret ?_⟩, fun h => back_ret ?_⟩
      · rwa [if_pos ⟨h, h1⟩] at hQ
      · rwa [if_neg fun z => h1 z.2] at hQ
      · rwa [if_neg fun z => h z.1] at hQ
    exact ⟨fun h => ⟨h, fun h1 => fin (picRun_stop h h1), fun h1 => ⟨_, by omega, j + 1, rfl, rfl, by omega, h, (picRun_step h h1).symm.trans he⟩⟩, fun h => fin (picRun_end (Nat.le_of_not_lt h))⟩
/-- a quoted text: its worth and how many signs it takes, with the closing quote -/
noncomputable def Lit (q : Nat) : List Nat → Option (List Nat × Nat)
  | [] => none
  | [c] => if c = q then some ([], 1) else none
  | c :: d :: r => if c = q then (if d = q then (Lit q r).map fun p => (q :: p.1, p.2 + 2) else some ([], 1)) else (Lit q (d :: r)).map fun p => (c :: p.1, p.2 + 1)
noncomputable def lit (l : List Nat) (q j : Nat) : Option (List Nat × Nat) := (Lit q (l.drop j)).map fun p => (p.1, p.2 + j)
theorem lit_none {l : List Nat} {q j : Nat} (h : l.length ≤ j) : lit l q j = none := by unfold lit; rw [List.drop_eq_nil_of_le h]; rfl
theorem lit_step {l : List Nat} {q j : Nat} (h : j < l.length) (hc : l.getD j 0 ≠ q) : lit l q j = (lit l q (j + 1)).map fun p => (l.getD j 0 :: p.1, p.2) := by
  unfold lit; rw [drop_at h]
  cases l.drop (j + 1) with
  | nil => show Option.map _ (if l.getD j 0 = q then _ else _) = _; rw [if_neg hc]; rfl
  | cons d r => rw [Lit, if_neg hc, Option.map_map, Option.map_map]; congr 1; funext p; exact congrArg (Prod.mk _) (by show p.2 + 1 + j = p.2 + (j + 1); omega)
theorem lit_dbl {l : List Nat} {q j : Nat} (h : l.getD j 0 = q) (h1 : j + 1 < l.length) (h2 : l.getD (j + 1) 0 = q) : lit l q j = (lit l q (j + 2)).map fun p => (q :: p.1, p.2) := by
  unfold lit; rw [drop_at (Nat.lt_of_succ_lt h1), drop_at h1, h, h2, Lit, if_pos rfl, if_pos rfl, Option.map_map, Option.map_map]
  congr 1; funext p; exact congrArg (Prod.mk _) (by show p.2 + 2 + j = p.2 + (j + 2); omega)
theorem lit_stop {l : List Nat} {q j : Nat} (h : j < l.length) (h0 : l.getD j 0 = q) (h1 : ¬ (j + 1 < l.length ∧ l.getD (j + 1) 0 = q)) : lit l q j = some ([], j + 1) := by
  unfold lit; rw [drop_at h, h0]
  by_cases h2 : j + 1 < l.length
  · rw [drop_at h2, Lit, if_pos rfl, if_neg fun e => h1 ⟨h2, e⟩]; exact congrArg some (congrArg (Prod.mk _) (Nat.add_comm 1 j))
  · rw [List.drop_eq_nil_of_le (Nat.le_of_not_lt h2)]; show Option.map _ (if q = q then _ else _) = _; rw [if_pos rfl]; exact congrArg some (congrArg (Prod.mk _) (Nat.add_comm 1 j))
theorem f_literal_end : Fn 167 3 (fun σ vs Q X => ∃ l ps i, vs = [lnV l ps, .int (i : Nat)] ∧ σ.pend = none ∧ LineOk l ps ∧ i < l.length ∧ (∀ p, lit l (l.getD i 0) (i + 1) = some p → Q (.int (p.2 : Nat)) σ) ∧ (lit l (l.getD i 0) (i + 1) = none → ∀ w, X (fault ps w i) σ)) := by
  refine' fn_intro (n := 6) (rm := 2) (T := _) (ps := [Str.ofString "line", Str.ofString "at"]) (fun P => by rfl) (fun P => by kernel_rfl) ?r1 ?r2 (hp_of (by rfl)) ?r4 ?r5 ?r6 (Nat.le_refl _) ?r7 (by rfl)
  case r6 =>
    refine' @exs_as _ _ _ _ _ ((cx_cons (cx_assign (cv_item (cv_attr (cv_var rfl rfl) 38 at_text (fun _ => rfl)) (cv_var rfl rfl) (fun _ _ _ => rfl)) rfl rfl (fun _ => rfl)) (cx_cons (cx_assign (cv_add (cv_var rfl rfl) (cv_nat 1)) rfl rfl (fun _ => rfl)) (cx_cons (cx_while (cb_cmp (cv_var rfl rfl) (cv_callB (g_len rfl) (cs_cons (cv_attr (cv_var rfl rfl) 38 at_text (fun _ => rfl)) cs_nil (fun _ => se_Attribute)) b_len (fun _ => rfl) (fun _ => rfl) (fun _ => rfl)) rfl) (cx_cons (cx_if (cb_cmp (cv_item (cv_attr (cv_var rfl rfl) 38 at_text (fun _ => rfl)) (cv_var rfl rfl) (fun _ _ _ => rfl)) (cv_var rfl rfl) rfl) (cx_cons (cx_assign (cv_add (cv_var rfl rfl) (cv_nat 1)) rfl rfl (fun _ => rfl)) cx_nil) (cx_cons (cx_if (cb_cmp (cv_sliceSS (cv_attr (cv_var rfl rfl) 38 at_text (fun _ => rfl)) (cv_add (cv_var rfl rfl) (cv_nat 1)) (cv_add (cv_var rfl rfl) (cv_nat 2)) (fun _ _ => rfl)) (cv_var rfl rfl) rfl) (cx_cons (cx_assign (cv_add (cv_var rfl rfl) (cv_nat 2)) rfl rfl (fun _ => rfl)) cx_nil) (cx_cons (cx_ret (cv_add (cv_var rfl rfl) (cv_nat 1))) cx_nil)) cx_nil)) cx_nil)) (cx_cons (cx_raise (cv_call f_line_fault (by decide) (g_line_fault rfl) (cs_cons (cv_var rfl rfl) (cs_cons (cv_var rfl rfl) (cs_cons (cv_str0 (by decide)) cs_nil (fun _ => se_Constant)) (fun _ => se_Name)) (fun _ => se_Name)) (fun P => by kernel_rfl) (fun _ => rfl) (fun _ => rfl) (fun _ => rfl)) (by decide)) cx_nil))))) rfl
  case r1 => intro xs h; obtain ⟨a, b, rfl⟩ := len2 h; rfl
  case r2 => decide
  case r4 => decide
  case r5 => decide
  case r7 =>
    rintro σ _ Q X ⟨l, ps, i, rfl, hp, hL, hi, hQ, hX⟩
    refine ⟨hp, rfl, ?_⟩
    dsimp only [tVal,  tVar, tCell, tBin, tCmp, tNot, tNeg, tAnd, tOr, tIfe, tTup, tLst, tLstL, tBlt, tCall, tM0, tM1, tNil, tCons, tSS, tSl, tNSL, tItem, tAttr, tStrike, tMeth, tExcAt, tItr, tRange, tComp, bCmp, bChain, tChain, bNot, bVal, bAnd, bOr, bPlain, bSplit, tEnd, tSeq, tRet, tRet0, tCont, tSet, tIf, tExpr, tWhile, tFor, tRaise, tSetB, tSet2, tSet3, tAppend, tTry, tUndbl, d_eq1, vars0, d_int, d_nat, d_str, d_one, d_two, d_addN, d_addS, d_itS, d_itT, d_itL, d_itK, d_itSM, d_itKM, d_nt, d_nf, d_t, d_f, opNeg, slM, d_text, d_places, d_textL, d_placesL, d_kind, d_worth, d_at, d_isin, opSub, opMod, opDiv, opPow, opMul, opCmp, cLt, cLe, cLes, cEq, cIn, cNin, sp, slSS, slSN, slNS, oLen, oOrd, oChr, oMin, oAbs, oUpper, oIsL, oIsT, truth, bName, bTup2, bTup3, List.getElem?_cons_zero, List.getElem?_cons_succ, List.map_cons, List.map_nil, List.set_cons_zero, List.set_cons_succ]
    refine ⟨hi, fun n st => ∃ j : Nat, st = ⟨[some (lnV l ps), some (.int i), some (.str [l.getD i 0]), some (.int j), none, none], σ, []⟩ ∧ n = l.length - j ∧ (lit l (l.getD i 0) j).map (·.2) = (lit l (l.getD i 0) (i + 1)).map (·.2), _, ⟨i + 1, rfl, rfl, rfl⟩, ?_⟩
    rintro n _ ⟨j, rfl, rfl, he⟩
    dsimp only [tVal,  tVar, tCell, tBin, tCmp, tNot, tNeg, tAnd, tOr, tIfe, tTup, tLst, tLstL, tBlt, tCall, tM0, tM1, tNil, tCons, tSS, tSl, tNSL, tItem, tAttr, tStrike, tMeth, tExcAt, tItr, tRange, tComp, bCmp, bChain, tChain, bNot, bVal, bAnd, bOr, bPlain, bSplit, tEnd, tSeq, tRet, tRet0, tCont, tSet, tIf, tExpr, tWhile, tFor, tRaise, tSetB, tSet2, tSet3, tAppend, tTry, tUndbl, d_eq1, vars0, d_int, d_nat, d_str, d_one, d_two, d_addN, d_addS, d_itS, d_itT, d_itL, d_itK, d_itSM, d_itKM, d_nt, d_nf, d_t, d_f, opNeg, slM, d_text, d_places, d_textL, d_placesL, d_kind, d_worth, d_at, d_isin, opSub, opMod, opDiv, opPow, opMul, opCmp, cLt, cLe, cLes, cEq, cIn, cNin, sp, slSS, slSN, slNS, oLen, oOrd, oChr, oMin, oAbs, oUpper, oIsL, oIsT, truth, bName, bTup2, bTup3, List.getElem?_cons_zero, List.getElem?_cons_succ, List.map_cons, List.map_nil, List.set_cons_zero, List.set_cons_succ]
    refine ⟨fun h => ⟨h, fun h1 => ⟨fun h2 => ⟨_, by omega, j + 2, rfl, rfl, ?_⟩, fun h2 => back_ret ?_⟩, fun h1 => ⟨_, by omega, j + 1, rfl, rfl, ?_⟩⟩, fun h => raised hp hL (hX ?_)⟩
    · obtain ⟨a, b⟩ := cut1_eq.mp h2
      rw [← he, lit_dbl h1 a b, Option.map_map]; rfl
    · rw [lit_stop h h1 fun q => h2 (cut1_eq.mpr q)] at he
      obtain ⟨p, hv, e⟩ := Option.map_eq_some_iff.mp he.symm
      have := hQ p hv
      rwa [e] at this
    · rw [← he, lit_step h h1, Option.map_map]; rfl
    · rw [lit_none (Nat.le_of_not_lt h)] at he
      exact Option.map_eq_none_iff.mp he.symm
end Mine
namespace Mine
theorem cut_len {l : List Nat} {i e : Nat} (h : e ≤ l.length) : (cut l i e).length = e - i := by
  unfold cut; rw [List.length_take, List.length_drop]; omega
/-- where a word is at fault -/
noncomputable def ckWord (m : List Nat) (i e : Nat) : Option Nat :=
  if m.filter (fun c => decide (c ∈ t_LETTERS)) = [] then some i
  else if m.getD (m.length - 1) 0 = 45 then some (e - 1)
  else if 30 < m.length then some (i + 30) else none
noncomputable def letV (s : List Nat) : V → Option V
  | .str [c] => if c ∈ s then some (.str [c]) else none
  | _ => none
theorem letV_map {s l : List Nat} : (l.map fun c => V.str [c]).filterMap (letV s) = (l.filter fun c => decide (c ∈ s)).map fun c => V.str [c] := by
  induction l with
  | nil => rfl
  | cons a l ih =>
    rw [List.map_cons, List.filterMap_cons, ih, List.filter_cons]
    by_cases h : a ∈ s <;> simp [letV, h]
theorem isDs_chars {l : List Nat} : isDs (l.map fun c => V.str [c]) = true := by induction l with | nil => rfl | cons a l ih => rw [List.map_cons, isDs, ih]; rfl
theorem eq_nil {σ : Led} {l : List Nat} {Q : Bool → Prop} (h : sp (l = []) Q) : cEqD σ (.list (l.map fun c => V.str [c])) (.list []) Q := by
  refine ⟨by show isD (.list _) = true; rw [isD]; exact isDs_chars, by rfl, (show 1 ≤ 8 by decide), ?_⟩
  cases l with
  | nil => exact ⟨fun _ => h.1 rfl, fun q => (q rfl).elim⟩
  | cons a l => exact ⟨fun q => (by cases q), fun _ => h.2 nofun⟩
theorem f_checked_word : Fn 179 3 (fun σ vs Q X => ∃ l ps i e, vs = [lnV l ps, .int (i : Nat), .int (e : Nat)] ∧ σ.pend = none ∧ LineOk l ps ∧ i < e ∧ e ≤ l.length ∧ (ckWord ((cut l i e).map upA) i e = none → Q (.str ((cut l i e).map upA)) σ) ∧ (∀ j, ckWord ((cut l i e).map upA) i e = some j → ∀ w, X (fault ps w j) σ)) := by
  refine' fn_intro (n := 8) (rm := 2) (T := _) (ps := [Str.ofString "line", Str.ofString "at", Str.ofString "end"]) (fun P => by rfl) (fun P => by kernel_rfl) ?r1 ?r2 (hp_of (by rfl)) ?r4 ?r5 ?r6 (Nat.le_refl _) ?r7 (by rfl)
  case r6 =>
    refine' @exs_as _ _ _ _ _ ((cx_cons (cx_assign (cv_call f_capitals (by decide) (g_capitals rfl) (cs_cons (cv_sliceSS (cv_attr (cv_var rfl rfl) 38 at_text (fun _ => rfl)) (cv_var rfl rfl) (cv_var rfl rfl) (fun _ _ => rfl)) cs_nil (fun _ => se_Subscript)) (fun P => by kernel_rfl) (fun _ => rfl) (fun _ => rfl) (fun _ => rfl)) rfl rfl (fun _ => rfl)) (cx_cons (cx_if (cb_cmp (cv_comp (nv := 3) (by decide) (ci_ev (cv_var rfl rfl) (by decide)) (bnd_name rfl rfl) (cc_one (cb_cmp (cv_var rfl rfl) (g_LETTERS rfl) rfl)) (cv_var rfl rfl) (by decide) (by decide) rfl (fun _ _ => rfl)) (cv_list cs_nil) rfl) (cx_cons (cx_raise (cv_call f_line_fault (by decide) (g_line_fault rfl) (cs_cons (cv_var rfl rfl) (cs_cons (cv_var rfl rfl) (cs_cons (cv_str0 (by decide)) cs_nil (fun _ => se_Constant)) (fun _ => se_Name)) (fun _ => se_Name)) (fun P => by kernel_rfl) (fun _ => rfl) (fun _ => rfl) (fun _ => rfl)) (by decide)) cx_nil) cx_nil) (cx_cons (cx_if (cb_cmp (cv_item (cv_var rfl rfl) (cv_neg (cv_nat 1)) (fun _ _ _ => rfl)) (cv_str (l := [45]) (by decide) (by decide)) rfl) (cx_cons (cx_raise (cv_call f_line_fault (by decide) (g_line_fault rfl) (cs_cons (cv_var rfl rfl) (cs_cons (cv_sub (cv_var rfl rfl) (cv_nat 1)) (cs_cons (cv_str0 (by decide)) cs_nil (fun _ => se_Constant)) (fun _ => se_BinOp)) (fun _ => se_Name)) (fun P => by kernel_rfl) (fun _ => rfl) (fun _ => rfl) (fun _ => rfl)) (by decide)) cx_nil) cx_nil) (cx_cons (cx_if (cb_cmp (cv_callB (g_len rfl) (cs_cons (cv_var rfl rfl) cs_nil (fun _ => se_Name)) b_len (fun _ => rfl) (fun _ => rfl) (fun _ => rfl)) (g_MOST_WORD rfl) rfl) (cx_cons (cx_raise (cv_call f_line_fault (by decide) (g_line_fault rfl) (cs_cons (cv_var rfl rfl) (cs_cons (cv_add (cv_var rfl rfl) (g_MOST_WORD rfl)) (cs_cons (cv_str0 (by decide)) cs_nil (fun _ => se_Constant)) (fun _ => se_BinOp)) (fun _ => se_Name)) (fun P => by kernel_rfl) (fun _ => rfl) (fun _ => rfl) (fun _ => rfl)) (by decide)) cx_nil) cx_nil) (cx_cons (cx_ret (cv_var rfl rfl)) cx_nil)))))) rfl
  case r1 => intro xs h; obtain ⟨a, b, c, rfl⟩ := len3 h; rfl
  case r2 => decide
  case r4 => decide
  case r5 => decide
  case r7 =>
    rintro σ _ Q X ⟨l, ps, i, e, rfl, hp, hL, hi, he, hQ, hX⟩
    refine ⟨hp, rfl, ?_⟩
    dsimp only [tVal,  tVar, tCell, tBin, tCmp, tNot, tNeg, tAnd, tOr, tIfe, tTup, tLst, tLstL, tBlt, tCall, tM0, tM1, tNil, tCons, tSS, tSl, tNSL, tItem, tAttr, tStrike, tMeth, tExcAt, tItr, tRange, tComp, bCmp, bChain, tChain, bNot, bVal, bAnd, bOr, bPlain, bSplit, tEnd, tSeq, tRet, tRet0, tCont, tSet, tIf, tExpr, tWhile, tFor, tRaise, tSetB, tSet2, tSet3, tAppend, tTry, tUndbl, d_eq1, vars0, d_int, d_nat, d_str, d_one, d_two, d_addN, d_addS, d_itS, d_itT, d_itL, d_itK, d_itSM, d_itKM, d_nt, d_nf, d_t, d_f, opNeg, slM, d_text, d_places, d_textL, d_placesL, d_kind, d_worth, d_at, d_isin, opSub, opMod, opDiv, opPow, opMul, opCmp, cLt, cLe, cLes, cEq, cIn, cNin, sp, slSS, slSN, slNS, oLen, oOrd, oChr, oMin, oAbs, oUpper, oIsL, oIsT, truth, bName, bTup2, bTup3, List.getElem?_cons_zero, List.getElem?_cons_succ, List.map_cons, List.map_nil, List.set_cons_zero, List.set_cons_succ]
    have hn : ((cut l i e).map upA).length = e - i := by rw [List.length_map, cut_len he]
    refine ⟨_, rfl, hp, Nat.le_trans (cut_le _ _) hL.le, by rfl, hp, rfl, ?_, nls_chars, letV t_LETTERS, ?_, (show 0 < 1000 by decide), ?_⟩
    · rw [List.length_map, hn]; have := hL.le; unfold big at this; omega
    · intro v hv
      obtain ⟨c, _, rfl⟩ := List.mem_map.mp hv
      exact ⟨fun h => ⟨rfl, if_pos h⟩, fun h => if_neg h⟩
    generalize (cut l i e).map upA = m at *
    unfold ckWord at hQ hX
    rw [letV_map]
    refine eq_nil ⟨fun h => raised hp hL (hX i (if_pos h)), fun h => ⟨by omega, fun h1 => ⟨by omega, raised hp hL (hX (e - 1) ?_)⟩, fun h1 => ⟨fun h2 => raised hp hL (hX (i + 30) ?_), fun h2 => back_ret (hQ ?_)⟩⟩⟩
    · rw [if_neg h, if_pos h1]
    · rw [if_neg h, if_neg h1, if_pos h2]
    · rw [if_neg h, if_neg h1, if_neg h2]
noncomputable abbrev ckNum (l : List Nat) (i e : Nat) : Prop := ((cut l i e).filter (· != 46)).length ≤ 18
theorem f_checked_number : Fn 186 3 (fun σ vs Q X => ∃ l ps i e, vs = [lnV l ps, .int (i : Nat), .int (e : Nat)] ∧ σ.pend = none ∧ LineOk l ps ∧ (ckNum l i e → Q (.str (cut l i e)) σ) ∧ (¬ ckNum l i e → ∀ w, X (fault ps w i) σ)) := by
  refine' fn_intro (n := 7) (rm := 2) (T := _) (ps := [Str.ofString "line", Str.ofString "at", Str.ofString "end"]) (fun P => by rfl) (fun P => by kernel_rfl) ?r1 ?r2 (hp_of (by rfl)) ?r4 ?r5 ?r6 (Nat.le_refl _) ?r7 (by rfl)
  case r6 =>
    refine' @exs_as _ _ _ _ _ ((cx_cons (cx_assign (cv_sliceSS (cv_attr (cv_var rfl rfl) 38 at_text (fun _ => rfl)) (cv_var rfl rfl) (cv_var rfl rfl) (fun _ _ => rfl)) rfl rfl (fun _ => rfl)) (cx_cons (cx_if (cb_cmp (cv_callB (g_len rfl) (cs_cons (cv_strike (ch := 46) (cv_var rfl rfl) rfl rfl (fun _ => rfl)) cs_nil (fun _ => se_Call)) b_len (fun _ => rfl) (fun _ => rfl) (fun _ => rfl)) (g_MOST_FIGURES rfl) rfl) (cx_cons (cx_raise (cv_call f_line_fault (by decide) (g_line_fault rfl) (cs_cons (cv_var rfl rfl) (cs_cons (cv_var rfl rfl) (cs_cons (cv_str0 (by decide)) cs_nil (fun _ => se_Constant)) (fun _ => se_Name)) (fun _ => se_Name)) (fun P => by kernel_rfl) (fun _ => rfl) (fun _ => rfl) (fun _ => rfl)) (by decide)) cx_nil) cx_nil) (cx_cons (cx_ret (cv_var rfl rfl)) cx_nil)))) rfl
  case r1 => intro xs h; obtain ⟨a, b, c, rfl⟩ := len3 h; rfl
  case r2 => decide
  case r4 => decide
  case r5 => decide
  case r7 =>
    rintro σ _ Q X ⟨l, ps, i, e, rfl, hp, hL, hQ, hX⟩
    refine ⟨hp, rfl, ?_⟩
    dsimp only [tVal,  tVar, tCell, tBin, tCmp, tNot, tNeg, tAnd, tOr, tIfe, tTup, tLst, tLstL, tBlt, tCall, tM0, tM1, tNil, tCons, tSS, tSl, tNSL, tItem, tAttr, tStrike, tMeth, tExcAt, tItr, tRange, tComp, bCmp, bChain, tChain, bNot, bVal, bAnd, bOr, bPlain, bSplit, tEnd, tSeq, tRet, tRet0, tCont, tSet, tIf, tExpr, tWhile, tFor, tRaise, tSetB, tSet2, tSet3, tAppend, tTry, tUndbl, d_eq1, vars0, d_int, d_nat, d_str, d_one, d_two, d_addN, d_addS, d_itS, d_itT, d_itL, d_itK, d_itSM, d_itKM, d_nt, d_nf, d_t, d_f, opNeg, slM, d_text, d_places, d_textL, d_placesL, d_kind, d_worth, d_at, d_isin, opSub, opMod, opDiv, opPow, opMul, opCmp, cLt, cLe, cLes, cEq, cIn, cNin, sp, slSS, slSN, slNS, oLen, oOrd, oChr, oMin, oAbs, oUpper, oIsL, oIsT, truth, bName, bTup2, bTup3, List.getElem?_cons_zero, List.getElem?_cons_succ, List.map_cons, List.map_nil, List.set_cons_zero, List.set_cons_succ]
    exact ⟨fun h => raised hp hL (hX (Nat.not_le_of_lt h)), fun h => back_ret (hQ (Nat.le_of_not_lt h))⟩
noncomputable abbrev litW (l : List Nat) (i e : Nat) : List Nat := undbl (l.getD i 0) (cut l (i + 1) (e - 1))
theorem f_checked_literal : Fn 193 3 (fun σ vs Q X => ∃ l ps i e, vs = [lnV l ps, .int (i : Nat), .int (e : Nat)] ∧ σ.pend = none ∧ LineOk l ps ∧ i < l.length ∧ 1 ≤ e ∧ (1 ≤ (litW l i e).length ∧ (litW l i e).length ≤ 160 → Q (.str (litW l i e)) σ) ∧ (¬ (1 ≤ (litW l i e).length ∧ (litW l i e).length ≤ 160) → ∀ w, X (fault ps w i) σ)) := by
  refine' fn_intro (n := 8) (rm := 2) (T := _) (ps := [Str.ofString "line", Str.ofString "at", Str.ofString "end"]) (fun P => by rfl) (fun P => by kernel_rfl) ?r1 ?r2 (hp_of (by rfl)) ?r4 ?r5 ?r6 (Nat.le_refl _) ?r7 (by rfl)
  case r6 =>
    refine' @exs_as _ _ _ _ _ ((cx_undbl (cv_attr (cv_var rfl rfl) 38 at_text (fun _ => rfl)) (cv_var rfl rfl) (cv_sliceSS (cv_attr (cv_var rfl rfl) 38 at_text (fun _ => rfl)) (cv_add (cv_var rfl rfl) (cv_nat 1)) (cv_sub (cv_var rfl rfl) (cv_nat 1)) (fun _ _ => rfl)) (cx_cons (cx_if (cb_not (cb_chain2 (cv_nat 1) (cv_callB (g_len rfl) (cs_cons (cv_var rfl rfl) cs_nil (fun _ => se_Name)) b_len (fun _ => rfl) (fun _ => rfl) (fun _ => rfl)) (g_MOST_LITERAL rfl) rfl)) (cx_cons (cx_raise (cv_call f_line_fault (by decide) (g_line_fault rfl) (cs_cons (cv_var rfl rfl) (cs_cons (cv_var rfl rfl) (cs_cons (cv_str0 (by decide)) cs_nil (fun _ => se_Constant)) (fun _ => se_Name)) (fun _ => se_Name)) (fun P => by kernel_rfl) (fun _ => rfl) (fun _ => rfl) (fun _ => rfl)) (by decide)) cx_nil) cx_nil) (cx_cons (cx_ret (cv_var rfl rfl)) cx_nil)) rfl rfl rfl rfl (by decide) (fun _ _ _ => rfl) (fun _ => rfl) (fun _ => rfl) (fun _ => rfl))) rfl
  case r1 => intro xs h; obtain ⟨a, b, c, rfl⟩ := len3 h; rfl
  case r2 => decide
  case r4 => decide
  case r5 => decide
  case r7 =>
    rintro σ _ Q X ⟨l, ps, i, e, rfl, hp, hL, hi, he, hQ, hX⟩
    refine ⟨hp, rfl, ?_⟩
    dsimp only [tVal,  tVar, tCell, tBin, tCmp, tNot, tNeg, tAnd, tOr, tIfe, tTup, tLst, tLstL, tBlt, tCall, tM0, tM1, tNil, tCons, tSS, tSl, tNSL, tItem, tAttr, tStrike, tMeth, tExcAt, tItr, tRange, tComp, bCmp, bChain, tChain, bNot, bVal, bAnd, bOr, bPlain, bSplit, tEnd, tSeq, tRet, tRet0, tCont, tSet, tIf, tExpr, tWhile, tFor, tRaise, tSetB, tSet2, tSet3, tAppend, tTry, tUndbl, d_eq1, vars0, d_int, d_nat, d_str, d_one, d_two, d_addN, d_addS, d_itS, d_itT, d_itL, d_itK, d_itSM, d_itKM, d_nt, d_nf, d_t, d_f, opNeg, slM, d_text, d_places, d_textL, d_placesL, d_kind, d_worth, d_at, d_isin, opSub, opMod, opDiv, opPow, opMul, opCmp, cLt, cLe, cLes, cEq, cIn, cNin, sp, slSS, slSN, slNS, oLen, oOrd, oChr, oMin, oAbs, oUpper, oIsL, oIsT, truth, bName, bTup2, bTup3, List.getElem?_cons_zero, List.getElem?_cons_succ, List.map_cons, List.map_nil, List.set_cons_zero, List.set_cons_succ]
    rw [seqIndex?_nat i hi]
    exact ⟨Nat.lt_trans hL.lt (by decide), fun tq => ⟨he, rfl, fun h => ⟨fun h1 => back_ret (hQ ⟨h, h1⟩), fun h1 => raised hp hL (hX fun q => h1 q.2)⟩, fun h => raised hp hL (hX fun q => h q.1)⟩⟩
theorem f_checked_picture : Fn 200 3 (fun σ vs Q X => ∃ l ps i, vs = [lnV l ps, .int (i : Nat)] ∧ σ.pend = none ∧ LineOk l ps ∧ i < l.length ∧ (picEnd l i ≠ i → Q (.tup [.str ((cut l i (picEnd l i)).map upA), .int (picEnd l i : Nat)]) σ) ∧ (picEnd l i = i → ∀ w, X (fault ps w i) σ)) := by
  refine' fn_intro (n := 6) (rm := 2) (T := _) (ps := [Str.ofString "line", Str.ofString "at"]) (fun P => by rfl) (fun P => by kernel_rfl) ?r1 ?r2 (hp_of (by rfl)) ?r4 ?r5 ?r6 (Nat.le_refl _) ?r7 (by rfl)
  case r6 =>
    refine' @exs_as _ _ _ _ _ ((cx_cons (cx_assign (cv_call f_picture_end (by decide) (g_picture_end rfl) (cs_cons (cv_attr (cv_var rfl rfl) 38 at_text (fun _ => rfl)) (cs_cons (cv_var rfl rfl) cs_nil (fun _ => se_Name)) (fun _ => se_Attribute)) (fun P => by kernel_rfl) (fun _ => rfl) (fun _ => rfl) (fun _ => rfl)) rfl rfl (fun _ => rfl)) (cx_cons (cx_if (cb_cmp (cv_var rfl rfl) (cv_var rfl rfl) rfl) (cx_cons (cx_raise (cv_call f_line_fault (by decide) (g_line_fault rfl) (cs_cons (cv_var rfl rfl) (cs_cons (cv_var rfl rfl) (cs_cons (cv_str0 (by decide)) cs_nil (fun _ => se_Constant)) (fun _ => se_Name)) (fun _ => se_Name)) (fun P => by kernel_rfl) (fun _ => rfl) (fun _ => rfl) (fun _ => rfl)) (by decide)) cx_nil) cx_nil) (cx_cons (cx_ret (cv_tuple (cs_cons (cv_call f_capitals (by decide) (g_capitals rfl) (cs_cons (cv_sliceSS (cv_attr (cv_var rfl rfl) 38 at_text (fun _ => rfl)) (cv_var rfl rfl) (cv_var rfl rfl) (fun _ _ => rfl)) cs_nil (fun _ => se_Subscript)) (fun P => by kernel_rfl) (fun _ => rfl) (fun _ => rfl) (fun _ => rfl)) (cs_cons (cv_var rfl rfl) cs_nil (fun _ => se_Name)) (fun _ => se_Call)))) cx_nil)))) rfl
  case r1 => intro xs h; obtain ⟨a, b, rfl⟩ := len2 h; rfl
  case r2 => decide
  case r4 => decide
  case r5 => decide
  case r7 =>
    rintro σ _ Q X ⟨l, ps, i, rfl, hp, hL, hi, hQ, hX⟩
    refine ⟨hp, rfl, ?_⟩
    dsimp only [tVal,  tVar, tCell, tBin, tCmp, tNot, tNeg, tAnd, tOr, tIfe, tTup, tLst, tLstL, tBlt, tCall, tM0, tM1, tNil, tCons, tSS, tSl, tNSL, tItem, tAttr, tStrike, tMeth, tExcAt, tItr, tRange, tComp, bCmp, bChain, tChain, bNot, bVal, bAnd, bOr, bPlain, bSplit, tEnd, tSeq, tRet, tRet0, tCont, tSet, tIf, tExpr, tWhile, tFor, tRaise, tSetB, tSet2, tSet3, tAppend, tTry, tUndbl, d_eq1, vars0, d_int, d_nat, d_str, d_one, d_two, d_addN, d_addS, d_itS, d_itT, d_itL, d_itK, d_itSM, d_itKM, d_nt, d_nf, d_t, d_f, opNeg, slM, d_text, d_places, d_textL, d_placesL, d_kind, d_worth, d_at, d_isin, opSub, opMod, opDiv, opPow, opMul, opCmp, cLt, cLe, cLes, cEq, cIn, cNin, sp, slSS, slSN, slNS, oLen, oOrd, oChr, oMin, oAbs, oUpper, oIsL, oIsT, truth, bName, bTup2, bTup3, List.getElem?_cons_zero, List.getElem?_cons_succ, List.map_cons, List.map_nil, List.set_cons_zero, List.set_cons_succ]
    exact ⟨_, _, rfl, hp, Nat.le_of_lt hi, fun h => raised hp hL (hX h), fun h => ⟨_, rfl, hp, Nat.le_trans (cut_le _ _) hL.le, (show 2 < 1000 by decide), back_ret (hQ h)⟩⟩
end Mine
namespace Mine
noncomputable abbrev Out := Nat ⊕ (List Nat × List Nat × Nat)
noncomputable abbrev kWord : List Nat := [119, 111, 114, 100]
noncomputable abbrev kNumber : List Nat := [110, 117, 109, 98, 101, 114]
noncomputable abbrev kLiteral : List Nat := [108, 105, 116, 101, 114, 97, 108]
noncomputable abbrev kSign : List Nat := [115, 105, 103, 110]
noncomputable abbrev kPseudo : List Nat := [112, 115, 101, 117, 100, 111]
noncomputable abbrev kPicture : List Nat := [112, 105, 99, 116, 117, 114, 101]
noncomputable abbrev doubles : List (List Nat) := [[42, 42], [60, 61], [62, 61]]
noncomputable def mark (l : List Nat) (i : Nat) : Option (List Nat × List Nat) :=
  if cut l i (i + 2) = [61, 61] then some (kPseudo, cut l i (i + 2))
  else if cut l i (i + 2) ∈ doubles then some (kSign, cut l i (i + 2))
  else if l.getD i 0 ∈ t_SINGLE_SIGNS ∨ (l.getD i 0 = 46 ∧ Parted l (i + 1)) then some (kSign, [l.getD i 0]) else none
theorem f_mark_at : Fn 214 3 (fun σ vs Q X => ∃ l ps i, vs = [lnV l ps, .int (i : Nat)] ∧ σ.pend = none ∧ LineOk l ps ∧ i < l.length ∧ (∀ p, mark l i = some p → Q (.tup [.str p.1, .str p.2]) σ) ∧ (mark l i = none → ∀ w, X (fault ps w i) σ)) := by
  refine' fn_intro (n := 8) (rm := 2) (T := _) (ps := [Str.ofString "line", Str.ofString "at"]) (fun P => by rfl) (fun P => by kernel_rfl) ?r1 ?r2 (hp_of (by rfl)) ?r4 ?r5 ?r6 (Nat.le_refl _) ?r7 (by rfl)
  case r6 =>
    refine' @exs_as _ _ _ _ _ ((cx_cons (cx_assign (cv_sliceSS (cv_attr (cv_var rfl rfl) 38 at_text (fun _ => rfl)) (cv_var rfl rfl) (cv_add (cv_var rfl rfl) (cv_nat 2)) (fun _ _ => rfl)) rfl rfl (fun _ => rfl)) (cx_cons (cx_if (cb_cmp (cv_var rfl rfl) (cv_str (l := [61, 61]) (by decide) (by decide)) rfl) (cx_cons (cx_ret (cv_tuple (cs_cons (cv_str (l := [112, 115, 101, 117, 100, 111]) (by decide) (by decide)) (cs_cons (cv_var rfl rfl) cs_nil (fun _ => se_Name)) (fun _ => se_Constant)))) cx_nil) cx_nil) (cx_cons (cx_if (cb_inSplit (parts := doubles) (cv_var rfl rfl) (g_DOUBLE_SIGNS rfl) (by decide) (by decide +kernel) (by decide) (by decide +kernel) (by decide) (fun _ => rfl) rfl) (cx_cons (cx_ret (cv_tuple (cs_cons (cv_str (l := [115, 105, 103, 110]) (by decide) (by decide)) (cs_cons (cv_var rfl rfl) cs_nil (fun _ => se_Name)) (fun _ => se_Constant)))) cx_nil) cx_nil) (cx_cons (cx_assign (cv_item (cv_attr (cv_var rfl rfl) 38 at_text (fun _ => rfl)) (cv_var rfl rfl) (fun _ _ _ => rfl)) rfl rfl (fun _ => rfl)) (cx_cons (cx_if (cb_bool (cb_or (cb_cmp (cv_var rfl rfl) (g_SINGLE_SIGNS rfl) rfl) (cb_or (cb_bool (cb_and (cb_cmp (cv_var rfl rfl) (cv_str (l := [46]) (by decide) (by decide)) rfl) (cb_and (cb_plain (cv_call f_is_parted (by decide) (g_is_parted rfl) (cs_cons (cv_attr (cv_var rfl rfl) 38 at_text (fun _ => rfl)) (cs_cons (cv_add (cv_var rfl rfl) (cv_nat 1)) cs_nil (fun _ => se_BinOp)) (fun _ => se_Attribute)) (fun P => by kernel_rfl) (fun _ => rfl) (fun _ => rfl) (fun _ => rfl)) (fun _ => rfl)) cb_and_nil))) cb_or_nil))) (cx_cons (cx_ret (cv_tuple (cs_cons (cv_str (l := [115, 105, 103, 110]) (by decide) (by decide)) (cs_cons (cv_var rfl rfl) cs_nil (fun _ => se_Name)) (fun _ => se_Constant)))) cx_nil) cx_nil) (cx_cons (cx_raise (cv_call f_line_fault (by decide) (g_line_fault rfl) (cs_cons (cv_var rfl rfl) (cs_cons (cv_var rfl rfl) (cs_cons (cv_str0 (by decide)) cs_nil (fun _ => se_Constant)) (fun _ => se_Name)) (fun _ => se_Name)) (fun P => by kernel_rfl) (fun _ => rfl) (fun _ => rfl) (fun _ => rfl)) (by decide)) cx_nil))))))) rfl
  case r1 => intro xs h; obtain ⟨a, b, rfl⟩ := len2 h; rfl
  case r2 => decide
  case r4 => decide
  case r5 => decide
  case r7 =>
    rintro σ _ Q X ⟨l, ps, i, rfl, hp, hL, hi, hQ, hX⟩
    refine ⟨hp, rfl, ?_⟩
    dsimp only [tVal,  tVar, tCell, tBin, tCmp, tNot, tNeg, tAnd, tOr, tIfe, tTup, tLst, tLstL, tBlt, tCall, tM0, tM1, tNil, tCons, tSS, tSl, tNSL, tItem, tAttr, tStrike, tMeth, tExcAt, tItr, tRange, tComp, bCmp, bChain, tChain, bNot, bVal, bAnd, bOr, bPlain, bSplit, tEnd, tSeq, tRet, tRet0, tCont, tSet, tIf, tExpr, tWhile, tFor, tRaise, tSetB, tSet2, tSet3, tAppend, tTry, tUndbl, d_eq1, vars0, d_int, d_nat, d_str, d_one, d_two, d_addN, d_addS, d_itS, d_itT, d_itL, d_itK, d_itSM, d_itKM, d_nt, d_nf, d_t, d_f, opNeg, slM, d_text, d_places, d_textL, d_placesL, d_kind, d_worth, d_at, d_isin, opSub, opMod, opDiv, opPow, opMul, opCmp, cLt, cLe, cLes, cEq, cIn, cNin, sp, slSS, slSN, slNS, oLen, oOrd, oChr, oMin, oAbs, oUpper, oIsL, oIsT, truth, bName, bTup2, bTup3, List.getElem?_cons_zero, List.getElem?_cons_succ, List.map_cons, List.map_nil, List.set_cons_zero, List.set_cons_succ]
    unfold mark at hQ hX
    refine ⟨fun h => ⟨(show 2 < 1000 by decide), back_ret (hQ (kPseudo, cut l i (i + 2)) (if_pos (eqS_iff.mp h)))⟩, fun h => ?_⟩
    have h : ¬ cut l i (i + 2) = [61, 61] := fun z => h (eqS_iff.mpr z)
    rw [if_neg h] at hX
    have hQ : ∀ p, _ → _ := fun p z => hQ p ((if_neg h).trans z)
    by_cases h1 : cut l i (i + 2) ∈ doubles
    · rw [decide_eq_true h1]
      exact ⟨(show 2 < 1000 by decide), back_ret (hQ (kSign, cut l i (i + 2)) (if_pos h1))⟩
    rw [decide_eq_false h1]
    rw [if_neg h1] at hX
    have hQ : ∀ p, _ → _ := fun p z => hQ p ((if_neg h1).trans z)
    exact ⟨hi, fun h2 => ⟨(show 2 < 1000 by decide), back_ret (hQ (kSign, [l.getD i 0]) (if_pos (.inl h2)))⟩, fun h2 => ⟨fun h3 => ⟨_, _, rfl, hp, fun h4 => ⟨(show 2 < 1000 by decide), back_ret (hQ (kSign, [l.getD i 0]) (if_pos (.inr ⟨h3, h4⟩)))⟩,
      fun h4 => raised hp hL (hX (if_neg fun z => z.elim h2 fun z => h4 z.2))⟩, fun h3 => raised hp hL (hX (if_neg fun z => z.elim h2 fun z => h3 z.1))⟩⟩
theorem cut_alnum {k : Nat} : ∀ Q X st, (∃ c, st.vars[k]? = some (some (V.str [c])) ∧ sp (c ∈ t_LETTERS ∨ c ∈ t_FIGURES) (fun b => Q b st)) →
    bOr (bCmp (tVar k) (tVal (.str t_LETTERS)) .In) (bOr (bCmp (tVar k) (tVal (.str t_FIGURES)) .In) (bVal false)) Q X st := by
  rintro Q X st ⟨c, h, t⟩
  dsimp only [tVal,  tVar, tCell, tBin, tCmp, tNot, tNeg, tAnd, tOr, tIfe, tTup, tLst, tLstL, tBlt, tCall, tM0, tM1, tNil, tCons, tSS, tSl, tNSL, tItem, tAttr, tStrike, tMeth, tExcAt, tItr, tRange, tComp, bCmp, bChain, tChain, bNot, bVal, bAnd, bOr, bPlain, bSplit, tEnd, tSeq, tRet, tRet0, tCont, tSet, tIf, tExpr, tWhile, tFor, tRaise, tSetB, tSet2, tSet3, tAppend, tTry, tUndbl, d_eq1, vars0, d_int, d_nat, d_str, d_one, d_two, d_addN, d_addS, d_itS, d_itT, d_itL, d_itK, d_itSM, d_itKM, d_nt, d_nf, d_t, d_f, opNeg, slM, d_text, d_places, d_textL, d_placesL, d_kind, d_worth, d_at, d_isin, opSub, opMod, opDiv, opPow, opMul, opCmp, cLt, cLe, cLes, cEq, cIn, cNin, sp, slSS, slSN, slNS, oLen, oOrd, oChr, oMin, oAbs, oUpper, oIsL, oIsT, truth, bName, bTup2, bTup3, List.getElem?_cons_zero, List.getElem?_cons_succ, List.map_cons, List.map_nil, List.set_cons_zero, List.set_cons_succ]
  rw [h]
  exact ⟨fun a => t.1 (.inl a), fun a => ⟨fun b => t.1 (.inr b), fun b => t.2 fun z => z.elim a b⟩⟩
theorem cut_figge {k e b : Nat} : ∀ Q X st, (∃ c x y, st.vars[k]? = some (some (V.str [c])) ∧ st.vars[e]? = some (some (V.int (x : Nat))) ∧ st.vars[b]? = some (some (V.int (y : Nat))) ∧ sp (c ∈ t_FIGURES ∧ x ≤ y) (fun b => Q b st)) →
    bAnd (bCmp (tVar k) (tVal (.str t_FIGURES)) .In) (bAnd (bCmp (tVar b) (tVar e) .GtE) (bVal true)) Q X st := by
  rintro Q X st ⟨c, x, y, h1, h2, h3, t⟩
  dsimp only [tVal,  tVar, tCell, tBin, tCmp, tNot, tNeg, tAnd, tOr, tIfe, tTup, tLst, tLstL, tBlt, tCall, tM0, tM1, tNil, tCons, tSS, tSl, tNSL, tItem, tAttr, tStrike, tMeth, tExcAt, tItr, tRange, tComp, bCmp, bChain, tChain, bNot, bVal, bAnd, bOr, bPlain, bSplit, tEnd, tSeq, tRet, tRet0, tCont, tSet, tIf, tExpr, tWhile, tFor, tRaise, tSetB, tSet2, tSet3, tAppend, tTry, tUndbl, d_eq1, vars0, d_int, d_nat, d_str, d_one, d_two, d_addN, d_addS, d_itS, d_itT, d_itL, d_itK, d_itSM, d_itKM, d_nt, d_nf, d_t, d_f, opNeg, slM, d_text, d_places, d_textL, d_placesL, d_kind, d_worth, d_at, d_isin, opSub, opMod, opDiv, opPow, opMul, opCmp, cLt, cLe, cLes, cEq, cIn, cNin, sp, slSS, slSN, slNS, oLen, oOrd, oChr, oMin, oAbs, oUpper, oIsL, oIsT, truth, bName, bTup2, bTup3, List.getElem?_cons_zero, List.getElem?_cons_succ, List.map_cons, List.map_nil, List.set_cons_zero, List.set_cons_succ]
  rw [h1, h2, h3]
  exact ⟨fun a => ⟨fun b => t.1 ⟨a, b⟩, fun b => t.2 fun z => b z.2⟩, fun a => t.2 fun z => a z.1⟩
theorem cut_dotfig {k : Nat} : ∀ Q X st, (∃ l ps i c, st.vars[0]? = some (some (lnV l ps)) ∧ st.vars[1]? = some (some (V.int (i : Nat))) ∧ st.vars[k]? = some (some (V.str [c])) ∧ sp (c = 46 ∧ FigAt l (i + 1)) (fun b => Q b st)) →
    bAnd (bCmp (tVar k) (tVal (.str [46])) .Eq) (bAnd (bCmp (tSS (tAttr (tVar 0) 38 (Str.ofString "text")) (tBin (tVar 1) (tVal (.int ((1 : Nat) : Int))) opAdd) (tBin (tVar 1) (tVal (.int ((2 : Nat) : Int))) opAdd)) (tVal (.str [])) .NotEq)
      (bAnd (bCmp (tItem (tAttr (tVar 0) 38 (Str.ofString "text")) (tBin (tVar 1) (tVal (.int ((1 : Nat) : Int))) opAdd)) (tVal (.str t_FIGURES)) .In) (bVal true))) Q X st := by
  rintro Q X st ⟨l, ps, i, c, h1, h2, h3, t⟩
  dsimp only [tVal,  tVar, tCell, tBin, tCmp, tNot, tNeg, tAnd, tOr, tIfe, tTup, tLst, tLstL, tBlt, tCall, tM0, tM1, tNil, tCons, tSS, tSl, tNSL, tItem, tAttr, tStrike, tMeth, tExcAt, tItr, tRange, tComp, bCmp, bChain, tChain, bNot, bVal, bAnd, bOr, bPlain, bSplit, tEnd, tSeq, tRet, tRet0, tCont, tSet, tIf, tExpr, tWhile, tFor, tRaise, tSetB, tSet2, tSet3, tAppend, tTry, tUndbl, d_eq1, vars0, d_int, d_nat, d_str, d_one, d_two, d_addN, d_addS, d_itS, d_itT, d_itL, d_itK, d_itSM, d_itKM, d_nt, d_nf, d_t, d_f, opNeg, slM, d_text, d_places, d_textL, d_placesL, d_kind, d_worth, d_at, d_isin, opSub, opMod, opDiv, opPow, opMul, opCmp, cLt, cLe, cLes, cEq, cIn, cNin, sp, slSS, slSN, slNS, oLen, oOrd, oChr, oMin, oAbs, oUpper, oIsL, oIsT, truth, bName, bTup2, bTup3, List.getElem?_cons_zero, List.getElem?_cons_succ, List.map_cons, List.map_nil, List.set_cons_zero, List.set_cons_succ]
  rw [h1, h2, h3]
  dsimp only [tVal,  tVar, tCell, tBin, tCmp, tNot, tNeg, tAnd, tOr, tIfe, tTup, tLst, tLstL, tBlt, tCall, tM0, tM1, tNil, tCons, tSS, tSl, tNSL, tItem, tAttr, tStrike, tMeth, tExcAt, tItr, tRange, tComp, bCmp, bChain, tChain, bNot, bVal, bAnd, bOr, bPlain, bSplit, tEnd, tSeq, tRet, tRet0, tCont, tSet, tIf, tExpr, tWhile, tFor, tRaise, tSetB, tSet2, tSet3, tAppend, tTry, tUndbl, d_eq1, vars0, d_int, d_nat, d_str, d_one, d_two, d_addN, d_addS, d_itS, d_itT, d_itL, d_itK, d_itSM, d_itKM, d_nt, d_nf, d_t, d_f, opNeg, slM, d_text, d_places, d_textL, d_placesL, d_kind, d_worth, d_at, d_isin, opSub, opMod, opDiv, opPow, opMul, opCmp, cLt, cLe, cLes, cEq, cIn, cNin, sp, slSS, slSN, slNS, oLen, oOrd, oChr, oMin, oAbs, oUpper, oIsL, oIsT, truth, bName, bTup2, bTup3, List.getElem?_cons_zero, List.getElem?_cons_succ, List.map_cons, List.map_nil, List.set_cons_zero, List.set_cons_succ]
  exact ⟨fun a => ⟨fun b => t.2 fun z => Nat.not_le_of_lt z.2.1 (cut1_nil.mp b), fun b => ⟨Nat.lt_of_not_le fun z => b (cut1_nil.mpr z), fun d => t.1 ⟨a, Nat.lt_of_not_le fun z => b (cut1_nil.mpr z), d⟩, fun d => t.2 fun z => d z.2.2⟩⟩, fun a => t.2 fun z => a z.1⟩
theorem lit_pos {l : List Nat} {q j : Nat} {p : List Nat × Nat} (h : lit l q (j + 1) = some p) : 1 ≤ p.2 := by
  obtain ⟨a, _, rfl⟩ := Option.map_eq_some_iff.mp h
  exact Nat.le_trans (Nat.le_add_left 1 j) (Nat.le_add_left _ _)
theorem signs_eq : t_WORD_SIGNS = t_LETTERS ++ t_FIGURES ++ [45] := by decide
theorem alnum_sign {c : Nat} (h : c ∈ t_LETTERS ∨ c ∈ t_FIGURES) : c ∈ t_WORD_SIGNS := by rw [signs_eq]; exact List.mem_append_left _ (List.mem_append.mpr h)
theorem word_lt {l : List Nat} {i : Nat} (hi : i < l.length) (h : upA (l.getD i 0) ∈ t_LETTERS ∨ upA (l.getD i 0) ∈ t_FIGURES) : i < runEnd l i t_WORD_SIGNS := by
  rw [runEnd_step hi (alnum_sign h)]; exact runEnd_ge
noncomputable abbrev fate (o : Out) (A : List Nat → List Nat → Nat → Prop) (B : Nat → Prop) : Prop := match o with | .inl j => B j | .inr p => A p.1 p.2.1 p.2.2
noncomputable def numTok (l : List Nat) (i e : Nat) : Out := if Apart l e then (if ckNum l i e then .inr (kNumber, cut l i e, e) else .inl i) else .inl e
noncomputable def wordTok (l : List Nat) (i e : Nat) : Out := if Apart l e then (match ckWord ((cut l i e).map upA) i e with | none => .inr (kWord, (cut l i e).map upA, e) | some j => .inl j) else .inl e
noncomputable def litTok (l : List Nat) (i : Nat) : Out := match lit l (l.getD i 0) (i + 1) with
  | none => .inl i
  | some p => if Apart l p.2 then (if 1 ≤ (litW l i p.2).length ∧ (litW l i p.2).length ≤ 160 then .inr (kLiteral, litW l i p.2, p.2) else .inl i) else .inl p.2
noncomputable def markTok (l : List Nat) (i : Nat) : Out := match mark l i with | some p => .inr (p.1, p.2, i + p.2.length) | none => .inl i
noncomputable def next (l : List Nat) (i : Nat) : Out :=
  if upA (l.getD i 0) ∈ t_LETTERS ∨ upA (l.getD i 0) ∈ t_FIGURES then
    if upA (l.getD i 0) ∈ t_FIGURES ∧ runEnd l i t_WORD_SIGNS ≤ numEnd l i then numTok l i (numEnd l i) else wordTok l i (runEnd l i t_WORD_SIGNS)
  else if upA (l.getD i 0) = 46 ∧ FigAt l (i + 1) then numTok l i (runEnd l (i + 1) t_FIGURES)
  else if upA (l.getD i 0) ∈ t_QUOTES then litTok l i else markTok l i
theorem f_worth_at : Fn 221 6 (fun σ vs Q X => ∃ l ps i, vs = [lnV l ps, .int (i : Nat)] ∧ σ.pend = none ∧ LineOk l ps ∧ i < l.length ∧ fate (next l i) (fun k w e => Q (.tup [.str k, .str w, .int (e : Nat)]) σ) (fun j => ∀ m, X (fault ps m j) σ)) := by
  refine' fn_intro (n := 21) (rm := 5) (T := _) (ps := [Str.ofString "line", Str.ofString "at"]) (fun P => by rfl) (fun P => by kernel_rfl) ?r1 ?r2 (hp_of (by rfl)) ?r4 ?r5 ?r6 (Nat.le_refl _) ?r7 (by rfl)
  case r6 =>
    refine' @exs_as _ _ _ _ _ ((cx_cons (cx_assign (cv_call f_capital_of (by decide) (g_capital_of rfl) (cs_cons (cv_item (cv_attr (cv_var rfl rfl) 38 at_text (fun _ => rfl)) (cv_var rfl rfl) (fun _ _ _ => rfl)) cs_nil (fun _ => se_Subscript)) (fun P => by kernel_rfl) (fun _ => rfl) (fun _ => rfl) (fun _ => rfl)) rfl rfl (fun _ => rfl)) (cx_cons (cx_if (tst_by (cb_bool (cb_or (cb_cmp (cv_var rfl rfl) (g_LETTERS rfl) rfl) (cb_or (cb_cmp (cv_var rfl rfl) (g_FIGURES rfl) rfl) cb_or_nil))) cut_alnum) (cx_cons (cx_assign (cv_call f_run_end (by decide) (g_run_end rfl) (cs_cons (cv_attr (cv_var rfl rfl) 38 at_text (fun _ => rfl)) (cs_cons (cv_var rfl rfl) (cs_cons (g_WORD_SIGNS rfl) cs_nil (fun _ => se_Name)) (fun _ => se_Name)) (fun _ => se_Attribute)) (fun P => by kernel_rfl) (fun _ => rfl) (fun _ => rfl) (fun _ => rfl)) rfl rfl (fun _ => rfl)) (cx_cons (cx_assign (cv_call f_number_end (by decide) (g_number_end rfl) (cs_cons (cv_attr (cv_var rfl rfl) 38 at_text (fun _ => rfl)) (cs_cons (cv_var rfl rfl) cs_nil (fun _ => se_Name)) (fun _ => se_Attribute)) (fun P => by kernel_rfl) (fun _ => rfl) (fun _ => rfl) (fun _ => rfl)) rfl rfl (fun _ => rfl)) (cx_cons (cx_if (tst_by (cb_bool (cb_and (cb_cmp (cv_var rfl rfl) (g_FIGURES rfl) rfl) (cb_and (cb_cmp (cv_var rfl rfl) (cv_var rfl rfl) rfl) cb_and_nil))) cut_figge) (cx_cons (cx_expr (cv_call f_need_apart (by decide) (g_need_apart rfl) (cs_cons (cv_var rfl rfl) (cs_cons (cv_var rfl rfl) cs_nil (fun _ => se_Name)) (fun _ => se_Name)) (fun P => by kernel_rfl) (fun _ => rfl) (fun _ => rfl) (fun _ => rfl)) (fun _ => rfl)) (cx_cons (cx_ret (cv_tuple (cs_cons (cv_str (l := [110, 117, 109, 98, 101, 114]) (by decide) (by decide)) (cs_cons (cv_call f_checked_number (by decide) (g_checked_number rfl) (cs_cons (cv_var rfl rfl) (cs_cons (cv_var rfl rfl) (cs_cons (cv_var rfl rfl) cs_nil (fun _ => se_Name)) (fun _ => se_Name)) (fun _ => se_Name)) (fun P => by kernel_rfl) (fun _ => rfl) (fun _ => rfl) (fun _ => rfl)) (cs_cons (cv_var rfl rfl) cs_nil (fun _ => se_Name)) (fun _ => se_Call)) (fun _ => se_Constant)))) cx_nil)) cx_nil) (cx_cons (cx_expr (cv_call f_need_apart (by decide) (g_need_apart rfl) (cs_cons (cv_var rfl rfl) (cs_cons (cv_var rfl rfl) cs_nil (fun _ => se_Name)) (fun _ => se_Name)) (fun P => by kernel_rfl) (fun _ => rfl) (fun _ => rfl) (fun _ => rfl)) (fun _ => rfl)) (cx_cons (cx_ret (cv_tuple (cs_cons (cv_str (l := [119, 111, 114, 100]) (by decide) (by decide)) (cs_cons (cv_call f_checked_word (by decide) (g_checked_word rfl) (cs_cons (cv_var rfl rfl) (cs_cons (cv_var rfl rfl) (cs_cons (cv_var rfl rfl) cs_nil (fun _ => se_Name)) (fun _ => se_Name)) (fun _ => se_Name)) (fun P => by kernel_rfl) (fun _ => rfl) (fun _ => rfl) (fun _ => rfl)) (cs_cons (cv_var rfl rfl) cs_nil (fun _ => se_Name)) (fun _ => se_Call)) (fun _ => se_Constant)))) cx_nil))))) cx_nil) (cx_cons (cx_if (tst_by (cb_bool (cb_and (cb_cmp (cv_var rfl rfl) (cv_str (l := [46]) (by decide) (by decide)) rfl) (cb_and (cb_cmp (cv_sliceSS (cv_attr (cv_var rfl rfl) 38 at_text (fun _ => rfl)) (cv_add (cv_var rfl rfl) (cv_nat 1)) (cv_add (cv_var rfl rfl) (cv_nat 2)) (fun _ _ => rfl)) (cv_str (l := []) (by decide) (by decide)) rfl) (cb_and (cb_cmp (cv_item (cv_attr (cv_var rfl rfl) 38 at_text (fun _ => rfl)) (cv_add (cv_var rfl rfl) (cv_nat 1)) (fun _ _ _ => rfl)) (g_FIGURES rfl) rfl) cb_and_nil)))) cut_dotfig) (cx_cons (cx_assign (cv_call f_run_end (by decide) (g_run_end rfl) (cs_cons (cv_attr (cv_var rfl rfl) 38 at_text (fun _ => rfl)) (cs_cons (cv_add (cv_var rfl rfl) (cv_nat 1)) (cs_cons (g_FIGURES rfl) cs_nil (fun _ => se_Name)) (fun _ => se_BinOp)) (fun _ => se_Attribute)) (fun P => by kernel_rfl) (fun _ => rfl) (fun _ => rfl) (fun _ => rfl)) rfl rfl (fun _ => rfl)) (cx_cons (cx_expr (cv_call f_need_apart (by decide) (g_need_apart rfl) (cs_cons (cv_var rfl rfl) (cs_cons (cv_var rfl rfl) cs_nil (fun _ => se_Name)) (fun _ => se_Name)) (fun P => by kernel_rfl) (fun _ => rfl) (fun _ => rfl) (fun _ => rfl)) (fun _ => rfl)) (cx_cons (cx_ret (cv_tuple (cs_cons (cv_str (l := [110, 117, 109, 98, 101, 114]) (by decide) (by decide)) (cs_cons (cv_call f_checked_number (by decide) (g_checked_number rfl) (cs_cons (cv_var rfl rfl) (cs_cons (cv_var rfl rfl) (cs_cons (cv_var rfl rfl) cs_nil (fun _ => se_Name)) (fun _ => se_Name)) (fun _ => se_Name)) (fun P => by kernel_rfl) (fun _ => rfl) (fun _ => rfl) (fun _ => rfl)) (cs_cons (cv_var rfl rfl) cs_nil (fun _ => se_Name)) (fun _ => se_Call)) (fun _ => se_Constant)))) cx_nil))) cx_nil) (cx_cons (cx_if (cb_cmp (cv_var rfl rfl) (g_QUOTES rfl) rfl) (cx_cons (cx_assign (cv_call f_literal_end (by decide) (g_literal_end rfl) (cs_cons (cv_var rfl rfl) (cs_cons (cv_var rfl rfl) cs_nil (fun _ => se_Name)) (fun _ => se_Name)) (fun P => by kernel_rfl) (fun _ => rfl) (fun _ => rfl) (fun _ => rfl)) rfl rfl (fun _ => rfl)) (cx_cons (cx_expr (cv_call f_need_apart (by decide) (g_need_apart rfl) (cs_cons (cv_var rfl rfl) (cs_cons (cv_var rfl rfl) cs_nil (fun _ => se_Name)) (fun _ => se_Name)) (fun P => by kernel_rfl) (fun _ => rfl) (fun _ => rfl) (fun _ => rfl)) (fun _ => rfl)) (cx_cons (cx_ret (cv_tuple (cs_cons (cv_str (l := [108, 105, 116, 101, 114, 97, 108]) (by decide) (by decide)) (cs_cons (cv_call f_checked_literal (by decide) (g_checked_literal rfl) (cs_cons (cv_var rfl rfl) (cs_cons (cv_var rfl rfl) (cs_cons (cv_var rfl rfl) cs_nil (fun _ => se_Name)) (fun _ => se_Name)) (fun _ => se_Name)) (fun P => by kernel_rfl) (fun _ => rfl) (fun _ => rfl) (fun _ => rfl)) (cs_cons (cv_var rfl rfl) cs_nil (fun _ => se_Name)) (fun _ => se_Call)) (fun _ => se_Constant)))) cx_nil))) cx_nil) (cx_cons (cx_assignT (cv_call f_mark_at (by decide) (g_mark_at rfl) (cs_cons (cv_var rfl rfl) (cs_cons (cv_var rfl rfl) cs_nil (fun _ => se_Name)) (fun _ => se_Name)) (fun P => by kernel_rfl) (fun _ => rfl) (fun _ => rfl) (fun _ => rfl)) (bnd_tup2 rfl rfl rfl rfl) (by decide) (fun _ => rfl) (fun _ _ => rfl)) (cx_cons (cx_ret (cv_tuple (cs_cons (cv_var rfl rfl) (cs_cons (cv_var rfl rfl) (cs_cons (cv_add (cv_var rfl rfl) (cv_callB (g_len rfl) (cs_cons (cv_var rfl rfl) cs_nil (fun _ => se_Name)) b_len (fun _ => rfl) (fun _ => rfl) (fun _ => rfl))) cs_nil (fun _ => se_BinOp)) (fun _ => se_Name)) (fun _ => se_Name)))) cx_nil))))))) rfl
  case r1 => intro xs h; obtain ⟨a, b, rfl⟩ := len2 h; rfl
  case r2 => decide
  case r4 => decide
  case r5 => decide
  case r7 =>
    rintro σ _ Q X ⟨l, ps, i, rfl, hp, hL, hi, hQ⟩
    refine ⟨hp, rfl, ?_⟩
    dsimp only [tVal,  tVar, tCell, tBin, tCmp, tNot, tNeg, tAnd, tOr, tIfe, tTup, tLst, tLstL, tBlt, tCall, tM0, tM1, tNil, tCons, tSS, tSl, tNSL, tItem, tAttr, tStrike, tMeth, tExcAt, tItr, tRange, tComp, bCmp, bChain, tChain, bNot, bVal, bAnd, bOr, bPlain, bSplit, tEnd, tSeq, tRet, tRet0, tCont, tSet, tIf, tExpr, tWhile, tFor, tRaise, tSetB, tSet2, tSet3, tAppend, tTry, tUndbl, d_eq1, vars0, d_int, d_nat, d_str, d_one, d_two, d_addN, d_addS, d_itS, d_itT, d_itL, d_itK, d_itSM, d_itKM, d_nt, d_nf, d_t, d_f, opNeg, slM, d_text, d_places, d_textL, d_placesL, d_kind, d_worth, d_at, d_isin, opSub, opMod, opDiv, opPow, opMul, opCmp, cLt, cLe, cLes, cEq, cIn, cNin, sp, slSS, slSN, slNS, oLen, oOrd, oChr, oMin, oAbs, oUpper, oIsL, oIsT, truth, bName, bTup2, bTup3, List.getElem?_cons_zero, List.getElem?_cons_succ, List.map_cons, List.map_nil, List.set_cons_zero, List.set_cons_succ]
    unfold next at hQ
    refine ⟨hi, _, rfl, hp, _, rfl, fun h1 => ⟨_, _, _, rfl, hp, _, _, rfl, hp, _, _, _, rfl, rfl, rfl, fun h2 => ?_, fun h2 => ?_⟩, fun h1 => ?_⟩
    · rw [if_pos h1, if_pos h2] at hQ
      unfold numTok at hQ
      refine ⟨_, _, _, rfl, hp, hL, fun h3 => ⟨_, _, _, _, rfl, hp, hL, fun h4 => ⟨(show 3 < 1000 by decide), back_ret ?_⟩, fun h4 m => backX_of ?_⟩, fun h3 m => backX_of ?_⟩
      · rwa [if_pos h3, if_pos h4] at hQ
      · rw [if_pos h3, if_neg h4] at hQ; exact hQ m
      · rw [if_neg h3] at hQ; exact hQ m
    · rw [if_pos h1, if_neg h2] at hQ
      unfold wordTok at hQ
      refine ⟨_, _, _, rfl, hp, hL, fun h3 => ⟨_, _, _, _, rfl, hp, hL, word_lt hi h1, runEnd_le (Nat.le_of_lt hi), fun h4 => ⟨(show 3 < 1000 by decide), back_ret ?_⟩, fun j h4 m => backX_of ?_⟩, fun h3 m => backX_of ?_⟩
      · rwa [if_pos h3, h4] at hQ
      · rw [if_pos h3, h4] at hQ; exact hQ m
      · rw [if_neg h3] at hQ; exact hQ m
    rw [if_neg h1] at hQ
    refine ⟨_, _, _, _, rfl, rfl, rfl, fun h2 => ?_, fun h2 => ⟨fun h3 => ?_, fun h3 => ?_⟩⟩
    · rw [if_pos h2] at hQ
      unfold numTok at hQ
      refine ⟨_, _, _, rfl, hp, _, _, _, rfl, hp, hL, fun h3 => ⟨_, _, _, _, rfl, hp, hL, fun h4 => ⟨(show 3 < 1000 by decide), back_ret ?_⟩, fun h4 m => backX_of ?_⟩, fun h3 m => backX_of ?_⟩
      · rwa [if_pos h3, if_pos h4] at hQ
      · rw [if_pos h3, if_neg h4] at hQ; exact hQ m
      · rw [if_neg h3] at hQ; exact hQ m
    · rw [if_neg h2, if_pos h3] at hQ
      unfold litTok at hQ
      refine ⟨_, _, _, rfl, hp, hL, hi, fun p h4 => ⟨_, _, _, rfl, hp, hL, fun h5 => ⟨_, _, _, _, rfl, hp, hL, hi, lit_pos h4, fun h6 => ⟨(show 3 < 1000 by decide), back_ret ?_⟩, fun h6 m => backX_of ?_⟩, fun h5 m => backX_of ?_⟩, fun h4 m => backX_of ?_⟩
      · rw [h4] at hQ; dsimp only at hQ; rwa [if_pos h5, if_pos h6] at hQ
      · rw [h4] at hQ; dsimp only at hQ; rw [if_pos h5, if_neg h6] at hQ; exact hQ m
      · rw [h4] at hQ; dsimp only at hQ; rw [if_neg h5] at hQ; exact hQ m
      · rw [h4] at hQ; exact hQ m
    · rw [if_neg h2, if_neg h3] at hQ
      unfold markTok at hQ
      refine ⟨_, _, _, rfl, hp, hL, hi, fun p h4 => ⟨(show 3 < 1000 by decide), back_ret ?_⟩, fun h4 m => backX_of ?_⟩
      · rwa [h4] at hQ
      · rw [h4] at hQ; exact hQ m
end Mine
namespace Mine
theorem eqv_str {a b : List Nat} : PyData.eqv (.str ⟨a.toArray⟩) (.str ⟨b.toArray⟩) = true ↔ a = b := by
  rw [PyData.eqv, beq_iff_eq]
  exact ⟨fun h => by injection h with h; injection h, fun h => h ▸ rfl⟩
noncomputable abbrev Tok := List Nat × List Nat × Nat
noncomputable abbrev tkns : List Str := [Str.ofString "kind", Str.ofString "worth", Str.ofString "at", Str.ofString "is_in_a"]
noncomputable def plV (r c k : Nat) : V := .tup [.int (r : Nat), .int ((c + k : Nat) : Int)]
noncomputable def tokV (r c : Nat) (t : Tok) : V := .inst 109 tkns [.str t.1, .str t.2.1, plV r c t.2.2, .bool (decide (8 ≤ c + t.2.2 ∧ c + t.2.2 ≤ 11))]
noncomputable abbrev kPIC : List Nat := [80, 73, 67]
noncomputable abbrev kPICTURE : List Nat := [80, 73, 67, 84, 85, 82, 69]
/-- a picture is due behind these -/
noncomputable def due (acc : List Tok) : Bool := match acc.getLast? with | some t => decide (t.1 = kWord ∧ (t.2.1 = kPIC ∨ t.2.1 = kPICTURE)) | none => false
theorem last_map {α : Type} {f : α → V} {acc : List α} {t : α} : ((acc ++ [t]).map f).getD (((acc ++ [t]).map f).length - 1) .none = f t := by
  rw [List.map_append, List.length_append, List.getD_eq_getElem?_getD]
  simp
theorem in_pics {w : List Nat} {Q : Bool → Prop} (h : sp (w = kPIC ∨ w = kPICTURE) Q) : cInD (.str w) [.str kPIC, .str kPICTURE] Q := by
  refine ⟨rfl, rfl, by simp [toD, PyData.depth], ?_⟩
  have e : ((toDs [V.str kPIC, V.str kPICTURE]).any fun y => PyData.eqv y (toD (.str w))) = true ↔ w = kPIC ∨ w = kPICTURE := by
    simp only [toDs, toD, List.any_cons, List.any_nil, Bool.or_false, Bool.or_eq_true, eqv_str]
    exact ⟨fun h => h.imp Eq.symm Eq.symm, fun h => h.imp Eq.symm Eq.symm⟩
  exact ⟨fun z => h.1 (e.mp z), fun z => h.2 fun q => z (e.mpr q)⟩
theorem f_is_picture_next : Fn 235 2 (fun σ vs Q X => ∃ k acc r c, vs = [.loc k] ∧ σ.pend = none ∧ σ.ls.getD k [] = acc.map (tokV r c) ∧ acc.length ≤ big ∧ Q (.bool (due acc)) σ) := by
  refine' fn_intro (n := 2) (rm := 1) (T := _) (ps := [Str.ofString "tokens"]) (fun P => by rfl) (fun P => by kernel_rfl) ?r1 ?r2 (hp_of (by rfl)) ?r4 ?r5 ?r6 (Nat.le_refl _) ?r7 (by rfl)
  case r6 =>
    refine' @exs_as _ _ _ _ _ ((cx_cons (cx_ret (cv_boolop (cl_and (cv_cmp (cv_callB (g_len rfl) (cs_cons (cv_var rfl rfl) cs_nil (fun _ => se_Name)) b_len (fun _ => rfl) (fun _ => rfl) (fun _ => rfl)) (cv_nat 0) rfl) (cl_and (cv_cmp (cv_attr (cv_item (cv_var rfl rfl) (cv_neg (cv_nat 1)) (fun _ _ _ => rfl)) 109 at_kind (fun _ => rfl)) (cv_str (l := [119, 111, 114, 100]) (by decide) (by decide)) rfl) (cl_one (cv_cmp (cv_attr (cv_item (cv_var rfl rfl) (cv_neg (cv_nat 1)) (fun _ _ _ => rfl)) 109 at_worth (fun _ => rfl)) (cv_tuple (cs_cons (cv_str (l := [80, 73, 67]) (by decide) (by decide)) (cs_cons (cv_str (l := [80, 73, 67, 84, 85, 82, 69]) (by decide) (by decide)) cs_nil (fun _ => se_Constant)) (fun _ => se_Constant))) rfl)))))) cx_nil)) rfl
  case r1 => intro xs h; obtain ⟨a, rfl⟩ := len1 h; rfl
  case r2 => decide
  case r4 => decide
  case r5 => decide
  case r7 =>
    rintro σ _ Q X ⟨k, acc, r, c, rfl, hp, hk, hl, hQ⟩
    refine ⟨hp, rfl, ?_⟩
    dsimp only [tVal,  tVar, tCell, tBin, tCmp, tNot, tNeg, tAnd, tOr, tIfe, tTup, tLst, tLstL, tBlt, tCall, tM0, tM1, tNil, tCons, tSS, tSl, tNSL, tItem, tAttr, tStrike, tMeth, tExcAt, tItr, tRange, tComp, bCmp, bChain, tChain, bNot, bVal, bAnd, bOr, bPlain, bSplit, tEnd, tSeq, tRet, tRet0, tCont, tSet, tIf, tExpr, tWhile, tFor, tRaise, tSetB, tSet2, tSet3, tAppend, tTry, tUndbl, d_eq1, vars0, d_int, d_nat, d_str, d_one, d_two, d_addN, d_addS, d_itS, d_itT, d_itL, d_itK, d_itSM, d_itKM, d_nt, d_nf, d_t, d_f, opNeg, slM, d_text, d_places, d_textL, d_placesL, d_kind, d_worth, d_at, d_isin, opSub, opMod, opDiv, opPow, opMul, opCmp, cLt, cLe, cLes, cEq, cIn, cNin, sp, slSS, slSN, slNS, oLen, oOrd, oChr, oMin, oAbs, oUpper, oIsL, oIsT, truth, bName, bTup2, bTup3, List.getElem?_cons_zero, List.getElem?_cons_succ, List.map_cons, List.map_nil, List.set_cons_zero, List.set_cons_succ]
    rw [hk]
    have h60 : (acc.map (tokV r c)).length < 2 ^ 60 := by rw [List.length_map]; exact Nat.lt_of_le_of_lt hl (by decide)
    refine ⟨h60, fun h0 => ⟨Nat.lt_trans h60 (by decide), h0, ?_⟩, fun h0 => back_ret ?_⟩
    · obtain ⟨pre, t, rfl⟩ : ∃ pre t, acc = pre ++ [t] := by
        rcases List.eq_nil_or_concat acc with rfl | ⟨p, t, rfl⟩
        · cases h0
        · exact ⟨p, t, List.concat_eq_append⟩
      rw [last_map]
      have hd : due (pre ++ [t]) = decide (t.1 = kWord ∧ (t.2.1 = kPIC ∨ t.2.1 = kPICTURE)) := by rw [due, List.getLast?_concat]
      rw [hd] at hQ
      dsimp only [tokV, d_kind, d_worth]
      refine ⟨fun h1 => ⟨Nat.lt_trans h60 (by decide), h0, (show 2 < 1000 by decide), in_pics ⟨fun h2 => back_ret ?_, fun h2 => back_ret ?_⟩⟩, fun h1 => back_ret ?_⟩
      · rwa [decide_eq_true ⟨eqS_iff.mp h1, h2⟩] at hQ
      · rwa [decide_eq_false fun z => h2 z.2] at hQ
      · rwa [decide_eq_false fun z => h1 (eqS_iff.mpr z.1)] at hQ
    · cases acc with
      | nil => exact hQ
      | cons a l => exact (h0 (Nat.succ_pos _)).elim
end Mine
namespace Mine
noncomputable abbrev PicAt (acc : List Tok) (was : Bool) (l : List Nat) (i : Nat) : Prop := due acc = true ∧ was = false ∧ IsIs l i
/-- what both readings come to: a fault's place or the tokens -/
noncomputable def rd (l : List Nat) : Nat → Nat → Bool → List Tok → Nat ⊕ List Tok
  | 0, _, _, acc => .inr acc
  | n + 1, i, was, acc =>
    if i < l.length then
      if BlankAt l i then rd l n (i + 1) was acc
      else if PicAt acc was l i then rd l n (i + 2) true acc
      else if due acc then (if picEnd l i = i then .inl i else rd l n (picEnd l i) false (acc ++ [(kPicture, (cut l i (picEnd l i)).map upA, i)]))
      else match next l i with | .inl j => .inl j | .inr p => rd l n p.2.2 false (acc ++ [(p.1, p.2.1, i)])
    else .inr acc
noncomputable def plc (r c n : Nat) : List V := (List.range n).map (plV r c)
theorem plc_len {r c n : Nat} : (plc r c n).length = n := by rw [plc, List.length_map, List.length_range]
theorem plc_at {r c n i : Nat} (h : i < n) : (plc r c n).getD i .none = plV r c i := by
  rw [List.getD_eq_getElem?_getD, plc, List.getElem?_map, List.getElem?_range h]; rfl
theorem nls_map {α : Type} {f : α → V} {l : List α} (h : ∀ a, nl (f a) = true) : nls (l.map f) = true := by
  induction l with | nil => rfl | cons a l ih => rw [List.map_cons, nls, h, ih]; rfl
theorem plc_ok {r c : Nat} {l : List Nat} (h : l.length ≤ big) (h0 : 0 < l.length) : LineOk l (plc r c l.length) := ⟨h, plc_len, nls_map fun _ => rfl, h0⟩
noncomputable def outF (o : Nat ⊕ List Tok) (A : List Tok → Prop) (B : Nat → Prop) : Prop := match o with | .inl j => B j | .inr a => A a
theorem cut_is : ∀ Q X st, (∃ k acc r c l ps i was, st.σ.pend = none ∧ st.vars[0]? = some (some (V.loc k)) ∧ st.vars[1]? = some (some (lnV l ps)) ∧ st.vars[2]? = some (some (V.int (i : Nat))) ∧ st.vars[3]? = some (some (V.bool was)) ∧ st.σ.ls.getD k [] = acc.map (tokV r c) ∧ acc.length ≤ big ∧ l.length ≤ big ∧ sp (PicAt acc was l i) (fun b => Q b st)) →
    bAnd (bPlain (tCall (tCons (tVar 0) tNil) (fun σ vs Q X => ∃ k acc r c, vs = [.loc k] ∧ σ.pend = none ∧ σ.ls.getD k [] = acc.map (tokV r c) ∧ acc.length ≤ big ∧ Q (.bool (due acc)) σ))) (bAnd (bNot (bPlain (tVar 3)))
      (bAnd (bPlain (tCall (tCons (tAttr (tVar 1) 38 (Str.ofString "text")) (tCons (tVar 2) tNil)) (fun σ vs Q X => ∃ l i, vs = [.str l, .int (i : Nat)] ∧ σ.pend = none ∧ l.length ≤ big ∧ sp (IsIs l i) (fun b => Q (.bool b) σ)))) (bVal true))) Q X st := by
  rintro Q X st ⟨k, acc, r, c, l, ps, i, was, hp, h0, h1, h2, h3, hk, ha, hl, t⟩
  dsimp only [tVal,  tVar, tCell, tBin, tCmp, tNot, tNeg, tAnd, tOr, tIfe, tTup, tLst, tLstL, tBlt, tCall, tM0, tM1, tNil, tCons, tSS, tSl, tNSL, tItem, tAttr, tStrike, tMeth, tExcAt, tItr, tRange, tComp, bCmp, bChain, tChain, bNot, bVal, bAnd, bOr, bPlain, bSplit, tEnd, tSeq, tRet, tRet0, tCont, tSet, tIf, tExpr, tWhile, tFor, tRaise, tSetB, tSet2, tSet3, tAppend, tTry, tUndbl, d_eq1, vars0, d_int, d_nat, d_str, d_one, d_two, d_addN, d_addS, d_itS, d_itT, d_itL, d_itK, d_itSM, d_itKM, d_nt, d_nf, d_t, d_f, opNeg, slM, d_text, d_places, d_textL, d_placesL, d_kind, d_worth, d_at, d_isin, opSub, opMod, opDiv, opPow, opMul, opCmp, cLt, cLe, cLes, cEq, cIn, cNin, sp, slSS, slSN, slNS, oLen, oOrd, oChr, oMin, oAbs, oUpper, oIsL, oIsT, truth, bName, bTup2, bTup3, List.getElem?_cons_zero, List.getElem?_cons_succ, List.map_cons, List.map_nil, List.set_cons_zero, List.set_cons_succ]
  rw [h0]
  refine ⟨_, _, _, _, rfl, hp, hk, ha, ?_⟩
  cases hd : due acc with
  | false => exact t.2 fun z => Bool.noConfusion (hd.symm.trans z.1)
  | true =>
    dsimp only [bIf]
    rw [h3]
    cases was with
    | true => exact t.2 fun z => by cases z.2.1
    | false =>
      dsimp only [tVal,  tVar, tCell, tBin, tCmp, tNot, tNeg, tAnd, tOr, tIfe, tTup, tLst, tLstL, tBlt, tCall, tM0, tM1, tNil, tCons, tSS, tSl, tNSL, tItem, tAttr, tStrike, tMeth, tExcAt, tItr, tRange, tComp, bCmp, bChain, tChain, bNot, bVal, bAnd, bOr, bPlain, bSplit, tEnd, tSeq, tRet, tRet0, tCont, tSet, tIf, tExpr, tWhile, tFor, tRaise, tSetB, tSet2, tSet3, tAppend, tTry, tUndbl, d_eq1, vars0, d_int, d_nat, d_str, d_one, d_two, d_addN, d_addS, d_itS, d_itT, d_itL, d_itK, d_itSM, d_itKM, d_nt, d_nf, d_t, d_f, opNeg, slM, d_text, d_places, d_textL, d_placesL, d_kind, d_worth, d_at, d_isin, opSub, opMod, opDiv, opPow, opMul, opCmp, cLt, cLe, cLes, cEq, cIn, cNin, sp, slSS, slSN, slNS, oLen, oOrd, oChr, oMin, oAbs, oUpper, oIsL, oIsT, truth, bName, bTup2, bTup3, List.getElem?_cons_zero, List.getElem?_cons_succ, List.map_cons, List.map_nil, List.set_cons_zero, List.set_cons_succ]
      rw [h1, h2]
      dsimp only [tVal,  tVar, tCell, tBin, tCmp, tNot, tNeg, tAnd, tOr, tIfe, tTup, tLst, tLstL, tBlt, tCall, tM0, tM1, tNil, tCons, tSS, tSl, tNSL, tItem, tAttr, tStrike, tMeth, tExcAt, tItr, tRange, tComp, bCmp, bChain, tChain, bNot, bVal, bAnd, bOr, bPlain, bSplit, tEnd, tSeq, tRet, tRet0, tCont, tSet, tIf, tExpr, tWhile, tFor, tRaise, tSetB, tSet2, tSet3, tAppend, tTry, tUndbl, d_eq1, vars0, d_int, d_nat, d_str, d_one, d_two, d_addN, d_addS, d_itS, d_itT, d_itL, d_itK, d_itSM, d_itKM, d_nt, d_nf, d_t, d_f, opNeg, slM, d_text, d_places, d_textL, d_placesL, d_kind, d_worth, d_at, d_isin, opSub, opMod, opDiv, opPow, opMul, opCmp, cLt, cLe, cLes, cEq, cIn, cNin, sp, slSS, slSN, slNS, oLen, oOrd, oChr, oMin, oAbs, oUpper, oIsL, oIsT, truth, bName, bTup2, bTup3, List.getElem?_cons_zero, List.getElem?_cons_succ, List.map_cons, List.map_nil, List.set_cons_zero, List.set_cons_succ]
      exact ⟨_, _, rfl, hp, hl, fun z => t.1 ⟨hd, rfl, z⟩, fun z => t.2 fun q => z q.2.2⟩
theorem cut_col : ∀ Q X st, (∃ r c i, st.vars[4]? = some (some (plV r c i)) ∧ Q (.bool (decide (8 ≤ c + i ∧ c + i ≤ 11))) st) → tChain (tVal (.int ((8 : Nat) : Int))) (tItem (tVar 4) (tVal (.int ((1 : Nat) : Int)))) (tVal (.int ((11 : Nat) : Int))) .LtE .LtE Q X st := by
  rintro Q X st ⟨r, c, i, h, t⟩
  dsimp only [tVal,  tVar, tCell, tBin, tCmp, tNot, tNeg, tAnd, tOr, tIfe, tTup, tLst, tLstL, tBlt, tCall, tM0, tM1, tNil, tCons, tSS, tSl, tNSL, tItem, tAttr, tStrike, tMeth, tExcAt, tItr, tRange, tComp, bCmp, bChain, tChain, bNot, bVal, bAnd, bOr, bPlain, bSplit, tEnd, tSeq, tRet, tRet0, tCont, tSet, tIf, tExpr, tWhile, tFor, tRaise, tSetB, tSet2, tSet3, tAppend, tTry, tUndbl, d_eq1, vars0, d_int, d_nat, d_str, d_one, d_two, d_addN, d_addS, d_itS, d_itT, d_itL, d_itK, d_itSM, d_itKM, d_nt, d_nf, d_t, d_f, opNeg, slM, d_text, d_places, d_textL, d_placesL, d_kind, d_worth, d_at, d_isin, opSub, opMod, opDiv, opPow, opMul, opCmp, cLt, cLe, cLes, cEq, cIn, cNin, sp, slSS, slSN, slNS, oLen, oOrd, oChr, oMin, oAbs, oUpper, oIsL, oIsT, truth, bName, bTup2, bTup3, List.getElem?_cons_zero, List.getElem?_cons_succ, List.map_cons, List.map_nil, List.set_cons_zero, List.set_cons_succ]
  rw [h]
  dsimp only [plV]
  dsimp only [tVal,  tVar, tCell, tBin, tCmp, tNot, tNeg, tAnd, tOr, tIfe, tTup, tLst, tLstL, tBlt, tCall, tM0, tM1, tNil, tCons, tSS, tSl, tNSL, tItem, tAttr, tStrike, tMeth, tExcAt, tItr, tRange, tComp, bCmp, bChain, tChain, bNot, bVal, bAnd, bOr, bPlain, bSplit, tEnd, tSeq, tRet, tRet0, tCont, tSet, tIf, tExpr, tWhile, tFor, tRaise, tSetB, tSet2, tSet3, tAppend, tTry, tUndbl, d_eq1, vars0, d_int, d_nat, d_str, d_one, d_two, d_addN, d_addS, d_itS, d_itT, d_itL, d_itK, d_itSM, d_itKM, d_nt, d_nf, d_t, d_f, opNeg, slM, d_text, d_places, d_textL, d_placesL, d_kind, d_worth, d_at, d_isin, opSub, opMod, opDiv, opPow, opMul, opCmp, cLt, cLe, cLes, cEq, cIn, cNin, sp, slSS, slSN, slNS, oLen, oOrd, oChr, oMin, oAbs, oUpper, oIsL, oIsT, truth, bName, bTup2, bTup3, List.getElem?_cons_zero, List.getElem?_cons_succ, List.map_cons, List.map_nil, List.set_cons_zero, List.set_cons_succ]
  refine ⟨(show 2 < 2 ^ 63 by decide), (show 1 < 2 by decide), fun a => ⟨fun b => ?_, fun b => ?_⟩, fun a => ?_⟩
  · rwa [decide_eq_true ⟨a, b⟩] at t
  · rwa [decide_eq_false fun z => b z.2] at t
  · rwa [decide_eq_false fun z => a z.1] at t
theorem app_eq {ls : List (List V)} {k : Nat} {r c : Nat} {acc : List Tok} {t : Tok} (hk : k < ls.length) : (ls.set k (acc.map (tokV r c))).set k ((ls.set k (acc.map (tokV r c))).getD k [] ++ [tokV r c t]) = ls.set k ((acc ++ [t]).map (tokV r c)) := by
  rw [List.set_set, List.getD_eq_getElem?_getD, List.getElem?_set_self hk, List.map_append]; rfl
theorem numEnd_gt {l : List Nat} {i : Nat} (hi : i < l.length) (h : upA (l.getD i 0) ∈ t_FIGURES) : i < numEnd l i := by
  have h1 : i + 1 ≤ runEnd l i t_FIGURES := by rw [runEnd_step hi h]; exact runEnd_ge
  unfold numEnd
  split
  · exact Nat.lt_of_lt_of_le h1 (Nat.le_trans (Nat.le_succ _) runEnd_ge)
  · exact h1
theorem next_gt {l : List Nat} {i : Nat} {p : List Nat × List Nat × Nat} (hi : i < l.length) (h : next l i = .inr p) : i < p.2.2 := by
  have num : ∀ e, i < e → numTok l i e = .inr p → i < p.2.2 := fun e he q => by
    unfold numTok at q
    split at q
    · split at q
      · cases q; exact he
      · cases q
    · cases q
  unfold next at h
  split at h
  · rename_i h1
    split at h
    · rename_i h2
      exact num _ (numEnd_gt hi h2.1) h
    · unfold wordTok at h
      split at h
      · split at h
        · cases h; exact word_lt hi h1
        · cases h
      · cases h
  · split at h
    · exact num _ runEnd_ge h
    · split at h
      · unfold litTok at h
        split at h
        · cases h
        · rename_i q hq
          split at h
          · split at h
            · cases h
              obtain ⟨a, _, e⟩ := Option.map_eq_some_iff.mp hq
              rw [← e]; exact Nat.le_add_left _ _
            · cases h
          · cases h
      · unfold markTok at h
        split at h
        · rename_i q hq
          cases h
          unfold mark at hq
          refine Nat.lt_add_of_pos_right ?_
          split at hq
          · rename_i hq'
            cases hq; show 0 < (cut l i (i + 2)).length; rw [hq']; exact Nat.two_pos
          · split at hq
            · rename_i hq'
              cases hq
              refine List.length_pos_iff.mpr fun z => ?_
              have z : cut l i (i + 2) = [] := z
              rw [z] at hq'; exact absurd hq' (by decide)
            · split at hq
              · cases hq; exact Nat.one_pos
              · cases hq
        · cases h
theorem picEnd_ge {l : List Nat} {i : Nat} : i ≤ picEnd l i := by
  unfold picEnd
  split
  · rename_i h; exact Nat.le_sub_one_of_lt h.1
  · exact picRun_ge
theorem f_add_tokens : Fn 242 7 (fun σ vs Q X => ∃ k l r c, vs = [.loc k, lnV l (plc r c l.length)] ∧ σ.pend = none ∧ l.length ≤ big ∧ k < σ.ls.length ∧ σ.ls.getD k [] = [] ∧ outF (rd l l.length 0 false []) (fun acc => Q .none ⟨σ.ls.set k (acc.map (tokV r c)), none⟩) (fun j => ∀ m A, X (fault (plc r c l.length) m j) ⟨σ.ls.set k A, none⟩)) := by
  refine' fn_intro (n := 15) (rm := 6) (T := _) (ps := [Str.ofString "tokens", Str.ofString "line"]) (fun P => by rfl) (fun P => by kernel_rfl) ?r1 ?r2 (hp_of (by rfl)) ?r4 ?r5 ?r6 (Nat.le_refl _) ?r7 (by rfl)
  case r6 =>
    refine' @exs_as _ _ _ _ _ ((cx_cons (cx_assign (cv_nat 0) rfl rfl (fun _ => rfl)) (cx_cons (cx_assign cv_bool rfl rfl (fun _ => rfl)) (cx_cons (cx_while (cb_cmp (cv_var rfl rfl) (cv_callB (g_len rfl) (cs_cons (cv_attr (cv_var rfl rfl) 38 at_text (fun _ => rfl)) cs_nil (fun _ => se_Attribute)) b_len (fun _ => rfl) (fun _ => rfl) (fun _ => rfl)) rfl) (cx_cons (cx_if (cb_plain (cv_call f_is_blank_at (by decide) (g_is_blank_at rfl) (cs_cons (cv_attr (cv_var rfl rfl) 38 at_text (fun _ => rfl)) (cs_cons (cv_var rfl rfl) cs_nil (fun _ => se_Name)) (fun _ => se_Attribute)) (fun P => by kernel_rfl) (fun _ => rfl) (fun _ => rfl) (fun _ => rfl)) (fun _ => rfl)) (cx_cons (cx_assign (cv_add (cv_var rfl rfl) (cv_nat 1)) rfl rfl (fun _ => rfl)) (cx_cons cx_cont cx_nil)) cx_nil) (cx_cons (cx_assign (cv_item (cv_attr (cv_var rfl rfl) 38 at_places (fun _ => rfl)) (cv_var rfl rfl) (fun _ _ _ => rfl)) rfl rfl (fun _ => rfl)) (cx_cons (cx_if (tst_by (cb_bool (cb_and (cb_plain (cv_call f_is_picture_next (by decide) (g_is_picture_next rfl) (cs_cons (cv_var rfl rfl) cs_nil (fun _ => se_Name)) (fun P => by kernel_rfl) (fun _ => rfl) (fun _ => rfl) (fun _ => rfl)) (fun _ => rfl)) (cb_and (cb_not (cb_plain (cv_var rfl rfl) (fun _ => rfl))) (cb_and (cb_plain (cv_call f_is_word_is (by decide) (g_is_word_is rfl) (cs_cons (cv_attr (cv_var rfl rfl) 38 at_text (fun _ => rfl)) (cs_cons (cv_var rfl rfl) cs_nil (fun _ => se_Name)) (fun _ => se_Attribute)) (fun P => by kernel_rfl) (fun _ => rfl) (fun _ => rfl) (fun _ => rfl)) (fun _ => rfl)) cb_and_nil)))) cut_is) (cx_cons (cx_assign cv_bool rfl rfl (fun _ => rfl)) (cx_cons (cx_assign (cv_add (cv_var rfl rfl) (cv_nat 2)) rfl rfl (fun _ => rfl)) (cx_cons cx_cont cx_nil))) cx_nil) (cx_cons (cx_if (cb_plain (cv_call f_is_picture_next (by decide) (g_is_picture_next rfl) (cs_cons (cv_var rfl rfl) cs_nil (fun _ => se_Name)) (fun P => by kernel_rfl) (fun _ => rfl) (fun _ => rfl) (fun _ => rfl)) (fun _ => rfl)) (cx_cons (cx_assign (cv_str (l := [112, 105, 99, 116, 117, 114, 101]) (by decide) (by decide)) rfl rfl (fun _ => rfl)) (cx_cons (cx_assignT (cv_call f_checked_picture (by decide) (g_checked_picture rfl) (cs_cons (cv_var rfl rfl) (cs_cons (cv_var rfl rfl) cs_nil (fun _ => se_Name)) (fun _ => se_Name)) (fun P => by kernel_rfl) (fun _ => rfl) (fun _ => rfl) (fun _ => rfl)) (bnd_tup2 rfl rfl rfl rfl) (by decide) (fun _ => rfl) (fun _ _ => rfl)) cx_nil)) (cx_cons (cx_assignT (cv_call f_worth_at (by decide) (g_worth_at rfl) (cs_cons (cv_var rfl rfl) (cs_cons (cv_var rfl rfl) cs_nil (fun _ => se_Name)) (fun _ => se_Name)) (fun P => by kernel_rfl) (fun _ => rfl) (fun _ => rfl) (fun _ => rfl)) (bnd_tup3 rfl rfl rfl rfl rfl rfl) (by decide) (fun _ => rfl) (fun _ _ => rfl)) cx_nil)) (cx_cons (cx_append (cv_var rfl rfl) (cv_call f_Token (by decide) (g_Token rfl) (cs_cons (cv_var rfl rfl) (cs_cons (cv_var rfl rfl) (cs_cons (cv_var rfl rfl) (cs_cons (ev_by (cv_chain2 (cv_nat 8) (cv_item (cv_var rfl rfl) (cv_nat 1) (fun _ _ _ => rfl)) (cv_nat 11) rfl) cut_col) cs_nil (fun _ => se_Compare)) (fun _ => se_Name)) (fun _ => se_Name)) (fun _ => se_Name)) (fun P => by kernel_rfl) (fun _ => rfl) (fun _ => rfl) (fun _ => rfl)) (fun _ => rfl) (fun _ => rfl) (fun _ => rfl)) (cx_cons (cx_assign cv_bool rfl rfl (fun _ => rfl)) (cx_cons (cx_assign (cv_var rfl rfl) rfl rfl (fun _ => rfl)) cx_nil)))))))) cx_nil)))) rfl
  case r1 => intro xs h; obtain ⟨a, b, rfl⟩ := len2 h; rfl
  case r2 => decide
  case r4 => decide
  case r5 => decide
  case r7 =>
    rintro σ _ Q X ⟨k, l, r, c, rfl, hp, hl, hk, h0, hQ⟩
    refine ⟨hp, rfl, ?_⟩
    refine ⟨fun n st => ∃ (i : Nat) (was : Bool) (acc : List Tok) (p1 p2 p3 p4 : Option V), st = ⟨[some (.loc k), some (lnV l (plc r c l.length)), some (.int i), some (.bool was), p1, p2, p3, p4, none, none, none, none, none, none, none], ⟨σ.ls.set k (acc.map (tokV r c)), none⟩, []⟩ ∧ l.length - i ≤ n ∧ acc.length ≤ i ∧ outF (rd l n i was acc) (fun acc => Q .none ⟨σ.ls.set k (acc.map (tokV r c)), none⟩) (fun j => ∀ m A, X (fault (plc r c l.length) m j) ⟨σ.ls.set k A, none⟩), l.length, ⟨0, false, [], none, none, none, none, ?_, Nat.le_refl _, Nat.le_refl _, hQ⟩, ?_⟩
    · have e : σ = ⟨σ.ls.set k [], none⟩ := by
        obtain ⟨ls, pd⟩ := σ
        cases hp
        have : ls.set k [] = ls := by
          refine List.ext_getElem? fun j => ?_
          rw [List.getElem?_set]
          split
          · rename_i e; subst e
            have hk : k < ls.length := hk
            have : ls.getD k [] = [] := h0
            rw [List.getD_eq_getElem?_getD, List.getElem?_eq_getElem hk] at this
            rw [List.getElem?_eq_getElem hk]; exact congrArg some this.symm
          · rfl
        rw [this]
      exact congrArg (fun z => St.mk _ z []) e
    rintro n _ ⟨i, was, acc, p1, p2, p3, p4, rfl, hi, ha, h⟩
    have hg : ∀ A : List V, (σ.ls.set k A).getD k [] = A := fun A => by rw [List.getD_eq_getElem?_getD, List.getElem?_set_self hk]; rfl
    dsimp only [tVal,  tVar, tCell, tBin, tCmp, tNot, tNeg, tAnd, tOr, tIfe, tTup, tLst, tLstL, tBlt, tCall, tM0, tM1, tNil, tCons, tSS, tSl, tNSL, tItem, tAttr, tStrike, tMeth, tExcAt, tItr, tRange, tComp, bCmp, bChain, tChain, bNot, bVal, bAnd, bOr, bPlain, bSplit, tEnd, tSeq, tRet, tRet0, tCont, tSet, tIf, tExpr, tWhile, tFor, tRaise, tSetB, tSet2, tSet3, tAppend, tTry, tUndbl, d_eq1, vars0, d_int, d_nat, d_str, d_one, d_two, d_addN, d_addS, d_itS, d_itT, d_itL, d_itK, d_itSM, d_itKM, d_nt, d_nf, d_t, d_f, opNeg, slM, d_text, d_places, d_textL, d_placesL, d_kind, d_worth, d_at, d_isin, opSub, opMod, opDiv, opPow, opMul, opCmp, cLt, cLe, cLes, cEq, cIn, cNin, sp, slSS, slSN, slNS, oLen, oOrd, oChr, oMin, oAbs, oUpper, oIsL, oIsT, truth, bName, bTup2, bTup3, List.getElem?_cons_zero, List.getElem?_cons_succ, List.map_cons, List.map_nil, List.set_cons_zero, List.set_cons_succ]
    refine ⟨fun hlt => ?_, fun hge => .inl ?_⟩
    · obtain ⟨n, rfl⟩ : ∃ m, n = m + 1 := ⟨n - 1, by omega⟩
      unfold rd at h
      rw [if_pos hlt] at h
      refine ⟨_, _, rfl, rfl, hlt, fun h1 => ?_, fun h1 => ?_⟩
      · rw [if_pos h1] at h
        exact ⟨n, Nat.lt_succ_self n, i + 1, was, acc, p1, p2, p3, p4, rfl, by omega, by omega, h⟩
      rw [if_neg h1] at h
      have hL := plc_ok (r := r) (c := c) hl (Nat.zero_lt_of_lt hlt)
      rw [plc_len, plc_at hlt]
      refine ⟨Nat.lt_of_le_of_lt hl (by decide), hlt, _, _, _, _, _, _, _, _, rfl, rfl, rfl, rfl, rfl, hg _, (by omega), hl, fun h2 => ?_, fun h2 => ?_⟩
      · rw [if_pos h2] at h
        exact ⟨n, Nat.lt_succ_self n, i + 2, true, acc, _, _, _, _, rfl, by omega, by omega, h⟩
      rw [if_neg h2] at h
      refine ⟨_, _, _, _, rfl, rfl, hg _, (by omega), ?_⟩
      have room : ((σ.ls.set k (acc.map (tokV r c))).getD k []).length ≤ 65536 := by rw [hg, List.length_map]; exact Nat.le_trans ha (Nat.le_trans (Nat.le_of_lt hlt) (Nat.le_trans hl (by decide)))
      have more : ∀ t : Tok, (acc ++ [t]).length = acc.length + 1 := fun t => by rw [List.length_append]; rfl
      cases hd : due acc with
      | true =>
        rw [if_pos hd] at h
        refine ⟨_, _, _, rfl, rfl, hL, hlt, fun h3 => ?_, fun h3 w => .inl ?_⟩
        · rw [if_neg h3] at h
          have hgt := Nat.lt_of_le_of_ne (picEnd_ge (l := l) (i := i)) (Ne.symm h3)
          exact ⟨_, _, _, rfl, rfl, rfl, room, n, Nat.lt_succ_self n, picEnd l i, false, _, _, _, _, _, congrArg (fun z => St.mk _ ⟨z, none⟩ []) (app_eq (t := (kPicture, (cut l i (picEnd l i)).map upA, i)) hk), by omega, by rw [more]; omega, h⟩
        · rw [if_pos h3] at h
          exact h w _
      | false =>
        rw [if_neg fun z => Bool.noConfusion (hd.symm.trans z)] at h
        refine ⟨_, _, _, rfl, rfl, hL, hlt, ?_⟩
        cases hn : next l i with
        | inl j =>
          rw [hn] at h
          exact fun m => .inl (h m _)
        | inr p =>
          rw [hn] at h
          have hgt := next_gt hlt hn
          exact ⟨_, _, _, rfl, rfl, rfl, room, n, Nat.lt_succ_self n, p.2.2, false, _, _, _, _, _, congrArg (fun z => St.mk _ ⟨z, none⟩ []) (app_eq (t := (p.1, p.2.1, i)) hk), by omega, by rw [more]; omega, h⟩
    · cases n with
      | zero => exact h
      | succ n => unfold rd at h; rw [if_neg hge] at h; exact h
end Mine
namespace Mine
theorem m_told : MethOk 109 (Str.ofString "told") 106 := fun P => ⟨by kernel_rfl, by kernel_rfl, by kernel_rfl, by kernel_rfl⟩
theorem f_told : Fn 106 1 (fun σ vs Q X => ∃ t r c, vs = [tokV r c t] ∧ σ.pend = none ∧ Q (.tup [.str t.1, .str t.2.1]) σ) := by
  refine' fn_intro (n := 1) (rm := 0) (T := _) (ps := [Str.ofString "self"]) (fun P => by rfl) (fun P => by kernel_rfl) ?r1 ?r2 (hp_of (by rfl)) ?r4 ?r5 ?r6 (Nat.le_refl _) ?r7 (by rfl)
  case r6 =>
    with_reducible apply exs_as
    · exact (cx_cons (cx_ret (cv_tuple (cs_cons (cv_attr (cv_var rfl rfl) 109 at_kind (fun _ => rfl)) (cs_cons (cv_attr (cv_var rfl rfl) 109 at_worth (fun _ => rfl)) cs_nil (fun _ => rfl)) (fun _ => rfl)))) cx_nil)
    · refine' rfl
  case r1 => intro xs h; obtain ⟨a, rfl⟩ := len1 h; rfl
  case r2 => decide
  case r4 => decide
  case r5 => decide
  case r7 =>
    rintro σ _ Q X ⟨t, r, c, rfl, hp, hQ⟩
    refine ⟨hp, rfl, ?_⟩
    dsimp only [tokV]
    dsimp only [tVal,  tVar, tCell, tBin, tCmp, tNot, tNeg, tAnd, tOr, tIfe, tTup, tLst, tLstL, tBlt, tCall, tM0, tM1, tNil, tCons, tSS, tSl, tNSL, tItem, tAttr, tStrike, tMeth, tExcAt, tItr, tRange, tComp, bCmp, bChain, tChain, bNot, bVal, bAnd, bOr, bPlain, bSplit, tEnd, tSeq, tRet, tRet0, tCont, tSet, tIf, tExpr, tWhile, tFor, tRaise, tSetB, tSet2, tSet3, tAppend, tTry, tUndbl, d_eq1, vars0, d_int, d_nat, d_str, d_one, d_two, d_addN, d_addS, d_itS, d_itT, d_itL, d_itK, d_itSM, d_itKM, d_nt, d_nf, d_t, d_f, opNeg, slM, d_text, d_places, d_textL, d_placesL, d_kind, d_worth, d_at, d_isin, opSub, opMod, opDiv, opPow, opMul, opCmp, cLt, cLe, cLes, cEq, cIn, cNin, sp, slSS, slSN, slNS, oLen, oOrd, oChr, oMin, oAbs, oUpper, oIsL, oIsT, truth, bName, bTup2, bTup3, List.getElem?_cons_zero, List.getElem?_cons_succ, List.map_cons, List.map_nil, List.set_cons_zero, List.set_cons_succ]
    exact ⟨(show 2 < 1000 by decide), back_ret hQ⟩
theorem f_tokens_of : Fn 256 8 (fun σ vs Q X => ∃ l r c, vs = [.list [lnV l (plc r c l.length)]] ∧ σ.pend = none ∧ l.length ≤ big ∧ outF (rd l l.length 0 false []) (fun acc => Q (.loc σ.ls.length) ⟨σ.ls ++ [acc.map (tokV r c)], none⟩) (fun j => ∀ m, X (fault (plc r c l.length) m j) σ)) := by
  refine' fn_intro (n := 4) (rm := 7) (T := _) (ps := [Str.ofString "lines"]) (fun P => by rfl) (fun P => by kernel_rfl) ?r1 ?r2 (hp_of (by rfl)) ?r4 ?r5 ?r6 (Nat.le_refl _) ?r7 (by rfl)
  case r6 =>
    refine' @exs_as _ _ _ _ _ ((cx_cons (cx_assign (cv_listL cs_nil) rfl rfl (fun _ => rfl)) (cx_cons (cx_for (ci_ev (cv_var rfl rfl) (by decide)) (cx_cons (cx_expr (cv_call f_add_tokens (by decide) (g_add_tokens rfl) (cs_cons (cv_var rfl rfl) (cs_cons (cv_var rfl rfl) cs_nil (fun _ => se_Name)) (fun _ => se_Name)) (fun P => by kernel_rfl) (fun _ => rfl) (fun _ => rfl) (fun _ => rfl)) (fun _ => rfl)) cx_nil) rfl rfl (by decide) (fun _ _ => rfl)) (cx_cons (cx_ret (cv_var rfl rfl)) cx_nil)))) rfl
  case r1 => intro xs h; obtain ⟨a, rfl⟩ := len1 h; rfl
  case r2 => decide
  case r4 => decide
  case r5 => decide
  case r7 =>
    rintro σ _ Q X ⟨l, r, c, rfl, hp, hl, hQ⟩
    refine ⟨hp, rfl, ?_⟩
    obtain ⟨ls, pd⟩ := σ
    cases hp
    dsimp only [tVal,  tVar, tCell, tBin, tCmp, tNot, tNeg, tAnd, tOr, tIfe, tTup, tLst, tLstL, tBlt, tCall, tM0, tM1, tNil, tCons, tSS, tSl, tNSL, tItem, tAttr, tStrike, tMeth, tExcAt, tItr, tRange, tComp, bCmp, bChain, tChain, bNot, bVal, bAnd, bOr, bPlain, bSplit, tEnd, tSeq, tRet, tRet0, tCont, tSet, tIf, tExpr, tWhile, tFor, tRaise, tSetB, tSet2, tSet3, tAppend, tTry, tUndbl, d_eq1, vars0, d_int, d_nat, d_str, d_one, d_two, d_addN, d_addS, d_itS, d_itT, d_itL, d_itK, d_itSM, d_itKM, d_nt, d_nf, d_t, d_f, opNeg, slM, d_text, d_places, d_textL, d_placesL, d_kind, d_worth, d_at, d_isin, opSub, opMod, opDiv, opPow, opMul, opCmp, cLt, cLe, cLes, cEq, cIn, cNin, sp, slSS, slSN, slNS, oLen, oOrd, oChr, oMin, oAbs, oUpper, oIsL, oIsT, truth, bName, bTup2, bTup3, List.getElem?_cons_zero, List.getElem?_cons_succ, List.map_cons, List.map_nil, List.set_cons_zero, List.set_cons_succ]
    have hs : ∀ B : List V, (ls ++ [[]]).set ls.length B = ls ++ [B] := fun B => by rw [List.set_append_right _ _ (Nat.le_refl _), Nat.sub_self]; rfl
    have hlt : ls.length < (ls ++ [([] : List V)]).length := by rw [List.length_append]; exact Nat.lt_succ_self _
    refine ⟨(show 0 < 1000 by decide), rfl, fun k st => (k = 0 ∧ st = ⟨[some (.list [lnV l (plc r c l.length)]), some (.loc ls.length), none, none], ⟨ls ++ [[]], none⟩, []⟩) ∨ (k = 1 ∧ ∃ acc, rd l l.length 0 false [] = .inr acc ∧ st = ⟨[some (.list [lnV l (plc r c l.length)]), some (.loc ls.length), some (lnV l (plc r c l.length)), none], ⟨ls ++ [acc.map (tokV r c)], none⟩, []⟩), .inl ⟨rfl, rfl⟩, ?_⟩
    rintro k st (⟨rfl, rfl⟩ | ⟨rfl, acc, ha, rfl⟩)
    · refine ⟨rfl, fun v hv => ?_, nofun⟩
      cases hv
      dsimp only [tVal,  tVar, tCell, tBin, tCmp, tNot, tNeg, tAnd, tOr, tIfe, tTup, tLst, tLstL, tBlt, tCall, tM0, tM1, tNil, tCons, tSS, tSl, tNSL, tItem, tAttr, tStrike, tMeth, tExcAt, tItr, tRange, tComp, bCmp, bChain, tChain, bNot, bVal, bAnd, bOr, bPlain, bSplit, tEnd, tSeq, tRet, tRet0, tCont, tSet, tIf, tExpr, tWhile, tFor, tRaise, tSetB, tSet2, tSet3, tAppend, tTry, tUndbl, d_eq1, vars0, d_int, d_nat, d_str, d_one, d_two, d_addN, d_addS, d_itS, d_itT, d_itL, d_itK, d_itSM, d_itKM, d_nt, d_nf, d_t, d_f, opNeg, slM, d_text, d_places, d_textL, d_placesL, d_kind, d_worth, d_at, d_isin, opSub, opMod, opDiv, opPow, opMul, opCmp, cLt, cLe, cLes, cEq, cIn, cNin, sp, slSS, slSN, slNS, oLen, oOrd, oChr, oMin, oAbs, oUpper, oIsL, oIsT, truth, bName, bTup2, bTup3, List.getElem?_cons_zero, List.getElem?_cons_succ, List.map_cons, List.map_nil, List.set_cons_zero, List.set_cons_succ]
      refine ⟨_, _, _, _, rfl, rfl, hl, hlt, ?_, ?_⟩
      · rw [List.getD_eq_getElem?_getD, List.getElem?_append_right (Nat.le_refl _), Nat.sub_self]; rfl
      · cases hr : rd l l.length 0 false [] with
        | inl j =>
          rw [hr] at hQ
          refine fun m A => .inr ⟨by rw [hs, List.length_append]; exact Nat.le_add_right _ _, ?_⟩
          dsimp only
          rw [hs, List.take_left']
          · exact hQ m
          · rfl
        | inr acc =>
          refine .inr ⟨rfl, acc, rfl, ?_⟩
          rw [hs]
    · refine ⟨rfl, nofun, fun _ => ?_⟩
      dsimp only [tVal,  tVar, tCell, tBin, tCmp, tNot, tNeg, tAnd, tOr, tIfe, tTup, tLst, tLstL, tBlt, tCall, tM0, tM1, tNil, tCons, tSS, tSl, tNSL, tItem, tAttr, tStrike, tMeth, tExcAt, tItr, tRange, tComp, bCmp, bChain, tChain, bNot, bVal, bAnd, bOr, bPlain, bSplit, tEnd, tSeq, tRet, tRet0, tCont, tSet, tIf, tExpr, tWhile, tFor, tRaise, tSetB, tSet2, tSet3, tAppend, tTry, tUndbl, d_eq1, vars0, d_int, d_nat, d_str, d_one, d_two, d_addN, d_addS, d_itS, d_itT, d_itL, d_itK, d_itSM, d_itKM, d_nt, d_nf, d_t, d_f, opNeg, slM, d_text, d_places, d_textL, d_placesL, d_kind, d_worth, d_at, d_isin, opSub, opMod, opDiv, opPow, opMul, opCmp, cLt, cLe, cLes, cEq, cIn, cNin, sp, slSS, slSN, slNS, oLen, oOrd, oChr, oMin, oAbs, oUpper, oIsL, oIsT, truth, bName, bTup2, bTup3, List.getElem?_cons_zero, List.getElem?_cons_succ, List.map_cons, List.map_nil, List.set_cons_zero, List.set_cons_succ]
      rw [ha] at hQ
      exact .inl hQ
end Mine
namespace Mine
theorem f_law_run : Fn 277 2 (fun σ vs Q X => ∃ l i s, vs = [.str l, .int (i : Nat), .str s] ∧ σ.pend = none ∧ Q (.int (runEnd l i s : Nat)) σ) := by
  refine' fn_intro (n := 4) (rm := 1) (T := _) (ps := [Str.ofString "text", Str.ofString "at", Str.ofString "signs"]) (fun P => by rfl) (fun P => by kernel_rfl) ?r1 ?r2 (hp_of (by rfl)) ?r4 ?r5 ?r6 (Nat.le_refl _) ?r7 (by rfl)
  case r6 =>
    refine' @exs_as _ _ _ _ _ ((cx_cons (cx_while (cb_bool (cb_and (cb_cmp (cv_var rfl rfl) (cv_callB (g_len rfl) (cs_cons (cv_var rfl rfl) cs_nil (fun _ => se_Name)) b_len (fun _ => rfl) (fun _ => rfl) (fun _ => rfl)) rfl) (cb_and (cb_cmp (cv_upper (cv_item (cv_var rfl rfl) (cv_var rfl rfl) (fun _ _ _ => rfl)) (fun _ => rfl)) (cv_var rfl rfl) rfl) cb_and_nil))) (cx_cons (cx_assign (cv_add (cv_var rfl rfl) (cv_nat 1)) rfl rfl (fun _ => rfl)) cx_nil)) (cx_cons (cx_ret (cv_var rfl rfl)) cx_nil))) rfl
  case r1 => intro xs h; obtain ⟨a, b, c, rfl⟩ := len3 h; rfl
  case r2 => decide
  case r4 => decide
  case r5 => decide
  case r7 =>
    rintro σ _ Q X ⟨l, i, s, rfl, hp, hQ⟩
    refine ⟨hp, rfl, ?_⟩
    refine ⟨fun n st => ∃ j : Nat, st = ⟨[some (.str l), some (.int j), some (.str s), none], σ, []⟩ ∧ n = l.length - j ∧ runEnd l j s = runEnd l i s, _, ⟨i, rfl, rfl, rfl⟩, ?_⟩
    rintro n _ ⟨j, rfl, rfl, he⟩
    dsimp only [tVal,  tVar, tCell, tBin, tCmp, tNot, tNeg, tAnd, tOr, tIfe, tTup, tLst, tLstL, tBlt, tCall, tM0, tM1, tNil, tCons, tSS, tSl, tNSL, tItem, tAttr, tStrike, tMeth, tExcAt, tItr, tRange, tComp, bCmp, bChain, tChain, bNot, bVal, bAnd, bOr, bPlain, bSplit, tEnd, tSeq, tRet, tRet0, tCont, tSet, tIf, tExpr, tWhile, tFor, tRaise, tSetB, tSet2, tSet3, tAppend, tTry, tUndbl, d_eq1, vars0, d_int, d_nat, d_str, d_one, d_two, d_addN, d_addS, d_itS, d_itT, d_itL, d_itK, d_itSM, d_itKM, d_nt, d_nf, d_t, d_f, opNeg, slM, d_text, d_places, d_textL, d_placesL, d_kind, d_worth, d_at, d_isin, opSub, opMod, opDiv, opPow, opMul, opCmp, cLt, cLe, cLes, cEq, cIn, cNin, sp, slSS, slSN, slNS, oLen, oOrd, oChr, oMin, oAbs, oUpper, oIsL, oIsT, truth, bName, bTup2, bTup3, List.getElem?_cons_zero, List.getElem?_cons_succ, List.map_cons, List.map_nil, List.set_cons_zero, List.set_cons_succ]
    refine ⟨fun h => ⟨h, fun h1 => ⟨_, ?_, j + 1, rfl, rfl, (runEnd_step h h1).symm.trans he⟩, fun h1 => back_ret ?_⟩, fun h => back_ret ?_⟩
    · omega
    · rw [← runEnd_stop h h1, he]; exact hQ
    · rw [← runEnd_end (s := s) (Nat.le_of_not_lt h), he]; exact hQ
noncomputable abbrev t_alq : List Nat := t_law_letters ++ t_law_figures ++ [39, 34]
theorem upA_eq {c d : Nat} (hd : d < 65) : upA c = d ↔ c = d := by unfold upA; split <;> omega
theorem alq_iff {c : Nat} : upA c ∈ t_alq ↔ (upA c ∈ t_WORD_SIGNS ∧ c ≠ 45) ∨ c ∈ t_QUOTES := by
  have e1 : t_alq = t_LETTERS ++ t_FIGURES ++ [39, 34] := rfl
  have hq : c ∈ t_QUOTES ↔ upA c ∈ [39, 34] := by
    simp only [t_QUOTES, List.mem_cons, List.not_mem_nil, or_false, upA_eq (show 39 < 65 by decide), upA_eq (show 34 < 65 by decide)]
    exact Or.comm
  have h45 : ¬ (45 ∈ t_LETTERS ++ t_FIGURES) := by decide
  rw [e1, signs_eq, List.mem_append, List.mem_append (t := [45]), hq, List.mem_singleton, upA_eq (show 45 < 65 by decide)]
  refine or_congr ⟨fun h => ⟨.inl h, fun z => h45 ?_⟩, fun h => h.1.resolve_right h.2⟩ Iff.rfl
  rwa [(upA_eq (show 45 < 65 by decide)).mpr z] at h
theorem f_law_apart : Fn 284 2 (fun σ vs Q X => ∃ l i, vs = [.str l, .int (i : Nat)] ∧ σ.pend = none ∧ sp (Apart l i) (fun b => Q (.bool b) σ)) := by
  refine' fn_intro (n := 4) (rm := 1) (T := _) (ps := [Str.ofString "text", Str.ofString "end"]) (fun P => by rfl) (fun P => by kernel_rfl) ?r1 ?r2 (hp_of (by rfl)) ?r4 ?r5 ?r6 (Nat.le_refl _) ?r7 (by rfl)
  case r6 =>
    refine' @exs_as _ _ _ _ _ ((cx_cons (cx_if (cb_cmp (cv_sliceSS (cv_var rfl rfl) (cv_var rfl rfl) (cv_add (cv_var rfl rfl) (cv_nat 1)) (fun _ _ => rfl)) (cv_str (l := []) (by decide) (by decide)) rfl) (cx_cons (cx_ret cv_bool) cx_nil) cx_nil) (cx_cons (cx_if (cb_cmp (cv_upper (cv_item (cv_var rfl rfl) (cv_var rfl rfl) (fun _ _ _ => rfl)) (fun _ => rfl)) (cv_add (cv_add (g_law_letters rfl) (g_law_figures rfl)) (cv_str (l := [39, 34]) (by decide) (by decide))) rfl) (cx_cons (cx_ret cv_bool) cx_nil) cx_nil) (cx_cons (cx_ret (cv_not (cv_boolop (cl_and (cv_cmp (cv_item (cv_var rfl rfl) (cv_var rfl rfl) (fun _ _ _ => rfl)) (cv_str (l := [46]) (by decide) (by decide)) rfl) (cl_and (cv_cmp (cv_sliceSS (cv_var rfl rfl) (cv_add (cv_var rfl rfl) (cv_nat 1)) (cv_add (cv_var rfl rfl) (cv_nat 2)) (fun _ _ => rfl)) (cv_str (l := []) (by decide) (by decide)) rfl) (cl_one (cv_cmp (cv_item (cv_var rfl rfl) (cv_add (cv_var rfl rfl) (cv_nat 1)) (fun _ _ _ => rfl)) (g_law_figures rfl) rfl))))))) cx_nil)))) rfl
  case r1 => intro xs h; obtain ⟨a, b, rfl⟩ := len2 h; rfl
  case r2 => decide
  case r4 => decide
  case r5 => decide
  case r7 =>
    rintro σ _ Q X ⟨l, i, rfl, hp, hQ⟩
    refine ⟨hp, rfl, ?_⟩
    dsimp only [tVal,  tVar, tCell, tBin, tCmp, tNot, tNeg, tAnd, tOr, tIfe, tTup, tLst, tLstL, tBlt, tCall, tM0, tM1, tNil, tCons, tSS, tSl, tNSL, tItem, tAttr, tStrike, tMeth, tExcAt, tItr, tRange, tComp, bCmp, bChain, tChain, bNot, bVal, bAnd, bOr, bPlain, bSplit, tEnd, tSeq, tRet, tRet0, tCont, tSet, tIf, tExpr, tWhile, tFor, tRaise, tSetB, tSet2, tSet3, tAppend, tTry, tUndbl, d_eq1, vars0, d_int, d_nat, d_str, d_one, d_two, d_addN, d_addS, d_itS, d_itT, d_itL, d_itK, d_itSM, d_itKM, d_nt, d_nf, d_t, d_f, opNeg, slM, d_text, d_places, d_textL, d_placesL, d_kind, d_worth, d_at, d_isin, opSub, opMod, opDiv, opPow, opMul, opCmp, cLt, cLe, cLes, cEq, cIn, cNin, sp, slSS, slSN, slNS, oLen, oOrd, oChr, oMin, oAbs, oUpper, oIsL, oIsT, truth, bName, bTup2, bTup3, List.getElem?_cons_zero, List.getElem?_cons_succ, List.map_cons, List.map_nil, List.set_cons_zero, List.set_cons_succ]
    refine ⟨fun h => back_ret (hQ.1 (.inl (cut1_nil.mp h))), fun h => ?_⟩
    have hi : i < l.length := Nat.lt_of_not_le fun q => h (cut1_nil.mpr q)
    refine ⟨hi, (by decide), (by decide), fun h1 => back_ret (hQ.2 fun z => ?_), fun h1 => ?_⟩
    · rcases z with z | z
      · exact Nat.not_le_of_lt hi z
      · exact (alq_iff.mp h1).elim z.1 z.2.1
    have w : ∀ z : ¬ (l.getD i 0 = 46 ∧ FigAt l (i + 1)), Apart l i := fun z => .inr ⟨fun q => h1 (alq_iff.mpr (.inl q)), fun q => h1 (alq_iff.mpr (.inr q)), z⟩
    refine ⟨hi, fun h2 => ⟨fun h3 => back_ret (hQ.1 (w fun z => Nat.not_le_of_lt z.2.1 (cut1_nil.mp h3))), fun h3 => ?_⟩, fun h2 => back_ret (hQ.1 (w fun z => h2 z.1))⟩
    have hi1 : i + 1 < l.length := Nat.lt_of_not_le fun q => h3 (cut1_nil.mpr q)
    refine ⟨hi1, fun h4 => back_ret (hQ.2 fun z => ?_), fun h4 => back_ret (hQ.1 (w fun z => h4 z.2.2))⟩
    rcases z with z | z
    · exact Nat.not_le_of_lt hi z
    · exact z.2.2 ⟨h2, hi1, h4⟩
end Mine
namespace Mine
noncomputable def outV (o : Out) : V := match o with | .inl j => .int (j : Nat) | .inr p => .tup [.str p.1, .str p.2.1, .int (p.2.2 : Nat)]
theorem Lit_w {q : Nat} : ∀ {m : List Nat} {p : List Nat × Nat}, Lit q m = some p → 1 ≤ p.2 ∧ undbl q (m.take (p.2 - 1)) = p.1
  | [], _, h => nomatch h
  | [c], p, h => by
    unfold Lit at h
    split at h
    · cases h; exact ⟨Nat.le_refl _, rfl⟩
    · cases h
  | c :: d :: r, p, h => by
    unfold Lit at h
    split at h
    · split at h
      · rename_i h1 h2
        obtain ⟨a, ha, rfl⟩ := Option.map_eq_some_iff.mp h
        obtain ⟨p1, e⟩ := Lit_w ha
        refine ⟨Nat.le_add_left _ _, ?_⟩
        show undbl q ((c :: d :: r).take (a.2 + 2 - 1)) = q :: a.1
        rw [show a.2 + 2 - 1 = (a.2 - 1) + 2 by omega, List.take_succ_cons, List.take_succ_cons, undbl, if_pos ⟨h1, h2⟩, e]
      · cases h; exact ⟨Nat.le_refl _, rfl⟩
    · rename_i h1
      obtain ⟨a, ha, rfl⟩ := Option.map_eq_some_iff.mp h
      obtain ⟨p1, e⟩ := Lit_w ha
      refine ⟨Nat.le_add_left _ _, ?_⟩
      show undbl q ((c :: d :: r).take (a.2 + 1 - 1)) = c :: a.1
      rw [show a.2 + 1 - 1 = (a.2 - 1) + 1 by omega, List.take_succ_cons, ← e]
      cases hm : (d :: r).take (a.2 - 1) with
      | nil => rfl
      | cons x y => rw [undbl, if_neg fun z => h1 z.1]
theorem lit_w {l : List Nat} {q i : Nat} {p : List Nat × Nat} (h : lit l q (i + 1) = some p) : undbl q (cut l (i + 1) (p.2 - 1)) = p.1 := by
  obtain ⟨a, ha, rfl⟩ := Option.map_eq_some_iff.mp h
  obtain ⟨h1, e⟩ := Lit_w ha
  show undbl q ((l.drop (i + 1)).take (a.2 + (i + 1) - 1 - (i + 1))) = a.1
  rw [show a.2 + (i + 1) - 1 - (i + 1) = a.2 - 1 by omega, e]
theorem f_law_quoted : Fn 291 3 (fun σ vs Q X => ∃ l i, vs = [.str l, .int (i : Nat)] ∧ σ.pend = none ∧ l.length ≤ big ∧ i < l.length ∧ Q (outV (litTok l i)) σ) := by
  refine' fn_intro (n := 7) (rm := 2) (T := _) (ps := [Str.ofString "text", Str.ofString "at"]) (fun P => by rfl) (fun P => by kernel_rfl) ?r1 ?r2 (hp_of (by rfl)) ?r4 ?r5 ?r6 (Nat.le_refl _) ?r7 (by rfl)
  case r6 =>
    refine' @exs_as _ _ _ _ _ ((cx_cons (cx_assignS3 (cv_tuple (cs_cons (cv_item (cv_var rfl rfl) (cv_var rfl rfl) (fun _ _ _ => rfl)) (cs_cons (cv_add (cv_var rfl rfl) (cv_nat 1)) (cs_cons (cv_str (l := []) (by decide) (by decide)) cs_nil (fun _ => se_Constant)) (fun _ => se_BinOp)) (fun _ => se_Subscript))) rfl rfl rfl rfl rfl rfl (by decide) (fun _ => rfl) (fun env h => by cases env; cases h; rfl)) (cx_cons (cx_while (cb_cmp (cv_var rfl rfl) (cv_callB (g_len rfl) (cs_cons (cv_var rfl rfl) cs_nil (fun _ => se_Name)) b_len (fun _ => rfl) (fun _ => rfl) (fun _ => rfl)) rfl) (cx_cons (cx_if (cb_cmp (cv_item (cv_var rfl rfl) (cv_var rfl rfl) (fun _ _ _ => rfl)) (cv_var rfl rfl) rfl) (cx_cons (cx_assignS2 (cv_tuple (cs_cons (cv_add (cv_var rfl rfl) (cv_item (cv_var rfl rfl) (cv_var rfl rfl) (fun _ _ _ => rfl))) (cs_cons (cv_add (cv_var rfl rfl) (cv_nat 1)) cs_nil (fun _ => se_BinOp)) (fun _ => se_BinOp))) rfl rfl rfl rfl (by decide) (fun _ => rfl) (fun env h => by cases env; cases h; rfl)) cx_nil) (cx_cons (cx_if (cb_cmp (cv_sliceSS (cv_var rfl rfl) (cv_add (cv_var rfl rfl) (cv_nat 1)) (cv_add (cv_var rfl rfl) (cv_nat 2)) (fun _ _ => rfl)) (cv_var rfl rfl) rfl) (cx_cons (cx_assignS2 (cv_tuple (cs_cons (cv_add (cv_var rfl rfl) (cv_var rfl rfl)) (cs_cons (cv_add (cv_var rfl rfl) (cv_nat 2)) cs_nil (fun _ => se_BinOp)) (fun _ => se_BinOp))) rfl rfl rfl rfl (by decide) (fun _ => rfl) (fun env h => by cases env; cases h; rfl)) cx_nil) (cx_cons (cx_if (cb_not (cb_plain (cv_call f_law_apart (by decide) (g_law_apart rfl) (cs_cons (cv_var rfl rfl) (cs_cons (cv_add (cv_var rfl rfl) (cv_nat 1)) cs_nil (fun _ => se_BinOp)) (fun _ => se_Name)) (fun P => by kernel_rfl) (fun _ => rfl) (fun _ => rfl) (fun _ => rfl)) (fun _ => rfl))) (cx_cons (cx_ret (cv_add (cv_var rfl rfl) (cv_nat 1))) cx_nil) cx_nil) (cx_cons (cx_ret (cv_ife (cb_chain2 (cv_nat 1) (cv_callB (g_len rfl) (cs_cons (cv_var rfl rfl) cs_nil (fun _ => se_Name)) b_len (fun _ => rfl) (fun _ => rfl) (fun _ => rfl)) (cv_nat 160) rfl) (cv_tuple (cs_cons (cv_str (l := [108, 105, 116, 101, 114, 97, 108]) (by decide) (by decide)) (cs_cons (cv_var rfl rfl) (cs_cons (cv_add (cv_var rfl rfl) (cv_nat 1)) cs_nil (fun _ => se_BinOp)) (fun _ => se_Name)) (fun _ => se_Constant))) (cv_var rfl rfl))) cx_nil))) cx_nil)) cx_nil)) (cx_cons (cx_ret (cv_var rfl rfl)) cx_nil)))) rfl
  case r1 => intro xs h; obtain ⟨a, b, rfl⟩ := len2 h; rfl
  case r2 => decide
  case r4 => decide
  case r5 => decide
  case r7 =>
    rintro σ _ Q X ⟨l, i, rfl, hp, hl, hi, hQ⟩
    refine ⟨hp, rfl, ?_⟩
    dsimp only [tVal,  tVar, tCell, tBin, tCmp, tNot, tNeg, tAnd, tOr, tIfe, tTup, tLst, tLstL, tBlt, tCall, tM0, tM1, tNil, tCons, tSS, tSl, tNSL, tItem, tAttr, tStrike, tMeth, tExcAt, tItr, tRange, tComp, bCmp, bChain, tChain, bNot, bVal, bAnd, bOr, bPlain, bSplit, tEnd, tSeq, tRet, tRet0, tCont, tSet, tIf, tExpr, tWhile, tFor, tRaise, tSetB, tSet2, tSet3, tAppend, tTry, tUndbl, d_eq1, vars0, d_int, d_nat, d_str, d_one, d_two, d_addN, d_addS, d_itS, d_itT, d_itL, d_itK, d_itSM, d_itKM, d_nt, d_nf, d_t, d_f, opNeg, slM, d_text, d_places, d_textL, d_placesL, d_kind, d_worth, d_at, d_isin, opSub, opMod, opDiv, opPow, opMul, opCmp, cLt, cLe, cLes, cEq, cIn, cNin, sp, slSS, slSN, slNS, oLen, oOrd, oChr, oMin, oAbs, oUpper, oIsL, oIsT, truth, bName, bTup2, bTup3, List.getElem?_cons_zero, List.getElem?_cons_succ, List.map_cons, List.map_nil, List.set_cons_zero, List.set_cons_succ]
    refine ⟨hi, (show 3 < 1000 by decide), fun n st => ∃ (j : Nat) (w : List Nat), st = ⟨[some (.str l), some (.int i), some (.str [l.getD i 0]), some (.int j), some (.str w), none, none], σ, []⟩ ∧ n = l.length - j ∧ w.length ≤ j ∧ lit l (l.getD i 0) (i + 1) = (lit l (l.getD i 0) j).map (fun p => (w ++ p.1, p.2)), _, ⟨i + 1, [], rfl, rfl, Nat.zero_le _, ?_⟩, ?_⟩
    · cases lit l (l.getD i 0) (i + 1) <;> rfl
    rintro n _ ⟨j, w, rfl, rfl, hw, he⟩
    dsimp only [tVal,  tVar, tCell, tBin, tCmp, tNot, tNeg, tAnd, tOr, tIfe, tTup, tLst, tLstL, tBlt, tCall, tM0, tM1, tNil, tCons, tSS, tSl, tNSL, tItem, tAttr, tStrike, tMeth, tExcAt, tItr, tRange, tComp, bCmp, bChain, tChain, bNot, bVal, bAnd, bOr, bPlain, bSplit, tEnd, tSeq, tRet, tRet0, tCont, tSet, tIf, tExpr, tWhile, tFor, tRaise, tSetB, tSet2, tSet3, tAppend, tTry, tUndbl, d_eq1, vars0, d_int, d_nat, d_str, d_one, d_two, d_addN, d_addS, d_itS, d_itT, d_itL, d_itK, d_itSM, d_itKM, d_nt, d_nf, d_t, d_f, opNeg, slM, d_text, d_places, d_textL, d_placesL, d_kind, d_worth, d_at, d_isin, opSub, opMod, opDiv, opPow, opMul, opCmp, cLt, cLe, cLes, cEq, cIn, cNin, sp, slSS, slSN, slNS, oLen, oOrd, oChr, oMin, oAbs, oUpper, oIsL, oIsT, truth, bName, bTup2, bTup3, List.getElem?_cons_zero, List.getElem?_cons_succ, List.map_cons, List.map_nil, List.set_cons_zero, List.set_cons_succ]
    have hwl : ∀ (h : j < l.length) (x : Nat), (w ++ [x]).length ≤ 65536 ∧ (w ++ [x]).length = w.length + 1 := fun h x => by
      have := hl
      unfold big at this
      rw [List.length_append]
      exact ⟨by show w.length + 1 ≤ _; omega, rfl⟩
    unfold litTok at hQ
    refine ⟨fun h => ⟨h, fun h1 => ⟨fun h2 => ⟨(hwl h _).1, (show 2 < 1000 by decide), _, ?_, j + 2, w ++ [l.getD i 0], rfl, rfl, ?_, ?_⟩, fun h2 => ⟨_, _, rfl, hp, ?_⟩⟩, fun h1 => ⟨h, (hwl h _).1, (show 2 < 1000 by decide), _, ?_, j + 1, w ++ [l.getD j 0], rfl, rfl, ?_, ?_⟩⟩, fun h => back_ret ?_⟩
    · omega
    · rw [(hwl h _).2]; omega
    · obtain ⟨a, b⟩ := cut1_eq.mp h2
      rw [he, lit_dbl h1 a b, Option.map_map]
      congr 1; funext p; show (w ++ l.getD i 0 :: p.1, p.2) = _; rw [List.append_cons]
    · rw [lit_stop h h1 fun q => h2 (cut1_eq.mpr q)] at he
      have hw' := lit_w he
      rw [he] at hQ
      dsimp only [Option.map_some] at hQ hw'
      rw [List.append_nil] at hw'
      have hv : litW l i (j + 1) = w := hw'
      rw [hv] at hQ
      refine ⟨fun h3 => ⟨fun h4 => ⟨fun h5 => ⟨(show 3 < 1000 by decide), back_ret ?_⟩, fun h5 => back_ret ?_⟩, fun h4 => back_ret ?_⟩, fun h3 => back_ret ?_⟩
      · rwa [if_pos h3, if_pos ⟨h4, h5⟩] at hQ
      · rwa [if_pos h3, if_neg fun z => h5 z.2] at hQ
      · rwa [if_pos h3, if_neg fun z => h4 z.1] at hQ
      · rwa [if_neg h3] at hQ
    · omega
    · rw [(hwl h _).2]; omega
    · rw [he, lit_step h h1, Option.map_map]
      congr 1; funext p; show (w ++ l.getD j 0 :: p.1, p.2) = _; rw [List.append_cons]
    · rw [lit_none (Nat.le_of_not_lt h)] at he
      rw [he] at hQ
      exact hQ
end Mine
namespace Mine
theorem in_two {w a b : List Nat} {R : Bool → Prop} (h : sp (w = a ∨ w = b) R) : cInD (.str w) [.str a, .str b] R := by
  refine ⟨rfl, rfl, by simp [toD, PyData.depth], ?_⟩
  have e : ((toDs [V.str a, V.str b]).any fun y => PyData.eqv y (toD (.str w))) = true ↔ w = a ∨ w = b := by
    simp only [toDs, toD, List.any_cons, List.any_nil, Bool.or_false, Bool.or_eq_true, eqv_str]
    exact ⟨fun h => h.imp Eq.symm Eq.symm, fun h => h.imp Eq.symm Eq.symm⟩
  exact ⟨fun z => h.1 (e.mp z), fun z => h.2 fun q => z (e.mpr q)⟩
theorem in_three {w a b c : List Nat} {R : Bool → Prop} (h : sp (w ∈ [a, b, c]) R) : cInD (.str w) [.str a, .str b, .str c] R := by
  refine ⟨rfl, rfl, by simp [toD, PyData.depth], ?_⟩
  have e : ((toDs [V.str a, V.str b, V.str c]).any fun y => PyData.eqv y (toD (.str w))) = true ↔ w ∈ [a, b, c] := by
    simp only [toDs, toD, List.any_cons, List.any_nil, Bool.or_false, Bool.or_eq_true, eqv_str, List.mem_cons, List.not_mem_nil, or_false]
    exact ⟨fun h => h.imp Eq.symm fun h => h.imp Eq.symm Eq.symm, fun h => h.imp Eq.symm fun h => h.imp Eq.symm Eq.symm⟩
  exact ⟨fun z => h.1 (e.mp z), fun z => h.2 fun q => z (e.mpr q)⟩
theorem in_parted {l : List Nat} {j : Nat} {R : Bool → Prop} (h : sp (Parted l j) R) : cInD (.str (cut l j (j + 1))) [.str [], .str [32]] R := by
  have e : (cut l j (j + 1) = [] ∨ cut l j (j + 1) = [32]) ↔ Parted l j := by
    rw [← eqS_iff, ← eqS_iff, cut1_nil, cut1_eq]
    exact ⟨fun q => q.imp id fun q => q.2, fun q => (Nat.lt_or_ge j l.length).elim (fun z => q.imp id fun q => ⟨z, q⟩) .inl⟩
  exact in_two ⟨fun z => h.1 (e.mp z), fun z => h.2 fun q => z (e.mpr q)⟩
theorem cut_ldot : ∀ Q X st, (∃ l i c, st.vars[0]? = some (some (V.str l)) ∧ st.vars[1]? = some (some (V.int (i : Nat))) ∧ st.vars[2]? = some (some (V.str [c])) ∧ sp (c = 46 ∧ FigAt l (i + 1)) (fun b => Q b st)) →
    bAnd (bCmp (tVar 2) (tVal (.str [46])) .Eq) (bAnd (bCmp (tSS (tVar 0) (tBin (tVar 1) (tVal (.int ((1 : Nat) : Int))) opAdd) (tBin (tVar 1) (tVal (.int ((2 : Nat) : Int))) opAdd)) (tVal (.str [])) .NotEq)
      (bAnd (bCmp (tItem (tVar 0) (tBin (tVar 1) (tVal (.int ((1 : Nat) : Int))) opAdd)) (tVal (.str t_law_figures)) .In) (bVal true))) Q X st := by
  rintro Q X st ⟨l, i, c, h1, h2, h3, t⟩
  dsimp only [tVal,  tVar, tCell, tBin, tCmp, tNot, tNeg, tAnd, tOr, tIfe, tTup, tLst, tLstL, tBlt, tCall, tM0, tM1, tNil, tCons, tSS, tSl, tNSL, tItem, tAttr, tStrike, tMeth, tExcAt, tItr, tRange, tComp, bCmp, bChain, tChain, bNot, bVal, bAnd, bOr, bPlain, bSplit, tEnd, tSeq, tRet, tRet0, tCont, tSet, tIf, tExpr, tWhile, tFor, tRaise, tSetB, tSet2, tSet3, tAppend, tTry, tUndbl, d_eq1, vars0, d_int, d_nat, d_str, d_one, d_two, d_addN, d_addS, d_itS, d_itT, d_itL, d_itK, d_itSM, d_itKM, d_nt, d_nf, d_t, d_f, opNeg, slM, d_text, d_places, d_textL, d_placesL, d_kind, d_worth, d_at, d_isin, opSub, opMod, opDiv, opPow, opMul, opCmp, cLt, cLe, cLes, cEq, cIn, cNin, sp, slSS, slSN, slNS, oLen, oOrd, oChr, oMin, oAbs, oUpper, oIsL, oIsT, truth, bName, bTup2, bTup3, List.getElem?_cons_zero, List.getElem?_cons_succ, List.map_cons, List.map_nil, List.set_cons_zero, List.set_cons_succ]
  rw [h1, h2, h3]
  dsimp only [tVal,  tVar, tCell, tBin, tCmp, tNot, tNeg, tAnd, tOr, tIfe, tTup, tLst, tLstL, tBlt, tCall, tM0, tM1, tNil, tCons, tSS, tSl, tNSL, tItem, tAttr, tStrike, tMeth, tExcAt, tItr, tRange, tComp, bCmp, bChain, tChain, bNot, bVal, bAnd, bOr, bPlain, bSplit, tEnd, tSeq, tRet, tRet0, tCont, tSet, tIf, tExpr, tWhile, tFor, tRaise, tSetB, tSet2, tSet3, tAppend, tTry, tUndbl, d_eq1, vars0, d_int, d_nat, d_str, d_one, d_two, d_addN, d_addS, d_itS, d_itT, d_itL, d_itK, d_itSM, d_itKM, d_nt, d_nf, d_t, d_f, opNeg, slM, d_text, d_places, d_textL, d_placesL, d_kind, d_worth, d_at, d_isin, opSub, opMod, opDiv, opPow, opMul, opCmp, cLt, cLe, cLes, cEq, cIn, cNin, sp, slSS, slSN, slNS, oLen, oOrd, oChr, oMin, oAbs, oUpper, oIsL, oIsT, truth, bName, bTup2, bTup3, List.getElem?_cons_zero, List.getElem?_cons_succ, List.map_cons, List.map_nil, List.set_cons_zero, List.set_cons_succ]
  exact ⟨fun a => ⟨fun b => t.2 fun z => Nat.not_le_of_lt z.2.1 (cut1_nil.mp b), fun b => ⟨Nat.lt_of_not_le fun z => b (cut1_nil.mpr z), fun d => t.1 ⟨a, Nat.lt_of_not_le fun z => b (cut1_nil.mpr z), d⟩, fun d => t.2 fun z => d z.2.2⟩⟩, fun a => t.2 fun z => a z.1⟩
theorem cut_ldot2 : ∀ Q X st, (∃ l e, st.vars[0]? = some (some (V.str l)) ∧ st.vars[3]? = some (some (V.int (e : Nat))) ∧ sp (e < l.length ∧ l.getD e 0 = 46 ∧ FigAt l (e + 1)) (fun b => Q b st)) →
    bAnd (bCmp (tSS (tVar 0) (tVar 3) (tBin (tVar 3) (tVal (.int ((1 : Nat) : Int))) opAdd)) (tVal (.str [46])) .Eq) (bAnd (bCmp (tSS (tVar 0) (tBin (tVar 3) (tVal (.int ((1 : Nat) : Int))) opAdd) (tBin (tVar 3) (tVal (.int ((2 : Nat) : Int))) opAdd)) (tVal (.str [])) .NotEq)
      (bAnd (bCmp (tItem (tVar 0) (tBin (tVar 3) (tVal (.int ((1 : Nat) : Int))) opAdd)) (tVal (.str t_law_figures)) .In) (bVal true))) Q X st := by
  rintro Q X st ⟨l, i, h1, h2, t⟩
  dsimp only [tVal,  tVar, tCell, tBin, tCmp, tNot, tNeg, tAnd, tOr, tIfe, tTup, tLst, tLstL, tBlt, tCall, tM0, tM1, tNil, tCons, tSS, tSl, tNSL, tItem, tAttr, tStrike, tMeth, tExcAt, tItr, tRange, tComp, bCmp, bChain, tChain, bNot, bVal, bAnd, bOr, bPlain, bSplit, tEnd, tSeq, tRet, tRet0, tCont, tSet, tIf, tExpr, tWhile, tFor, tRaise, tSetB, tSet2, tSet3, tAppend, tTry, tUndbl, d_eq1, vars0, d_int, d_nat, d_str, d_one, d_two, d_addN, d_addS, d_itS, d_itT, d_itL, d_itK, d_itSM, d_itKM, d_nt, d_nf, d_t, d_f, opNeg, slM, d_text, d_places, d_textL, d_placesL, d_kind, d_worth, d_at, d_isin, opSub, opMod, opDiv, opPow, opMul, opCmp, cLt, cLe, cLes, cEq, cIn, cNin, sp, slSS, slSN, slNS, oLen, oOrd, oChr, oMin, oAbs, oUpper, oIsL, oIsT, truth, bName, bTup2, bTup3, List.getElem?_cons_zero, List.getElem?_cons_succ, List.map_cons, List.map_nil, List.set_cons_zero, List.set_cons_succ]
  rw [h1, h2]
  dsimp only [tVal,  tVar, tCell, tBin, tCmp, tNot, tNeg, tAnd, tOr, tIfe, tTup, tLst, tLstL, tBlt, tCall, tM0, tM1, tNil, tCons, tSS, tSl, tNSL, tItem, tAttr, tStrike, tMeth, tExcAt, tItr, tRange, tComp, bCmp, bChain, tChain, bNot, bVal, bAnd, bOr, bPlain, bSplit, tEnd, tSeq, tRet, tRet0, tCont, tSet, tIf, tExpr, tWhile, tFor, tRaise, tSetB, tSet2, tSet3, tAppend, tTry, tUndbl, d_eq1, vars0, d_int, d_nat, d_str, d_one, d_two, d_addN, d_addS, d_itS, d_itT, d_itL, d_itK, d_itSM, d_itKM, d_nt, d_nf, d_t, d_f, opNeg, slM, d_text, d_places, d_textL, d_placesL, d_kind, d_worth, d_at, d_isin, opSub, opMod, opDiv, opPow, opMul, opCmp, cLt, cLe, cLes, cEq, cIn, cNin, sp, slSS, slSN, slNS, oLen, oOrd, oChr, oMin, oAbs, oUpper, oIsL, oIsT, truth, bName, bTup2, bTup3, List.getElem?_cons_zero, List.getElem?_cons_succ, List.map_cons, List.map_nil, List.set_cons_zero, List.set_cons_succ]
  exact ⟨fun a => ⟨fun b => t.2 fun z => Nat.not_le_of_lt z.2.2.1 (cut1_nil.mp b), fun b => ⟨Nat.lt_of_not_le fun z => b (cut1_nil.mpr z), fun d => t.1 ⟨(cut1_eq.mp a).1, (cut1_eq.mp a).2, Nat.lt_of_not_le fun z => b (cut1_nil.mpr z), d⟩, fun d => t.2 fun z => d z.2.2.2⟩⟩, fun a => t.2 fun z => a (cut1_eq.mpr ⟨z.1, z.2.1⟩)⟩
theorem cut_lal : ∀ Q X st, (∃ c, st.vars[2]? = some (some (V.str [c])) ∧ sp (c ∈ t_LETTERS ∨ c ∈ t_FIGURES) (fun b => Q b st)) →
    bOr (bCmp (tVar 2) (tVal (.str t_law_figures)) .In) (bOr (bCmp (tVar 2) (tVal (.str t_law_letters)) .In) (bVal false)) Q X st := by
  rintro Q X st ⟨c, h, t⟩
  dsimp only [tVal,  tVar, tCell, tBin, tCmp, tNot, tNeg, tAnd, tOr, tIfe, tTup, tLst, tLstL, tBlt, tCall, tM0, tM1, tNil, tCons, tSS, tSl, tNSL, tItem, tAttr, tStrike, tMeth, tExcAt, tItr, tRange, tComp, bCmp, bChain, tChain, bNot, bVal, bAnd, bOr, bPlain, bSplit, tEnd, tSeq, tRet, tRet0, tCont, tSet, tIf, tExpr, tWhile, tFor, tRaise, tSetB, tSet2, tSet3, tAppend, tTry, tUndbl, d_eq1, vars0, d_int, d_nat, d_str, d_one, d_two, d_addN, d_addS, d_itS, d_itT, d_itL, d_itK, d_itSM, d_itKM, d_nt, d_nf, d_t, d_f, opNeg, slM, d_text, d_places, d_textL, d_placesL, d_kind, d_worth, d_at, d_isin, opSub, opMod, opDiv, opPow, opMul, opCmp, cLt, cLe, cLes, cEq, cIn, cNin, sp, slSS, slSN, slNS, oLen, oOrd, oChr, oMin, oAbs, oUpper, oIsL, oIsT, truth, bName, bTup2, bTup3, List.getElem?_cons_zero, List.getElem?_cons_succ, List.map_cons, List.map_nil, List.set_cons_zero, List.set_cons_succ]
  rw [h]
  exact ⟨fun a => t.1 (.inr a), fun a => ⟨fun b => t.1 (.inl b), fun b => t.2 fun z => z.elim b a⟩⟩
theorem cut_sing : ∀ Q X st, (∃ l i c, st.vars[0]? = some (some (V.str l)) ∧ st.vars[1]? = some (some (V.int (i : Nat))) ∧ st.vars[2]? = some (some (V.str [c])) ∧ sp (c ∈ t_SINGLE_SIGNS ∨ (c = 46 ∧ Parted l (i + 1))) (fun b => Q b st)) →
    bOr (bCmp (tVar 2) (tVal (.str [40, 41, 58, 43, 45, 42, 47, 61, 60, 62])) .In) (bOr (bAnd (bCmp (tVar 2) (tVal (.str [46])) .Eq) (bAnd (bCmp (tSS (tVar 0) (tBin (tVar 1) (tVal (.int ((1 : Nat) : Int))) opAdd) (tBin (tVar 1) (tVal (.int ((2 : Nat) : Int))) opAdd)) (tTup (tCons (tVal (.str [])) (tCons (tVal (.str [32])) tNil))) .In) (bVal true))) (bVal false)) Q X st := by
  rintro Q X st ⟨l, i, c, h1, h2, h3, t⟩
  dsimp only [tVal,  tVar, tCell, tBin, tCmp, tNot, tNeg, tAnd, tOr, tIfe, tTup, tLst, tLstL, tBlt, tCall, tM0, tM1, tNil, tCons, tSS, tSl, tNSL, tItem, tAttr, tStrike, tMeth, tExcAt, tItr, tRange, tComp, bCmp, bChain, tChain, bNot, bVal, bAnd, bOr, bPlain, bSplit, tEnd, tSeq, tRet, tRet0, tCont, tSet, tIf, tExpr, tWhile, tFor, tRaise, tSetB, tSet2, tSet3, tAppend, tTry, tUndbl, d_eq1, vars0, d_int, d_nat, d_str, d_one, d_two, d_addN, d_addS, d_itS, d_itT, d_itL, d_itK, d_itSM, d_itKM, d_nt, d_nf, d_t, d_f, opNeg, slM, d_text, d_places, d_textL, d_placesL, d_kind, d_worth, d_at, d_isin, opSub, opMod, opDiv, opPow, opMul, opCmp, cLt, cLe, cLes, cEq, cIn, cNin, sp, slSS, slSN, slNS, oLen, oOrd, oChr, oMin, oAbs, oUpper, oIsL, oIsT, truth, bName, bTup2, bTup3, List.getElem?_cons_zero, List.getElem?_cons_succ, List.map_cons, List.map_nil, List.set_cons_zero, List.set_cons_succ]
  rw [h1, h2, h3]
  dsimp only [tVal,  tVar, tCell, tBin, tCmp, tNot, tNeg, tAnd, tOr, tIfe, tTup, tLst, tLstL, tBlt, tCall, tM0, tM1, tNil, tCons, tSS, tSl, tNSL, tItem, tAttr, tStrike, tMeth, tExcAt, tItr, tRange, tComp, bCmp, bChain, tChain, bNot, bVal, bAnd, bOr, bPlain, bSplit, tEnd, tSeq, tRet, tRet0, tCont, tSet, tIf, tExpr, tWhile, tFor, tRaise, tSetB, tSet2, tSet3, tAppend, tTry, tUndbl, d_eq1, vars0, d_int, d_nat, d_str, d_one, d_two, d_addN, d_addS, d_itS, d_itT, d_itL, d_itK, d_itSM, d_itKM, d_nt, d_nf, d_t, d_f, opNeg, slM, d_text, d_places, d_textL, d_placesL, d_kind, d_worth, d_at, d_isin, opSub, opMod, opDiv, opPow, opMul, opCmp, cLt, cLe, cLes, cEq, cIn, cNin, sp, slSS, slSN, slNS, oLen, oOrd, oChr, oMin, oAbs, oUpper, oIsL, oIsT, truth, bName, bTup2, bTup3, List.getElem?_cons_zero, List.getElem?_cons_succ, List.map_cons, List.map_nil, List.set_cons_zero, List.set_cons_succ]
  exact ⟨fun a => t.1 (.inl a), fun a => ⟨fun b => ⟨(show 2 < 1000 by decide), in_parted ⟨fun d => t.1 (.inr ⟨b, d⟩), fun d => t.2 fun z => z.elim a fun z => d z.2⟩⟩, fun b => t.2 fun z => z.elim a fun z => b z.1⟩⟩
noncomputable def dotV : V → Option V
  | .str [c] => if c = 46 then none else some (.str [c])
  | _ => none
theorem dotV_map {l : List Nat} : (l.map fun c => V.str [c]).filterMap dotV = (l.filter (· != 46)).map fun c => V.str [c] := by
  induction l with
  | nil => rfl
  | cons a l ih =>
    rw [List.map_cons, List.filterMap_cons, ih, List.filter_cons]
    by_cases h : a = 46 <;> simp [dotV, h]
theorem num_ws : t_law_letters ++ t_law_figures ++ [45] = t_WORD_SIGNS := signs_eq.symm
theorem ex_as {sc : Scope} {rm : Nat} {l : Stmt} {F F' : Tr Fl} (h : Ex sc rm l F') (e : F = F') : Ex sc rm l F := e ▸ h
theorem blk_fig : Ex (fScope (dAt 46)) 3 ((fBody (dAt 46)).getD 3 (.Pass default)) (fun Q X st => ∃ (l : List Nat) (i : Nat) (v3 v4 : Option V) (σ : Led), st = ⟨[some (.str l), some (.int i), some (.str [upA (l.getD i 0)]), v3, v4, none, none, none, none, none, none], σ, []⟩ ∧ σ.pend = none ∧ l.length ≤ big ∧ i < l.length ∧
    (upA (l.getD i 0) ∈ t_FIGURES ∧ runEnd l i t_WORD_SIGNS ≤ numEnd l i → ∀ v3, Q (.ret (outV (numTok l i (numEnd l i)))) ⟨[some (.str l), some (.int i), some (.str [upA (l.getD i 0)]), v3, v4, none, none, none, none, none, none], σ, []⟩) ∧
    (¬ (upA (l.getD i 0) ∈ t_FIGURES ∧ runEnd l i t_WORD_SIGNS ≤ numEnd l i) → ∀ v3, Q .next ⟨[some (.str l), some (.int i), some (.str [upA (l.getD i 0)]), v3, v4, none, none, none, none, none, none], σ, []⟩)) := by
  refine' ex_by (F := _) ?h ?w
  case h =>
    with_reducible apply ex_as
    · show Ex _ _ (Stmt.If _ _ _ _) _
      exact (cx_if (cb_cmp (cv_var rfl rfl) (g_law_figures rfl) rfl) (cx_cons (cx_assign (cv_call f_law_run (by decide) (g_law_run rfl) (cs_cons (cv_var rfl rfl) (cs_cons (cv_var rfl rfl) (cs_cons (g_law_figures rfl) cs_nil (fun _ => se_Name)) (fun _ => se_Name)) (fun _ => se_Name)) (fun P => by kernel_rfl) (fun _ => rfl) (fun _ => rfl) (fun _ => rfl)) rfl rfl (fun _ => rfl)) (cx_cons (cx_if (tst_by (cb_bool (cb_and (cb_cmp (cv_sliceSS (cv_var rfl rfl) (cv_var rfl rfl) (cv_add (cv_var rfl rfl) (cv_nat 1)) (fun _ _ => rfl)) (cv_str (l := [46]) (by decide) (by decide)) rfl) (cb_and (cb_cmp (cv_sliceSS (cv_var rfl rfl) (cv_add (cv_var rfl rfl) (cv_nat 1)) (cv_add (cv_var rfl rfl) (cv_nat 2)) (fun _ _ => rfl)) (cv_str (l := []) (by decide) (by decide)) rfl) (cb_and (cb_cmp (cv_item (cv_var rfl rfl) (cv_add (cv_var rfl rfl) (cv_nat 1)) (fun _ _ _ => rfl)) (g_law_figures rfl) rfl) cb_and_nil)))) cut_ldot2) (cx_cons (cx_assign (cv_call f_law_run (by decide) (g_law_run rfl) (cs_cons (cv_var rfl rfl) (cs_cons (cv_add (cv_var rfl rfl) (cv_nat 1)) (cs_cons (g_law_figures rfl) cs_nil (fun _ => se_Name)) (fun _ => se_BinOp)) (fun _ => se_Name)) (fun P => by kernel_rfl) (fun _ => rfl) (fun _ => rfl) (fun _ => rfl)) rfl rfl (fun _ => rfl)) cx_nil) cx_nil) (cx_cons (cx_if (cb_cmp (cv_var rfl rfl) (cv_call f_law_run (by decide) (g_law_run rfl) (cs_cons (cv_var rfl rfl) (cs_cons (cv_var rfl rfl) (cs_cons (cv_add (cv_add (g_law_letters rfl) (g_law_figures rfl)) (cv_str (l := [45]) (by decide) (by decide))) cs_nil (fun _ => se_BinOp)) (fun _ => se_Name)) (fun _ => se_Name)) (fun P => by kernel_rfl) (fun _ => rfl) (fun _ => rfl) (fun _ => rfl)) rfl) (cx_cons (cx_if (cb_not (cb_plain (cv_call f_law_apart (by decide) (g_law_apart rfl) (cs_cons (cv_var rfl rfl) (cs_cons (cv_var rfl rfl) cs_nil (fun _ => se_Name)) (fun _ => se_Name)) (fun P => by kernel_rfl) (fun _ => rfl) (fun _ => rfl) (fun _ => rfl)) (fun _ => rfl))) (cx_cons (cx_ret (cv_var rfl rfl)) cx_nil) cx_nil) (cx_cons (cx_ret (cv_ife (cb_cmp (cv_callB (g_len rfl) (cs_cons (cv_comp (nv := 2) (by decide) (ci_ev (cv_sliceSS (cv_var rfl rfl) (cv_var rfl rfl) (cv_var rfl rfl) (fun _ _ => rfl)) (by decide)) (bnd_name rfl rfl) (cc_one (cb_cmp (cv_var rfl rfl) (cv_str (l := [46]) (by decide) (by decide)) rfl)) (cv_var rfl rfl) (by decide) (by decide) rfl (fun _ _ => rfl)) cs_nil (fun _ => se_ListComp)) b_len (fun _ => rfl) (fun _ => rfl) (fun _ => rfl)) (cv_nat 18) rfl) (cv_tuple (cs_cons (cv_str (l := [110, 117, 109, 98, 101, 114]) (by decide) (by decide)) (cs_cons (cv_sliceSS (cv_var rfl rfl) (cv_var rfl rfl) (cv_var rfl rfl) (fun _ _ => rfl)) (cs_cons (cv_var rfl rfl) cs_nil (fun _ => se_Name)) (fun _ => se_Subscript)) (fun _ => se_Constant))) (cv_var rfl rfl))) cx_nil)) cx_nil) cx_nil))) cx_nil)
    · refine' rfl
  case w =>
    rintro Q X st ⟨l, i, v3, v4, σ, rfl, hp, hl, hi, h1, h2⟩
    dsimp only [tVal,  tVar, tCell, tBin, tCmp, tNot, tNeg, tAnd, tOr, tIfe, tTup, tLst, tLstL, tBlt, tCall, tM0, tM1, tNil, tCons, tSS, tSl, tNSL, tItem, tAttr, tStrike, tMeth, tExcAt, tItr, tRange, tComp, bCmp, bChain, tChain, bNot, bVal, bAnd, bOr, bPlain, bSplit, tEnd, tSeq, tRet, tRet0, tCont, tSet, tIf, tExpr, tWhile, tFor, tRaise, tSetB, tSet2, tSet3, tAppend, tTry, tUndbl, d_eq1, vars0, d_int, d_nat, d_str, d_one, d_two, d_addN, d_addS, d_itS, d_itT, d_itL, d_itK, d_itSM, d_itKM, d_nt, d_nf, d_t, d_f, opNeg, slM, d_text, d_places, d_textL, d_placesL, d_kind, d_worth, d_at, d_isin, opSub, opMod, opDiv, opPow, opMul, opCmp, cLt, cLe, cLes, cEq, cIn, cNin, sp, slSS, slSN, slNS, oLen, oOrd, oChr, oMin, oAbs, oUpper, oIsL, oIsT, truth, bName, bTup2, bTup3, List.getElem?_cons_zero, List.getElem?_cons_succ, List.map_cons, List.map_nil, List.set_cons_zero, List.set_cons_succ]
    refine ⟨fun h => ⟨_, _, _, rfl, hp, _, _, rfl, rfl, fun h3 => ⟨_, _, _, rfl, hp, ?_⟩, fun h3 => ?_⟩, fun h => h2 (fun z => h z.1) _⟩
    all_goals
      first
      | (have he : numEnd l i = runEnd l (runEnd l i t_law_figures + 1) t_law_figures := if_pos h3
         rw [← he])
      | (have he : numEnd l i = runEnd l i t_law_figures := if_neg h3
         rw [← he])
      rw [num_ws]
      refine ⟨by decide, by decide, _, _, _, rfl, hp, fun h4 => ?_, fun h4 => h2 (fun z => h4 z.2) _⟩
      have h1 := h1 ⟨h, h4⟩
      unfold numTok at h1
      have hcl : (cut l i (numEnd l i)).length ≤ 65536 := Nat.le_trans (cut_le _ _) (Nat.le_trans hl (by decide))
      refine ⟨_, _, rfl, hp, fun h5 => ?_, fun h5 => ?_⟩
      · rw [if_pos h5] at h1
        refine ⟨by rfl, hp, rfl, by rwa [List.length_map], nls_chars, dotV, fun v hv => ?_, ?_⟩
        · obtain ⟨c, _, rfl⟩ := List.mem_map.mp hv
          exact ⟨fun z => if_pos z, fun z => ⟨rfl, if_neg z⟩⟩
        · rw [dotV_map, List.length_map]
          refine ⟨Nat.lt_of_le_of_lt (List.length_filter_le _ _) (Nat.lt_of_le_of_lt hcl (by decide)), fun h6 => ⟨(show 3 < 1000 by decide), ?_⟩, fun h6 => ?_⟩
          · have h1 := h1 (some (.int (numEnd l i : Nat)))
            rwa [if_pos h6] at h1
          · have h1 := h1 (some (.int (numEnd l i : Nat)))
            rwa [if_neg h6] at h1
      · have h1 := h1 (some (.int (numEnd l i : Nat)))
        rwa [if_neg h5] at h1
theorem mem_up {s : List Nat} (hs : ∀ d ∈ s, d < 65) {c : Nat} : upA c ∈ s ↔ c ∈ s :=
  ⟨fun h => by rw [(upA_eq (hs _ h)).mp rfl]; exact h, fun h => by rw [(upA_eq (hs _ h)).mpr rfl]; exact h⟩
theorem next_alnum {l : List Nat} {i : Nat} (h : upA (l.getD i 0) ∈ t_LETTERS ∨ upA (l.getD i 0) ∈ t_FIGURES) : next l i = if upA (l.getD i 0) ∈ t_FIGURES ∧ runEnd l i t_WORD_SIGNS ≤ numEnd l i then numTok l i (numEnd l i) else wordTok l i (runEnd l i t_WORD_SIGNS) := if_pos h
theorem not_alnum {c : Nat} (h : c ∈ [39, 34, 46]) : ¬ (c ∈ t_LETTERS ∨ c ∈ t_FIGURES) := by
  have : ∀ d ∈ [39, 34, 46], ¬ (d ∈ t_LETTERS ∨ d ∈ t_FIGURES) := by decide
  exact this c h
theorem next_quote {l : List Nat} {i : Nat} (h : upA (l.getD i 0) ∈ [39, 34]) : next l i = litTok l i := by
  have h46 : ∀ d ∈ [39, 34], d ≠ 46 ∧ d ∈ t_QUOTES ∧ d ∈ [39, 34, 46] := by decide
  unfold next
  rw [if_neg (not_alnum (h46 _ h).2.2), if_neg fun z => (h46 _ h).1 z.1, if_pos (h46 _ h).2.1]
theorem next_dot {l : List Nat} {i : Nat} (h : upA (l.getD i 0) = 46 ∧ FigAt l (i + 1)) : next l i = numTok l i (runEnd l (i + 1) t_FIGURES) := by
  unfold next
  rw [if_neg (not_alnum (by rw [h.1]; decide)), if_pos h]
theorem next_mark {l : List Nat} {i : Nat} (h1 : upA (l.getD i 0) ∉ [39, 34]) (h2 : ¬ (upA (l.getD i 0) = 46 ∧ FigAt l (i + 1))) (h3 : ¬ (upA (l.getD i 0) ∈ t_LETTERS ∨ upA (l.getD i 0) ∈ t_FIGURES)) : next l i = markTok l i := by
  unfold next
  rw [if_neg h3, if_neg h2, if_neg fun z => h1 ?_]
  have : ∀ d ∈ t_QUOTES, d ∈ [39, 34] := by decide
  exact this _ z
theorem of_tw {α : Type} {p : α → Bool} {x : α} : ∀ {l : List α}, x ∈ l.takeWhile p → p x = true
  | a :: l, h => by
    rw [List.takeWhile_cons] at h
    split at h
    · rename_i hp
      rcases List.mem_cons.mp h with rfl | h
      · exact hp
      · exact of_tw h
    · cases h
theorem dot_len {l : List Nat} {i : Nat} (hi : i < l.length) (h : l.getD i 0 = 46) : ckNum l i (runEnd l (i + 1) t_FIGURES) ↔ runEnd l (i + 1) t_FIGURES - i ≤ 19 := by
  unfold ckNum runEnd cut
  rw [drop_at hi, h, show i + 1 + ((l.drop (i + 1)).takeWhile fun c => decide (upA c ∈ t_FIGURES)).length - i = ((l.drop (i + 1)).takeWhile fun c => decide (upA c ∈ t_FIGURES)).length + 1 by omega, List.take_succ_cons, List.filter_cons_of_neg (by decide)]
  generalize l.drop (i + 1) = m
  have e : m.take (m.takeWhile fun c => decide (upA c ∈ t_FIGURES)).length = m.takeWhile fun c => decide (upA c ∈ t_FIGURES) := by
    obtain ⟨r, hr⟩ := List.takeWhile_prefix (p := fun c => decide (upA c ∈ t_FIGURES)) (l := m)
    exact (List.prefix_iff_eq_take.mp ⟨r, hr⟩).symm
  rw [e, List.filter_eq_self.mpr]
  · exact (Nat.succ_le_succ_iff (b := 18)).symm
  · intro c hc
    have hc := of_tw hc
    refine bne_iff_ne.mpr fun z => ?_
    subst z
    exact absurd hc (by decide)
theorem last_eq {m : List Nat} {c : Nat} (h : 0 < m.length) : eqS (m.drop (m.length - 1)) [c] ↔ m.getD (m.length - 1) 0 = c := by
  rw [eqS_iff, drop_at (Nat.sub_lt h Nat.one_pos), Nat.sub_add_cancel h, List.drop_length]
  exact ⟨fun z => (List.cons.inj z).1, fun z => by rw [z]⟩
theorem f_law_next : Fn 296 4 (fun σ vs Q X => ∃ l i, vs = [.str l, .int (i : Nat)] ∧ σ.pend = none ∧ l.length ≤ big ∧ i < l.length ∧ Q (outV (next l i)) σ) := by
  refine' fn_intro (n := 11) (rm := 3) (T := _) (ps := [Str.ofString "text", Str.ofString "at"]) (fun P => by rfl) (fun P => by kernel_rfl) ?r1 ?r2 (hp_of (by rfl)) ?r4 ?r5 ?r6 (Nat.le_refl _) ?r7 (by rfl)
  case r6 =>
    refine' @exs_as _ _ _ _ _ ((cx_cons (cx_assign (cv_upper (cv_item (cv_var rfl rfl) (cv_var rfl rfl) (fun _ _ _ => rfl)) (fun _ => rfl)) rfl rfl (fun _ => rfl)) (cx_cons (cx_if (cb_cmp (cv_var rfl rfl) (cv_str (l := [39, 34]) (by decide) (by decide)) rfl) (cx_cons (cx_ret (cv_call f_law_quoted (by decide) (g_law_quoted rfl) (cs_cons (cv_var rfl rfl) (cs_cons (cv_var rfl rfl) cs_nil (fun _ => se_Name)) (fun _ => se_Name)) (fun P => by kernel_rfl) (fun _ => rfl) (fun _ => rfl) (fun _ => rfl))) cx_nil) cx_nil) (cx_cons (cx_if (tst_by (cb_bool (cb_and (cb_cmp (cv_var rfl rfl) (cv_str (l := [46]) (by decide) (by decide)) rfl) (cb_and (cb_cmp (cv_sliceSS (cv_var rfl rfl) (cv_add (cv_var rfl rfl) (cv_nat 1)) (cv_add (cv_var rfl rfl) (cv_nat 2)) (fun _ _ => rfl)) (cv_str (l := []) (by decide) (by decide)) rfl) (cb_and (cb_cmp (cv_item (cv_var rfl rfl) (cv_add (cv_var rfl rfl) (cv_nat 1)) (fun _ _ _ => rfl)) (g_law_figures rfl) rfl) cb_and_nil)))) cut_ldot) (cx_cons (cx_assign (cv_call f_law_run (by decide) (g_law_run rfl) (cs_cons (cv_var rfl rfl) (cs_cons (cv_add (cv_var rfl rfl) (cv_nat 1)) (cs_cons (g_law_figures rfl) cs_nil (fun _ => se_Name)) (fun _ => se_BinOp)) (fun _ => se_Name)) (fun P => by kernel_rfl) (fun _ => rfl) (fun _ => rfl) (fun _ => rfl)) rfl rfl (fun _ => rfl)) (cx_cons (cx_if (cb_not (cb_plain (cv_call f_law_apart (by decide) (g_law_apart rfl) (cs_cons (cv_var rfl rfl) (cs_cons (cv_var rfl rfl) cs_nil (fun _ => se_Name)) (fun _ => se_Name)) (fun P => by kernel_rfl) (fun _ => rfl) (fun _ => rfl) (fun _ => rfl)) (fun _ => rfl))) (cx_cons (cx_ret (cv_var rfl rfl)) cx_nil) cx_nil) (cx_cons (cx_ret (cv_ife (cb_cmp (cv_sub (cv_var rfl rfl) (cv_var rfl rfl)) (cv_nat 19) rfl) (cv_tuple (cs_cons (cv_str (l := [110, 117, 109, 98, 101, 114]) (by decide) (by decide)) (cs_cons (cv_sliceSS (cv_var rfl rfl) (cv_var rfl rfl) (cv_var rfl rfl) (fun _ _ => rfl)) (cs_cons (cv_var rfl rfl) cs_nil (fun _ => se_Name)) (fun _ => se_Subscript)) (fun _ => se_Constant))) (cv_var rfl rfl))) cx_nil))) cx_nil) (cx_cons blk_fig (cx_cons (cx_if (tst_by (cb_bool (cb_or (cb_cmp (cv_var rfl rfl) (g_law_figures rfl) rfl) (cb_or (cb_cmp (cv_var rfl rfl) (g_law_letters rfl) rfl) cb_or_nil))) cut_lal) (cx_cons (cx_assign (cv_call f_law_run (by decide) (g_law_run rfl) (cs_cons (cv_var rfl rfl) (cs_cons (cv_var rfl rfl) (cs_cons (cv_add (cv_add (g_law_letters rfl) (g_law_figures rfl)) (cv_str (l := [45]) (by decide) (by decide))) cs_nil (fun _ => se_BinOp)) (fun _ => se_Name)) (fun _ => se_Name)) (fun P => by kernel_rfl) (fun _ => rfl) (fun _ => rfl) (fun _ => rfl)) rfl rfl (fun _ => rfl)) (cx_cons (cx_assign (cv_upper (cv_sliceSS (cv_var rfl rfl) (cv_var rfl rfl) (cv_var rfl rfl) (fun _ _ => rfl)) (fun _ => rfl)) rfl rfl (fun _ => rfl)) (cx_cons (cx_if (cb_not (cb_plain (cv_call f_law_apart (by decide) (g_law_apart rfl) (cs_cons (cv_var rfl rfl) (cs_cons (cv_var rfl rfl) cs_nil (fun _ => se_Name)) (fun _ => se_Name)) (fun P => by kernel_rfl) (fun _ => rfl) (fun _ => rfl) (fun _ => rfl)) (fun _ => rfl))) (cx_cons (cx_ret (cv_var rfl rfl)) cx_nil) cx_nil) (cx_cons (cx_if (cb_cmp (cv_comp (nv := 3) (by decide) (ci_ev (cv_var rfl rfl) (by decide)) (bnd_name rfl rfl) (cc_one (cb_cmp (cv_var rfl rfl) (g_law_letters rfl) rfl)) (cv_var rfl rfl) (by decide) (by decide) rfl (fun _ _ => rfl)) (cv_list cs_nil) rfl) (cx_cons (cx_ret (cv_var rfl rfl)) cx_nil) cx_nil) (cx_cons (cx_if (cb_cmp (cv_sliceM (cv_var rfl rfl) (cv_neg (cv_nat 1)) (fun _ _ => rfl)) (cv_str (l := [45]) (by decide) (by decide)) rfl) (cx_cons (cx_ret (cv_sub (cv_var rfl rfl) (cv_nat 1))) cx_nil) cx_nil) (cx_cons (cx_ret (cv_ife (cb_cmp (cv_callB (g_len rfl) (cs_cons (cv_var rfl rfl) cs_nil (fun _ => se_Name)) b_len (fun _ => rfl) (fun _ => rfl) (fun _ => rfl)) (cv_nat 30) rfl) (cv_tuple (cs_cons (cv_str (l := [119, 111, 114, 100]) (by decide) (by decide)) (cs_cons (cv_var rfl rfl) (cs_cons (cv_var rfl rfl) cs_nil (fun _ => se_Name)) (fun _ => se_Name)) (fun _ => se_Constant))) (cv_add (cv_var rfl rfl) (cv_nat 30)))) cx_nil)))))) cx_nil) (cx_cons (cx_if (cb_cmp (cv_sliceSS (cv_var rfl rfl) (cv_var rfl rfl) (cv_add (cv_var rfl rfl) (cv_nat 2)) (fun _ _ => rfl)) (cv_str (l := [61, 61]) (by decide) (by decide)) rfl) (cx_cons (cx_ret (cv_tuple (cs_cons (cv_str (l := [112, 115, 101, 117, 100, 111]) (by decide) (by decide)) (cs_cons (cv_str (l := [61, 61]) (by decide) (by decide)) (cs_cons (cv_add (cv_var rfl rfl) (cv_nat 2)) cs_nil (fun _ => se_BinOp)) (fun _ => se_Constant)) (fun _ => se_Constant)))) cx_nil) cx_nil) (cx_cons (cx_if (cb_cmp (cv_sliceSS (cv_var rfl rfl) (cv_var rfl rfl) (cv_add (cv_var rfl rfl) (cv_nat 2)) (fun _ _ => rfl)) (cv_tuple (cs_cons (cv_str (l := [42, 42]) (by decide) (by decide)) (cs_cons (cv_str (l := [60, 61]) (by decide) (by decide)) (cs_cons (cv_str (l := [62, 61]) (by decide) (by decide)) cs_nil (fun _ => se_Constant)) (fun _ => se_Constant)) (fun _ => se_Constant))) rfl) (cx_cons (cx_ret (cv_tuple (cs_cons (cv_str (l := [115, 105, 103, 110]) (by decide) (by decide)) (cs_cons (cv_sliceSS (cv_var rfl rfl) (cv_var rfl rfl) (cv_add (cv_var rfl rfl) (cv_nat 2)) (fun _ _ => rfl)) (cs_cons (cv_add (cv_var rfl rfl) (cv_nat 2)) cs_nil (fun _ => se_BinOp)) (fun _ => se_Subscript)) (fun _ => se_Constant)))) cx_nil) cx_nil) (cx_cons (cx_if (tst_by (cb_bool (cb_or (cb_cmp (cv_var rfl rfl) (cv_str (l := [40, 41, 58, 43, 45, 42, 47, 61, 60, 62]) (by decide) (by decide)) rfl) (cb_or (cb_bool (cb_and (cb_cmp (cv_var rfl rfl) (cv_str (l := [46]) (by decide) (by decide)) rfl) (cb_and (cb_cmp (cv_sliceSS (cv_var rfl rfl) (cv_add (cv_var rfl rfl) (cv_nat 1)) (cv_add (cv_var rfl rfl) (cv_nat 2)) (fun _ _ => rfl)) (cv_tuple (cs_cons (cv_str (l := []) (by decide) (by decide)) (cs_cons (cv_str (l := [32]) (by decide) (by decide)) cs_nil (fun _ => se_Constant)) (fun _ => se_Constant))) rfl) cb_and_nil))) cb_or_nil))) cut_sing) (cx_cons (cx_ret (cv_tuple (cs_cons (cv_str (l := [115, 105, 103, 110]) (by decide) (by decide)) (cs_cons (cv_var rfl rfl) (cs_cons (cv_add (cv_var rfl rfl) (cv_nat 1)) cs_nil (fun _ => se_BinOp)) (fun _ => se_Name)) (fun _ => se_Constant)))) cx_nil) cx_nil) (cx_cons (cx_ret (cv_var rfl rfl)) cx_nil)))))))))) rfl
  case r1 => intro xs h; obtain ⟨a, b, rfl⟩ := len2 h; rfl
  case r2 => decide
  case r4 => decide
  case r5 => decide
  case r7 =>
    rintro σ _ Q X ⟨l, i, rfl, hp, hl, hi, hQ⟩
    refine ⟨hp, rfl, ?_⟩
    dsimp only [tVal,  tVar, tCell, tBin, tCmp, tNot, tNeg, tAnd, tOr, tIfe, tTup, tLst, tLstL, tBlt, tCall, tM0, tM1, tNil, tCons, tSS, tSl, tNSL, tItem, tAttr, tStrike, tMeth, tExcAt, tItr, tRange, tComp, bCmp, bChain, tChain, bNot, bVal, bAnd, bOr, bPlain, bSplit, tEnd, tSeq, tRet, tRet0, tCont, tSet, tIf, tExpr, tWhile, tFor, tRaise, tSetB, tSet2, tSet3, tAppend, tTry, tUndbl, d_eq1, vars0, d_int, d_nat, d_str, d_one, d_two, d_addN, d_addS, d_itS, d_itT, d_itL, d_itK, d_itSM, d_itKM, d_nt, d_nf, d_t, d_f, opNeg, slM, d_text, d_places, d_textL, d_placesL, d_kind, d_worth, d_at, d_isin, opSub, opMod, opDiv, opPow, opMul, opCmp, cLt, cLe, cLes, cEq, cIn, cNin, sp, slSS, slSN, slNS, oLen, oOrd, oChr, oMin, oAbs, oUpper, oIsL, oIsT, truth, bName, bTup2, bTup3, List.getElem?_cons_zero, List.getElem?_cons_succ, List.map_cons, List.map_nil, List.set_cons_zero, List.set_cons_succ]
    refine ⟨hi, fun h1 => ⟨_, _, rfl, hp, hl, hi, back_ret ?_⟩, fun h1 => ⟨_, _, _, rfl, rfl, rfl, fun h2 => ⟨_, _, _, rfl, hp, _, _, rfl, hp, fun h3 => ⟨?_, fun h4 => ⟨(show 3 < 1000 by decide), back_ret ?_⟩, fun h4 => back_ret ?_⟩, fun h3 => back_ret ?_⟩, fun h2 => ⟨_, _, _, _, _, rfl, hp, hl, hi, fun h3 v3 => back_ret ?_, fun h3 v3 => ⟨_, rfl, fun h4 => ?_, fun h4 => ?_⟩⟩⟩⟩
    · rwa [next_quote h1] at hQ
    · exact Nat.le_trans (Nat.le_succ i) runEnd_ge
    · have h3 : Apart l (runEnd l (i + 1) t_FIGURES) := h3
      rw [next_dot h2, numTok, if_pos h3, if_pos ((dot_len hi ((upA_eq (by decide)).mp h2.1)).mpr h4)] at hQ
      exact hQ
    · have h3 : Apart l (runEnd l (i + 1) t_FIGURES) := h3
      rw [next_dot h2, numTok, if_pos h3, if_neg fun z => h4 ((dot_len hi ((upA_eq (by decide)).mp h2.1)).mp z)] at hQ
      exact hQ
    · have h3 : ¬ Apart l (runEnd l (i + 1) t_FIGURES) := h3
      rw [next_dot h2, numTok, if_neg h3] at hQ
      exact hQ
    · rwa [next_alnum (.inr h3.1), if_pos h3] at hQ
    · rw [next_alnum h4, if_neg h3] at hQ
      rw [num_ws]
      refine ⟨by decide, by decide, _, _, _, rfl, hp, _, _, rfl, hp, fun h5 => ?_, fun h5 => back_ret ?_⟩
      · have hlt := word_lt hi h4
        have hle := runEnd_le (s := t_WORD_SIGNS) (Nat.le_of_lt hi)
        have hn : ((cut l i (runEnd l i t_WORD_SIGNS)).map upA).length = runEnd l i t_WORD_SIGNS - i := by rw [List.length_map, cut_len hle]
        unfold wordTok at hQ
        rw [if_pos h5] at hQ
        generalize runEnd l i t_WORD_SIGNS = e at *
        generalize (cut l i e).map upA = m at *
        refine ⟨by rfl, hp, rfl, ?_, nls_chars, letV t_LETTERS, fun v hv => ?_, (show 0 < 1000 by decide), ?_⟩
        · rw [List.length_map, hn]; unfold big at hl; omega
        · obtain ⟨c, _, rfl⟩ := List.mem_map.mp hv
          exact ⟨fun h => ⟨rfl, if_pos h⟩, fun h => if_neg h⟩
        rw [letV_map]
        unfold ckWord at hQ
        refine eq_nil ⟨fun h => back_ret ?_, fun h => ⟨rfl, by omega, fun h1 => ⟨by omega, back_ret ?_⟩, fun h1 => ⟨fun h2 => ⟨(show 3 < 1000 by decide), back_ret ?_⟩, fun h2 => back_ret ?_⟩⟩⟩
        · rw [if_pos h] at hQ; exact hQ
        · rw [if_neg h, if_pos ((last_eq (by omega)).mp h1)] at hQ; exact hQ
        · rw [if_neg h, if_neg fun z => h1 ((last_eq (by omega)).mpr z), if_neg (Nat.not_lt.mpr h2)] at hQ; exact hQ
        · rw [if_neg h, if_neg fun z => h1 ((last_eq (by omega)).mpr z), if_pos (Nat.lt_of_not_le h2)] at hQ; exact hQ
      · unfold wordTok at hQ
        rw [if_neg h5] at hQ; exact hQ
    · rw [next_mark h1 h2 h4] at hQ
      unfold markTok mark at hQ
      refine ⟨fun h5 => ⟨(show 3 < 1000 by decide), back_ret ?_⟩, fun h5 => ⟨(show 3 < 1000 by decide), in_three ⟨fun h6 => ⟨(show 3 < 1000 by decide), back_ret ?_⟩, fun h6 => ?_⟩⟩⟩
      · have h5 := eqS_iff.mp h5
        rw [if_pos h5, h5] at hQ; exact hQ
      · have h5 : ¬ cut l i (i + 2) = [61, 61] := fun z => h5 (eqS_iff.mpr z)
        rw [if_neg h5, if_pos h6] at hQ
        have h2l : ∀ d ∈ doubles, d.length = 2 := by decide
        have hQ : Q (V.tup [.str kSign, .str (cut l i (i + 2)), .int ((i + (cut l i (i + 2)).length : Nat) : Int)]) σ := hQ
        rw [h2l _ h6] at hQ; exact hQ
      · have h5 : ¬ cut l i (i + 2) = [61, 61] := fun z => h5 (eqS_iff.mpr z)
        rw [if_neg h5, if_neg h6] at hQ
        have hs : ∀ d ∈ t_SINGLE_SIGNS, d < 65 := by decide
        refine ⟨_, _, _, rfl, rfl, rfl, fun h7 => ⟨(show 3 < 1000 by decide), back_ret ?_⟩, fun h7 => back_ret ?_⟩
        · have h8 : l.getD i 0 ∈ t_SINGLE_SIGNS ∨ l.getD i 0 = 46 ∧ Parted l (i + 1) := h7.imp (mem_up hs).mp fun z => ⟨(upA_eq (by decide)).mp z.1, z.2⟩
          have hu : upA (l.getD i 0) = l.getD i 0 := by
            rcases h8 with z | z
            · exact (upA_eq (hs _ z)).mpr rfl
            · rw [z.1]; rfl
          rw [if_pos h8] at hQ
          rw [hu]; exact hQ
        · rw [if_neg fun z => h7 (z.imp (mem_up hs).mpr fun z => ⟨(upA_eq (by decide)).mpr z.1, z.2⟩)] at hQ
          exact hQ
end Mine
namespace Mine
theorem g_tuple {sc rm pos} (hk : sc.names.lookup (Str.ofString "tuple") = some .globalImplicit) : Ev sc rm (.Name (Str.ofString "tuple") pos) (tVal (.obj (.type "tuple"))) :=
  ev_builtin hk (fun P => by kernel_rfl) (by boot_fast) (by decide) (by decide)
theorem g_list {sc rm pos} (hk : sc.names.lookup (Str.ofString "list") = some .globalImplicit) : Ev sc rm (.Name (Str.ofString "list") pos) (tVal (.obj (.type "list"))) :=
  ev_builtin hk (fun P => by kernel_rfl) (by boot_fast) (by decide) (by decide)
theorem g_range {sc rm pos} (hk : sc.names.lookup (Str.ofString "range") = some .globalImplicit) : Ev sc rm (.Name (Str.ofString "range") pos) (tVal (.obj (.type "range"))) :=
  ev_builtin hk (fun P => by kernel_rfl) (by boot_fast) (by decide) (by decide)
noncomputable def lawV (t : Tok) : V := .tup [.tup [.str t.1, .str t.2.1], .int (t.2.2 : Nat)]
noncomputable def wBody : Stmt → List Stmt | .While _ b _ _ => b | _ => []
theorem eqv_pair {a b c d : List Nat} : PyData.eqv (.tuple [.str ⟨a.toArray⟩, .str ⟨b.toArray⟩]) (.tuple [.str ⟨c.toArray⟩, .str ⟨d.toArray⟩]) = true ↔ a = c ∧ b = d := by
  have e : ∀ x y : List Nat, (Str.mk x.toArray == Str.mk y.toArray) = true ↔ x = y := fun x y => by have := eqv_str (a := x) (b := y); rwa [PyData.eqv] at this
  simp only [PyData.eqv, PyData.eqvAll, Bool.and_true, Bool.and_eq_true, e]
theorem isDs_law {acc : List Tok} : isDs (acc.map lawV) = true := by induction acc with | nil => rfl | cons a l ih => rw [List.map_cons, isDs, ih]; rfl
theorem cut_lblank : ∀ Q X st, (∃ l i, st.vars[0]? = some (some (V.str l)) ∧ st.vars[2]? = some (some (V.int (i : Nat))) ∧ i < l.length ∧ sp (BlankAt l i) (fun b => Q b st)) →
    bOr (bCmp (tItem (tVar 0) (tVar 2)) (tVal (.str [32])) .Eq) (bOr (bAnd (bCmp (tItem (tVar 0) (tVar 2)) (tVal (.str [44, 59])) .In) (bAnd (bCmp (tSS (tVar 0) (tBin (tVar 2) (tVal (.int ((1 : Nat) : Int))) opAdd) (tBin (tVar 2) (tVal (.int ((2 : Nat) : Int))) opAdd)) (tTup (tCons (tVal (.str [])) (tCons (tVal (.str [32])) tNil))) .In) (bVal true))) (bVal false)) Q X st := by
  rintro Q X st ⟨l, i, h1, h2, hi, t⟩
  dsimp only [tVal,  tVar, tCell, tBin, tCmp, tNot, tNeg, tAnd, tOr, tIfe, tTup, tLst, tLstL, tBlt, tCall, tM0, tM1, tNil, tCons, tSS, tSl, tNSL, tItem, tAttr, tStrike, tMeth, tExcAt, tItr, tRange, tComp, bCmp, bChain, tChain, bNot, bVal, bAnd, bOr, bPlain, bSplit, tEnd, tSeq, tRet, tRet0, tCont, tSet, tIf, tExpr, tWhile, tFor, tRaise, tSetB, tSet2, tSet3, tAppend, tTry, tUndbl, d_eq1, vars0, d_int, d_nat, d_str, d_one, d_two, d_addN, d_addS, d_itS, d_itT, d_itL, d_itK, d_itSM, d_itKM, d_nt, d_nf, d_t, d_f, opNeg, slM, d_text, d_places, d_textL, d_placesL, d_kind, d_worth, d_at, d_isin, opSub, opMod, opDiv, opPow, opMul, opCmp, cLt, cLe, cLes, cEq, cIn, cNin, sp, slSS, slSN, slNS, oLen, oOrd, oChr, oMin, oAbs, oUpper, oIsL, oIsT, truth, bName, bTup2, bTup3, List.getElem?_cons_zero, List.getElem?_cons_succ, List.map_cons, List.map_nil, List.set_cons_zero, List.set_cons_succ]
  rw [h1, h2]
  dsimp only [tVal,  tVar, tCell, tBin, tCmp, tNot, tNeg, tAnd, tOr, tIfe, tTup, tLst, tLstL, tBlt, tCall, tM0, tM1, tNil, tCons, tSS, tSl, tNSL, tItem, tAttr, tStrike, tMeth, tExcAt, tItr, tRange, tComp, bCmp, bChain, tChain, bNot, bVal, bAnd, bOr, bPlain, bSplit, tEnd, tSeq, tRet, tRet0, tCont, tSet, tIf, tExpr, tWhile, tFor, tRaise, tSetB, tSet2, tSet3, tAppend, tTry, tUndbl, d_eq1, vars0, d_int, d_nat, d_str, d_one, d_two, d_addN, d_addS, d_itS, d_itT, d_itL, d_itK, d_itSM, d_itKM, d_nt, d_nf, d_t, d_f, opNeg, slM, d_text, d_places, d_textL, d_placesL, d_kind, d_worth, d_at, d_isin, opSub, opMod, opDiv, opPow, opMul, opCmp, cLt, cLe, cLes, cEq, cIn, cNin, sp, slSS, slSN, slNS, oLen, oOrd, oChr, oMin, oAbs, oUpper, oIsL, oIsT, truth, bName, bTup2, bTup3, List.getElem?_cons_zero, List.getElem?_cons_succ, List.map_cons, List.map_nil, List.set_cons_zero, List.set_cons_succ]
  exact ⟨hi, fun a => t.1 (.inl a), fun a => ⟨hi, fun b => ⟨(show 2 < 1000 by decide), in_parted ⟨fun d => t.1 (.inr ⟨b, d⟩), fun d => t.2 fun z => z.elim a fun z => d z.2⟩⟩, fun b => t.2 fun z => z.elim a fun z => b z.1⟩⟩
theorem cut_lis : ∀ Q X st, (∃ l i d w, st.vars[0]? = some (some (V.str l)) ∧ st.vars[2]? = some (some (V.int (i : Nat))) ∧ st.vars[3]? = some (some (V.bool w)) ∧ st.vars[4]? = some (some (V.bool d)) ∧ sp (d = true ∧ w = false ∧ IsIs l i) (fun b => Q b st)) →
    bAnd (bPlain (tVar 4)) (bAnd (bNot (bPlain (tVar 3))) (bAnd (bCmp (tM0 (tSS (tVar 0) (tVar 2) (tBin (tVar 2) (tVal (.int ((2 : Nat) : Int))) opAdd)) oUpper) (tVal (.str [73, 83])) .Eq) (bAnd (bCmp (tSS (tVar 0) (tBin (tVar 2) (tVal (.int ((2 : Nat) : Int))) opAdd) (tBin (tVar 2) (tVal (.int ((3 : Nat) : Int))) opAdd)) (tTup (tCons (tVal (.str [])) (tCons (tVal (.str [32])) tNil))) .In) (bVal true)))) Q X st := by
  rintro Q X st ⟨l, i, d, w, h1, h2, h3, h4, t⟩
  dsimp only [tVal,  tVar, tCell, tBin, tCmp, tNot, tNeg, tAnd, tOr, tIfe, tTup, tLst, tLstL, tBlt, tCall, tM0, tM1, tNil, tCons, tSS, tSl, tNSL, tItem, tAttr, tStrike, tMeth, tExcAt, tItr, tRange, tComp, bCmp, bChain, tChain, bNot, bVal, bAnd, bOr, bPlain, bSplit, tEnd, tSeq, tRet, tRet0, tCont, tSet, tIf, tExpr, tWhile, tFor, tRaise, tSetB, tSet2, tSet3, tAppend, tTry, tUndbl, d_eq1, vars0, d_int, d_nat, d_str, d_one, d_two, d_addN, d_addS, d_itS, d_itT, d_itL, d_itK, d_itSM, d_itKM, d_nt, d_nf, d_t, d_f, opNeg, slM, d_text, d_places, d_textL, d_placesL, d_kind, d_worth, d_at, d_isin, opSub, opMod, opDiv, opPow, opMul, opCmp, cLt, cLe, cLes, cEq, cIn, cNin, sp, slSS, slSN, slNS, oLen, oOrd, oChr, oMin, oAbs, oUpper, oIsL, oIsT, truth, bName, bTup2, bTup3, List.getElem?_cons_zero, List.getElem?_cons_succ, List.map_cons, List.map_nil, List.set_cons_zero, List.set_cons_succ]
  rw [h1, h2, h3, h4]
  dsimp only [tVal,  tVar, tCell, tBin, tCmp, tNot, tNeg, tAnd, tOr, tIfe, tTup, tLst, tLstL, tBlt, tCall, tM0, tM1, tNil, tCons, tSS, tSl, tNSL, tItem, tAttr, tStrike, tMeth, tExcAt, tItr, tRange, tComp, bCmp, bChain, tChain, bNot, bVal, bAnd, bOr, bPlain, bSplit, tEnd, tSeq, tRet, tRet0, tCont, tSet, tIf, tExpr, tWhile, tFor, tRaise, tSetB, tSet2, tSet3, tAppend, tTry, tUndbl, d_eq1, vars0, d_int, d_nat, d_str, d_one, d_two, d_addN, d_addS, d_itS, d_itT, d_itL, d_itK, d_itSM, d_itKM, d_nt, d_nf, d_t, d_f, opNeg, slM, d_text, d_places, d_textL, d_placesL, d_kind, d_worth, d_at, d_isin, opSub, opMod, opDiv, opPow, opMul, opCmp, cLt, cLe, cLes, cEq, cIn, cNin, sp, slSS, slSN, slNS, oLen, oOrd, oChr, oMin, oAbs, oUpper, oIsL, oIsT, truth, bName, bTup2, bTup3, List.getElem?_cons_zero, List.getElem?_cons_succ, List.map_cons, List.map_nil, List.set_cons_zero, List.set_cons_succ]
  cases d with
  | false => exact t.2 fun z => Bool.noConfusion z.1
  | true =>
    cases w with
    | true => exact t.2 fun z => Bool.noConfusion z.2.1
    | false =>
      exact ⟨fun a => ⟨(show 2 < 1000 by decide), in_parted ⟨fun b => t.1 ⟨rfl, rfl, eqS_iff.mp a, b⟩, fun b => t.2 fun z => b z.2.2.2⟩⟩, fun a => t.2 fun z => a (eqS_iff.mpr z.2.2.1)⟩
theorem in_pairs {k w : List Nat} {R : Bool → Prop} (h : sp (k = kWord ∧ (w = kPIC ∨ w = kPICTURE)) R) : cInD (.tup [.str k, .str w]) [.tup [.str kWord, .str kPIC], .tup [.str kWord, .str kPICTURE]] R := by
  refine ⟨rfl, rfl, by simp [toD, toDs, PyData.depth, PyData.depthAll], ?_⟩
  have e : ((toDs [V.tup [.str kWord, .str kPIC], .tup [.str kWord, .str kPICTURE]]).any fun y => PyData.eqv y (toD (.tup [.str k, .str w]))) = true ↔ k = kWord ∧ (w = kPIC ∨ w = kPICTURE) := by
    simp only [toDs, toD, List.any_cons, List.any_nil, Bool.or_false, Bool.or_eq_true, eqv_pair]
    constructor
    · rintro (⟨a, b⟩ | ⟨a, b⟩)
      · exact ⟨a.symm, .inl b.symm⟩
      · exact ⟨a.symm, .inr b.symm⟩
    · rintro ⟨a, b | b⟩
      · exact .inl ⟨a.symm, b.symm⟩
      · exact .inr ⟨a.symm, b.symm⟩
  exact ⟨fun z => h.1 (e.mp z), fun z => h.2 fun q => z (e.mpr q)⟩
theorem cut_due : ∀ Q X st, (∃ k acc, st.vars[1]? = some (some (V.loc k)) ∧ st.σ.ls.getD k [] = acc.map lawV ∧ acc.length ≤ big ∧ Q (.bool (due acc)) st) →
    tAnd (tCmp (tVar 1) (tLst tNil) .NotEq) (tCmp (tItem (tItem (tVar 1) (tNeg (tVal (.int ((1 : Nat) : Int))))) (tVal (.int ((0 : Nat) : Int)))) (tTup (tCons (tTup (tCons (tVal (.str kWord)) (tCons (tVal (.str kPIC)) tNil))) (tCons (tTup (tCons (tVal (.str kWord)) (tCons (tVal (.str kPICTURE)) tNil))) tNil))) .In) Q X st := by
  rintro Q X st ⟨k, acc, h1, hk, ha, t⟩
  dsimp only [tVal,  tVar, tCell, tBin, tCmp, tNot, tNeg, tAnd, tOr, tIfe, tTup, tLst, tLstL, tBlt, tCall, tM0, tM1, tNil, tCons, tSS, tSl, tNSL, tItem, tAttr, tStrike, tMeth, tExcAt, tItr, tRange, tComp, bCmp, bChain, tChain, bNot, bVal, bAnd, bOr, bPlain, bSplit, tEnd, tSeq, tRet, tRet0, tCont, tSet, tIf, tExpr, tWhile, tFor, tRaise, tSetB, tSet2, tSet3, tAppend, tTry, tUndbl, d_eq1, vars0, d_int, d_nat, d_str, d_one, d_two, d_addN, d_addS, d_itS, d_itT, d_itL, d_itK, d_itSM, d_itKM, d_nt, d_nf, d_t, d_f, opNeg, slM, d_text, d_places, d_textL, d_placesL, d_kind, d_worth, d_at, d_isin, opSub, opMod, opDiv, opPow, opMul, opCmp, cLt, cLe, cLes, cEq, cIn, cNin, sp, slSS, slSN, slNS, oLen, oOrd, oChr, oMin, oAbs, oUpper, oIsL, oIsT, truth, bName, bTup2, bTup3, List.getElem?_cons_zero, List.getElem?_cons_succ, List.map_cons, List.map_nil, List.set_cons_zero, List.set_cons_succ]
  rw [h1]
  dsimp only [tVal,  tVar, tCell, tBin, tCmp, tNot, tNeg, tAnd, tOr, tIfe, tTup, tLst, tLstL, tBlt, tCall, tM0, tM1, tNil, tCons, tSS, tSl, tNSL, tItem, tAttr, tStrike, tMeth, tExcAt, tItr, tRange, tComp, bCmp, bChain, tChain, bNot, bVal, bAnd, bOr, bPlain, bSplit, tEnd, tSeq, tRet, tRet0, tCont, tSet, tIf, tExpr, tWhile, tFor, tRaise, tSetB, tSet2, tSet3, tAppend, tTry, tUndbl, d_eq1, vars0, d_int, d_nat, d_str, d_one, d_two, d_addN, d_addS, d_itS, d_itT, d_itL, d_itK, d_itSM, d_itKM, d_nt, d_nf, d_t, d_f, opNeg, slM, d_text, d_places, d_textL, d_placesL, d_kind, d_worth, d_at, d_isin, opSub, opMod, opDiv, opPow, opMul, opCmp, cLt, cLe, cLes, cEq, cIn, cNin, sp, slSS, slSN, slNS, oLen, oOrd, oChr, oMin, oAbs, oUpper, oIsL, oIsT, truth, bName, bTup2, bTup3, List.getElem?_cons_zero, List.getElem?_cons_succ, List.map_cons, List.map_nil, List.set_cons_zero, List.set_cons_succ]
  have hr : rv st.σ (.loc k) = .list (acc.map lawV) := congrArg V.list hk
  have h60 : (st.σ.ls.getD k []).length < 2 ^ 63 := by rw [hk, List.length_map]; exact Nat.lt_of_le_of_lt ha (by decide)
  unfold cEqD
  rw [hr]
  refine ⟨(show 0 < 1000 by decide), isDs_law, rfl, by simp [rv, toD, toDs, PyData.depth, PyData.depthAll], ?_⟩
  rw [hk] at h60 ⊢
  rcases List.eq_nil_or_concat acc with rfl | ⟨pre, u, rfl⟩
  · exact ⟨fun _ => t, fun z => (z (by simp [rv, toD, toDs, PyData.eqv, PyData.eqvAll])).elim⟩
  · rw [List.concat_eq_append] at *
    refine ⟨fun z => ?_, fun _ => ⟨h60, by simp, ?_⟩⟩
    · exact absurd z (by cases pre <;> simp [rv, toD, toDs, PyData.eqv, PyData.eqvAll])
    · rw [last_map]
      have hd : due (pre ++ [u]) = decide (u.1 = kWord ∧ (u.2.1 = kPIC ∨ u.2.1 = kPICTURE)) := by rw [due, List.getLast?_concat]
      rw [hd] at t
      dsimp only [lawV]
      dsimp only [tVal,  tVar, tCell, tBin, tCmp, tNot, tNeg, tAnd, tOr, tIfe, tTup, tLst, tLstL, tBlt, tCall, tM0, tM1, tNil, tCons, tSS, tSl, tNSL, tItem, tAttr, tStrike, tMeth, tExcAt, tItr, tRange, tComp, bCmp, bChain, tChain, bNot, bVal, bAnd, bOr, bPlain, bSplit, tEnd, tSeq, tRet, tRet0, tCont, tSet, tIf, tExpr, tWhile, tFor, tRaise, tSetB, tSet2, tSet3, tAppend, tTry, tUndbl, d_eq1, vars0, d_int, d_nat, d_str, d_one, d_two, d_addN, d_addS, d_itS, d_itT, d_itL, d_itK, d_itSM, d_itKM, d_nt, d_nf, d_t, d_f, opNeg, slM, d_text, d_places, d_textL, d_placesL, d_kind, d_worth, d_at, d_isin, opSub, opMod, opDiv, opPow, opMul, opCmp, cLt, cLe, cLes, cEq, cIn, cNin, sp, slSS, slSN, slNS, oLen, oOrd, oChr, oMin, oAbs, oUpper, oIsL, oIsT, truth, bName, bTup2, bTup3, List.getElem?_cons_zero, List.getElem?_cons_succ, List.map_cons, List.map_nil, List.set_cons_zero, List.set_cons_succ]
      refine ⟨(show 2 < 2 ^ 63 by decide), (show 0 < 2 by decide), (show 2 < 1000 by decide), (show 2 < 1000 by decide), (show 2 < 1000 by decide), in_pairs ⟨fun h2 => ?_, fun h2 => ?_⟩⟩
      · rwa [decide_eq_true h2] at t
      · rwa [decide_eq_false h2] at t
/-- what stands at the place: a picture where one is due, else a token -/
noncomputable def told (l : List Nat) (i : Nat) (d : Bool) : Out := if d then (if picEnd l i = i then .inl i else .inr (kPicture, (cut l i (picEnd l i)).map upA, picEnd l i)) else next l i
theorem blk_told : Ex (fScope (dAt 47)) 4 ((wBody ((fBody (dAt 47)).getD 1 (.Pass default))).getD 3 (.Pass default)) (fun Q X st => ∃ (l : List Nat) (i : Nat) (d : Bool) (v1 v3 v5 v6 : Option V) (σ : Led), st = ⟨[some (.str l), v1, some (.int i), v3, some (.bool d), v5, v6, none, none, none, none], σ, []⟩ ∧ σ.pend = none ∧ l.length ≤ big ∧ i < l.length ∧
    ∀ v5, Q .next ⟨[some (.str l), v1, some (.int i), v3, some (.bool d), v5, some (outV (told l i d)), none, none, none, none], σ, []⟩) := by
  refine' ex_by (F := _) ?h ?w
  case h =>
    with_reducible apply ex_as
    · show Ex _ _ (Stmt.If _ _ _ _) _
      exact (cx_if (cb_plain (cv_var rfl rfl) (fun _ => rfl)) (cx_cons (cx_assign (cv_var rfl rfl) rfl rfl (fun _ => rfl)) (cx_cons (cx_while (cb_bool (cb_and (cb_cmp (cv_var rfl rfl) (cv_callB (g_len rfl) (cs_cons (cv_var rfl rfl) cs_nil (fun _ => se_Name)) b_len (fun _ => rfl) (fun _ => rfl) (fun _ => rfl)) rfl) (cb_and (cb_cmp (cv_item (cv_var rfl rfl) (cv_var rfl rfl) (fun _ _ _ => rfl)) (cv_str (l := [32, 61]) (by decide) (by decide)) rfl) cb_and_nil))) (cx_cons (cx_assign (cv_add (cv_var rfl rfl) (cv_nat 1)) rfl rfl (fun _ => rfl)) cx_nil)) (cx_cons (cx_assign (cv_ife (cb_bool (cb_and (cb_cmp (cv_var rfl rfl) (cv_var rfl rfl) rfl) (cb_and (cb_cmp (cv_item (cv_var rfl rfl) (cv_sub (cv_var rfl rfl) (cv_nat 1)) (fun _ _ _ => rfl)) (cv_str (l := [46, 44, 59]) (by decide) (by decide)) rfl) cb_and_nil))) (cv_sub (cv_var rfl rfl) (cv_nat 1)) (cv_var rfl rfl)) rfl rfl (fun _ => rfl)) (cx_cons (cx_assign (cv_ife (cb_cmp (cv_var rfl rfl) (cv_var rfl rfl) rfl) (cv_tuple (cs_cons (cv_str (l := [112, 105, 99, 116, 117, 114, 101]) (by decide) (by decide)) (cs_cons (cv_upper (cv_sliceSS (cv_var rfl rfl) (cv_var rfl rfl) (cv_var rfl rfl) (fun _ _ => rfl)) (fun _ => rfl)) (cs_cons (cv_var rfl rfl) cs_nil (fun _ => se_Name)) (fun _ => se_Call)) (fun _ => se_Constant))) (cv_var rfl rfl)) rfl rfl (fun _ => rfl)) cx_nil)))) (cx_cons (cx_assign (cv_call f_law_next (by decide) (g_law_next rfl) (cs_cons (cv_var rfl rfl) (cs_cons (cv_var rfl rfl) cs_nil (fun _ => se_Name)) (fun _ => se_Name)) (fun P => by kernel_rfl) (fun _ => rfl) (fun _ => rfl) (fun _ => rfl)) rfl rfl (fun _ => rfl)) cx_nil))
    · refine' rfl
  case w =>
    rintro Q X st ⟨l, i, d, v1, v3, v5, v6, σ, rfl, hp, hl, hi, h⟩
    dsimp only [tVal,  tVar, tCell, tBin, tCmp, tNot, tNeg, tAnd, tOr, tIfe, tTup, tLst, tLstL, tBlt, tCall, tM0, tM1, tNil, tCons, tSS, tSl, tNSL, tItem, tAttr, tStrike, tMeth, tExcAt, tItr, tRange, tComp, bCmp, bChain, tChain, bNot, bVal, bAnd, bOr, bPlain, bSplit, tEnd, tSeq, tRet, tRet0, tCont, tSet, tIf, tExpr, tWhile, tFor, tRaise, tSetB, tSet2, tSet3, tAppend, tTry, tUndbl, d_eq1, vars0, d_int, d_nat, d_str, d_one, d_two, d_addN, d_addS, d_itS, d_itT, d_itL, d_itK, d_itSM, d_itKM, d_nt, d_nf, d_t, d_f, opNeg, slM, d_text, d_places, d_textL, d_placesL, d_kind, d_worth, d_at, d_isin, opSub, opMod, opDiv, opPow, opMul, opCmp, cLt, cLe, cLes, cEq, cIn, cNin, sp, slSS, slSN, slNS, oLen, oOrd, oChr, oMin, oAbs, oUpper, oIsL, oIsT, truth, bName, bTup2, bTup3, List.getElem?_cons_zero, List.getElem?_cons_succ, List.map_cons, List.map_nil, List.set_cons_zero, List.set_cons_succ]
    cases d with
    | false => exact ⟨_, _, rfl, hp, hl, hi, h _⟩
    | true =>
      refine ⟨fun n st => ∃ j : Nat, st = ⟨[some (.str l), v1, some (.int i), v3, some (.bool true), some (.int j), v6, none, none, none, none], σ, []⟩ ∧ n = l.length - j ∧ i ≤ j ∧ j ≤ l.length ∧ picRun l j = picRun l i, _, ⟨i, rfl, rfl, Nat.le_refl _, Nat.le_of_lt hi, rfl⟩, ?_⟩
      rintro n _ ⟨j, rfl, rfl, hij, hjl, he⟩
      dsimp only [tVal,  tVar, tCell, tBin, tCmp, tNot, tNeg, tAnd, tOr, tIfe, tTup, tLst, tLstL, tBlt, tCall, tM0, tM1, tNil, tCons, tSS, tSl, tNSL, tItem, tAttr, tStrike, tMeth, tExcAt, tItr, tRange, tComp, bCmp, bChain, tChain, bNot, bVal, bAnd, bOr, bPlain, bSplit, tEnd, tSeq, tRet, tRet0, tCont, tSet, tIf, tExpr, tWhile, tFor, tRaise, tSetB, tSet2, tSet3, tAppend, tTry, tUndbl, d_eq1, vars0, d_int, d_nat, d_str, d_one, d_two, d_addN, d_addS, d_itS, d_itT, d_itL, d_itK, d_itSM, d_itKM, d_nt, d_nf, d_t, d_f, opNeg, slM, d_text, d_places, d_textL, d_placesL, d_kind, d_worth, d_at, d_isin, opSub, opMod, opDiv, opPow, opMul, opCmp, cLt, cLe, cLes, cEq, cIn, cNin, sp, slSS, slSN, slNS, oLen, oOrd, oChr, oMin, oAbs, oUpper, oIsL, oIsT, truth, bName, bTup2, bTup3, List.getElem?_cons_zero, List.getElem?_cons_succ, List.map_cons, List.map_nil, List.set_cons_zero, List.set_cons_succ]
      have yes : ∀ e, picEnd l i = e → i < e → told l i true = .inr (kPicture, (cut l i e).map upA, e) := fun e h1 h2 => by
        unfold told; rw [if_pos rfl, h1, if_neg (Nat.ne_of_gt h2)]
      have no : picEnd l i = i → told l i true = .inl i := fun h1 => by unfold told; rw [if_pos rfl, if_pos h1]
      refine ⟨fun hlt => ⟨hlt, fun h1 => ?_, fun h1 => ⟨_, by omega, j + 1, rfl, rfl, by omega, hlt, (picRun_step hlt h1).symm.trans he⟩⟩, fun hge => ?_⟩
      all_goals
        have hq : picRun l i = j := he.symm.trans (by first | exact picRun_stop hlt h1 | exact picRun_end (Nat.le_of_not_lt hge))
        have hE : picEnd l i = if i < j ∧ l.getD (j - 1) 0 ∈ t_ENDS then j - 1 else j := by unfold picEnd; rw [hq]
        refine ⟨fun h2 => ⟨by omega, by omega, fun h3 => ⟨by omega, fun h4 => ⟨(show 3 < 1000 by decide), ?_⟩, fun h4 => ?_⟩, fun h3 => ⟨fun h4 => ⟨(show 3 < 1000 by decide), ?_⟩, fun h4 => absurd h2 h4⟩⟩, fun h2 => ⟨fun h4 => absurd h4 h2, fun h4 => ?_⟩⟩
        · have e := h (some (.int (j - 1 : Nat)))
          rwa [yes _ (hE.trans (if_pos ⟨h2, h3⟩)) h4] at e
        · have e := h (some (.int (j - 1 : Nat)))
          have hi1 : j - 1 = i := by omega
          rwa [no ((hE.trans (if_pos ⟨h2, h3⟩)).trans hi1)] at e
        · have e := h (some (.int (j : Nat)))
          rwa [yes _ (hE.trans (if_neg fun z => h3 z.2)) h4] at e
        · have e := h (some (.int (j : Nat)))
          have hi1 : j = i := by omega
          rwa [no ((hE.trans (if_neg fun z => h2 z.1)).trans hi1)] at e
theorem rd_step {l : List Nat} {n i : Nat} {was : Bool} {acc : List Tok} (h : i < l.length) (h1 : ¬ BlankAt l i) (h2 : ¬ PicAt acc was l i) :
    rd l (n + 1) i was acc = match told l i (due acc) with | .inl j => .inl j | .inr p => rd l n p.2.2 false (acc ++ [(p.1, p.2.1, i)]) := by
  rw [rd, if_pos h, if_neg h1, if_neg h2]
  unfold told
  cases due acc with
  | false => rfl
  | true =>
    rw [if_pos rfl, if_pos rfl]
    by_cases h3 : picEnd l i = i
    · rw [if_pos h3, if_pos h3]
    · rw [if_neg h3, if_neg h3]
theorem told_gt {l : List Nat} {i : Nat} {d : Bool} {p : List Nat × List Nat × Nat} (hi : i < l.length) (h : told l i d = .inr p) : i < p.2.2 := by
  unfold told at h
  split at h
  · split at h
    · cases h
    · rename_i h3
      cases h
      exact Nat.lt_of_le_of_ne picEnd_ge (Ne.symm h3)
  · exact next_gt hi h
theorem f_law_read : Fn 303 5 (fun σ vs Q X => ∃ l, vs = [.str l] ∧ σ.pend = none ∧ l.length ≤ big ∧ outF (rd l l.length 0 false []) (fun acc => Q (.loc σ.ls.length) ⟨σ.ls ++ [acc.map lawV], none⟩) (fun j => Q (.int (j : Nat)) σ)) := by
  refine' fn_intro (n := 11) (rm := 4) (T := _) (ps := [Str.ofString "text"]) (fun P => by rfl) (fun P => by kernel_rfl) ?r1 ?r2 (hp_of (by rfl)) ?r4 ?r5 ?r6 (Nat.le_refl _) ?r7 (by rfl)
  case r6 =>
    refine' @exs_as _ _ _ _ _ ((cx_cons (cx_assignS3 (cv_tuple (cs_cons (cv_listL cs_nil) (cs_cons (cv_nat 0) (cs_cons cv_bool cs_nil (fun _ => se_Constant)) (fun _ => se_Constant)) (fun _ => se_List))) rfl rfl rfl rfl rfl rfl (by decide) (fun _ => rfl) (fun env h => by cases env; cases h; rfl)) (cx_cons (cx_while (cb_cmp (cv_var rfl rfl) (cv_callB (g_len rfl) (cs_cons (cv_var rfl rfl) cs_nil (fun _ => se_Name)) b_len (fun _ => rfl) (fun _ => rfl) (fun _ => rfl)) rfl) (cx_cons (cx_if (tst_by (cb_bool (cb_or (cb_cmp (cv_item (cv_var rfl rfl) (cv_var rfl rfl) (fun _ _ _ => rfl)) (cv_str (l := [32]) (by decide) (by decide)) rfl) (cb_or (cb_bool (cb_and (cb_cmp (cv_item (cv_var rfl rfl) (cv_var rfl rfl) (fun _ _ _ => rfl)) (cv_str (l := [44, 59]) (by decide) (by decide)) rfl) (cb_and (cb_cmp (cv_sliceSS (cv_var rfl rfl) (cv_add (cv_var rfl rfl) (cv_nat 1)) (cv_add (cv_var rfl rfl) (cv_nat 2)) (fun _ _ => rfl)) (cv_tuple (cs_cons (cv_str (l := []) (by decide) (by decide)) (cs_cons (cv_str (l := [32]) (by decide) (by decide)) cs_nil (fun _ => se_Constant)) (fun _ => se_Constant))) rfl) cb_and_nil))) cb_or_nil))) cut_lblank) (cx_cons (cx_assign (cv_add (cv_var rfl rfl) (cv_nat 1)) rfl rfl (fun _ => rfl)) (cx_cons cx_cont cx_nil)) cx_nil) (cx_cons (cx_assign (ev_by (cv_boolop (cl_and (cv_cmp (cv_var rfl rfl) (cv_list cs_nil) rfl) (cl_one (cv_cmp (cv_item (cv_item (cv_var rfl rfl) (cv_neg (cv_nat 1)) (fun _ _ _ => rfl)) (cv_nat 0) (fun _ _ _ => rfl)) (cv_tuple (cs_cons (cv_tuple (cs_cons (cv_str (l := [119, 111, 114, 100]) (by decide) (by decide)) (cs_cons (cv_str (l := [80, 73, 67]) (by decide) (by decide)) cs_nil (fun _ => se_Constant)) (fun _ => se_Constant))) (cs_cons (cv_tuple (cs_cons (cv_str (l := [119, 111, 114, 100]) (by decide) (by decide)) (cs_cons (cv_str (l := [80, 73, 67, 84, 85, 82, 69]) (by decide) (by decide)) cs_nil (fun _ => se_Constant)) (fun _ => se_Constant))) cs_nil (fun _ => se_Tuple)) (fun _ => se_Tuple))) rfl)))) cut_due) rfl rfl (fun _ => rfl)) (cx_cons (cx_if (tst_by (cb_bool (cb_and (cb_plain (cv_var rfl rfl) (fun _ => rfl)) (cb_and (cb_not (cb_plain (cv_var rfl rfl) (fun _ => rfl))) (cb_and (cb_cmp (cv_upper (cv_sliceSS (cv_var rfl rfl) (cv_var rfl rfl) (cv_add (cv_var rfl rfl) (cv_nat 2)) (fun _ _ => rfl)) (fun _ => rfl)) (cv_str (l := [73, 83]) (by decide) (by decide)) rfl) (cb_and (cb_cmp (cv_sliceSS (cv_var rfl rfl) (cv_add (cv_var rfl rfl) (cv_nat 2)) (cv_add (cv_var rfl rfl) (cv_nat 3)) (fun _ _ => rfl)) (cv_tuple (cs_cons (cv_str (l := []) (by decide) (by decide)) (cs_cons (cv_str (l := [32]) (by decide) (by decide)) cs_nil (fun _ => se_Constant)) (fun _ => se_Constant))) rfl) cb_and_nil))))) cut_lis) (cx_cons (cx_assignS2 (cv_tuple (cs_cons cv_bool (cs_cons (cv_add (cv_var rfl rfl) (cv_nat 2)) cs_nil (fun _ => se_BinOp)) (fun _ => se_Constant))) rfl rfl rfl rfl (by decide) (fun _ => rfl) (fun env h => by cases env; cases h; rfl)) (cx_cons cx_cont cx_nil)) cx_nil) (cx_cons blk_told (cx_cons (cx_if (cb_not (cb_plain (cv_callB (g_isinstance rfl) (cs_cons (cv_var rfl rfl) (cs_cons (g_tuple rfl) cs_nil (fun _ => se_Name)) (fun _ => se_Name)) b_isT (fun _ => rfl) (fun _ => rfl) (fun _ => rfl)) (fun _ => rfl))) (cx_cons (cx_ret (cv_var rfl rfl)) cx_nil) cx_nil) (cx_cons (cx_append (cv_var rfl rfl) (cv_tuple (cs_cons (cv_tuple (cs_cons (cv_item (cv_var rfl rfl) (cv_nat 0) (fun _ _ _ => rfl)) (cs_cons (cv_item (cv_var rfl rfl) (cv_nat 1) (fun _ _ _ => rfl)) cs_nil (fun _ => se_Subscript)) (fun _ => se_Subscript))) (cs_cons (cv_var rfl rfl) cs_nil (fun _ => se_Name)) (fun _ => se_Tuple))) (fun _ => rfl) (fun _ => rfl) (fun _ => rfl)) (cx_cons (cx_assignS2 (cv_tuple (cs_cons cv_bool (cs_cons (cv_item (cv_var rfl rfl) (cv_nat 2) (fun _ _ _ => rfl)) cs_nil (fun _ => se_Subscript)) (fun _ => se_Constant))) rfl rfl rfl rfl (by decide) (fun _ => rfl) (fun env h => by cases env; cases h; rfl)) cx_nil)))))))) (cx_cons (cx_ret (cv_var rfl rfl)) cx_nil)))) rfl
  case r1 => intro xs h; obtain ⟨a, rfl⟩ := len1 h; rfl
  case r2 => decide
  case r4 => decide
  case r5 => decide
  case r7 =>
    rintro σ _ Q X ⟨l, rfl, hp, hl, hQ⟩
    refine ⟨hp, rfl, ?_⟩
    obtain ⟨ls, pd⟩ := σ
    cases hp
    have hg : ∀ A : List V, (ls ++ [A]).getD ls.length [] = A := fun A => by rw [List.getD_eq_getElem?_getD, List.getElem?_append_right (Nat.le_refl _), Nat.sub_self]; rfl
    have hs : ∀ A B : List V, (ls ++ [A]).set ls.length B = ls ++ [B] := fun A B => by rw [List.set_append_right _ _ (Nat.le_refl _), Nat.sub_self]; rfl
    dsimp only [tVal,  tVar, tCell, tBin, tCmp, tNot, tNeg, tAnd, tOr, tIfe, tTup, tLst, tLstL, tBlt, tCall, tM0, tM1, tNil, tCons, tSS, tSl, tNSL, tItem, tAttr, tStrike, tMeth, tExcAt, tItr, tRange, tComp, bCmp, bChain, tChain, bNot, bVal, bAnd, bOr, bPlain, bSplit, tEnd, tSeq, tRet, tRet0, tCont, tSet, tIf, tExpr, tWhile, tFor, tRaise, tSetB, tSet2, tSet3, tAppend, tTry, tUndbl, d_eq1, vars0, d_int, d_nat, d_str, d_one, d_two, d_addN, d_addS, d_itS, d_itT, d_itL, d_itK, d_itSM, d_itKM, d_nt, d_nf, d_t, d_f, opNeg, slM, d_text, d_places, d_textL, d_placesL, d_kind, d_worth, d_at, d_isin, opSub, opMod, opDiv, opPow, opMul, opCmp, cLt, cLe, cLes, cEq, cIn, cNin, sp, slSS, slSN, slNS, oLen, oOrd, oChr, oMin, oAbs, oUpper, oIsL, oIsT, truth, bName, bTup2, bTup3, List.getElem?_cons_zero, List.getElem?_cons_succ, List.map_cons, List.map_nil, List.set_cons_zero, List.set_cons_succ]
    refine ⟨(show 0 < 1000 by decide), rfl, (show 3 < 1000 by decide), fun n st => ∃ (i : Nat) (was : Bool) (acc : List Tok) (v4 v5 v6 : Option V), st = ⟨[some (.str l), some (.loc ls.length), some (.int i), some (.bool was), v4, v5, v6, none, none, none, none], ⟨ls ++ [acc.map lawV], none⟩, []⟩ ∧ l.length - i ≤ n ∧ acc.length ≤ i ∧ outF (rd l n i was acc) (fun acc => Q (.loc ls.length) ⟨ls ++ [acc.map lawV], none⟩) (fun j => Q (.int (j : Nat)) ⟨ls, none⟩), l.length, ⟨0, false, [], none, none, none, rfl, Nat.le_refl _, Nat.le_refl _, hQ⟩, ?_⟩
    rintro n _ ⟨i, was, acc, v4, v5, v6, rfl, hi, ha, h⟩
    dsimp only [tVal,  tVar, tCell, tBin, tCmp, tNot, tNeg, tAnd, tOr, tIfe, tTup, tLst, tLstL, tBlt, tCall, tM0, tM1, tNil, tCons, tSS, tSl, tNSL, tItem, tAttr, tStrike, tMeth, tExcAt, tItr, tRange, tComp, bCmp, bChain, tChain, bNot, bVal, bAnd, bOr, bPlain, bSplit, tEnd, tSeq, tRet, tRet0, tCont, tSet, tIf, tExpr, tWhile, tFor, tRaise, tSetB, tSet2, tSet3, tAppend, tTry, tUndbl, d_eq1, vars0, d_int, d_nat, d_str, d_one, d_two, d_addN, d_addS, d_itS, d_itT, d_itL, d_itK, d_itSM, d_itKM, d_nt, d_nf, d_t, d_f, opNeg, slM, d_text, d_places, d_textL, d_placesL, d_kind, d_worth, d_at, d_isin, opSub, opMod, opDiv, opPow, opMul, opCmp, cLt, cLe, cLes, cEq, cIn, cNin, sp, slSS, slSN, slNS, oLen, oOrd, oChr, oMin, oAbs, oUpper, oIsL, oIsT, truth, bName, bTup2, bTup3, List.getElem?_cons_zero, List.getElem?_cons_succ, List.map_cons, List.map_nil, List.set_cons_zero, List.set_cons_succ]
    refine ⟨fun hlt => ?_, fun hge => .inl ?_⟩
    · obtain ⟨n, rfl⟩ : ∃ m, n = m + 1 := ⟨n - 1, by omega⟩
      have hab : acc.length ≤ big := Nat.le_trans ha (Nat.le_trans (Nat.le_of_lt hlt) hl)
      refine ⟨_, _, rfl, rfl, hlt, fun h1 => ?_, fun h1 => ⟨_, acc, rfl, hg _, hab, _, _, _, _, rfl, rfl, rfl, rfl, fun h2 => ?_, fun h2 => ⟨_, _, _, _, _, _, _, _, rfl, rfl, hl, hlt, fun v5 => ?_⟩⟩⟩
      · rw [rd, if_pos hlt, if_pos h1] at h
        exact ⟨n, Nat.lt_succ_self n, i + 1, was, acc, _, _, _, rfl, by omega, by omega, h⟩
      · rw [rd, if_pos hlt, if_neg h1, if_pos h2] at h
        exact ⟨(show 2 < 1000 by decide), n, Nat.lt_succ_self n, i + 2, true, acc, _, _, _, rfl, by omega, by omega, h⟩
      rw [rd_step hlt h1 h2] at h
      cases ht : told l i (due acc) with
      | inl j =>
        rw [ht] at h
        dsimp only [outV]
        refine ⟨rfl, .inr ⟨rfl, by rw [List.length_append]; exact Nat.le_add_right _ _, ?_⟩⟩
        dsimp only
        rw [List.take_left']
        · exact h
        · rfl
      | inr p =>
        rw [ht] at h
        have hgt := told_gt hlt ht
        dsimp only [outV]
        dsimp only [tVal,  tVar, tCell, tBin, tCmp, tNot, tNeg, tAnd, tOr, tIfe, tTup, tLst, tLstL, tBlt, tCall, tM0, tM1, tNil, tCons, tSS, tSl, tNSL, tItem, tAttr, tStrike, tMeth, tExcAt, tItr, tRange, tComp, bCmp, bChain, tChain, bNot, bVal, bAnd, bOr, bPlain, bSplit, tEnd, tSeq, tRet, tRet0, tCont, tSet, tIf, tExpr, tWhile, tFor, tRaise, tSetB, tSet2, tSet3, tAppend, tTry, tUndbl, d_eq1, vars0, d_int, d_nat, d_str, d_one, d_two, d_addN, d_addS, d_itS, d_itT, d_itL, d_itK, d_itSM, d_itKM, d_nt, d_nf, d_t, d_f, opNeg, slM, d_text, d_places, d_textL, d_placesL, d_kind, d_worth, d_at, d_isin, opSub, opMod, opDiv, opPow, opMul, opCmp, cLt, cLe, cLes, cEq, cIn, cNin, sp, slSS, slSN, slNS, oLen, oOrd, oChr, oMin, oAbs, oUpper, oIsL, oIsT, truth, bName, bTup2, bTup3, List.getElem?_cons_zero, List.getElem?_cons_succ, List.map_cons, List.map_nil, List.set_cons_zero, List.set_cons_succ]
        rw [hg, hs]
        have he : acc.map lawV ++ [lawV (p.1, p.2.1, i)] = (acc ++ [(p.1, p.2.1, i)]).map lawV := by rw [List.map_append]; rfl
        refine ⟨rfl, (show 3 < 2 ^ 63 by decide), (show 0 < 3 by decide), (show 3 < 2 ^ 63 by decide), (show 1 < 3 by decide), (show 2 < 1000 by decide), (show 2 < 1000 by decide), rfl, by rw [List.length_map]; exact Nat.le_trans hab (by decide), (show 3 < 2 ^ 63 by decide), (show 2 < 3 by decide), (show 2 < 1000 by decide), n, Nat.lt_succ_self n, p.2.2, false, acc ++ [(p.1, p.2.1, i)], _, _, _, congrArg (fun z => St.mk _ ⟨ls ++ [z], none⟩ []) he, by omega, by rw [List.length_append]; exact Nat.succ_le_of_lt (Nat.lt_of_le_of_lt ha hgt), h⟩
    · cases n with
      | zero => exact h
      | succ n => unfold rd at h; rw [if_neg hge] at h; exact h
end Mine
namespace Mine
theorem getD_all {l : List V} {P : V → Prop} {i : Nat} (h : ∀ v ∈ l, P v) (hi : i < l.length) : P (l.getD i .none) := by
  rw [List.getD_eq_getElem?_getD, List.getElem?_eq_getElem hi]
  exact h _ (List.getElem_mem hi)
noncomputable def consts : List PySem.Expr → Option (List (List Nat))
  | [] => some []
  | .Constant (.str x) _ _ :: r => if okB (strL x) then (consts r).map (strL x :: ·) else none
  | _ => none
noncomputable def tStrs (ls : List (List Nat)) : Tr (List V) := fun Q _ st => Q (ls.map .str) st
theorem cs_strs0 {sc : Scope} {rm : Nat} {pos : Pos} : ∀ {es : List PySem.Expr} {ls : List (List Nat)}, consts es = some ls → Evs sc rm pos es (tStrs ls)
  | [], _, h => by cases h; exact evs_nil
  | .Constant (.str x) k p :: r, ls, h => by
    unfold consts at h
    split at h
    · rename_i ok
      obtain ⟨l, hl, rfl⟩ := Option.map_eq_some_iff.mp h
      exact cs_cons (cv_str rfl ok) (cs_strs0 hl) (fun _ => se_Constant)
    · cases h
theorem cs_strs {sc : Scope} {rm : Nat} {pos : Pos} {es : List PySem.Expr} (ls : List (List Nat)) (h : consts es = some ls) : Evs sc rm pos es (tStrs ls) := cs_strs0 h
theorem f_law_piece : Fn 263 1 (fun σ vs Q X => ∃ p n, vs = [.int (p : Nat), .int (n : Nat)] ∧ σ.pend = none ∧ (∀ s : List Nat, s.length ≤ 200 → Q (.str s) σ)) := by
  refine' fn_intro (n := 3) (rm := 0) (T := _) (ps := [Str.ofString "pick", Str.ofString "number"]) (fun P => by rfl) (fun P => by kernel_rfl) ?r1 ?r2 (hp_of (by rfl)) ?r4 ?r5 ?r6 (Nat.le_refl _) ?r7 (by rfl)
  case r6 =>
    refine' @exs_as _ _ _ _ _ ((@cx_cons _ _ _ _ _ _ (@cx_assign _ _ _ _ _ _ _ _ (@cv_list _ _ _ _ _ (@cs_strs _ _ _ _ [[65], [98], [57], [52], [45], [46], [44], [59], [32], [32], [39], [34], [61], [42], [40], [60], [35], [80, 73, 67, 32], [105, 115, 32], [120, 45, 121], [46, 32], [44, 32]] (by kernel_rfl))) rfl rfl (fun _ => rfl)) (@cx_cons _ _ _ _ _ _ (@cx_assign _ _ _ _ _ _ _ _ (cv_addL (cv_var rfl rfl) (cv_list (cs_cons (cv_mult (cv_str (l := [49]) (by decide) (by decide)) (cv_add (cv_nat 18) (cv_mod (cv_var rfl rfl) (cv_nat 2)))) (cs_cons (cv_mult (cv_str (l := [81]) (by decide) (by decide)) (cv_add (cv_nat 30) (cv_mod (cv_var rfl rfl) (cv_nat 2)))) (cs_cons (cv_add (cv_add (cv_str (l := [39]) (by decide) (by decide)) (cv_mult (cv_str (l := [122]) (by decide) (by decide)) (cv_add (cv_nat 160) (cv_mod (cv_var rfl rfl) (cv_nat 2))))) (cv_str (l := [39]) (by decide) (by decide))) (cs_cons (cv_str (l := [80, 73, 67, 84, 85, 82, 69, 32]) (by decide) (by decide)) (cs_cons (cv_str (l := [41]) (by decide) (by decide)) (cs_cons (cv_str (l := [62, 61]) (by decide) (by decide)) cs_nil (fun _ => se_Constant)) (fun _ => se_Constant)) (fun _ => se_Constant)) (fun _ => se_BinOp)) (fun _ => se_BinOp)) (fun _ => se_BinOp)))) rfl rfl (fun _ => rfl)) (@cx_cons _ _ _ _ _ _ (cx_ret (cv_item (cv_var rfl rfl) (cv_mod (cv_var rfl rfl) (cv_nat 28)) (fun _ _ _ => rfl))) cx_nil)))) rfl
  case r1 => intro xs h; obtain ⟨a, b, rfl⟩ := len2 h; rfl
  case r2 => decide
  case r4 => decide
  case r5 => decide
  case r7 =>
    rintro σ _ Q X ⟨p, n, rfl, hp, hQ⟩
    refine ⟨hp, rfl, ?_⟩
    dsimp only [tVal, tStrs, tVar, tCell, tBin, tCmp, tNot, tNeg, tAnd, tOr, tIfe, tTup, tLst, tLstL, tBlt, tCall, tM0, tM1, tNil, tCons, tSS, tSl, tNSL, tItem, tAttr, tStrike, tMeth, tExcAt, tItr, tRange, tComp, bCmp, bChain, tChain, bNot, bVal, bAnd, bOr, bPlain, bSplit, tEnd, tSeq, tRet, tRet0, tCont, tSet, tIf, tExpr, tWhile, tFor, tRaise, tSetB, tSet2, tSet3, tAppend, tTry, tUndbl, d_eq1, vars0, d_int, d_nat, d_str, d_one, d_two, d_addN, d_addS, d_itS, d_itT, d_itL, d_itK, d_itSM, d_itKM, d_nt, d_nf, d_t, d_f, opNeg, slM, d_text, d_places, d_textL, d_placesL, d_kind, d_worth, d_at, d_isin, opSub, opMod, opDiv, opPow, opMul, opCmp, cLt, cLe, cLes, cEq, cIn, cNin, sp, slSS, slSN, slNS, oLen, oOrd, oChr, oMin, oAbs, oUpper, oIsL, oIsT, truth, bName, bTup2, bTup3, List.getElem?_cons_zero, List.getElem?_cons_succ, List.map_cons, List.map_nil, List.set_cons_zero, List.set_cons_succ]
    have hm : p % 28 < 28 := Nat.mod_lt _ (by decide)
    have hr : n % 2 < 2 := Nat.mod_lt _ (by decide)
    generalize p % 28 = q at *
    generalize n % 2 = r at *
    have hz : ∀ (a : List Nat) (b : Nat), b ≤ 161 → (a ++ List.replicate b ([122].headD 0)).length = a.length + b := fun a b _ => by rw [List.length_append, List.length_replicate]
    refine ⟨by decide, by decide, by omega, by omega, rfl, by decide, by omega, by omega, rfl, by decide, by omega, by omega, rfl, ?_, ?_, (show 6 < 1000 by decide), (show 22 + 6 ≤ 1000 by decide), by decide, ?_⟩
    · rw [hz _ _ (by omega)]; show 1 + (160 + r) ≤ _; omega
    · rw [List.length_append, hz _ _ (by omega)]; show 1 + (160 + r) + 1 ≤ _; omega
    show opItem σ (.list _) _ _
    rw [d_itL]
    refine ⟨(show 28 < 2 ^ 63 by decide), hm, getD_all (P := fun v => back σ Q (Fl.ret v) σ) (fun v hv => ?_) hm⟩
    have fin : ∀ s : List Nat, s.length ≤ 200 → back σ Q (Fl.ret (.str s)) σ := fun s h => back_ret (hQ s h)
    rcases List.mem_append.mp hv with hv | hv
    · obtain ⟨s, hs, rfl⟩ := List.mem_map.mp hv
      exact fin s ((by decide : ∀ s ∈ [[65], [98], [57], [52], [45], [46], [44], [59], [32], [32], [39], [34], [61], [42], [40], [60], [35], [80, 73, 67, 32], [105, 115, 32], [120, 45, 121], [46, 32], [44, 32]], s.length ≤ 200) s hs)
    · rcases List.mem_cons.mp hv with rfl | hv
      · exact fin _ (by rw [List.length_replicate]; omega)
      rcases List.mem_cons.mp hv with rfl | hv
      · exact fin _ (by rw [List.length_replicate]; omega)
      rcases List.mem_cons.mp hv with rfl | hv
      · exact fin _ (by rw [List.length_append, hz _ _ (by omega)]; show 1 + (160 + r) + 1 ≤ _; omega)
      rcases List.mem_cons.mp hv with rfl | hv
      · exact fin _ (by decide)
      rcases List.mem_cons.mp hv with rfl | hv
      · exact fin _ (by decide)
      rcases List.mem_cons.mp hv with rfl | hv
      · exact fin _ (by decide)
      cases hv
theorem f_law_text : Fn 270 2 (fun σ vs Q X => ∃ ns : List Int, vs = [.list (ns.map .int)] ∧ σ.pend = none ∧ ns.length ≤ big ∧ (∀ s : List Nat, s.length ≤ 400 → Q (.str s) σ)) := by
  refine' fn_intro (n := 8) (rm := 1) (T := _) (ps := [Str.ofString "script"]) (fun P => by rfl) (fun P => by kernel_rfl) ?r1 ?r2 (hp_of (by rfl)) ?r4 ?r5 ?r6 (Nat.le_refl _) ?r7 (by rfl)
  case r6 =>
    refine' @exs_as _ _ _ _ _ ((cx_cons (cx_assign (cv_str (l := []) (by decide) (by decide)) rfl rfl (fun _ => rfl)) (cx_cons (cx_for (ci_ev (cv_sliceNSL (cv_var rfl rfl) (cv_nat 6) (fun _ _ => rfl)) (by decide)) (cx_cons (cx_assign (cv_mod (cv_callB (g_abs rfl) (cs_cons (cv_var rfl rfl) cs_nil (fun _ => se_Name)) b_abs (fun _ => rfl) (fun _ => rfl) (fun _ => rfl)) (cv_pow (cv_nat 10) (cv_nat 30))) rfl rfl (fun _ => rfl)) (cx_cons (cx_for (ci_range (cv_add (cv_nat 1) (cv_mod (cv_var rfl rfl) (cv_nat 5))) (by decide) (g_range rfl) (fun _ => rfl) (fun _ => rfl)) (cx_cons (cx_assign (cv_floordiv (cv_var rfl rfl) (cv_nat 5)) rfl rfl (fun _ => rfl)) (cx_cons (cx_assign (cv_add (cv_var rfl rfl) (cv_call f_law_piece (by decide) (g_law_piece rfl) (cs_cons (cv_var rfl rfl) (cs_cons (cv_floordiv (cv_var rfl rfl) (cv_nat 28)) cs_nil (fun _ => se_BinOp)) (fun _ => se_Name)) (fun P => by kernel_rfl) (fun _ => rfl) (fun _ => rfl) (fun _ => rfl))) rfl rfl (fun _ => rfl)) (cx_cons (cx_assign (cv_floordiv (cv_var rfl rfl) (cv_nat 28)) rfl rfl (fun _ => rfl)) cx_nil))) rfl rfl (by decide) (fun _ _ => rfl)) cx_nil)) rfl rfl (by decide) (fun _ _ => rfl)) (cx_cons (cx_ret (cv_sliceNS (cv_var rfl rfl) (cv_nat 400) (fun _ _ => rfl))) cx_nil)))) rfl
  case r1 => intro xs h; obtain ⟨a, rfl⟩ := len1 h; rfl
  case r2 => decide
  case r4 => decide
  case r5 => decide
  case r7 =>
    rintro σ _ Q X ⟨ns, rfl, hp, hl, hQ⟩
    refine ⟨hp, rfl, ?_⟩
    dsimp only [tVal, tStrs, tVar, tCell, tBin, tCmp, tNot, tNeg, tAnd, tOr, tIfe, tTup, tLst, tLstL, tBlt, tCall, tM0, tM1, tNil, tCons, tSS, tSl, tNSL, tItem, tAttr, tStrike, tMeth, tExcAt, tItr, tRange, tComp, bCmp, bChain, tChain, bNot, bVal, bAnd, bOr, bPlain, bSplit, tEnd, tSeq, tRet, tRet0, tCont, tSet, tIf, tExpr, tWhile, tFor, tRaise, tSetB, tSet2, tSet3, tAppend, tTry, tUndbl, d_eq1, vars0, d_int, d_nat, d_str, d_one, d_two, d_addN, d_addS, d_itS, d_itT, d_itL, d_itK, d_itSM, d_itKM, d_nt, d_nf, d_t, d_f, opNeg, slM, d_text, d_places, d_textL, d_placesL, d_kind, d_worth, d_at, d_isin, opSub, opMod, opDiv, opPow, opMul, opCmp, cLt, cLe, cLes, cEq, cIn, cNin, sp, slSS, slSN, slNS, oLen, oOrd, oChr, oMin, oAbs, oUpper, oIsL, oIsT, truth, bName, bTup2, bTup3, List.getElem?_cons_zero, List.getElem?_cons_succ, List.map_cons, List.map_nil, List.set_cons_zero, List.set_cons_succ]
    refine ⟨by decide, by rw [List.length_map]; exact Nat.le_trans hl (by decide), fun k st => k ≤ 6 ∧ ∃ (f : List Nat) (v2 v3 v4 : Option V), st = ⟨[some (.list (ns.map .int)), some (.str f), v2, v3, v4, none, none, none], σ, []⟩ ∧ f.length ≤ 1000 * k, ⟨Nat.zero_le _, [], none, none, none, rfl, Nat.zero_le _⟩, ?_⟩
    rintro k st ⟨hk, f, v2, v3, v4, rfl, hf⟩
    refine ⟨hp, fun v hv => ?_, fun _ => ?_⟩
    · have hv : ((ns.map V.int).take 6)[k]? = some v := hv
      rw [List.getElem?_take] at hv
      split at hv
      · rename_i hk6
        rw [List.getElem?_map] at hv
        obtain ⟨c, _, rfl⟩ := Option.map_eq_some_iff.mp hv
        clear hv
        dsimp only [tVal, tStrs, tVar, tCell, tBin, tCmp, tNot, tNeg, tAnd, tOr, tIfe, tTup, tLst, tLstL, tBlt, tCall, tM0, tM1, tNil, tCons, tSS, tSl, tNSL, tItem, tAttr, tStrike, tMeth, tExcAt, tItr, tRange, tComp, bCmp, bChain, tChain, bNot, bVal, bAnd, bOr, bPlain, bSplit, tEnd, tSeq, tRet, tRet0, tCont, tSet, tIf, tExpr, tWhile, tFor, tRaise, tSetB, tSet2, tSet3, tAppend, tTry, tUndbl, d_eq1, vars0, d_int, d_nat, d_str, d_one, d_two, d_addN, d_addS, d_itS, d_itT, d_itL, d_itK, d_itSM, d_itKM, d_nt, d_nf, d_t, d_f, opNeg, slM, d_text, d_places, d_textL, d_placesL, d_kind, d_worth, d_at, d_isin, opSub, opMod, opDiv, opPow, opMul, opCmp, cLt, cLe, cLes, cEq, cIn, cNin, sp, slSS, slSN, slNS, oLen, oOrd, oChr, oMin, oAbs, oUpper, oIsL, oIsT, truth, bName, bTup2, bTup3, List.getElem?_cons_zero, List.getElem?_cons_succ, List.map_cons, List.map_nil, List.set_cons_zero, List.set_cons_succ]
        generalize c.natAbs % 10 ^ 30 = n0
        have ht : 1 + n0 % 5 ≤ 5 := by have := Nat.mod_lt n0 (show 0 < 5 by decide); omega
        have hr : (List.map (fun (k : Nat) => V.int (k : Int)) (List.range (((1 + n0 % 5 : Nat) : Int).toNat))).length = 1 + n0 % 5 := by rw [List.length_map, List.length_range, Int.toNat_natCast]
        refine ⟨by decide, by decide, by decide, by decide, Int.natCast_nonneg _, by omega, fun k1 st => k1 ≤ 5 ∧ ∃ (g : List Nat) (n : Nat) (v4 : Option V), st = ⟨[some (.list (ns.map .int)), some (.str g), some (.int c), some (.int (n : Nat)), v4, none, none, none], σ, []⟩ ∧ g.length ≤ 1000 * k + 200 * k1, ⟨Nat.zero_le _, f, n0, v4, rfl, hf⟩, ?_⟩
        rintro k1 st ⟨hk1, g, n, v4, rfl, hg⟩
        refine ⟨hp, fun v hv => ?_, fun he => ⟨hk6, g, _, _, _, rfl, by omega⟩⟩
        have hk2 : k1 < 1 + n0 % 5 := by rw [← hr]; exact (List.getElem?_eq_some_iff.mp hv).1
        clear hv
        dsimp only [tVal, tStrs, tVar, tCell, tBin, tCmp, tNot, tNeg, tAnd, tOr, tIfe, tTup, tLst, tLstL, tBlt, tCall, tM0, tM1, tNil, tCons, tSS, tSl, tNSL, tItem, tAttr, tStrike, tMeth, tExcAt, tItr, tRange, tComp, bCmp, bChain, tChain, bNot, bVal, bAnd, bOr, bPlain, bSplit, tEnd, tSeq, tRet, tRet0, tCont, tSet, tIf, tExpr, tWhile, tFor, tRaise, tSetB, tSet2, tSet3, tAppend, tTry, tUndbl, d_eq1, vars0, d_int, d_nat, d_str, d_one, d_two, d_addN, d_addS, d_itS, d_itT, d_itL, d_itK, d_itSM, d_itKM, d_nt, d_nf, d_t, d_f, opNeg, slM, d_text, d_places, d_textL, d_placesL, d_kind, d_worth, d_at, d_isin, opSub, opMod, opDiv, opPow, opMul, opCmp, cLt, cLe, cLes, cEq, cIn, cNin, sp, slSS, slSN, slNS, oLen, oOrd, oChr, oMin, oAbs, oUpper, oIsL, oIsT, truth, bName, bTup2, bTup3, List.getElem?_cons_zero, List.getElem?_cons_succ, List.map_cons, List.map_nil, List.set_cons_zero, List.set_cons_succ]
        refine ⟨by decide, by decide, by decide, by decide, _, _, rfl, hp, fun s hs => ?_⟩
        have hgs : (g ++ s).length = g.length + s.length := List.length_append
        exact ⟨by omega, by decide, by decide, by omega, g ++ s, _, _, rfl, by omega⟩
      · cases hv
    · dsimp only [tVal, tStrs, tVar, tCell, tBin, tCmp, tNot, tNeg, tAnd, tOr, tIfe, tTup, tLst, tLstL, tBlt, tCall, tM0, tM1, tNil, tCons, tSS, tSl, tNSL, tItem, tAttr, tStrike, tMeth, tExcAt, tItr, tRange, tComp, bCmp, bChain, tChain, bNot, bVal, bAnd, bOr, bPlain, bSplit, tEnd, tSeq, tRet, tRet0, tCont, tSet, tIf, tExpr, tWhile, tFor, tRaise, tSetB, tSet2, tSet3, tAppend, tTry, tUndbl, d_eq1, vars0, d_int, d_nat, d_str, d_one, d_two, d_addN, d_addS, d_itS, d_itT, d_itL, d_itK, d_itSM, d_itKM, d_nt, d_nf, d_t, d_f, opNeg, slM, d_text, d_places, d_textL, d_placesL, d_kind, d_worth, d_at, d_isin, opSub, opMod, opDiv, opPow, opMul, opCmp, cLt, cLe, cLes, cEq, cIn, cNin, sp, slSS, slSN, slNS, oLen, oOrd, oChr, oMin, oAbs, oUpper, oIsL, oIsT, truth, bName, bTup2, bTup3, List.getElem?_cons_zero, List.getElem?_cons_succ, List.map_cons, List.map_nil, List.set_cons_zero, List.set_cons_succ]
      exact back_ret (hQ _ (by rw [List.length_take]; exact Nat.min_le_left _ _))
end Mine
namespace Mine
theorem getD_last {ls : List (List V)} {B : List V} : (ls ++ [B]).getD ls.length [] = B := by rw [List.getD_eq_getElem?_getD, List.getElem?_append_right (Nat.le_refl _), Nat.sub_self]; rfl
theorem getD_mid {ls : List (List V)} {A B : List V} : (ls ++ [A] ++ [B]).getD ls.length [] = A := by
  rw [List.getD_eq_getElem?_getD, List.getElem?_append_left (by rw [List.length_append]; exact Nat.lt_succ_self _), ← List.getD_eq_getElem?_getD, getD_last]
noncomputable def plF (r c : Nat) : V → Option V
  | .int (.ofNat k) => some (plV r c k)
  | _ => none
theorem plF_map {r c n : Nat} : ((List.range n).map fun (k : Nat) => V.int (k : Int)).filterMap (plF r c) = plc r c n := by
  rw [List.filterMap_map, plc]
  show (List.range n).filterMap (fun k => some (plV r c k)) = _
  exact congrFun (List.filterMap_eq_map (f := plV r c)) _
/-- a token as both sides of the law's last comparison tell it -/
noncomputable def shV (r c : Nat) (t : Tok) : V := .tup [.tup [.str t.1, .str t.2.1], plV r c t.2.2, .bool (decide (c + t.2.2 < 12))]
noncomputable def tokF (r c : Nat) : V → Option V
  | .inst _ _ [.str k, .str w, p, .bool b] => some (.tup [.tup [.str k, .str w], p, .bool b])
  | _ => none
noncomputable def lawF (r c : Nat) : V → Option V
  | .tup [.tup [.str k, .str w], .int (.ofNat i)] => some (shV r c (k, w, i))
  | _ => none
theorem tokF_map {r c : Nat} (hc : 8 ≤ c) {acc : List Tok} : (acc.map (tokV r c)).filterMap (tokF r c) = acc.map (shV r c) := by
  induction acc with
  | nil => rfl
  | cons t l ih =>
    have e : tokF r c (tokV r c t) = some (shV r c t) := by
      show some (V.tup [.tup [.str t.1, .str t.2.1], plV r c t.2.2, .bool (decide (8 ≤ c + t.2.2 ∧ c + t.2.2 ≤ 11))]) = some (V.tup [.tup [.str t.1, .str t.2.1], plV r c t.2.2, .bool (decide (c + t.2.2 < 12))])
      rw [show decide (8 ≤ c + t.2.2 ∧ c + t.2.2 ≤ 11) = decide (c + t.2.2 < 12) from decide_eq_decide.mpr ⟨fun h => by omega, fun h => by omega⟩]
    rw [List.map_cons, List.filterMap_cons, e, ih]; rfl
theorem lawF_map {r c : Nat} {acc : List Tok} : (acc.map lawV).filterMap (lawF r c) = acc.map (shV r c) := by
  induction acc with
  | nil => rfl
  | cons t l ih =>
    have e : lawF r c (lawV t) = some (shV r c t) := rfl
    rw [List.map_cons, List.filterMap_cons, e, ih]; rfl
theorem sh_eq {σ : Led} {r c : Nat} {acc : List Tok} {R : Bool → Prop} (h : R true) : cEqD σ (.list (acc.map (shV r c))) (.list (acc.map (shV r c))) R := by
  have e : isDs (acc.map (shV r c)) = true ∧ PyData.depthAll (toDs (acc.map (shV r c))) ≤ 4 ∧ PyData.eqvAll (toDs (acc.map (shV r c))) (toDs (acc.map (shV r c))) = true := by
    induction acc with
    | nil => exact ⟨rfl, by simp [toDs, PyData.depthAll], by simp [toDs, PyData.eqvAll]⟩
    | cons t l ih =>
      obtain ⟨a, b, d⟩ := ih
      refine ⟨by rw [List.map_cons, isDs, a]; rfl, ?_, ?_⟩
      · rw [List.map_cons, toDs, PyData.depthAll]
        refine Nat.max_le.mpr ⟨?_, b⟩
        simp [shV, plV, toD, toDs, PyData.depth, PyData.depthAll]
      · rw [List.map_cons, toDs, PyData.eqvAll, d, Bool.and_true]
        simp [shV, plV, toD, toDs, PyData.eqv, PyData.eqvAll]
  refine ⟨e.1, e.1, ?_, fun _ => h, fun z => (z ?_).elim⟩
  · show (PyData.list (toDs (acc.map (shV r c)))).depth ≤ 8
    rw [PyData.depth]; omega
  · show PyData.eqv (PyData.list (toDs (acc.map (shV r c)))) (PyData.list (toDs (acc.map (shV r c)))) = true
    rw [PyData.eqv]; exact e.2.2
theorem pl_eq {σ : Led} {r k : Nat} {R : Bool → Prop} (h : R true) : cEqD σ (.tup [.int (r : Nat), .int (k : Nat)]) (.tup [.int (r : Nat), .int (k : Nat)]) R := by
  refine ⟨rfl, rfl, by simp [rv, toD, toDs, PyData.depth, PyData.depthAll], fun _ => h, fun z => (z ?_).elim⟩
  simp [rv, toD, toDs, PyData.eqv, PyData.eqvAll]
theorem nls_tok {r c : Nat} {acc : List Tok} : nls (acc.map (tokV r c)) = true := nls_map fun _ => rfl
theorem nls_law {acc : List Tok} : nls (acc.map lawV) = true := nls_map fun _ => rfl
theorem rd_len {l : List Nat} : ∀ {n i : Nat} {was : Bool} {a₀ acc : List Tok}, rd l n i was a₀ = .inr acc → acc.length ≤ a₀.length + n
  | 0, _, _, _, _, h => by cases h; exact Nat.le_refl _
  | n + 1, i, was, a₀, acc, h => by
    have up : ∀ t : Tok, (a₀ ++ [t]).length = a₀.length + 1 := fun t => by rw [List.length_append]; rfl
    by_cases h0 : i < l.length
    · by_cases h1 : BlankAt l i
      · rw [rd, if_pos h0, if_pos h1] at h
        have := rd_len h; omega
      · by_cases h2 : PicAt a₀ was l i
        · rw [rd, if_pos h0, if_neg h1, if_pos h2] at h
          have := rd_len h; omega
        · rw [rd_step h0 h1 h2] at h
          split at h
          · cases h
          · have := rd_len h
            rw [up] at this; omega
    · rw [rd, if_neg h0] at h
      cases h; exact Nat.le_add_right _ _
theorem f_law_right : Fn 308 9 (fun σ vs Q X => ∃ l r c, vs = [.str l, .int (r : Nat), .int (c : Nat)] ∧ σ.pend = none ∧ l.length ≤ big ∧ 8 ≤ c ∧ Q (.bool true) σ) := by
  refine' fn_cells (rm := 8) (T := _) (p1 := Str.ofString "text") (p2 := Str.ofString "row") (p3 := Str.ofString "column") (it := 0) (j2 := 1) (j3 := 2) (fun P => by rfl) (fun P => by kernel_rfl) (fun a b c => by rfl) (by decide) (by decide) (by decide) (by decide) (by decide) (by decide) (by decide) (by decide) (by decide) ?r6 (Nat.le_refl _) ?r7
  case r6 => refine' @exs_as _ _ _ _ _ ((cx_cons (cx_assign (cv_call f_law_read (by decide) (g_law_read rfl) (cs_cons (cv_var rfl rfl) cs_nil (fun _ => se_Name)) (fun P => by kernel_rfl) (fun _ => rfl) (fun _ => rfl) (fun _ => rfl)) rfl rfl (fun _ => rfl)) (cx_cons (cx_try (cx_cons (cx_assign (cv_call f_tokens_of (by decide) (g_tokens_of rfl) (cs_cons (cv_list (cs_cons (cv_call f_Line (by decide) (g_Line rfl) (cs_cons (cv_var rfl rfl) (cs_cons (cv_comp (nv := 4) (by decide) (ci_range (cv_callB (g_len rfl) (cs_cons (cv_var rfl rfl) cs_nil (fun _ => se_Name)) b_len (fun _ => rfl) (fun _ => rfl) (fun _ => rfl)) (by decide) (g_range rfl) (fun _ => rfl) (fun _ => rfl)) (bnd_name rfl rfl) cc_nil (cv_tuple (cs_cons (cv_cell rfl rfl) (cs_cons (cv_add (cv_cell rfl rfl) (cv_var rfl rfl)) cs_nil (fun _ => se_BinOp)) (fun _ => se_Name))) (by decide) (by decide) rfl (fun _ _ => rfl)) cs_nil (fun _ => se_ListComp)) (fun _ => se_Name)) (fun P => by kernel_rfl) (fun _ => rfl) (fun _ => rfl) (fun _ => rfl)) cs_nil (fun _ => se_Call))) cs_nil (fun _ => se_List)) (fun P => by kernel_rfl) (fun _ => rfl) (fun _ => rfl) (fun _ => rfl)) rfl rfl (fun _ => rfl)) cx_nil) (cx_cons (cx_ret (cv_boolop (cl_and (cv_not (cv_callB (g_isinstance rfl) (cs_cons (cv_var rfl rfl) (cs_cons (g_list rfl) cs_nil (fun _ => se_Name)) (fun _ => se_Name)) b_isL (fun _ => rfl) (fun _ => rfl) (fun _ => rfl))) (cl_one (cv_cmp (cv_excAt (cv_var rfl rfl) at_exc (fun _ => rfl)) (cv_tuple (cs_cons (cv_cell rfl rfl) (cs_cons (cv_add (cv_cell rfl rfl) (cv_callB (g_min rfl) (cs_cons (cv_var rfl rfl) (cs_cons (cv_sub (cv_callB (g_len rfl) (cs_cons (cv_var rfl rfl) cs_nil (fun _ => se_Name)) b_len (fun _ => rfl) (fun _ => rfl) (fun _ => rfl)) (cv_nat 1)) cs_nil (fun _ => se_BinOp)) (fun _ => se_Name)) b_minH (fun _ => rfl) (fun _ => rfl) (fun _ => rfl))) cs_nil (fun _ => se_BinOp)) (fun _ => se_Name))) rfl))))) cx_nil) rfl rfl (by decide) (g_TokenFault rfl)) (cx_cons (cx_if (cb_not (cb_plain (cv_callB (g_isinstance rfl) (cs_cons (cv_var rfl rfl) (cs_cons (g_list rfl) cs_nil (fun _ => se_Name)) (fun _ => se_Name)) b_isL (fun _ => rfl) (fun _ => rfl) (fun _ => rfl)) (fun _ => rfl))) (cx_cons (cx_ret cv_bool) cx_nil) cx_nil) (cx_cons (cx_ret (cv_cmp (cv_comp (nv := 2) (by decide) (ci_ev (cv_var rfl rfl) (by decide)) (bnd_name rfl rfl) cc_nil (cv_tuple (cs_cons (cv_meth (cv_var rfl rfl) m_told f_told (by decide) (fun _ => rfl)) (cs_cons (cv_attr (cv_var rfl rfl) 109 at_at (fun _ => rfl)) (cs_cons (cv_attr (cv_var rfl rfl) 109 at_isin (fun _ => rfl)) cs_nil (fun _ => se_Attribute)) (fun _ => se_Attribute)) (fun _ => se_Call))) (by decide) (by decide) rfl (fun _ _ => rfl)) (cv_comp (nv := 5) (by decide) (ci_ev (cv_var rfl rfl) (by decide)) (bnd_tup2 rfl rfl rfl rfl) cc_nil (cv_tuple (cs_cons (cv_var rfl rfl) (cs_cons (cv_tuple (cs_cons (cv_cell rfl rfl) (cs_cons (cv_add (cv_cell rfl rfl) (cv_var rfl rfl)) cs_nil (fun _ => se_BinOp)) (fun _ => se_Name))) (cs_cons (cv_cmp (cv_add (cv_cell rfl rfl) (cv_var rfl rfl)) (cv_nat 12) rfl) cs_nil (fun _ => se_Compare)) (fun _ => se_Tuple)) (fun _ => se_Name))) (by decide) (by decide) rfl (fun _ _ => rfl)) rfl)) cx_nil))))) rfl
  case r7 =>
    rintro σ _ Q X ⟨l, r, c, rfl, hp, hl, hc, hQ⟩
    refine ⟨hp, _, _, _, rfl, ?_⟩
    have h0 : List.replicate (fScope (dAt 48)).names.length (none : Option V) = [none, none, none, none, none, none, none, none, none, none, none, none, none, none, none] := by rfl
    rw [h0]
    obtain ⟨ls, pd⟩ := σ
    cases hp
    dsimp only [tVal,  tVar, tCell, tBin, tCmp, tNot, tNeg, tAnd, tOr, tIfe, tTup, tLst, tLstL, tBlt, tCall, tM0, tM1, tNil, tCons, tSS, tSl, tNSL, tItem, tAttr, tStrike, tMeth, tExcAt, tItr, tRange, tComp, bCmp, bChain, tChain, bNot, bVal, bAnd, bOr, bPlain, bSplit, tEnd, tSeq, tRet, tRet0, tCont, tSet, tIf, tExpr, tWhile, tFor, tRaise, tSetB, tSet2, tSet3, tAppend, tTry, tUndbl, d_eq1, vars0, d_int, d_nat, d_str, d_one, d_two, d_addN, d_addS, d_itS, d_itT, d_itL, d_itK, d_itSM, d_itKM, d_nt, d_nf, d_t, d_f, opNeg, slM, d_text, d_places, d_textL, d_placesL, d_kind, d_worth, d_at, d_isin, opSub, opMod, opDiv, opPow, opMul, opCmp, cLt, cLe, cLes, cEq, cIn, cNin, sp, slSS, slSN, slNS, oLen, oOrd, oChr, oMin, oAbs, oUpper, oIsL, oIsT, truth, bName, bTup2, bTup3, List.getElem?_cons_zero, List.getElem?_cons_succ, List.map_cons, List.map_nil, List.set_cons_zero, List.set_cons_succ]
    have hcv : cvOf { kind := ScopeKind.function, names := [(Str.ofString ".0", NameKind.local), (Str.ofString "at", NameKind.local), (Str.ofString "column", NameKind.free), (Str.ofString "row", NameKind.free)], isGenerator := false, isCoroutine := false } (fScope (dAt 48)) [none, some (V.int (r : Nat)), some (V.int (c : Nat)), none, none, none, none, none, none, none, none, none, none, none, none] = [none, none, some (V.int (c : Nat)), some (V.int (r : Nat))] := by kernel_rfl
    have hcw : cvOf { kind := ScopeKind.function, names := [(Str.ofString ".0", NameKind.local), (Str.ofString "told", NameKind.local), (Str.ofString "at", NameKind.local), (Str.ofString "column", NameKind.free), (Str.ofString "row", NameKind.free)], isGenerator := false, isCoroutine := false } (fScope (dAt 48)) [none, some (V.int (r : Nat)), some (V.int (c : Nat)), none, none, none, none, none, none, none, none, none, none, none, none] = [none, none, none, some (V.int (c : Nat)), some (V.int (r : Nat))] := by kernel_rfl
    rw [hcv]
    refine ⟨_, rfl, rfl, hl, ?_⟩
    have hrl : (List.map (fun (k : Nat) => V.int (k : Int)) (List.range ((l.length : Int).toNat))).length ≤ 65536 := by rw [List.length_map, List.length_range, Int.toNat_natCast]; exact Nat.le_trans hl (by decide)
    have hpl : (List.map (fun (k : Nat) => V.int (k : Int)) (List.range ((l.length : Int).toNat))).filterMap (plF r c) = plc r c l.length := plF_map
    have hF : ∀ v ∈ List.map (fun (k : Nat) => V.int (k : Int)) (List.range ((l.length : Int).toNat)), opAdd (V.int (c : Nat)) v fun v_3 => [V.int (r : Nat), v_3].length < 1000 ∧ nl (V.tup [V.int (r : Nat), v_3]) = true ∧ plF r c v = some (V.tup [V.int (r : Nat), v_3]) := fun v hv => by
      obtain ⟨k, _, rfl⟩ := List.mem_map.mp hv
      exact ⟨(show 2 < 1000 by decide), rfl, rfl⟩
    have hnr : nls (List.map (fun (k : Nat) => V.int (k : Int)) (List.range ((l.length : Int).toNat))) = true := nls_map fun _ => rfl
    cases hr : rd l l.length 0 false [] with
    | inl j =>
      dsimp only [outF]
      have hpos : 0 < l.length := by
        cases l with
        | nil => cases hr
        | cons a l => exact Nat.succ_pos _
      refine ⟨by kernel_rfl, Int.natCast_nonneg _, by unfold big at hl; omega, rfl, rfl, hrl, hnr, plF r c, hF, rfl, (show 1 < 1000 by decide), l, r, c, congrArg (fun z => [V.list [lnV l z]]) hpl, rfl, hl, ?_⟩
      rw [hr]
      intro m e
      have hat : (fault (plc r c l.length) m j).at_ = plV r c (min j (l.length - 1)) := by
        show (plc r c l.length).getD (min j ((plc r c l.length).length - 1)) .none = _
        rw [plc_len, plc_at (by omega)]
      refine ⟨rfl, _, rfl, ?_⟩
      rw [hat]
      exact ⟨trivial, hpos, (show 2 < 1000 by decide), pl_eq ⟨rfl, .inl hQ⟩⟩
    | inr acc =>
      dsimp only [outF]
      refine ⟨by kernel_rfl, Int.natCast_nonneg _, by unfold big at hl; omega, rfl, rfl, hrl, hnr, plF r c, hF, rfl, (show 1 < 1000 by decide), l, r, c, congrArg (fun z => [V.list [lnV l z]]) hpl, rfl, hl, ?_⟩
      rw [hr]
      dsimp only
      rw [getD_last, getD_mid, hcw]
      have hal : acc.length ≤ 65536 := Nat.le_trans (rd_len hr) (by show 0 + l.length ≤ _; rw [Nat.zero_add]; exact Nat.le_trans hl (by decide))
      refine ⟨rfl, by kernel_rfl, rfl, rfl, rfl, by rwa [List.length_map], nls_tok, tokF r c, fun v hv => ?_, by kernel_rfl, rfl, rfl, rfl, by rwa [List.length_map], nls_law, lawF r c, fun v hv => ?_, ?_⟩
      · obtain ⟨t, _, rfl⟩ := List.mem_map.mp hv
        dsimp only [tokV, plV]
        dsimp only [tVal,  tVar, tCell, tBin, tCmp, tNot, tNeg, tAnd, tOr, tIfe, tTup, tLst, tLstL, tBlt, tCall, tM0, tM1, tNil, tCons, tSS, tSl, tNSL, tItem, tAttr, tStrike, tMeth, tExcAt, tItr, tRange, tComp, bCmp, bChain, tChain, bNot, bVal, bAnd, bOr, bPlain, bSplit, tEnd, tSeq, tRet, tRet0, tCont, tSet, tIf, tExpr, tWhile, tFor, tRaise, tSetB, tSet2, tSet3, tAppend, tTry, tUndbl, d_eq1, vars0, d_int, d_nat, d_str, d_one, d_two, d_addN, d_addS, d_itS, d_itT, d_itL, d_itK, d_itSM, d_itKM, d_nt, d_nf, d_t, d_f, opNeg, slM, d_text, d_places, d_textL, d_placesL, d_kind, d_worth, d_at, d_isin, opSub, opMod, opDiv, opPow, opMul, opCmp, cLt, cLe, cLes, cEq, cIn, cNin, sp, slSS, slSN, slNS, oLen, oOrd, oChr, oMin, oAbs, oUpper, oIsL, oIsT, truth, bName, bTup2, bTup3, List.getElem?_cons_zero, List.getElem?_cons_succ, List.map_cons, List.map_nil, List.set_cons_zero, List.set_cons_succ]
        exact ⟨rfl, by decide, t, r, c, rfl, rfl, (show 3 < 1000 by decide), rfl, rfl⟩
      · obtain ⟨t, _, rfl⟩ := List.mem_map.mp hv
        dsimp only [lawV]
        dsimp only [tVal,  tVar, tCell, tBin, tCmp, tNot, tNeg, tAnd, tOr, tIfe, tTup, tLst, tLstL, tBlt, tCall, tM0, tM1, tNil, tCons, tSS, tSl, tNSL, tItem, tAttr, tStrike, tMeth, tExcAt, tItr, tRange, tComp, bCmp, bChain, tChain, bNot, bVal, bAnd, bOr, bPlain, bSplit, tEnd, tSeq, tRet, tRet0, tCont, tSet, tIf, tExpr, tWhile, tFor, tRaise, tSetB, tSet2, tSet3, tAppend, tTry, tUndbl, d_eq1, vars0, d_int, d_nat, d_str, d_one, d_two, d_addN, d_addS, d_itS, d_itT, d_itL, d_itK, d_itSM, d_itKM, d_nt, d_nf, d_t, d_f, opNeg, slM, d_text, d_places, d_textL, d_placesL, d_kind, d_worth, d_at, d_isin, opSub, opMod, opDiv, opPow, opMul, opCmp, cLt, cLe, cLes, cEq, cIn, cNin, sp, slSS, slSN, slNS, oLen, oOrd, oChr, oMin, oAbs, oUpper, oIsL, oIsT, truth, bName, bTup2, bTup3, List.getElem?_cons_zero, List.getElem?_cons_succ, List.map_cons, List.map_nil, List.set_cons_zero, List.set_cons_succ]
        refine ⟨(show 2 < 1000 by decide), fun h => ⟨(show 3 < 1000 by decide), rfl, ?_⟩, fun h => ⟨(show 3 < 1000 by decide), rfl, ?_⟩⟩
        · show some (shV r c (t.1, t.2.1, t.2.2)) = _
          unfold shV; rw [decide_eq_true h]; rfl
        · show some (shV r c (t.1, t.2.1, t.2.2)) = _
          unfold shV; rw [decide_eq_false h]; rfl
      · rw [tokF_map hc, lawF_map]
        refine sh_eq (.inr ⟨rfl, by rw [List.length_append, List.length_append]; exact Nat.le_trans (Nat.le_add_right _ _) (Nat.le_add_right _ _), ?_⟩)
        dsimp only
        rw [List.append_assoc, List.take_left']
        · exact hQ
        · rfl
end Mine
namespace Mine
theorem law_exs : ∃ T, Exs (fScope (dAt 49)) 9 (fBody (dAt 49)) T ∧ ∀ (ns : List Int) (Q : Fl → St → Prop), ns.length ≤ 63 → (∀ st, Q (.ret (.bool true)) st) → T Q (fun _ _ => False) ⟨vars0 6 [.list (ns.map V.int)], ⟨[], none⟩, []⟩ := by
  refine' ⟨_, @exs_as _ _ _ _ _ ((@cx_cons _ _ _ _ _ _ (@cx_assign _ _ _ _ _ _ _ _ (@cv_list _ _ _ _ _ (@cs_strs _ _ _ _ [[49, 50, 46], [49, 50, 46, 53, 46], [65, 49, 46, 53], [97, 45, 39, 120, 39], [80, 73, 67, 32, 73, 83, 32, 73, 83, 46], [80, 73, 67, 32, 46, 44, 32, 88], [39, 105, 116, 39, 39, 115, 39, 32, 34, 34, 34, 34], [49, 45, 50], [120, 45, 44, 32, 61, 61, 59]] (by kernel_rfl))) rfl rfl (fun _ => rfl)) (@cx_cons _ _ _ _ _ _ (cx_for (ci_ev (cv_addL (cv_var rfl rfl) (cv_list (cs_cons (cv_mult (cv_str (l := [90]) (by decide) (by decide)) (cv_nat 31)) (cs_cons (cv_mult (cv_str (l := [57]) (by decide) (by decide)) (cv_nat 19)) (cs_cons (cv_str (l := [39]) (by decide) (by decide)) (cs_cons (cv_str (l := [39, 39]) (by decide) (by decide)) cs_nil (fun _ => se_Constant)) (fun _ => se_Constant)) (fun _ => se_BinOp)) (fun _ => se_BinOp)))) (by decide)) (@cx_cons _ _ _ _ _ _ (cx_if (cb_not (cb_plain (cv_call f_law_right (by decide) (g_law_right rfl) (cs_cons (cv_var rfl rfl) (cs_cons (cv_nat 4) (cs_cons (cv_nat 8) cs_nil (fun _ => se_Constant)) (fun _ => se_Constant)) (fun _ => se_Name)) (fun P => by kernel_rfl) (fun _ => rfl) (fun _ => rfl) (fun _ => rfl)) (fun _ => rfl))) (@cx_cons _ _ _ _ _ _ (cx_ret cv_bool) cx_nil) cx_nil) cx_nil) rfl rfl (by decide) (fun _ _ => rfl)) (@cx_cons _ _ _ _ _ _ (cx_ret (cv_call f_law_right (by decide) (g_law_right rfl) (cs_cons (cv_call f_law_text (by decide) (g_law_text rfl) (cs_cons (cv_var rfl rfl) cs_nil (fun _ => se_Name)) (fun P => by kernel_rfl) (fun _ => rfl) (fun _ => rfl) (fun _ => rfl)) (cs_cons (cv_add (cv_nat 1) (cv_callB (g_len rfl) (cs_cons (cv_var rfl rfl) cs_nil (fun _ => se_Name)) b_len (fun _ => rfl) (fun _ => rfl) (fun _ => rfl))) (cs_cons (cv_add (cv_nat 8) (cv_mod (cv_callB (g_len rfl) (cs_cons (cv_var rfl rfl) cs_nil (fun _ => se_Name)) b_len (fun _ => rfl) (fun _ => rfl) (fun _ => rfl)) (cv_nat 5))) cs_nil (fun _ => se_BinOp)) (fun _ => se_BinOp)) (fun _ => se_Call)) (fun P => by kernel_rfl) (fun _ => rfl) (fun _ => rfl) (fun _ => rfl))) cx_nil)))) rfl, ?h⟩
  case h =>
    intro ns Q hn hQ
    unfold tStrs
    dsimp only [tVal, tStrs, tVar, tCell, tBin, tCmp, tNot, tNeg, tAnd, tOr, tIfe, tTup, tLst, tLstL, tBlt, tCall, tM0, tM1, tNil, tCons, tSS, tSl, tNSL, tItem, tAttr, tStrike, tMeth, tExcAt, tItr, tRange, tComp, bCmp, bChain, tChain, bNot, bVal, bAnd, bOr, bPlain, bSplit, tEnd, tSeq, tRet, tRet0, tCont, tSet, tIf, tExpr, tWhile, tFor, tRaise, tSetB, tSet2, tSet3, tAppend, tTry, tUndbl, d_eq1, vars0, d_int, d_nat, d_str, d_one, d_two, d_addN, d_addS, d_itS, d_itT, d_itL, d_itK, d_itSM, d_itKM, d_nt, d_nf, d_t, d_f, opNeg, slM, d_text, d_places, d_textL, d_placesL, d_kind, d_worth, d_at, d_isin, opSub, opMod, opDiv, opPow, opMul, opCmp, cLt, cLe, cLes, cEq, cIn, cNin, sp, slSS, slSN, slNS, oLen, oOrd, oChr, oMin, oAbs, oUpper, oIsL, oIsT, truth, bName, bTup2, bTup3, List.getElem?_cons_zero, List.getElem?_cons_succ, List.map_cons, List.map_nil, List.set_cons_zero, List.set_cons_succ]
    refine ⟨(show 9 < 1000 by decide), by decide, by decide, rfl, by decide, by decide, rfl, (show 4 < 1000 by decide), (show 9 + 4 ≤ 1000 by decide), fun k st => ∃ v1 v2 : Option V, st = ⟨[some (.list (ns.map V.int)), v1, v2, none, none, none], ⟨[], none⟩, []⟩, ⟨_, _, rfl⟩, ?_⟩
    rintro k st ⟨v1, v2, rfl⟩
    refine ⟨rfl, fun v hv => ?_, fun _ => ?_⟩
    · have hm := List.mem_of_getElem? hv
      have hs : ∃ s : List Nat, v = .str s ∧ s.length ≤ big := by
        clear hv
        repeat' (rcases List.mem_cons.mp hm with rfl | hm; exact ⟨_, rfl, by decide⟩)
        cases hm
      obtain ⟨s, rfl, hl⟩ := hs
      dsimp only [tVal, tStrs, tVar, tCell, tBin, tCmp, tNot, tNeg, tAnd, tOr, tIfe, tTup, tLst, tLstL, tBlt, tCall, tM0, tM1, tNil, tCons, tSS, tSl, tNSL, tItem, tAttr, tStrike, tMeth, tExcAt, tItr, tRange, tComp, bCmp, bChain, tChain, bNot, bVal, bAnd, bOr, bPlain, bSplit, tEnd, tSeq, tRet, tRet0, tCont, tSet, tIf, tExpr, tWhile, tFor, tRaise, tSetB, tSet2, tSet3, tAppend, tTry, tUndbl, d_eq1, vars0, d_int, d_nat, d_str, d_one, d_two, d_addN, d_addS, d_itS, d_itT, d_itL, d_itK, d_itSM, d_itKM, d_nt, d_nf, d_t, d_f, opNeg, slM, d_text, d_places, d_textL, d_placesL, d_kind, d_worth, d_at, d_isin, opSub, opMod, opDiv, opPow, opMul, opCmp, cLt, cLe, cLes, cEq, cIn, cNin, sp, slSS, slSN, slNS, oLen, oOrd, oChr, oMin, oAbs, oUpper, oIsL, oIsT, truth, bName, bTup2, bTup3, List.getElem?_cons_zero, List.getElem?_cons_succ, List.map_cons, List.map_nil, List.set_cons_zero, List.set_cons_succ]
      exact ⟨s, 4, 8, rfl, rfl, hl, Nat.le_refl _, _, _, rfl⟩
    · have hb : ns.length ≤ big := Nat.le_trans hn (by decide)
      have h60 : (ns.map V.int).length < 2 ^ 60 := by rw [List.length_map]; exact Nat.lt_of_le_of_lt hn (by decide)
      dsimp only [tVal, tStrs, tVar, tCell, tBin, tCmp, tNot, tNeg, tAnd, tOr, tIfe, tTup, tLst, tLstL, tBlt, tCall, tM0, tM1, tNil, tCons, tSS, tSl, tNSL, tItem, tAttr, tStrike, tMeth, tExcAt, tItr, tRange, tComp, bCmp, bChain, tChain, bNot, bVal, bAnd, bOr, bPlain, bSplit, tEnd, tSeq, tRet, tRet0, tCont, tSet, tIf, tExpr, tWhile, tFor, tRaise, tSetB, tSet2, tSet3, tAppend, tTry, tUndbl, d_eq1, vars0, d_int, d_nat, d_str, d_one, d_two, d_addN, d_addS, d_itS, d_itT, d_itL, d_itK, d_itSM, d_itKM, d_nt, d_nf, d_t, d_f, opNeg, slM, d_text, d_places, d_textL, d_placesL, d_kind, d_worth, d_at, d_isin, opSub, opMod, opDiv, opPow, opMul, opCmp, cLt, cLe, cLes, cEq, cIn, cNin, sp, slSS, slSN, slNS, oLen, oOrd, oChr, oMin, oAbs, oUpper, oIsL, oIsT, truth, bName, bTup2, bTup3, List.getElem?_cons_zero, List.getElem?_cons_succ, List.map_cons, List.map_nil, List.set_cons_zero, List.set_cons_succ]
      refine ⟨ns, rfl, rfl, hb, fun s hs => ⟨h60, h60, by decide, s, _, _, rfl, rfl, Nat.le_trans hs (by decide), Nat.le_add_right _ _, hQ _⟩⟩
end Mine
namespace Mine
theorem ints_rel {I : Heap} {μ : List Addr} : ∀ {vs : List Value} {ns : List Int}, IntsAre vs ns → VRs I μ (ns.map V.int) vs
  | _, _, .nil => .nil
  | _, _, .cons n t r => .cons (.int n t) (ints_rel r)
theorem only_get {h : Heap} {a : Addr} {b : Addr} {o : Obj} (e : (hideAll h ((List.range h.objs.size).filter (· != a))).get? b = some o) : b = a ∧ h.get? b = some o := by
  have e' := of_hideAll _ e
  refine ⟨?_, e'⟩
  by_cases q : b = a
  · exact q
  · have hm : b ∈ (List.range h.objs.size).filter (· != a) := List.mem_filter.mpr ⟨List.mem_range.mpr (Heap.lt_size e'), bne_iff_ne.mpr q⟩
    rw [hideAll_none _ hm] at e; cases e
/-- a def's call from the caller that the claim names -/
theorem enter {prog : Program} {w : World} {p : Program} {loose : List Str} {mean : ExcName → Option Value} {mg mb : Str → Option Value} {s : Shared} {f : Addr} {rm n : Nat} {oc cdv dV kV doc pm ct : Value} {od an : Option Addr} {osl : Array (Option Value)} {nm qual : Str} {params : Arguments} {body : List Stmt} {scope : Scope} {T : Tr Fl} {ps : List Str}
    {vs : List V} {xs : List Value} {I : Heap} {Q : Fl → Prop} {R : Result → Shared → Prop}
    (K : (KK w.params).In s.heap) (Tp : Top p loose mean mg mb s.heap) (hk : ∀ P, (KK P).lookup f = some ⟨oc, od, .func (fnOf nm qual params body scope dV kV doc pm an cdv ct), osl⟩) (hcd : ∀ P, codeIn (KK P) cdv qual = true)
    (hb : ∀ xs : List Value, xs.length = ps.length → bindArgs (fnOf nm qual params body scope dV kV doc pm an cdv ct) ⟨xs, []⟩ = pure (ps.zip xs))
    (hloc : ∀ x ∈ ps, scope.names.lookup x = some .local) (hp : ∀ x i, idxIn scope.names x = some i → i < ps.length → ps[i]? = some x) (hn : ps.Nodup)
    (hcell : ∀ x ∈ scope.names, x.2 ≠ .cell) (hT : Exs scope rm body T) (hr : rm ≤ 20) (h1 : 0 < ps.length) (hlen : vs.length = ps.length)
    (hI : I.StaysIn s.heap) (hf : ∀ a o, I.get? a = some o → ∀ us, o.data ≠ .fields us) (rs : VRs I [] vs xs)
    (h : T (fun f _ => Q f) (fun _ _ => False) ⟨vars0 n vs, ⟨[], none⟩, []⟩)
    (hR : ∀ fv fl I' μ' h' tk, Q fv → FR I' μ' fv fl → (∀ b o, s.heap.get? b = some o → h'.get? b = some o) → R (.ok (.ret (match fl with | .ret v => v | _ => .none))) { s with heap := h', toks := tk })
    (hnl : scope.names.length = n := by rfl) (hco : scope.isCoroutine = false := by rfl) (hgen : scope.isGenerator = false := by rfl) (hkf : scope.kind = .function := by rfl) :
    codeAny (model prog w) callerA (.call (.ref f) ⟨xs, []⟩) R s := by
  subst hnl
  have hxl : xs.length = ps.length := (VRs.length rs).symm.trans hlen
  refine codeAny_call_def (fd := fnOf nm qual params body scope dV kV doc pm an cdv ct) (body := body) (binds := ps.zip xs) (by decide)
    (K _ _ (hk _)) rfl Tp.nolimit (codeRec_of K (hcd _)) rfl (BindsTo.of_eq (hb xs hxl)) hcell
    (fun y hy => hloc _ (List.of_mem_zip hy).1) (fun h₁ hns hk₁ => ?_) hco hgen hkf
  have hnew : s.heap.get? s.heap.objs.size = none := dead_size (Nat.le_refl _)
  have hIn : I.get? s.heap.objs.size = none := by
    cases q : I.get? s.heap.objs.size with
    | none => rfl
    | some ob => rw [hI _ _ q] at hnew; cases hnew
  let c : Cx := { prog := prog, w := w, p := p, loose := loose, mean := mean, mg := mg, mb := mb, qual := qual ++ ".<locals>.", func := some f, ffunc := some f, scope := scope, fscope := scope, cells := [], fcells := [], L := s.heap.objs.size, fp := s.heap.objs.size, cd := cdv, A₀ := callerA, outer := [], h₀ := s.heap, room := 20, avoid := [], snap := s.heap, shy := [], hd := none }
  have G : Good c := ⟨rfl, fun _ hm => absurd hm List.not_mem_nil, K, Tp, hkf, hkf, List.not_mem_nil, (fun b hb => by
    rcases List.mem_cons.mp hb with rfl | hb
    · exact hnew
    · exact absurd hb List.not_mem_nil), rfl, .inl rfl, (show callerA.depth + 20 + 2 < recursionLimit by decide), (show callerA.units + 10 * (20 + 10) < cLine by decide)⟩
  have F : Fm c.h₀ s.heap.objs.size h₁ (fun y => (ps.zip xs).reverse.lookup y) := ⟨hns, hk₁, hnew⟩
  have inv : Inv c I [] ⟨vars0 scope.names.length vs, ⟨[], none⟩, []⟩ h₁ :=
    ⟨⟨_, F, loc0 rs hlen hp hn⟩, ⟨rfl, List.nodup_nil, fun k a l e => (by cases e)⟩, fun b o e => hk₁ b o (hI b o e), hIn, hf, fun _ hm => absurd hm List.not_mem_nil, fun _ hm => absurd hm List.not_mem_nil, ⟨hIn, let ⟨o, es, ep, h1, h2, _⟩ := hns; ⟨o, es, ep, h1, h2⟩⟩, fun y j v a b => (by cases b), fun e x w => (by cases w), fun v w => (by cases w)⟩
  have hz : 0 < s.toks + (ps.zip xs).length := by rw [List.length_zip, hxl, Nat.min_self]; omega
  refine hT c G ⟨rfl, hr⟩ _ _ _ I [] { s with heap := h₁, toks := s.toks + (ps.zip xs).length } _ _ hz h inv ?_ fun _ _ _ _ _ _ _ x => x.elim
  intro fv fl st' I' μ' h' tk b i' k' p' r'
  obtain ⟨m, F', _⟩ := i'.fr
  exact hR fv fl I' μ' h' tk b r' F'.keep
/-- the law's call -/
theorem law_call {w : World} {loose : List Str} {mean : ExcName → Option Value} {mg mb : Str → Option Value} {s : Shared} {a : Addr} {vs : Array Value} {k : Nat} {ns : List Int} {R : Result → Shared → Prop}
    (K : (KK w.params).In s.heap) (T : Top vq loose mean mg mb s.heap) (ha : s.heap.get? a = some (listOf vs k)) (hv : IntsAre vs.toList ns) (hn : ns.length ≤ 63)
    (h : ∀ h' tk, (∀ b o, s.heap.get? b = some o → h'.get? b = some o) → R (.ok (.ret (.bool true))) { s with heap := h', toks := tk }) :
    codeAny (model rw_.prog w) callerA (.call (.ref 315) ⟨[.ref a], []⟩) R s := by
  obtain ⟨P, hP, law⟩ := law_exs
  have hIs : (hideAll s.heap ((List.range s.heap.objs.size).filter (· != a))).StaysIn s.heap := fun b o e => (only_get e).2
  have hIa : (hideAll s.heap ((List.range s.heap.objs.size).filter (· != a))).get? a = some (listOf vs k) := hideAll_get _ ha fun q => by
    have := (List.mem_filter.mp q).2; exact absurd rfl (bne_iff_ne.mp this)
  refine enter (n := 6) (ps := [Str.ofString "script"]) (vs := [.list (ns.map V.int)]) (Q := fun f => f = .ret (.bool true)) K T (fun P => by rfl) (fun P => by kernel_rfl) ?r1 ?r2 (hp_of (by rfl)) ?r4 ?r5 @hP (by decide) (by decide) rfl hIs ?r6 (.cons (.list hIa (ints_rel hv)) .nil) (law ns _ hn fun _ => rfl) ?r7 (by rfl)
  case r1 => intro xs h; obtain ⟨a, rfl⟩ := len1 h; rfl
  case r2 => decide
  case r4 => decide
  case r5 => decide
  case r6 =>
    intro b o e us
    obtain ⟨e1, e2⟩ := only_get e
    rw [e1, ha] at e2; cases e2; exact nofun
  case r7 =>
    rintro fv fl I' μ' h' tk rfl r hk
    cases r with
    | ret r => cases r.boolI; exact h h' tk hk
theorem walk : WalkO vq lse (fun _ _ => True) (kHook KK as as_eq).says rw_.toRowW lawD [] (fun f vs => PySem.call f vs) := by
  intro w s₀ s₁ mg mb G Y fa o pm cd doc dV kV ho hd hcd hD hmg hg args vals as hpre hlay hrd hwl hlo
  have KX := kIn_of Y
  refine Ground.open G ?_
  intro T B D TE TW
  wrow_args hpre hlay hrd hwl hlo
  rename_i ns _ _ _ _ _ _ _ a vs _ hL _ w1 _ hI _ hc _
  have e : mg lawD.name = some (.ref 315) := mg_of KX T.g (by kernel_rfl)
  rw [e] at hmg
  cases hmg
  refine enter_call ?_
  cases w1 with | list ha _ =>
  obtain ⟨o', h1, h2, k, h3⟩ := hL
  rw [ha] at h1; cases h1; cases h3
  refine law_call KX T ha hI (by omega) fun h' tk hk => ?_
  exact ⟨.inl ⟨.bool true, .bool true, [], rfl, raisesW_false (by wrow_none_raised), .bool true, postW_of (by wrow_shape) (by wtm_val) (by w_fin), fun _ => ⟨List.nodup_nil, nofun⟩⟩, .of_keep hk, rfl, .of_eq hg⟩
theorem all : PySem.Challenge.rw_og0086_01.Holds := hd walk
end Mine
theorem PySem.Challenge.cw_og0086_01_holds : PySem.Challenge.rw_og0086_01.Holds :=
  Mine.all
