import PyProof.Rows.All
import PyProof.ExcBaseAll.Exception
import PyProof.InstStoreFacts
import Wide.All
import OpenK.AllK
import Wide.FinOn
import Lean
import PySem.Challenge.RW_xm0611_01
open PySem PySem.W PyProof.Rows PySem.Calls
set_option Elab.async false
set_option maxRecDepth 100000
set_option rowWalk.seconds 0
namespace Mine
namespace hd
noncomputable abbrev PW : Program := PySem.Challenge.rw_xm0611_01.row.prog
noncomputable abbrev SEG := PySem.W.Fast.tw10110043849684766642 PySem.W.Fast.tw14364793385576792824
noncomputable abbrev TOPGO := PySem.W.Fast.tw15667345088766844465 PySem.W.Fast.tw14364793385576792824
noncomputable abbrev SEGA := PySem.W.Fast.tw14374325043358763698 PySem.W.Fast.tw14364793385576792824
noncomputable def tu (vs : List Value) : Obj := ⟨.type "tuple", none, .seq vs.toArray 0, #[]⟩
noncomputable def fi (vs : List Value) : Obj := ⟨.none, none, .fields vs.toArray, #[]⟩
noncomputable def co (vs : List Value) : Obj := ⟨.type "code", none, .fields vs.toArray, #[]⟩
noncomputable def en (P : Params) (es : List (Str × Tok × Value)) : List DictEntry := es.map fun e => ⟨PyData.keyHash P e.1, .str e.1 e.2.1, e.2.2⟩
noncomputable def di (P : Params) (es : List (Str × Tok × Value)) (n : Nat) : Obj := ⟨.type "dict", none, .dict (en P es).toArray n, #[]⟩
noncomputable def pick (i j : Nat) : Stmt := match PW.main.body[i]? with
  | some st => (match j with
    | 0 => st
    | j + 1 => (match st with
      | .ClassDef _ _ _ b .. => (b[j]?).getD st
      | _ => st))
  | none => .Pass ⟨0, 0, 0, 0⟩
noncomputable def fd (i j : Nat) (qn : Str) (g : Addr) (cl : List (Str × Addr)) (dV kV doc pm : Value) (an : Option Addr) (cd ct : Value) (bi : Addr) : Data := match pick i j with
  | .FunctionDef name args body _ _ _ sc _ _ _ => .func ⟨name, qn, args, .stmts body, sc, g, cl, dV, kV, doc, pm, an, cd, ct, bi⟩
  | _ => .plain
noncomputable def sig : Stmt → Option (Arguments × List Stmt × Scope)
  | .FunctionDef _ a b _ _ _ sc _ _ _ => some (a, b, sc)
  | _ => none
noncomputable def cutT (n : Nat) : BT → Nat → Nat → BT
  | .nil, _, _ => .nil
  | .node v l r, a, b => match Nat.blt b n with
    | true => .node v (cutT n l (2 * a) (a + b)) (cutT n r (2 * a) (2 * a + b))
    | false => .nil
noncomputable def cutE (v : Value) : List DictEntry → List DictEntry
  | e :: r => DictEntry.mk e.hash e.key v :: r
  | [] => []
noncomputable def cutD (m n : Nat) (v : Value) (o : Obj) : Obj := match o with
  | ⟨c, d, .dict es _, sl⟩ => ⟨c, d, .dict (cutE v (es.toList.take m)).toArray n, sl⟩
  | o => o
noncomputable def cutF (m : Nat) (o : Obj) : Obj := match o with
  | ⟨c, d, .fields vs, sl⟩ => ⟨c, d, .fields (vs.toList.take m).toArray, sl⟩
  | o => o
noncomputable def env : Env := { scope := PW.main.scope, locals := mainNs, globals := mainNs, cells := [], code := .ref 13, frame := some 14 }
noncomputable def sl (a b : Nat) : List Stmt := ((behindTheImports PW).drop a).take (b - a)
noncomputable abbrev p0 : Pos := ⟨0, 0, 0, 0⟩
noncomputable def fin : Params → BT := fun P =>
(.node (boot_o_0 P)
(.node (boot_o_1 P)
(.node (di P (("__name__",165,(.str "law_xm0611_01" 1162))::("__doc__",166,.none)::("__package__",167,.none)::("__loader__",168,(.builtin "__main__.__loader__#opaque"))::("__spec__",169,.none)::("__annotations__",170,(.ref 6))::("__builtins__",171,(.ref 4))::("__file__",173,(.str "/claim/cut.py" 172))::("__cached__",174,.none)::("_wall",193,(.ref 21))::("LendError",227,(.ref 39))::("TypeFault",243,(.ref 52))::("MachineFault",269,(.ref 71))::("FuelFault",285,(.ref 83))::("parts_of",295,(.ref 92))::("rebuilt",304,(.ref 99))::("substituted",310,(.ref 104))::("with_regions",316,(.ref 109))::("field_rows",325,(.ref 116))::("fields_of",331,(.ref 121))::("MOST_DEEP",335,(.int 100 334))::("MOST_PARTS",339,(.int 65536 338))::("size_of",347,(.ref 128))::("measured",357,(.ref 135))::("measured_anew",363,(.ref 140))::("summed",377,(.ref 147))::("part_types",383,(.ref 152))::("first_place",391,(.ref 159))::("offset_of_field",397,(.ref 164))::("Stack",481,(.ref 221))::("UNINIT",485,(.ref 226))::("OWNER",487,(.int 0 486))::("MOST_CELLS",489,(.int 200000 488))::("pointer",498,(.ref 233))::("moved",506,(.ref 240))::("Allocation",535,(.ref 255))::("Memory",678,(.ref 365))::("is_enum",688,(.ref 376))::("parts_told",694,(.ref 381))::("is_of_parts",701,(.ref 388))::("parts_of_cells",715,(.ref 395))::("want_whole",728,(.ref 402))::("cells_of",734,(.ref 408))::("joined",743,(.ref 415))::("filled",754,(.ref 422))::("BITS",784,(.ref 423))::("is_signed",791,(.ref 430))::("least",798,(.ref 437))::("greatest",805,(.ref 444))::("fits",813,(.ref 451))::("wrapped",822,(.ref 458))::("cast_int",830,(.ref 465))::("cut_quotient",839,(.ref 472))::("exact",848,(.ref 479))::("checked",859,(.ref 486))::("shifted",871,(.ref 493))::("inverted",879,(.ref 500))::("compared",888,(.ref 507))::("TAG_KINDS",900,(.ref 508))::("COMPARISONS",907,(.ref 509))::("is_pointer",914,(.ref 516))::("of_bits",923,(.ref 523))::("reckoned",935,(.ref 530))::("Places",1051,(.ref 603))::("Rvalues",1161,(.ref 671))::("_law_pool",1174,(.ref 682))::("_law_take",1183,(.ref 689))::("_law_one",1191,(.ref 696))::("_law_wide",1198,(.ref 703))::("_law_led",1207,(.ref 710))::("_law_number",1216,(.ref 717))::("_law_reckoned",1228,(.ref 724))::("_law_shifted",1239,(.ref 731))::("_law_bits",1252,(.ref 738))::("_law_compared",1262,(.ref 745))::("_law_told",1270,(.ref 752))::("_law_pair_right",1276,(.ref 757))::("_law_same",1287,(.ref 764))::("_law_truths_right",1302,(.ref 771))::("_law_numbers_right",1322,(.ref 778))::("law",1333,(.ref 785))::[]) 81)
(.node (boot_o_7 P)
(.node (tu [])
(.node (fi [])
(.node (fi [])
(.node (co [(.str "size_of" 340),(.str "size_of" 341),(.str "/claim/cut.py" 342),(.int 68 0),(.int 2 0),(.int 0 0),(.int 0 0),(.int 3 0),(.ref 122),(.bool .true),(.int 181 0),(.ref 123),.none,(.ref 124),(.ref 125),(.ref 126),(.int 345 0),(.int 68 0),(.str "/claim/cut.py" 346)])
(.node ⟨(.type "type"),.none,(.cls ⟨"Allocation",[(.type "object")],[(.ref 255),(.type "object")],254,"Allocation",.true,[],[],.false,.none,.false⟩),#[.none,.none,(.some (.str "Allocation" 507)),(.some (.str "Allocation" 515)),(.some (.builtin "object.__new__")),(.some (.bool .true))]⟩
(.node (fi [])
.nil .nil) (.node (tu [(.str "source" 1291),(.str "rvalues" 1292),(.str "a" 1293),(.str "b" 1294),(.str "one" 1295),(.str "other" 1296),(.str "op" 1297),(.str "due" 1298),(.str "told" 1299)])
.nil .nil)) (.node (fi [])
(.node (tu [])
.nil .nil) .nil)) (.node (co [(.str "may" 429),(.str "Stack.may" 430),(.str "/claim/cut.py" 431),(.int 126 0),(.int 3 0),(.int 0 0),(.int 0 0),(.int 3 0),(.ref 186),(.bool .true),(.int 181 0),(.ref 187),.none,(.ref 188),(.ref 189),(.ref 190),(.int 437 0),(.int 126 0),(.str "/claim/cut.py" 438)])
(.node (tu [])
(.node (tu [(.str "self" 1002),(.str "frame" 1003),(.str "pointer" 1004),(.str "t" 1005),(.str "local" 1006),(.str "number" 1007)])
.nil .nil) .nil) (.node (tu [(.str "kind" 809),(.str "number" 810)])
(.node ⟨(.type "function"),none,fd 68 0 "_law_wide" 3 [] .none .none .none (.str "law_xm0611_01" 1162) none (.ref 702) .none 0,#[]⟩
.nil .nil) .nil))) (.node (tu [(.str "told" 299),(.str "parts" 300),(.str "kind" 301)])
(.node ⟨(.type "function"),none,fd 21 0 "first_place" 3 [] .none .none .none (.str "lendcore.layout" 332) none (.ref 158) .none 0,#[]⟩
(.node ⟨(.type "function"),none,fd 32 3 "Memory.allocate" 3 [] .none .none .none (.str "lendcore.memory" 482) none (.ref 286) .none 0,#[]⟩
(.node (co [(.str "__init__" 948),(.str "Places.__init__" 949),(.str "/claim/cut.py" 950),(.int 384 0),(.int 3 0),(.int 0 0),(.int 0 0),(.int 3 0),(.ref 538),(.bool .true),(.int 181 0),(.ref 539),.none,(.ref 540),(.ref 541),(.ref 542),(.int 954 0),(.int 384 0),(.str "/claim/cut.py" 955)])
.nil .nil) .nil) (.node ⟨(.type "function"),none,fd 40 0 "joined" 3 [] .none .none .none (.str "lendcore.cells" 679) none (.ref 414) .none 0,#[]⟩
(.node ⟨(.type "type"),.none,(.cls ⟨"Rvalues",[(.type "object")],[(.ref 671),(.type "object")],670,"Rvalues",.true,[],[],.false,.none,.false⟩),#[.none,.none,(.some (.str "Rvalues" 1052)),(.some (.str "Rvalues" 1060)),(.some (.builtin "object.__new__")),(.some (.bool .true))]⟩
.nil .nil) .nil)) (.node ⟨(.type "getset_descriptor"),.none,(.fields #[(.str "__weakref__" 477),(.ref 221),(.builtin "ExceptionGroup.__weakref__"),.none]),#[]⟩
(.node (tu [(.str "self" 648),(.str "place" 649),(.str "values" 650),(.str "at" 651)])
(.node ⟨(.type "builtin_function_or_method"),.none,(.fields #[(.builtin "object.__init_subclass__"),(.ref 603)]),#[]⟩
.nil .nil) .nil) (.node ⟨(.type "function"),none,fd 51 0 "exact" 3 [] .none .none .none (.str "lendcore.integers" 755) none (.ref 478) .none 0,#[]⟩
(.node (tu [])
.nil .nil) .nil)))) (.node (fi [])
(.node (co [(.str "FuelFault" 272),(.str "FuelFault" 273),(.str "/claim/cut.py" 274),(.int 18 0),(.int 0 0),(.int 0 0),(.int 0 0),(.int 0 0),(.ref 77),(.bool .false),(.int 181 0),(.ref 78),.none,.none,.none,.none,(.int 275 0),(.int 18 0),(.str "/claim/cut.py" 276)])
(.node (tu [(.str "types" 367),(.str "world" 368),(.str "deep" 369),(.str "known" 370),(.str "cells" 371),(.str "parts" 372),(.str "told" 373),(.str "row" 374)])
(.node ⟨.none,none,fd 32 1 "Memory.__init__" 0 [] .none .none .none .none none .none .none 0,#[]⟩
(.node (tu [])
.nil .nil) (.node ⟨.none,none,fd 80 0 "law" 0 [] .none .none .none .none none .none .none 0,#[]⟩
.nil .nil)) (.node (tu [])
(.node (co [(.str "variant_of" 1123),(.str "Rvalues.variant_of" 1124),(.str "/claim/cut.py" 1125),(.int 489 0),(.int 3 0),(.int 0 0),(.int 0 0),(.int 3 0),(.ref 650),(.bool .true),(.int 181 0),(.ref 651),.none,(.ref 652),(.ref 653),(.ref 654),(.int 1131 0),(.int 489 0),(.str "/claim/cut.py" 1132)])
.nil .nil) .nil)) (.node (tu [(.str "self" 457),(.str "tag" 458),(.str "at" 459)])
(.node (co [(.str "known" 620),(.str "Memory.known" 621),(.str "/claim/cut.py" 622),(.int 211 0),(.int 2 0),(.int 0 0),(.int 0 0),(.int 3 0),(.ref 330),(.bool .true),(.int 181 0),(.ref 331),.none,(.ref 332),(.ref 333),(.ref 334),(.int 626 0),(.int 211 0),(.str "/claim/cut.py" 627)])
(.node ⟨.none,none,fd 62 8 "Places.leave" 0 [] .none .none .none .none none .none .none 0,#[]⟩
.nil .nil) .nil) (.node ⟨.none,none,fd 49 0 "cast_int" 0 [] .none .none .none .none none .none .none 0,#[]⟩
(.node (fi [])
.nil .nil) .nil))) (.node (fi [])
(.node (tu [])
(.node (fi [])
(.node (tu [])
.nil .nil) .nil) (.node (tu [])
(.node ⟨.none,none,fd 66 0 "_law_take" 0 [] .none .none .none .none none .none .none 0,#[]⟩
.nil .nil) .nil)) (.node (co [(.str "moved" 499),(.str "moved" 500),(.str "/claim/cut.py" 501),(.int 160 0),(.int 2 0),(.int 0 0),(.int 0 0),(.int 3 0),(.ref 234),(.bool .true),(.int 181 0),(.ref 235),.none,(.ref 236),(.ref 237),(.ref 238),(.int 504 0),(.int 160 0),(.str "/claim/cut.py" 505)])
(.node ⟨(.type "getset_descriptor"),.none,(.fields #[(.str "__weakref__" 674),(.ref 365),(.builtin "ExceptionGroup.__weakref__"),.none]),#[]⟩
(.node (fi [])
.nil .nil) .nil) (.node (fi [])
(.node (co [(.str "_law_told" 1263),(.str "_law_told" 1264),(.str "/claim/cut.py" 1265),(.int 561 0),(.int 1 0),(.int 0 0),(.int 0 0),(.int 3 0),(.ref 746),(.bool .true),(.int 181 0),(.ref 747),.none,(.ref 748),(.ref 749),(.ref 750),(.int 1268 0),(.int 561 0),(.str "/claim/cut.py" 1269)])
.nil .nil) .nil))))) (.node ⟨(.type "builtin_function_or_method"),.none,(.fields #[(.builtin "type.__prepare__"),(.type "type")]),#[]⟩
(.node ⟨(.type "type"),.none,(.cls ⟨"LendError",[(.type "Exception")],[(.ref 39),(.type "Exception"),(.type "BaseException"),(.type "object")],38,"LendError",.true,[],[(.ref 52),(.ref 71),(.ref 83)],.false,.none,.false⟩),#[(.some (.ref 22)),.none,(.some (.str "LendError" 196)),(.some (.str "LendError" 204)),(.some (.builtin "Exception.__new__")),(.some (.bool .true))]⟩
(.node ⟨(.type "type"),.none,(.cls ⟨"MachineFault",[(.ref 39)],[(.ref 71),(.ref 39),(.type "Exception"),(.type "BaseException"),(.type "object")],70,"MachineFault",.true,[],[],.false,.none,.false⟩),#[(.some (.ref 55)),.none,(.some (.str "MachineFault" 244)),(.some (.str "MachineFault" 252)),(.some (.builtin "Exception.__new__")),(.some (.bool .true))]⟩
(.node ⟨(.type "function"),none,fd 17 0 "measured" 3 [] .none .none .none (.str "lendcore.layout" 332) none (.ref 134) .none 0,#[]⟩
(.node (tu [])
(.node (tu [(.str "op" 918),(.str "a" 919),(.str "b" 920)])
.nil .nil) (.node (tu [])
.nil .nil)) (.node (tu [(.str "t" 705),(.str "cells" 706),(.str "world" 707),(.str "variant" 708),(.str "at" 709),(.str "found" 710),(.str "each" 711),(.str "many" 712)])
(.node ⟨.none,none,fd 63 5 "Rvalues.of_one" 0 [] .none .none .none .none none .none .none 0,#[]⟩
.nil .nil) .nil)) (.node ⟨(.type "function"),none,fd 24 4 "Stack.kind" 3 [] .none .none .none (.str "lendcore.stacks" 398) none (.ref 198) .none 0,#[]⟩
(.node ⟨.none,none,fd 32 9 "Memory.read" 0 [] .none .none .none .none none .none .none 0,#[]⟩
(.node (tu [])
.nil .nil) .nil) (.node (tu [])
(.node (tu [])
.nil .nil) .nil))) (.node (co [(.str "substituted" 305),(.str "substituted" 306),(.str "/claim/cut.py" 307),(.int 41 0),(.int 2 0),(.int 0 0),(.int 0 0),(.int 3 0),(.ref 100),(.bool .true),(.int 181 0),(.ref 101),.none,.none,.none,(.ref 102),(.int 308 0),(.int 41 0),(.str "/claim/cut.py" 309)])
(.node (di P [("__module__",407,(.str "lendcore.stacks" 398)),("__qualname__",409,(.str "Stack" 408)),("__firstlineno__",411,(.int 115 410)),("__init__",419,(.ref 178)),("place",428,(.ref 185)),("may",439,(.ref 192)),("kind",447,(.ref 199)),("read",453,(.ref 204)),("write",462,(.ref 211)),("push",472,(.ref 218)),("__static_attributes__",474,(.ref 219))] 11)
(.node (tu [])
(.node ⟨(.type "function"),none,fd 62 2 "Places.home_of" 3 [] .none .none .none (.str "lendcore.places" 889) none (.ref 550) .none 0,#[]⟩
.nil .nil) .nil) (.node (di P [("i8",757,(.int 8 758)),("i16",759,(.int 16 760)),("i32",761,(.int 32 762)),("i64",763,(.int 64 764)),("u8",765,(.int 8 766)),("u16",767,(.int 16 768)),("u32",769,(.int 32 770)),("u64",771,(.int 64 772)),("usize",773,(.int 64 774))] 9)
(.node (tu [])
.nil .nil) .nil)) (.node ⟨.none,none,fd 29 0 "pointer" 0 [] .none .none .none .none none .none .none 0,#[]⟩
(.node (tu [])
(.node (tu [])
.nil .nil) .nil) (.node (tu [])
(.node ⟨.none,none,fd 74 0 "_law_compared" 0 [] .none .none .none .none none .none .none 0,#[]⟩
.nil .nil) .nil)))) (.node (tu [(.ref 39)])
(.node (fi [])
(.node (co [(.str "part_types" 378),(.str "part_types" 379),(.str "/claim/cut.py" 380),(.int 105 0),(.int 3 0),(.int 0 0),(.int 0 0),(.int 3 0),(.ref 148),(.bool .true),(.int 181 0),(.ref 149),.none,.none,.none,(.ref 150),(.int 381 0),(.int 105 0),(.str "/claim/cut.py" 382)])
(.node (co [(.str "fresh_tag" 555),(.str "Memory.fresh_tag" 556),(.str "/claim/cut.py" 557),(.int 175 0),(.int 1 0),(.int 0 0),(.int 0 0),(.int 3 0),(.ref 274),(.bool .true),(.int 181 0),(.ref 275),.none,(.ref 276),(.ref 277),(.ref 278),(.int 559 0),(.int 175 0),(.str "/claim/cut.py" 560)])
(.node (fi [(.int 384 0),(.int 4 0),(.ref 543),(.int 388 0),(.int 4 0),(.ref 550),(.int 393 0),(.int 4 0),(.ref 557),(.int 410 0),(.int 4 0),(.ref 564),(.int 414 0),(.int 4 0),(.ref 571),(.int 420 0),(.int 4 0),(.ref 578),(.int 426 0),(.int 4 0),(.ref 585),(.int 431 0),(.int 4 0),(.ref 592),(.int 434 0),(.int 4 0),(.ref 599)])
.nil .nil) .nil) (.node (co [(.str "cells_of" 729),(.str "cells_of" 730),(.str "/claim/cut.py" 731),(.int 270 0),(.int 4 0),(.int 0 0),(.int 0 0),(.int 3 0),(.ref 404),(.bool .true),(.int 181 0),(.ref 405),.none,.none,.none,(.ref 406),(.int 732 0),(.int 270 0),(.str "/claim/cut.py" 733)])
(.node ⟨(.type "function"),none,fd 63 7 "Rvalues.boxed" 3 [] .none .none .none (.str "lendcore.places" 889) none (.ref 662) .none 0,#[]⟩
.nil .nil) .nil)) (.node (tu [])
(.node ⟨(.type "function"),none,fd 32 11 "Memory.write" 3 [] .none .none .none (.str "lendcore.memory" 482) none (.ref 342) .none 0,#[]⟩
(.node (co [(.str "taken" 1030),(.str "Places.taken" 1031),(.str "/claim/cut.py" 1032),(.int 434 0),(.int 3 0),(.int 0 0),(.int 0 0),(.int 3 0),(.ref 594),(.bool .true),(.int 181 0),(.ref 595),.none,(.ref 596),(.ref 597),(.ref 598),(.int 1039 0),(.int 434 0),(.str "/claim/cut.py" 1040)])
.nil .nil) .nil) (.node (co [(.str "cut_quotient" 831),(.str "cut_quotient" 832),(.str "/claim/cut.py" 833),(.int 318 0),(.int 2 0),(.int 0 0),(.int 0 0),(.int 3 0),(.ref 466),(.bool .true),(.int 181 0),(.ref 467),.none,(.ref 468),(.ref 469),(.ref 470),(.int 837 0),(.int 318 0),(.str "/claim/cut.py" 838)])
(.node (tu [(.str "kind" 1232),(.str "op" 1233),(.str "a" 1234),(.str "many" 1235),(.str "turn" 1236)])
.nil .nil) .nil))) (.node ⟨.none,none,fd 12 0 "fields_of" 0 [] .none .none .none .none none .none .none 0,#[]⟩
(.node ⟨.none,none,fd 24 2 "Stack.place" 0 [] .none .none .none .none none .none .none 0,#[]⟩
(.node (tu [(.str "self" 596),(.str "number" 597)])
(.node (fi [])
.nil .nil) .nil) (.node (fi [])
(.node (co [(.str "_law_one" 1184),(.str "_law_one" 1185),(.str "/claim/cut.py" 1186),(.int 522 0),(.int 2 0),(.int 0 0),(.int 0 0),(.int 3 0),(.ref 690),(.bool .true),(.int 181 0),(.ref 691),.none,(.ref 692),(.ref 693),(.ref 694),(.int 1189 0),(.int 522 0),(.str "/claim/cut.py" 1190)])
.nil .nil) .nil)) (.node ⟨(.type "frame"),.none,.plain,#[(.some (.ref 246)),(.some (.ref 3)),(.some (.ref 243)),.none,(.some (.str "lendcore.memory" 482)),.none,(.some (.ref 0))]⟩
(.node (co [(.str "is_enum" 681),(.str "is_enum" 682),(.str "/claim/cut.py" 683),(.int 239 0),(.int 2 0),(.int 0 0),(.int 0 0),(.int 3 0),(.ref 370),(.bool .true),(.int 181 0),(.ref 371),.none,(.ref 372),(.ref 373),(.ref 374),(.int 686 0),(.int 239 0),(.str "/claim/cut.py" 687)])
(.node (tu [(.str "self" 1085),(.str "frame" 1086),(.str "kind" 1087),(.str "place" 1088),(.str "pointer" 1089),(.str "t" 1090)])
.nil .nil) .nil) (.node (tu [(.str "op" 883),(.str "a" 884),(.str "b" 885)])
(.node (fi [])
.nil .nil) .nil)))))) (.node (tu [])
(.node ⟨.none,none,fd 0 0 "_wall" 0 [] .none .none .none .none none .none .none 0,#[]⟩
(.node (co [(.str "__init__" 209),(.str "LendError.__init__" 210),(.str "/claim/cut.py" 211),(.int 7 0),(.int 3 0),(.int 0 0),(.int 0 0),(.int 3 0),(.ref 30),(.bool .true),(.int 181 0),(.ref 31),.none,(.ref 32),(.ref 33),(.ref 34),(.int 215 0),(.int 7 0),(.str "/claim/cut.py" 216)])
(.node (co [(.str "__init__" 256),(.str "MachineFault.__init__" 257),(.str "/claim/cut.py" 258),(.int 15 0),(.int 3 0),(.int 0 0),(.int 0 0),(.int 3 0),(.ref 62),(.bool .true),(.int 181 0),(.ref 63),.none,(.ref 64),(.ref 65),(.ref 66),(.int 262 0),(.int 15 0),(.str "/claim/cut.py" 263)])
(.node (tu [(.str "told" 351),(.str "world" 352),(.str "deep" 353),(.str "known" 354)])
(.node ⟨(.type "builtin_function_or_method"),.none,(.fields #[(.builtin "object.__init_subclass__"),(.ref 255)]),#[]⟩
(.node (co [(.str "is_pointer" 908),(.str "is_pointer" 909),(.str "/claim/cut.py" 910),(.int 371 0),(.int 1 0),(.int 0 0),(.int 0 0),(.int 3 0),(.ref 510),(.bool .true),(.int 181 0),(.ref 511),.none,(.ref 512),(.ref 513),(.ref 514),(.int 912 0),(.int 371 0),(.str "/claim/cut.py" 913)])
.nil .nil) (.node ⟨(.type "function"),none,fd 78 0 "_law_truths_right" 3 [] .none .none .none (.str "law_xm0611_01" 1162) none (.ref 770) .none 0,#[]⟩
.nil .nil)) (.node (co [(.str "is_of_parts" 695),(.str "is_of_parts" 696),(.str "/claim/cut.py" 697),(.int 247 0),(.int 1 0),(.int 0 0),(.int 0 0),(.int 3 0),(.ref 382),(.bool .true),(.int 181 0),(.ref 383),.none,(.ref 384),(.ref 385),(.ref 386),(.int 699 0),(.int 247 0),(.str "/claim/cut.py" 700)])
(.node (tu [])
.nil .nil) .nil)) (.node (tu [(.str "self" 443),(.str "tag" 444)])
(.node (tu [])
(.node ⟨(.type "function"),none,fd 62 6 "Places.element_of" 3 [] .none .none .none (.str "lendcore.places" 889) none (.ref 578) .none 0,#[]⟩
.nil .nil) .nil) (.node ⟨(.type "function"),none,fd 47 0 "fits" 3 [] .none .none .none (.str "lendcore.integers" 755) none (.ref 450) .none 0,#[]⟩
(.node (tu [])
.nil .nil) .nil))) (.node ⟨(.type "function"),none,fd 8 0 "rebuilt" 3 [] .none .none .none (.str "lendcore.types" 286) none (.ref 98) .none 0,#[]⟩
(.node (co [(.str "offset_of_field" 392),(.str "offset_of_field" 393),(.str "/claim/cut.py" 394),(.int 111 0),(.int 4 0),(.int 0 0),(.int 0 0),(.int 3 0),(.ref 160),(.bool .true),(.int 181 0),(.ref 161),.none,.none,.none,(.ref 162),(.int 395 0),(.int 111 0),(.str "/claim/cut.py" 396)])
(.node (tu [])
(.node (tu [(.str "self" 960),(.str "frame" 961),(.str "local" 962)])
.nil .nil) .nil) (.node (tu [])
(.node ⟨(.type "builtin_function_or_method"),.none,(.fields #[(.builtin "object.__init_subclass__"),(.ref 671)]),#[]⟩
.nil .nil) .nil)) (.node (tu [])
(.node ⟨(.type "function"),none,fd 32 13 "Memory.write_all" 3 [] .none .none .none (.str "lendcore.memory" 482) none (.ref 354) .none 0,#[]⟩
(.node (tu [])
.nil .nil) .nil) (.node (tu [])
(.node (tu [])
.nil .nil) .nil)))) (.node (di P [("__module__",235,(.str "lendcore.errors" 194)),("__firstlineno__",239,(.int 11 238)),("__static_attributes__",240,(.ref 50)),("__doc__",241,.none)] 2)
(.node ⟨(.type "type"),.none,(.cls ⟨"FuelFault",[(.ref 39)],[(.ref 83),(.ref 39),(.type "Exception"),(.type "BaseException"),(.type "object")],82,"FuelFault",.true,[],[],.false,.none,.false⟩),#[(.some (.ref 74)),.none,(.some (.str "FuelFault" 270)),(.some (.str "FuelFault" 278)),(.some (.builtin "Exception.__new__")),(.some (.bool .true))]⟩
(.node ⟨(.type "function"),none,fd 19 0 "summed" 3 [] .none .none .none (.str "lendcore.layout" 332) none (.ref 146) .none 0,#[]⟩
(.node (fi [])
(.node (tu [])
.nil .nil) .nil) (.node (tu [.none])
(.node (tu [(.str "self" 1137),(.str "frame" 1138),(.str "operand" 1139),(.str "cells" 1140),(.str "memory" 1141),(.str "pointer" 1142)])
.nil .nil) .nil)) (.node ⟨(.type "function"),none,fd 24 6 "Stack.write" 3 [] .none .none .none (.str "lendcore.stacks" 398) none (.ref 210) .none 0,#[]⟩
(.node (tu [(.str "self" 632),(.str "place" 633),(.str "value" 634),(.str "found" 635)])
(.node (fi [])
.nil .nil) .nil) (.node (fi [])
(.node (co [(.str "_law_reckoned" 1217),(.str "_law_reckoned" 1218),(.str "/claim/cut.py" 1219),(.int 534 0),(.int 4 0),(.int 0 0),(.int 0 0),(.int 3 0),(.ref 718),(.bool .true),(.int 181 0),(.ref 719),.none,(.ref 720),(.ref 721),(.ref 722),(.int 1226 0),(.int 534 0),(.str "/claim/cut.py" 1227)])
.nil .nil) .nil))) (.node (co [(.str "field_rows" 317),(.str "field_rows" 318),(.str "/claim/cut.py" 319),(.int 51 0),(.int 3 0),(.int 0 0),(.int 0 0),(.int 3 0),(.ref 110),(.bool .true),(.int 181 0),(.ref 111),.none,(.ref 112),(.ref 113),(.ref 114),(.int 323 0),(.int 51 0),(.str "/claim/cut.py" 324)])
(.node (tu [])
(.node (co [(.str "live_count" 586),(.str "Memory.live_count" 587),(.str "/claim/cut.py" 588),(.int 192 0),(.int 1 0),(.int 0 0),(.int 0 0),(.int 3 0),(.ref 302),(.bool .true),(.int 181 0),(.ref 303),.none,(.ref 304),(.ref 305),(.ref 306),(.int 590 0),(.int 192 0),(.str "/claim/cut.py" 591)])
(.node ⟨.none,none,fd 62 4 "Places.want_variant" 0 [] .none .none .none .none none .none .none 0,#[]⟩
.nil .nil) .nil) (.node ⟨.none,none,fd 45 0 "least" 0 [] .none .none .none .none none .none .none 0,#[]⟩
(.node (fi [])
.nil .nil) .nil)) (.node (di P [("__module__",514,(.str "lendcore.memory" 482)),("__qualname__",516,(.str "Allocation" 515)),("__firstlineno__",518,(.int 162 517)),("__init__",524,(.ref 252)),("__static_attributes__",528,(.ref 253))] 5)
(.node (fi [])
(.node (co [(.str "cells" 1072),(.str "Rvalues.cells" 1073),(.str "/claim/cut.py" 1074),(.int 448 0),(.int 3 0),(.int 0 0),(.int 0 0),(.int 3 0),(.ref 622),(.bool .true),(.int 181 0),(.ref 623),.none,(.ref 624),(.ref 625),(.ref 626),(.int 1079 0),(.int 448 0),(.str "/claim/cut.py" 1080)])
.nil .nil) .nil) (.node (co [(.str "inverted" 872),(.str "inverted" 873),(.str "/claim/cut.py" 874),(.int 352 0),(.int 2 0),(.int 0 0),(.int 0 0),(.int 3 0),(.ref 494),(.bool .true),(.int 181 0),(.ref 495),.none,(.ref 496),(.ref 497),(.ref 498),(.int 877 0),(.int 352 0),(.str "/claim/cut.py" 878)])
(.node ⟨.none,none,fd 76 0 "_law_pair_right" 0 [] .none .none .none .none none .none .none 0,#[]⟩
.nil .nil) .nil))))) (.node (co [(.str "LendError" 198),(.str "LendError" 199),(.str "/claim/cut.py" 200),(.int 5 0),(.int 0 0),(.int 0 0),(.int 0 0),(.int 0 0),(.ref 25),(.bool .false),(.int 181 0),(.ref 26),.none,.none,.none,.none,(.int 201 0),(.int 5 0),(.str "/claim/cut.py" 202)])
(.node (tu [(.ref 39)])
(.node ⟨(.type "builtin_function_or_method"),.none,(.fields #[(.builtin "type.__prepare__"),(.type "type")]),#[]⟩
(.node (co [(.str "measured_anew" 358),(.str "measured_anew" 359),(.str "/claim/cut.py" 360),(.int 85 0),(.int 4 0),(.int 0 0),(.int 0 0),(.int 3 0),(.ref 136),(.bool .true),(.int 181 0),(.ref 137),.none,.none,.none,(.ref 138),(.int 361 0),(.int 85 0),(.str "/claim/cut.py" 362)])
(.node (tu [])
(.node ⟨(.type "function"),none,fd 60 0 "of_bits" 3 [] .none .none .none (.str "lendcore.places" 889) none (.ref 522) .none 0,#[]⟩
.nil .nil) (.node (tu [])
.nil .nil)) (.node ⟨(.type "function"),none,fd 37 0 "parts_of_cells" 3 [] .none .none .none (.str "lendcore.cells" 679) none (.ref 394) .none 0,#[]⟩
(.node (fi [])
.nil .nil) .nil)) (.node (co [(.str "read" 448),(.str "Stack.read" 449),(.str "/claim/cut.py" 450),(.int 135 0),(.int 2 0),(.int 0 0),(.int 0 0),(.int 3 0),(.ref 200),(.bool .true),(.int 181 0),(.ref 201),.none,.none,.none,(.ref 202),(.int 451 0),(.int 135 0),(.str "/claim/cut.py" 452)])
(.node (fi [])
(.node (tu [])
.nil .nil) .nil) (.node (tu [])
(.node ⟨.none,none,fd 70 0 "_law_number" 0 [] .none .none .none .none none .none .none 0,#[]⟩
.nil .nil) .nil))) (.node ⟨.none,none,fd 10 0 "with_regions" 0 [] .none .none .none .none none .none .none 0,#[]⟩
(.node ⟨(.type "frame"),.none,.plain,#[(.some (.ref 170)),(.some (.ref 3)),(.some (.ref 167)),.none,(.some (.str "lendcore.stacks" 398)),.none,(.some (.ref 0))]⟩
(.node ⟨.none,none,fd 32 5 "Memory.is_live" 0 [] .none .none .none .none none .none .none 0,#[]⟩
(.node (tu [])
.nil .nil) .nil) (.node (tu [])
(.node (tu [])
.nil .nil) .nil)) (.node (fi [])
(.node (tu [(.str "allocations" 668),(.str "many" 669),(.str "tags" 670)])
(.node ⟨.none,none,fd 63 1 "Rvalues.__init__" 0 [] .none .none .none .none none .none .none 0,#[]⟩
.nil .nil) .nil) (.node ⟨.none,none,fd 53 0 "shifted" 0 [] .none .none .none .none none .none .none 0,#[]⟩
(.node (fi [])
.nil .nil) .nil)))) (.node (fi [(.int 15 0),(.int 4 0),(.ref 67)])
(.node (co [(.str "parts_of" 288),(.str "parts_of" 289),(.str "/claim/cut.py" 290),(.int 21 0),(.int 1 0),(.int 0 0),(.int 0 0),(.int 3 0),(.ref 86),(.bool .true),(.int 181 0),(.ref 87),.none,(.ref 88),(.ref 89),(.ref 90),(.int 293 0),(.int 21 0),(.str "/claim/cut.py" 294)])
(.node (tu [(.str "told" 387),(.str "world" 388)])
(.node (tu [(.str "self" 565),(.str "size" 566)])
(.node (fi [])
.nil .nil) .nil) (.node (tu [(.str "rows" 738),(.str "found" 739),(.str "row" 740)])
(.node (co [(.str "made" 1146),(.str "Rvalues.made" 1147),(.str "/claim/cut.py" 1148),(.int 502 0),(.int 3 0),(.int 0 0),(.int 0 0),(.int 3 0),(.ref 664),(.bool .true),(.int 181 0),(.ref 665),.none,.none,.none,(.ref 666),(.int 1149 0),(.int 502 0),(.str "/claim/cut.py" 1150)])
.nil .nil) .nil)) (.node (tu [(.str "items" 473)])
(.node (co [(.str "read_all" 639),(.str "Memory.read_all" 640),(.str "/claim/cut.py" 641),(.int 222 0),(.int 3 0),(.int 0 0),(.int 0 0),(.int 3 0),(.ref 344),(.bool .true),(.int 181 0),(.ref 345),.none,.none,.none,(.ref 346),(.int 642 0),(.int 222 0),(.str "/claim/cut.py" 643)])
(.node ⟨(.type "type"),.none,(.cls ⟨"Places",[(.type "object")],[(.ref 603),(.type "object")],602,"Places",.true,[],[],.false,.none,.false⟩),#[.none,.none,(.some (.str "Places" 936)),(.some (.str "Places" 944)),(.some (.builtin "object.__new__")),(.some (.bool .true))]⟩
.nil .nil) .nil) (.node (tu [(.str "op" 843),(.str "a" 844),(.str "b" 845)])
(.node ⟨(.type "function"),none,fd 72 0 "_law_shifted" 3 [] .none .none .none (.str "law_xm0611_01" 1162) none (.ref 730) .none 0,#[]⟩
.nil .nil) .nil))) (.node (fi [])
(.node (fi [])
(.node ⟨(.type "function"),none,fd 32 7 "Memory.free" 3 [] .none .none .none (.str "lendcore.memory" 482) none (.ref 314) .none 0,#[]⟩
(.node (co [(.str "led" 990),(.str "Places.led" 991),(.str "/claim/cut.py" 992),(.int 414 0),(.int 2 0),(.int 0 0),(.int 0 0),(.int 3 0),(.ref 566),(.bool .true),(.int 181 0),(.ref 567),.none,(.ref 568),(.ref 569),(.ref 570),(.int 996 0),(.int 414 0),(.str "/claim/cut.py" 997)])
.nil .nil) .nil) (.node (co [(.str "greatest" 799),(.str "greatest" 800),(.str "/claim/cut.py" 801),(.int 309 0),(.int 1 0),(.int 0 0),(.int 0 0),(.int 3 0),(.ref 438),(.bool .true),(.int 181 0),(.ref 439),.none,(.ref 440),(.ref 441),(.ref 442),(.int 803 0),(.int 309 0),(.str "/claim/cut.py" 804)])
(.node (tu [(.str "kind" 1195)])
.nil .nil) .nil)) (.node (co [(.str "__init__" 519),(.str "Allocation.__init__" 520),(.str "/claim/cut.py" 521),(.int 164 0),(.int 2 0),(.int 0 0),(.int 0 0),(.int 3 0),(.ref 248),(.bool .true),(.int 181 0),(.ref 249),.none,.none,.none,(.ref 250),(.int 522 0),(.int 164 0),(.str "/claim/cut.py" 523)])
(.node ⟨.none,none,fd 35 0 "parts_told" 0 [] .none .none .none .none none .none .none 0,#[]⟩
(.node ⟨(.type "function"),none,fd 63 3 "Rvalues.reference" 3 [] .none .none .none (.str "lendcore.places" 889) none (.ref 634) .none 0,#[]⟩
.nil .nil) .nil) (.node ⟨(.type "function"),none,fd 55 0 "compared" 3 [] .none .none .none (.str "lendcore.integers" 755) none (.ref 506) .none 0,#[]⟩
(.node (co [(.str "_law_same" 1277),(.str "_law_same" 1278),(.str "/claim/cut.py" 1279),(.int 575 0),(.int 5 0),(.int 0 0),(.int 0 0),(.int 3 0),(.ref 758),(.bool .true),(.int 181 0),(.ref 759),.none,(.ref 760),(.ref 761),(.ref 762),(.int 1285 0),(.int 575 0),(.str "/claim/cut.py" 1286)])
.nil .nil) .nil))))))) (.node (boot_o_5 P)
(.node (boot_o_9 P)
(.node (tu [(.str "k" 190)])
(.node (tu [])
(.node (tu [])
(.node (tu [])
(.node ⟨(.type "getset_descriptor"),.none,(.fields #[(.str "__weakref__" 531),(.ref 255),(.builtin "ExceptionGroup.__weakref__"),.none]),#[]⟩
(.node (tu [])
.nil .nil) (.node ⟨.none,none,fd 78 0 "_law_truths_right" 0 [] .none .none .none .none none .none .none 0,#[]⟩
.nil .nil)) (.node (tu [])
(.node (co [(.str "of_two" 1094),(.str "Rvalues.of_two" 1095),(.str "/claim/cut.py" 1096),(.int 468 0),(.int 3 0),(.int 0 0),(.int 0 0),(.int 3 0),(.ref 636),(.bool .true),(.int 181 0),(.ref 637),.none,(.ref 638),(.ref 639),(.ref 640),(.int 1108 0),(.int 468 0),(.str "/claim/cut.py" 1109)])
.nil .nil) .nil)) (.node (tu [])
(.node (co [(.str "room" 601),(.str "Memory.room" 602),(.str "/claim/cut.py" 603),(.int 198 0),(.int 3 0),(.int 0 0),(.int 0 0),(.int 3 0),(.ref 316),(.bool .true),(.int 181 0),(.ref 317),.none,(.ref 318),(.ref 319),(.ref 320),(.int 608 0),(.int 198 0),(.str "/claim/cut.py" 609)])
(.node ⟨.none,none,fd 62 6 "Places.element_of" 0 [] .none .none .none .none none .none .none 0,#[]⟩
.nil .nil) .nil) (.node ⟨.none,none,fd 47 0 "fits" 0 [] .none .none .none .none none .none .none 0,#[]⟩
(.node (fi [])
.nil .nil) .nil))) (.node ⟨.none,none,fd 8 0 "rebuilt" 0 [] .none .none .none .none none .none .none 0,#[]⟩
(.node (fi [])
(.node (fi [])
(.node (tu [])
.nil .nil) .nil) (.node (fi [])
(.node ⟨(.type "getset_descriptor"),.none,(.fields #[(.str "__weakref__" 1157),(.ref 671),(.builtin "ExceptionGroup.__weakref__"),.none]),#[]⟩
.nil .nil) .nil)) (.node ⟨(.type "builtin_function_or_method"),.none,(.fields #[(.builtin "object.__init_subclass__"),(.ref 221)]),#[]⟩
(.node ⟨.none,none,fd 32 13 "Memory.write_all" 0 [] .none .none .none .none none .none .none 0,#[]⟩
(.node ⟨(.type "builtin_function_or_method"),.none,(.fields #[(.builtin "type.__prepare__"),(.type "type")]),#[]⟩
.nil .nil) .nil) (.node (fi [])
(.node (co [(.str "_law_bits" 1240),(.str "_law_bits" 1241),(.str "/claim/cut.py" 1242),(.int 550 0),(.int 4 0),(.int 0 0),(.int 0 0),(.int 3 0),(.ref 732),(.bool .true),(.int 181 0),(.ref 733),.none,(.ref 734),(.ref 735),(.ref 736),(.int 1250 0),(.int 550 0),(.str "/claim/cut.py" 1251)])
.nil .nil) .nil)))) (.node ⟨(.type "frame"),.none,.plain,#[(.some (.ref 48)),(.some (.ref 3)),(.some (.ref 45)),.none,(.some (.str "lendcore.errors" 194)),.none,(.some (.ref 0))]⟩
(.node (tu [])
(.node ⟨.none,none,fd 19 0 "summed" 0 [] .none .none .none .none none .none .none 0,#[]⟩
(.node ⟨(.type "function"),none,fd 32 1 "Memory.__init__" 3 [] .none .none .none (.str "lendcore.memory" 482) none (.ref 272) .none 0,#[]⟩
(.node (co [(.str "reckoned" 924),(.str "reckoned" 925),(.str "/claim/cut.py" 926),(.int 377 0),(.int 4 0),(.int 0 0),(.int 0 0),(.int 3 0),(.ref 524),(.bool .true),(.int 181 0),(.ref 525),.none,(.ref 526),(.ref 527),(.ref 528),(.int 933 0),(.int 377 0),(.str "/claim/cut.py" 934)])
.nil .nil) (.node ⟨(.type "function"),none,fd 80 0 "law" 3 [] .none .none .none (.str "law_xm0611_01" 1162) none (.ref 784) .none 0,#[]⟩
.nil .nil)) (.node (co [(.str "want_whole" 716),(.str "want_whole" 717),(.str "/claim/cut.py" 718),(.int 259 0),(.int 3 0),(.int 0 0),(.int 0 0),(.int 3 0),(.ref 396),(.bool .true),(.int 181 0),(.ref 397),.none,(.ref 398),(.ref 399),(.ref 400),(.int 726 0),(.int 259 0),(.str "/claim/cut.py" 727)])
(.node (tu [])
.nil .nil) .nil)) (.node ⟨.none,none,fd 24 6 "Stack.write" 0 [] .none .none .none .none none .none .none 0,#[]⟩
(.node (tu [])
(.node ⟨(.type "function"),none,fd 62 8 "Places.leave" 3 [] .none .none .none (.str "lendcore.places" 889) none (.ref 592) .none 0,#[]⟩
.nil .nil) .nil) (.node ⟨(.type "function"),none,fd 49 0 "cast_int" 3 [] .none .none .none (.str "lendcore.integers" 755) none (.ref 464) .none 0,#[]⟩
(.node (tu [])
.nil .nil) .nil))) (.node (tu [])
(.node (co [(.str "__init__" 412),(.str "Stack.__init__" 413),(.str "/claim/cut.py" 414),(.int 117 0),(.int 2 0),(.int 0 0),(.int 0 0),(.int 3 0),(.ref 172),(.bool .true),(.int 181 0),(.ref 173),.none,(.ref 174),(.ref 175),(.ref 176),(.int 417 0),(.int 117 0),(.str "/claim/cut.py" 418)])
(.node (tu [])
(.node (tu [(.str "self" 984),(.str "pointer" 985),(.str "variant" 986)])
.nil .nil) .nil) (.node (tu [(.str "kind" 795)])
(.node ⟨(.type "function"),none,fd 66 0 "_law_take" 3 [] .none .none .none (.str "law_xm0611_01" 1162) none (.ref 688) .none 0,#[]⟩
.nil .nil) .nil)) (.node (tu [])
(.node ⟨(.type "builtin_function_or_method"),.none,(.fields #[(.builtin "object.__init_subclass__"),(.ref 365)]),#[]⟩
(.node (tu [])
.nil .nil) .nil) (.node (tu [])
(.node (tu [])
.nil .nil) .nil))))) (.node (tu [])
(.node ⟨(.type "super"),.none,(.fields #[(.ref 39),(.ref 39),(.ref 39)]),#[]⟩
(.node ⟨(.type "builtin_function_or_method"),.none,(.fields #[(.builtin "object.__init_subclass__"),(.ref 71)]),#[]⟩
(.node (fi [])
(.node (co [(.str "Memory" 538),(.str "Memory" 539),(.str "/claim/cut.py" 540),(.int 168 0),(.int 0 0),(.int 0 0),(.int 0 0),(.int 0 0),(.ref 263),(.bool .false),(.int 181 0),(.ref 264),.none,.none,.none,.none,(.int 541 0),(.int 168 0),(.str "/claim/cut.py" 542)])
(.node ⟨.none,none,fd 60 0 "of_bits" 0 [] .none .none .none .none none .none .none 0,#[]⟩
.nil .nil) (.node (co [(.str "_law_numbers_right" 1303),(.str "_law_numbers_right" 1304),(.str "/claim/cut.py" 1305),(.int 590 0),(.int 2 0),(.int 0 0),(.int 0 0),(.int 3 0),(.ref 772),(.bool .true),(.int 181 0),(.ref 773),.none,(.ref 774),(.ref 775),(.ref 776),(.int 1320 0),(.int 590 0),(.str "/claim/cut.py" 1321)])
.nil .nil)) (.node ⟨.none,none,fd 37 0 "parts_of_cells" 0 [] .none .none .none .none none .none .none 0,#[]⟩
(.node ⟨(.type "function"),none,fd 63 5 "Rvalues.of_one" 3 [] .none .none .none (.str "lendcore.places" 889) none (.ref 648) .none 0,#[]⟩
.nil .nil) .nil)) (.node (fi [])
(.node ⟨(.type "function"),none,fd 32 9 "Memory.read" 3 [] .none .none .none (.str "lendcore.memory" 482) none (.ref 328) .none 0,#[]⟩
(.node (co [(.str "read" 1011),(.str "Places.read" 1012),(.str "/claim/cut.py" 1013),(.int 426 0),(.int 3 0),(.int 0 0),(.int 0 0),(.int 3 0),(.ref 580),(.bool .true),(.int 181 0),(.ref 581),.none,(.ref 582),(.ref 583),(.ref 584),(.int 1018 0),(.int 426 0),(.str "/claim/cut.py" 1019)])
.nil .nil) .nil) (.node (co [(.str "wrapped" 814),(.str "wrapped" 815),(.str "/claim/cut.py" 816),(.int 313 0),(.int 2 0),(.int 0 0),(.int 0 0),(.int 3 0),(.ref 452),(.bool .true),(.int 181 0),(.ref 453),.none,(.ref 454),(.ref 455),(.ref 456),(.int 820 0),(.int 313 0),(.str "/claim/cut.py" 821)])
(.node (tu [(.str "source" 1211),(.str "kind" 1212),(.str "high" 1213)])
.nil .nil) .nil))) (.node (tu [])
(.node (fi [(.int 117 0),(.int 4 0),(.ref 177),(.int 120 0),(.int 4 0),(.ref 184),(.int 126 0),(.int 4 0),(.ref 191),(.int 132 0),(.int 4 0),(.ref 198),(.int 135 0),(.int 4 0),(.ref 203),(.int 140 0),(.int 4 0),(.ref 210),(.int 146 0),(.int 4 0),(.ref 217)])
(.node (tu [(.str "self" 581),(.str "number" 582)])
(.node (fi [])
.nil .nil) .nil) (.node (fi [])
(.node (co [(.str "_law_pool" 1164),(.str "_law_pool" 1165),(.str "/claim/cut.py" 1166),(.int 508 0),(.int 2 0),(.int 0 0),(.int 0 0),(.int 3 0),(.ref 676),(.bool .true),(.int 181 0),(.ref 677),.none,(.ref 678),(.ref 679),(.ref 680),(.int 1172 0),(.int 508 0),(.str "/claim/cut.py" 1173)])
.nil .nil) .nil)) (.node ⟨(.type "function"),none,fd 29 0 "pointer" 3 [] .none .none .none (.str "lendcore.memory" 482) none (.ref 232) .none 0,#[]⟩
(.node (co [(.str "retagged" 655),(.str "Memory.retagged" 656),(.str "/claim/cut.py" 657),(.int 229 0),(.int 4 0),(.int 0 0),(.int 0 0),(.int 3 0),(.ref 356),(.bool .true),(.int 181 0),(.ref 357),.none,(.ref 358),(.ref 359),(.ref 360),(.int 665 0),(.int 229 0),(.str "/claim/cut.py" 666)])
(.node (tu [(.str "self" 1067),(.str "places" 1068)])
.nil .nil) .nil) (.node (tu [(.str "kind" 863),(.str "op" 864),(.str "a" 865),(.str "many" 866),(.str "places" 867),(.str "found" 868)])
(.node ⟨(.type "function"),none,fd 74 0 "_law_compared" 3 [] .none .none .none (.str "law_xm0611_01" 1162) none (.ref 744) .none 0,#[]⟩
.nil .nil) .nil)))) (.node (di P [("__module__",251,(.str "lendcore.errors" 194)),("__qualname__",253,(.str "MachineFault" 252)),("__firstlineno__",255,(.int 13 254)),("__init__",264,(.ref 68)),("__static_attributes__",266,(.ref 69))] 5)
(.node (tu [])
(.node (tu [])
(.node (tu [])
(.node ⟨(.type "frame"),.none,.plain,#[(.some (.ref 536)),(.some (.ref 3)),(.some (.ref 533)),.none,(.some (.str "lendcore.places" 889)),.none,(.some (.ref 0))]⟩
.nil .nil) .nil) (.node (tu [])
(.node (fi [])
.nil .nil) .nil)) (.node (co [(.str "push" 463),(.str "Stack.push" 464),(.str "/claim/cut.py" 465),(.int 146 0),(.int 4 0),(.int 0 0),(.int 0 0),(.int 3 0),(.ref 212),(.bool .true),(.int 181 0),(.ref 213),.none,(.ref 214),(.ref 215),(.ref 216),(.int 470 0),(.int 146 0),(.str "/claim/cut.py" 471)])
(.node (fi [])
(.node (tu [(.str "memory" 1042),(.str "world" 1043)])
.nil .nil) .nil) (.node (tu [])
(.node ⟨.none,none,fd 72 0 "_law_shifted" 0 [] .none .none .none .none none .none .none 0,#[]⟩
.nil .nil) .nil))) (.node ⟨(.type "function"),none,fd 12 0 "fields_of" 3 [] .none .none .none (.str "lendcore.types" 286) none (.ref 120) .none 0,#[]⟩
(.node ⟨(.type "function"),none,fd 24 2 "Stack.place" 3 [] .none .none .none (.str "lendcore.stacks" 398) none (.ref 184) .none 0,#[]⟩
(.node ⟨.none,none,fd 32 7 "Memory.free" 0 [] .none .none .none .none none .none .none 0,#[]⟩
(.node (tu [])
.nil .nil) .nil) (.node (tu [])
(.node (tu [])
.nil .nil) .nil)) (.node (fi [])
(.node (tu [])
(.node ⟨.none,none,fd 63 3 "Rvalues.reference" 0 [] .none .none .none .none none .none .none 0,#[]⟩
.nil .nil) .nil) (.node ⟨.none,none,fd 55 0 "compared" 0 [] .none .none .none .none none .none .none 0,#[]⟩
(.node (tu [])
.nil .nil) .nil)))))) (.node (co [(.str "<module>" 182),(.str "<module>" 183),(.str "/claim/cut.py" 184),(.int 1 0),(.int 0 0),(.int 0 0),(.int 0 0),(.int 0 0),(.ref 11),(.bool .false),(.int 181 0),(.ref 12),.none,.none,.none,.none,(.int 185 0),(.int 1 0),(.str "/claim/cut.py" 186)])
(.node ⟨(.type "function"),none,fd 0 0 "_wall" 3 [] .none .none .none (.str "__main__" 164) none (.ref 20) .none 0,#[]⟩
(.node (tu [(.str "message" 218),(.str "spot" 219)])
(.node (tu [(.str "kind" 265)])
(.node ⟨.none,none,fd 17 0 "measured" 0 [] .none .none .none .none none .none .none 0,#[]⟩
(.node ⟨(.type "builtin_function_or_method"),.none,(.fields #[(.builtin "type.__prepare__"),(.type "type")]),#[]⟩
(.node (tu [])
.nil .nil) (.node (fi [])
.nil .nil)) (.node (tu [])
(.node (tu [(.str "self" 1114),(.str "frame" 1115),(.str "rvalue" 1116),(.str "cell" 1117),(.str "t" 1118),(.str "cells" 1119)])
.nil .nil) .nil)) (.node ⟨.none,none,fd 24 4 "Stack.kind" 0 [] .none .none .none .none none .none .none 0,#[]⟩
(.node (tu [(.str "self" 614),(.str "place" 615),(.str "found" 616)])
(.node (fi [])
.nil .nil) .nil) (.node (fi [])
(.node (co [(.str "_law_led" 1199),(.str "_law_led" 1200),(.str "/claim/cut.py" 1201),(.int 526 0),(.int 2 0),(.int 0 0),(.int 0 0),(.int 3 0),(.ref 704),(.bool .true),(.int 181 0),(.ref 705),.none,(.ref 706),(.ref 707),(.ref 708),(.int 1205 0),(.int 526 0),(.str "/claim/cut.py" 1206)])
.nil .nil) .nil))) (.node (fi [])
(.node (tu [])
(.node (co [(.str "base" 570),(.str "Memory.base" 571),(.str "/claim/cut.py" 572),(.int 186 0),(.int 2 0),(.int 0 0),(.int 0 0),(.int 3 0),(.ref 288),(.bool .true),(.int 181 0),(.ref 289),.none,(.ref 290),(.ref 291),(.ref 292),(.int 575 0),(.int 186 0),(.str "/claim/cut.py" 576)])
(.node ⟨.none,none,fd 62 2 "Places.home_of" 0 [] .none .none .none .none none .none .none 0,#[]⟩
.nil .nil) .nil) (.node (co [(.str "filled" 744),(.str "filled" 745),(.str "/claim/cut.py" 746),(.int 298 0),(.int 4 0),(.int 0 0),(.int 0 0),(.int 3 0),(.ref 416),(.bool .true),(.int 181 0),(.ref 417),.none,(.ref 418),(.ref 419),(.ref 420),(.int 752 0),(.int 298 0),(.str "/claim/cut.py" 753)])
(.node (fi [])
.nil .nil) .nil)) (.node (tu [(.str "allocation" 493),(.str "offset" 494),(.str "tag" 495)])
(.node (fi [])
(.node (co [(.str "Rvalues" 1054),(.str "Rvalues" 1055),(.str "/claim/cut.py" 1056),(.int 442 0),(.int 0 0),(.int 0 0),(.int 0 0),(.int 0 0),(.ref 611),(.bool .false),(.int 181 0),(.ref 612),.none,.none,.none,.none,(.int 1057 0),(.int 442 0),(.str "/claim/cut.py" 1058)])
.nil .nil) .nil) (.node (co [(.str "checked" 849),(.str "checked" 850),(.str "/claim/cut.py" 851),(.int 339 0),(.int 4 0),(.int 0 0),(.int 0 0),(.int 3 0),(.ref 480),(.bool .true),(.int 181 0),(.ref 481),.none,(.ref 482),(.ref 483),(.ref 484),(.int 857 0),(.int 339 0),(.str "/claim/cut.py" 858)])
(.node (tu [(.str "op" 1256),(.str "a" 1257),(.str "b" 1258),(.str "order" 1259)])
.nil .nil) .nil)))) (.node ⟨(.type "super"),.none,(.fields #[(.ref 52),(.ref 52),(.ref 52)]),#[]⟩
(.node ⟨(.type "builtin_function_or_method"),.none,(.fields #[(.builtin "object.__init_subclass__"),(.ref 83)]),#[]⟩
(.node (fi [])
(.node (tu [])
(.node (di P [("__module__",943,(.str "lendcore.places" 889)),("__qualname__",945,(.str "Places" 944)),("__firstlineno__",947,(.int 382 946)),("__init__",956,(.ref 544)),("home_of",965,(.ref 551)),("spot_of",980,(.ref 558)),("want_variant",989,(.ref 565)),("led",998,(.ref 572)),("element_of",1010,(.ref 579)),("read",1020,(.ref 586)),("leave",1029,(.ref 593)),("taken",1041,(.ref 600)),("__static_attributes__",1044,(.ref 601))] 13)
.nil .nil) .nil) (.node (fi [])
(.node ⟨.none,none,fd 63 7 "Rvalues.boxed" 0 [] .none .none .none .none none .none .none 0,#[]⟩
.nil .nil) .nil)) (.node (fi [])
(.node ⟨.none,none,fd 32 11 "Memory.write" 0 [] .none .none .none .none none .none .none 0,#[]⟩
(.node (tu [])
.nil .nil) .nil) (.node (tu [])
(.node (tu [])
.nil .nil) .nil))) (.node (tu [])
(.node (tu [(.str "self" 423),(.str "tag" 424),(.str "at" 425)])
(.node (tu [])
(.node ⟨(.type "function"),none,fd 62 4 "Places.want_variant" 3 [] .none .none .none (.str "lendcore.places" 889) none (.ref 564) .none 0,#[]⟩
.nil .nil) .nil) (.node ⟨(.type "function"),none,fd 45 0 "least" 3 [] .none .none .none (.str "lendcore.integers" 755) none (.ref 436) .none 0,#[]⟩
(.node (tu [])
.nil .nil) .nil)) (.node (fi [(.int 164 0),(.int 4 0),(.ref 251)])
(.node (tu [])
(.node (tu [])
.nil .nil) .nil) (.node (tu [])
(.node ⟨(.type "function"),none,fd 76 0 "_law_pair_right" 3 [] .none .none .none (.str "law_xm0611_01" 1162) none (.ref 756) .none 0,#[]⟩
.nil .nil) .nil))))) (.node (tu [(.int 0 208)])
(.node (di P [("__module__",235,(.str "lendcore.errors" 194)),("__qualname__",237,(.str "TypeFault" 236)),("__firstlineno__",239,(.int 11 238)),("__static_attributes__",240,(.ref 50))] 4)
(.node (tu [])
(.node (tu [])
(.node (tu [(.str "self" 551)])
(.node (fi [])
.nil .nil) (.node (tu [(.str "script" 1326),(.str "rvalues" 1327),(.str "byte" 1328),(.str "k" 1329),(.str "source" 1330)])
.nil .nil)) (.node (fi [])
(.node (tu [])
.nil .nil) .nil)) (.node (tu [])
(.node (tu [])
(.node (tu [(.str "self" 1024),(.str "pointer" 1025),(.str "t" 1026)])
.nil .nil) .nil) (.node (tu [(.str "kind" 826),(.str "number" 827)])
(.node ⟨(.type "function"),none,fd 70 0 "_law_number" 3 [] .none .none .none (.str "law_xm0611_01" 1162) none (.ref 716) .none 0,#[]⟩
.nil .nil) .nil))) (.node ⟨(.type "function"),none,fd 10 0 "with_regions" 3 [] .none .none .none (.str "lendcore.types" 286) none (.ref 108) .none 0,#[]⟩
(.node (fi [])
(.node ⟨(.type "function"),none,fd 32 5 "Memory.is_live" 3 [] .none .none .none (.str "lendcore.memory" 482) none (.ref 300) .none 0,#[]⟩
(.node (co [(.str "spot_of" 966),(.str "Places.spot_of" 967),(.str "/claim/cut.py" 968),(.int 393 0),(.int 3 0),(.int 0 0),(.int 0 0),(.int 3 0),(.ref 552),(.bool .true),(.int 181 0),(.ref 553),.none,(.ref 554),(.ref 555),(.ref 556),(.int 978 0),(.int 393 0),(.str "/claim/cut.py" 979)])
.nil .nil) .nil) (.node (co [(.str "is_signed" 785),(.str "is_signed" 786),(.str "/claim/cut.py" 787),(.int 305 0),(.int 1 0),(.int 0 0),(.int 0 0),(.int 3 0),(.ref 424),(.bool .true),(.int 181 0),(.ref 425),.none,(.ref 426),(.ref 427),(.ref 428),(.int 789 0),(.int 305 0),(.str "/claim/cut.py" 790)])
(.node (tu [(.str "source" 1178),(.str "top" 1179),(.str "drawn" 1180)])
.nil .nil) .nil)) (.node (tu [])
(.node ⟨(.type "type"),.none,(.cls ⟨"Memory",[(.type "object")],[(.ref 365),(.type "object")],364,"Memory",.true,[],[],.false,.none,.false⟩),#[.none,.none,(.some (.str "Memory" 536)),(.some (.str "Memory" 544)),(.some (.builtin "object.__new__")),(.some (.bool .true))]⟩
(.node ⟨(.type "function"),none,fd 63 1 "Rvalues.__init__" 3 [] .none .none .none (.str "lendcore.places" 889) none (.ref 620) .none 0,#[]⟩
.nil .nil) .nil) (.node ⟨(.type "function"),none,fd 53 0 "shifted" 3 [] .none .none .none (.str "lendcore.integers" 755) none (.ref 492) .none 0,#[]⟩
(.node (tu [])
.nil .nil) .nil)))) (.node ⟨(.type "frame"),.none,.plain,#[(.some (.ref 60)),(.some (.ref 3)),(.some (.ref 57)),.none,(.some (.str "lendcore.errors" 194)),.none,(.some (.ref 0))]⟩
(.node (tu [])
(.node ⟨.none,none,fd 21 0 "first_place" 0 [] .none .none .none .none none .none .none 0,#[]⟩
(.node ⟨.none,none,fd 32 3 "Memory.allocate" 0 [] .none .none .none .none none .none .none 0,#[]⟩
(.node (tu [])
.nil .nil) .nil) (.node ⟨.none,none,fd 40 0 "joined" 0 [] .none .none .none .none none .none .none 0,#[]⟩
(.node (tu [(.str "places" 1152),(.str "world" 1153)])
.nil .nil) .nil)) (.node ⟨(.type "type"),.none,(.cls ⟨"Stack",[(.type "object")],[(.ref 221),(.type "object")],220,"Stack",.true,[],[],.false,.none,.false⟩),#[.none,.none,(.some (.str "Stack" 400)),(.some (.str "Stack" 408)),(.some (.builtin "object.__new__")),(.some (.bool .true))]⟩
(.node (tu [])
(.node ⟨(.type "getset_descriptor"),.none,(.fields #[(.str "__weakref__" 1047),(.ref 603),(.builtin "ExceptionGroup.__weakref__"),.none]),#[]⟩
.nil .nil) .nil) (.node ⟨.none,none,fd 51 0 "exact" 0 [] .none .none .none .none none .none .none 0,#[]⟩
(.node (fi [])
.nil .nil) .nil))) (.node (tu [])
(.node (tu [])
(.node (fi [])
(.node (tu [])
.nil .nil) .nil) (.node (tu [])
(.node ⟨.none,none,fd 68 0 "_law_wide" 0 [] .none .none .none .none none .none .none 0,#[]⟩
.nil .nil) .nil)) (.node (tu [(.str "cells" 525),(.str "is_live" 526),(.str "stacks" 527)])
(.node ⟨(.type "function"),none,fd 35 0 "parts_told" 3 [] .none .none .none (.str "lendcore.cells" 679) none (.ref 380) .none 0,#[]⟩
(.node (fi [])
.nil .nil) .nil) (.node (tu [(.str "==" 901),(.str "!=" 902),(.str "<" 903),(.str "<=" 904),(.str ">" 905),(.str ">=" 906)])
(.node (tu [])
.nil .nil) .nil)))))))) (.node ⟨.none,none,.dict (en P [("type.__subclasses__.Exception.0",224,(.int 39 0)),("type.__subclasses__.Exception.n",225,(.int 1 0))]).toArray 2,#[]⟩
(.node (boot_o_4 P)
(.node (boot_o_8 P)
(.node (fi [])
(.node (tu [(.str "self" 212),(.str "message" 213),(.str "spot" 214)])
(.node (tu [(.str "self" 259),(.str "kind" 260),(.str "message" 261)])
(.node ⟨(.type "function"),none,fd 16 0 "size_of" 3 [] .none .none .none (.str "lendcore.layout" 332) none (.ref 127) .none 0,#[]⟩
(.node ⟨(.type "getset_descriptor"),.none,(.fields #[(.str "__dict__" 529),(.ref 255),(.builtin "function.__dict__"),(.builtin "function.__dict__#set")]),#[]⟩
(.node (tu [(.str "cell" 911)])
.nil .nil) (.node (tu [])
.nil .nil)) (.node (tu [(.str "t" 698)])
(.node ⟨.none,none,fd 63 4 "Rvalues.of_two" 0 [] .none .none .none .none none .none .none 0,#[]⟩
.nil .nil) .nil)) (.node ⟨(.type "function"),none,fd 24 3 "Stack.may" 3 [] .none .none .none (.str "lendcore.stacks" 398) none (.ref 191) .none 0,#[]⟩
(.node ⟨.none,none,fd 32 8 "Memory.room" 0 [] .none .none .none .none none .none .none 0,#[]⟩
(.node (tu [])
.nil .nil) .nil) (.node (tu [])
(.node (tu [])
.nil .nil) .nil))) (.node (tu [])
(.node (tu [])
(.node (tu [])
(.node ⟨(.type "function"),none,fd 62 1 "Places.__init__" 3 [] .none .none .none (.str "lendcore.places" 889) none (.ref 543) .none 0,#[]⟩
.nil .nil) .nil) (.node (tu [])
(.node ⟨(.type "getset_descriptor"),.none,(.fields #[(.str "__dict__" 1155),(.ref 671),(.builtin "function.__dict__"),(.builtin "function.__dict__#set")]),#[]⟩
.nil .nil) .nil)) (.node ⟨(.type "super"),.none,(.fields #[(.ref 221),(.ref 221),(.ref 221)]),#[]⟩
(.node (tu [])
(.node (tu [])
.nil .nil) .nil) (.node (tu [])
(.node ⟨.none,none,fd 73 0 "_law_bits" 0 [] .none .none .none .none none .none .none 0,#[]⟩
.nil .nil) .nil)))) (.node (co [(.str "TypeFault" 230),(.str "TypeFault" 231),(.str "/claim/cut.py" 232),(.int 11 0),(.int 0 0),(.int 0 0),(.int 0 0),(.int 0 0),(.ref 46),(.bool .false),(.int 181 0),(.ref 47),.none,.none,.none,.none,(.int 233 0),(.int 11 0),(.str "/claim/cut.py" 234)])
(.node ⟨(.type "frame"),.none,.plain,#[(.some (.ref 79)),(.some (.ref 3)),(.some (.ref 76)),.none,(.some (.str "lendcore.errors" 194)),.none,(.some (.ref 0))]⟩
(.node (tu [])
(.node (co [(.str "__init__" 548),(.str "Memory.__init__" 549),(.str "/claim/cut.py" 550),(.int 170 0),(.int 1 0),(.int 0 0),(.int 0 0),(.int 3 0),(.ref 267),(.bool .true),(.int 181 0),(.ref 268),.none,(.ref 269),(.ref 270),(.ref 271),(.int 552 0),(.int 170 0),(.str "/claim/cut.py" 553)])
(.node ⟨.none,none,fd 61 0 "reckoned" 0 [] .none .none .none .none none .none .none 0,#[]⟩
.nil .nil) (.node (co [(.str "law" 1323),(.str "law" 1324),(.str "/claim/cut.py" 1325),(.int 613 0),(.int 1 0),(.int 0 0),(.int 0 0),(.int 3 0),(.ref 779),(.bool .true),(.int 181 0),(.ref 780),.none,(.ref 781),(.ref 782),(.ref 783),(.int 1331 0),(.int 613 0),(.str "/claim/cut.py" 1332)])
.nil .nil)) (.node ⟨.none,none,fd 38 0 "want_whole" 0 [] .none .none .none .none none .none .none 0,#[]⟩
(.node ⟨(.type "function"),none,fd 63 6 "Rvalues.variant_of" 3 [] .none .none .none (.str "lendcore.places" 889) none (.ref 655) .none 0,#[]⟩
.nil .nil) .nil)) (.node (tu [])
(.node ⟨(.type "function"),none,fd 32 10 "Memory.known" 3 [] .none .none .none (.str "lendcore.memory" 482) none (.ref 335) .none 0,#[]⟩
(.node (co [(.str "leave" 1021),(.str "Places.leave" 1022),(.str "/claim/cut.py" 1023),(.int 431 0),(.int 3 0),(.int 0 0),(.int 0 0),(.int 3 0),(.ref 587),(.bool .true),(.int 181 0),(.ref 588),.none,(.ref 589),(.ref 590),(.ref 591),(.int 1027 0),(.int 431 0),(.str "/claim/cut.py" 1028)])
.nil .nil) .nil) (.node (co [(.str "cast_int" 823),(.str "cast_int" 824),(.str "/claim/cut.py" 825),(.int 316 0),(.int 2 0),(.int 0 0),(.int 0 0),(.int 3 0),(.ref 459),(.bool .true),(.int 181 0),(.ref 460),.none,(.ref 461),(.ref 462),(.ref 463),(.int 828 0),(.int 316 0),(.str "/claim/cut.py" 829)])
(.node (tu [(.str "kind" 1220),(.str "op" 1221),(.str "a" 1222),(.str "b" 1223),(.str "many" 1224),(.str "whole" 1225)])
.nil .nil) .nil))) (.node (tu [(.str "told" 320),(.str "variant" 321),(.str "world" 322)])
(.node ⟨.none,none,fd 24 1 "Stack.__init__" 0 [] .none .none .none .none none .none .none 0,#[]⟩
(.node (tu [(.str "self" 589)])
(.node (fi [])
.nil .nil) .nil) (.node (fi [])
(.node (co [(.str "_law_take" 1175),(.str "_law_take" 1176),(.str "/claim/cut.py" 1177),(.int 515 0),(.int 2 0),(.int 0 0),(.int 0 0),(.int 3 0),(.ref 683),(.bool .true),(.int 181 0),(.ref 684),.none,(.ref 685),(.ref 686),(.ref 687),(.int 1181 0),(.int 515 0),(.str "/claim/cut.py" 1182)])
.nil .nil) .nil)) (.node ⟨(.type "function"),none,fd 30 0 "moved" 3 [] .none .none .none (.str "lendcore.memory" 482) none (.ref 239) .none 0,#[]⟩
(.node ⟨(.type "super"),.none,(.fields #[(.ref 365),(.ref 365),(.ref 365)]),#[]⟩
(.node (tu [(.str "self" 1075),(.str "frame" 1076),(.str "rvalue" 1077),(.str "kind" 1078)])
.nil .nil) .nil) (.node (tu [(.str "kind" 875),(.str "a" 876)])
(.node ⟨(.type "function"),none,fd 75 0 "_law_told" 3 [] .none .none .none (.str "law_xm0611_01" 1162) none (.ref 751) .none 0,#[]⟩
.nil .nil) .nil))))) (.node (di P [("__module__",203,(.str "lendcore.errors" 194)),("__qualname__",205,(.str "LendError" 204)),("__firstlineno__",207,(.int 5 206)),("__init__",217,(.ref 36)),("__static_attributes__",220,(.ref 37))] 5)
(.node ⟨(.type "getset_descriptor"),.none,(.fields #[(.str "__weakref__" 221),(.ref 39),(.builtin "ExceptionGroup.__weakref__"),.none]),#[]⟩
(.node ⟨(.type "super"),.none,(.fields #[(.ref 71),(.ref 71),(.ref 71)]),#[]⟩
(.node (tu [])
(.node (fi [(.int 170 0),(.int 4 0),(.ref 272),(.int 175 0),(.int 4 0),(.ref 279),(.int 179 0),(.int 4 0),(.ref 286),(.int 186 0),(.int 4 0),(.ref 293),(.int 189 0),(.int 4 0),(.ref 300),(.int 192 0),(.int 4 0),(.ref 307),(.int 195 0),(.int 4 0),(.ref 314),(.int 198 0),(.int 4 0),(.ref 321),(.int 206 0),(.int 4 0),(.ref 328),(.int 211 0),(.int 4 0),(.ref 335),(.int 217 0),(.int 4 0),(.ref 342),(.int 222 0),(.int 4 0),(.ref 347),(.int 225 0),(.int 4 0),(.ref 354),(.int 229 0),(.int 4 0),(.ref 361)])
(.node (tu [])
.nil .nil) (.node ⟨.none,none,fd 79 0 "_law_numbers_right" 0 [] .none .none .none .none none .none .none 0,#[]⟩
.nil .nil)) (.node (tu [])
(.node (co [(.str "of_one" 1111),(.str "Rvalues.of_one" 1112),(.str "/claim/cut.py" 1113),(.int 480 0),(.int 3 0),(.int 0 0),(.int 0 0),(.int 3 0),(.ref 643),(.bool .true),(.int 181 0),(.ref 644),.none,(.ref 645),(.ref 646),(.ref 647),(.int 1120 0),(.int 480 0),(.str "/claim/cut.py" 1121)])
.nil .nil) .nil)) (.node (tu [])
(.node (co [(.str "read" 611),(.str "Memory.read" 612),(.str "/claim/cut.py" 613),(.int 206 0),(.int 2 0),(.int 0 0),(.int 0 0),(.int 3 0),(.ref 323),(.bool .true),(.int 181 0),(.ref 324),.none,(.ref 325),(.ref 326),(.ref 327),(.int 617 0),(.int 206 0),(.str "/claim/cut.py" 618)])
(.node ⟨.none,none,fd 62 7 "Places.read" 0 [] .none .none .none .none none .none .none 0,#[]⟩
.nil .nil) .nil) (.node ⟨.none,none,fd 48 0 "wrapped" 0 [] .none .none .none .none none .none .none 0,#[]⟩
(.node (fi [])
.nil .nil) .nil))) (.node ⟨(.type "function"),none,fd 9 0 "substituted" 3 [] .none .none .none (.str "lendcore.types" 286) none (.ref 103) .none 0,#[]⟩
(.node (tu [])
(.node (fi [])
(.node (tu [])
.nil .nil) .nil) (.node (tu [])
(.node ⟨.none,none,fd 65 0 "_law_pool" 0 [] .none .none .none .none none .none .none 0,#[]⟩
.nil .nil) .nil)) (.node (co [(.str "pointer" 490),(.str "pointer" 491),(.str "/claim/cut.py" 492),(.int 158 0),(.int 3 0),(.int 0 0),(.int 0 0),(.int 3 0),(.ref 227),(.bool .true),(.int 181 0),(.ref 228),.none,(.ref 229),(.ref 230),(.ref 231),(.int 496 0),(.int 158 0),(.str "/claim/cut.py" 497)])
(.node ⟨.none,none,fd 32 14 "Memory.retagged" 0 [] .none .none .none .none none .none .none 0,#[]⟩
(.node (fi [])
.nil .nil) .nil) (.node (fi [])
(.node (co [(.str "_law_compared" 1253),(.str "_law_compared" 1254),(.str "/claim/cut.py" 1255),(.int 556 0),(.int 3 0),(.int 0 0),(.int 0 0),(.int 3 0),(.ref 739),(.bool .true),(.int 181 0),(.ref 740),.none,(.ref 741),(.ref 742),(.ref 743),(.int 1260 0),(.int 556 0),(.str "/claim/cut.py" 1261)])
.nil .nil) .nil)))) (.node ⟨(.type "builtin_function_or_method"),.none,(.fields #[(.builtin "type.__prepare__"),(.type "type")]),#[]⟩
(.node (tu [(.str "told" 291),(.str "kind" 292)])
(.node ⟨(.type "function"),none,fd 20 0 "part_types" 3 [] .none .none .none (.str "lendcore.layout" 332) none (.ref 151) .none 0,#[]⟩
(.node ⟨(.type "function"),none,fd 32 2 "Memory.fresh_tag" 3 [] .none .none .none (.str "lendcore.memory" 482) none (.ref 279) .none 0,#[]⟩
(.node (co [(.str "Places" 938),(.str "Places" 939),(.str "/claim/cut.py" 940),(.int 382 0),(.int 0 0),(.int 0 0),(.int 0 0),(.int 0 0),(.ref 534),(.bool .false),(.int 181 0),(.ref 535),.none,.none,.none,.none,(.int 941 0),(.int 382 0),(.str "/claim/cut.py" 942)])
.nil .nil) .nil) (.node ⟨(.type "function"),none,fd 39 0 "cells_of" 3 [] (.ref 403) .none .none (.str "lendcore.cells" 679) none (.ref 407) .none 0,#[]⟩
(.node (tu [])
.nil .nil) .nil)) (.node ⟨.none,none,fd 24 7 "Stack.push" 0 [] .none .none .none .none none .none .none 0,#[]⟩
(.node (tu [])
(.node ⟨(.type "function"),none,fd 62 9 "Places.taken" 3 [] .none .none .none (.str "lendcore.places" 889) none (.ref 599) .none 0,#[]⟩
.nil .nil) .nil) (.node ⟨(.type "function"),none,fd 50 0 "cut_quotient" 3 [] .none .none .none (.str "lendcore.integers" 755) none (.ref 471) .none 0,#[]⟩
(.node (tu [])
.nil .nil) .nil))) (.node (co [(.str "fields_of" 326),(.str "fields_of" 327),(.str "/claim/cut.py" 328),(.int 53 0),(.int 3 0),(.int 0 0),(.int 0 0),(.int 3 0),(.ref 117),(.bool .true),(.int 181 0),(.ref 118),.none,.none,.none,(.ref 119),(.int 329 0),(.int 53 0),(.str "/claim/cut.py" 330)])
(.node (co [(.str "place" 420),(.str "Stack.place" 421),(.str "/claim/cut.py" 422),(.int 120 0),(.int 2 0),(.int 0 0),(.int 0 0),(.int 3 0),(.ref 179),(.bool .true),(.int 181 0),(.ref 180),.none,(.ref 181),(.ref 182),(.ref 183),(.int 426 0),(.int 120 0),(.str "/claim/cut.py" 427)])
(.node (tu [])
(.node (tu [(.str "self" 993),(.str "pointer" 994),(.str "cell" 995)])
.nil .nil) .nil) (.node (tu [(.str "kind" 802)])
(.node ⟨(.type "function"),none,fd 67 0 "_law_one" 3 [] .none .none .none (.str "law_xm0611_01" 1162) none (.ref 695) .none 0,#[]⟩
.nil .nil) .nil)) (.node (tu [])
(.node ⟨(.type "function"),none,fd 34 0 "is_enum" 3 [] .none .none .none (.str "lendcore.cells" 679) none (.ref 375) .none 0,#[]⟩
(.node (tu [])
.nil .nil) .nil) (.node (tu [])
(.node (tu [(.str "rvalues" 1280),(.str "op" 1281),(.str "one" 1282),(.str "other" 1283),(.str "due" 1284)])
.nil .nil) .nil)))))) (.node (fi ((.int 1 0)::(.int 0 0)::(.ref 20)::(.int 5 0)::(.int 0 0)::(.ref 27)::(.int 11 0)::(.int 0 0)::(.ref 48)::(.int 13 0)::(.int 0 0)::(.ref 60)::(.int 18 0)::(.int 0 0)::(.ref 79)::(.int 21 0)::(.int 0 0)::(.ref 91)::(.int 30 0)::(.int 0 0)::(.ref 98)::(.int 41 0)::(.int 0 0)::(.ref 103)::(.int 45 0)::(.int 0 0)::(.ref 108)::(.int 51 0)::(.int 0 0)::(.ref 115)::(.int 53 0)::(.int 0 0)::(.ref 120)::(.int 68 0)::(.int 0 0)::(.ref 127)::(.int 70 0)::(.int 0 0)::(.ref 134)::(.int 85 0)::(.int 0 0)::(.ref 139)::(.int 99 0)::(.int 0 0)::(.ref 146)::(.int 105 0)::(.int 0 0)::(.ref 151)::(.int 109 0)::(.int 0 0)::(.ref 158)::(.int 111 0)::(.int 0 0)::(.ref 163)::(.int 115 0)::(.int 0 0)::(.ref 170)::(.int 158 0)::(.int 0 0)::(.ref 232)::(.int 160 0)::(.int 0 0)::(.ref 239)::(.int 162 0)::(.int 0 0)::(.ref 246)::(.int 168 0)::(.int 0 0)::(.ref 265)::(.int 239 0)::(.int 0 0)::(.ref 375)::(.int 241 0)::(.int 0 0)::(.ref 380)::(.int 247 0)::(.int 0 0)::(.ref 387)::(.int 249 0)::(.int 0 0)::(.ref 394)::(.int 259 0)::(.int 0 0)::(.ref 401)::(.int 270 0)::(.int 0 0)::(.ref 407)::(.int 293 0)::(.int 0 0)::(.ref 414)::(.int 298 0)::(.int 0 0)::(.ref 421)::(.int 305 0)::(.int 0 0)::(.ref 429)::(.int 307 0)::(.int 0 0)::(.ref 436)::(.int 309 0)::(.int 0 0)::(.ref 443)::(.int 311 0)::(.int 0 0)::(.ref 450)::(.int 313 0)::(.int 0 0)::(.ref 457)::(.int 316 0)::(.int 0 0)::(.ref 464)::(.int 318 0)::(.int 0 0)::(.ref 471)::(.int 321 0)::(.int 0 0)::(.ref 478)::(.int 339 0)::(.int 0 0)::(.ref 485)::(.int 348 0)::(.int 0 0)::(.ref 492)::(.int 352 0)::(.int 0 0)::(.ref 499)::(.int 354 0)::(.int 0 0)::(.ref 506)::(.int 371 0)::(.int 0 0)::(.ref 515)::(.int 373 0)::(.int 0 0)::(.ref 522)::(.int 377 0)::(.int 0 0)::(.ref 529)::(.int 382 0)::(.int 0 0)::(.ref 536)::(.int 442 0)::(.int 0 0)::(.ref 613)::(.int 508 0)::(.int 0 0)::(.ref 681)::(.int 515 0)::(.int 0 0)::(.ref 688)::(.int 522 0)::(.int 0 0)::(.ref 695)::(.int 524 0)::(.int 0 0)::(.ref 702)::(.int 526 0)::(.int 0 0)::(.ref 709)::(.int 529 0)::(.int 0 0)::(.ref 716)::(.int 534 0)::(.int 0 0)::(.ref 723)::(.int 546 0)::(.int 0 0)::(.ref 730)::(.int 550 0)::(.int 0 0)::(.ref 737)::(.int 556 0)::(.int 0 0)::(.ref 744)::(.int 561 0)::(.int 0 0)::(.ref 751)::(.int 566 0)::(.int 0 0)::(.ref 756)::(.int 575 0)::(.int 0 0)::(.ref 763)::(.int 577 0)::(.int 0 0)::(.ref 770)::(.int 590 0)::(.int 0 0)::(.ref 777)::(.int 613 0)::(.int 0 0)::(.ref 784)::[]))
(.node (co [(.str "_wall" 187),(.str "_wall" 188),(.str "/claim/cut.py" 189),(.int 1 0),(.int 1 0),(.int 0 0),(.int 0 0),(.int 3 0),(.ref 15),(.bool .true),(.int 181 0),(.ref 16),.none,(.ref 17),(.ref 18),(.ref 19),(.int 191 0),(.int 1 0),(.str "/claim/cut.py" 192)])
(.node ⟨(.type "function"),none,fd 2 1 "LendError.__init__" 3 [] (.ref 29) .none .none (.str "lendcore.errors" 194) none (.ref 35) .none 0,#[]⟩
(.node ⟨(.type "function"),none,fd 4 1 "MachineFault.__init__" 3 [] .none .none .none (.str "lendcore.errors" 194) none (.ref 67) .none 0,#[]⟩
(.node (tu [])
(.node (tu [])
(.node ⟨(.type "function"),none,fd 59 0 "is_pointer" 3 [] .none .none .none (.str "lendcore.places" 889) none (.ref 515) .none 0,#[]⟩
.nil .nil) (.node (tu [])
.nil .nil)) (.node ⟨(.type "function"),none,fd 36 0 "is_of_parts" 3 [] .none .none .none (.str "lendcore.cells" 679) none (.ref 387) .none 0,#[]⟩
(.node (fi [])
.nil .nil) .nil)) (.node (tu [])
(.node (fi [])
(.node (tu [])
.nil .nil) .nil) (.node (tu [])
(.node ⟨.none,none,fd 69 0 "_law_led" 0 [] .none .none .none .none none .none .none 0,#[]⟩
.nil .nil) .nil))) (.node (tu [])
(.node ⟨(.type "function"),none,fd 22 0 "offset_of_field" 3 [] .none .none .none (.str "lendcore.layout" 332) none (.ref 163) .none 0,#[]⟩
(.node ⟨.none,none,fd 32 4 "Memory.base" 0 [] .none .none .none .none none .none .none 0,#[]⟩
(.node (tu [])
.nil .nil) .nil) (.node ⟨.none,none,fd 41 0 "filled" 0 [] .none .none .none .none none .none .none 0,#[]⟩
(.node (tu [])
.nil .nil) .nil)) (.node (fi [])
(.node (tu [])
(.node (fi [(.int 444 0),(.int 4 0),(.ref 620),(.int 448 0),(.int 4 0),(.ref 627),(.int 464 0),(.int 4 0),(.ref 634),(.int 468 0),(.int 4 0),(.ref 641),(.int 480 0),(.int 4 0),(.ref 648),(.int 489 0),(.int 4 0),(.ref 655),(.int 495 0),(.int 4 0),(.ref 662),(.int 502 0),(.int 4 0),(.ref 667)])
.nil .nil) .nil) (.node ⟨.none,none,fd 52 0 "checked" 0 [] .none .none .none .none none .none .none 0,#[]⟩
(.node (fi [])
.nil .nil) .nil)))) (.node ⟨(.type "type"),.none,(.cls ⟨"TypeFault",[(.ref 39)],[(.ref 52),(.ref 39),(.type "Exception"),(.type "BaseException"),(.type "object")],51,"TypeFault",.true,[],[],.false,.none,.false⟩),#[(.some (.ref 43)),.none,(.some (.str "TypeFault" 228)),(.some (.str "TypeFault" 236)),(.some (.builtin "Exception.__new__")),(.some (.bool .true))]⟩
(.node ⟨(.type "super"),.none,(.fields #[(.ref 83),(.ref 83),(.ref 83)]),#[]⟩
(.node (tu [])
(.node (tu [(.str "self" 558)])
(.node ⟨(.type "builtin_function_or_method"),.none,(.fields #[(.builtin "type.__prepare__"),(.type "type")]),#[]⟩
.nil .nil) .nil) (.node (tu [])
(.node (tu [])
.nil .nil) .nil)) (.node (tu [])
(.node (tu [])
(.node (tu [(.str "self" 1033),(.str "frame" 1034),(.str "operand" 1035),(.str "pointer" 1036),(.str "t" 1037),(.str "cells" 1038)])
.nil .nil) .nil) (.node (tu [(.str "a" 834),(.str "b" 835),(.str "found" 836)])
(.node ⟨(.type "function"),none,fd 71 0 "_law_reckoned" 3 [] .none .none .none (.str "law_xm0611_01" 1162) none (.ref 723) .none 0,#[]⟩
.nil .nil) .nil))) (.node ⟨(.type "function"),none,fd 11 0 "field_rows" 3 [] .none .none .none (.str "lendcore.types" 286) none (.ref 115) .none 0,#[]⟩
(.node (fi [])
(.node ⟨(.type "function"),none,fd 32 6 "Memory.live_count" 3 [] .none .none .none (.str "lendcore.memory" 482) none (.ref 307) .none 0,#[]⟩
(.node (co [(.str "want_variant" 981),(.str "Places.want_variant" 982),(.str "/claim/cut.py" 983),(.int 410 0),(.int 3 0),(.int 0 0),(.int 0 0),(.int 3 0),(.ref 559),(.bool .true),(.int 181 0),(.ref 560),.none,(.ref 561),(.ref 562),(.ref 563),(.int 987 0),(.int 410 0),(.str "/claim/cut.py" 988)])
.nil .nil) .nil) (.node (co [(.str "least" 792),(.str "least" 793),(.str "/claim/cut.py" 794),(.int 307 0),(.int 1 0),(.int 0 0),(.int 0 0),(.int 3 0),(.ref 431),(.bool .true),(.int 181 0),(.ref 432),.none,(.ref 433),(.ref 434),(.ref 435),(.int 796 0),(.int 307 0),(.str "/claim/cut.py" 797)])
(.node (tu [(.str "source" 1187),(.str "things" 1188)])
.nil .nil) .nil)) (.node (tu [])
(.node (tu [(.str "t" 684),(.str "world" 685)])
(.node ⟨(.type "function"),none,fd 63 2 "Rvalues.cells" 3 [] .none .none .none (.str "lendcore.places" 889) none (.ref 627) .none 0,#[]⟩
.nil .nil) .nil) (.node ⟨(.type "function"),none,fd 54 0 "inverted" 3 [] .none .none .none (.str "lendcore.integers" 755) none (.ref 499) .none 0,#[]⟩
(.node (co [(.str "_law_pair_right" 1271),(.str "_law_pair_right" 1272),(.str "/claim/cut.py" 1273),(.int 566 0),(.int 6 0),(.int 0 0),(.int 0 0),(.int 3 0),(.ref 753),(.bool .true),(.int 181 0),(.ref 754),.none,.none,.none,(.ref 755),(.int 1274 0),(.int 566 0),(.str "/claim/cut.py" 1275)])
.nil .nil) .nil))))) (.node ⟨(.type "frame"),.none,.plain,#[(.some (.ref 27)),(.some (.ref 3)),(.some (.ref 24)),.none,(.some (.str "lendcore.errors" 194)),.none,(.some (.ref 0))]⟩
(.node ⟨(.type "builtin_function_or_method"),.none,(.fields #[(.builtin "type.__prepare__"),(.type "type")]),#[]⟩
(.node (di P [("__module__",277,(.str "lendcore.errors" 194)),("__qualname__",279,(.str "FuelFault" 278)),("__firstlineno__",281,(.int 18 280)),("__static_attributes__",282,(.ref 81))] 4)
(.node ⟨(.type "function"),none,fd 18 0 "measured_anew" 3 [] .none .none .none (.str "lendcore.layout" 332) none (.ref 139) .none 0,#[]⟩
(.node (fi [])
(.node (tu [])
.nil .nil) (.node (fi [])
.nil .nil)) (.node (tu [])
(.node (tu [(.str "self" 1126),(.str "frame" 1127),(.str "place" 1128),(.str "pointer" 1129),(.str "t" 1130)])
.nil .nil) .nil)) (.node ⟨(.type "function"),none,fd 24 5 "Stack.read" 3 [] .none .none .none (.str "lendcore.stacks" 398) none (.ref 203) .none 0,#[]⟩
(.node (tu [(.str "self" 623),(.str "place" 624),(.str "found" 625)])
(.node (fi [])
.nil .nil) .nil) (.node (fi [])
(.node (co [(.str "_law_number" 1208),(.str "_law_number" 1209),(.str "/claim/cut.py" 1210),(.int 529 0),(.int 2 0),(.int 0 0),(.int 0 0),(.int 3 0),(.ref 711),(.bool .true),(.int 181 0),(.ref 712),.none,(.ref 713),(.ref 714),(.ref 715),(.int 1214 0),(.int 529 0),(.str "/claim/cut.py" 1215)])
.nil .nil) .nil))) (.node (co [(.str "with_regions" 311),(.str "with_regions" 312),(.str "/claim/cut.py" 313),(.int 45 0),(.int 2 0),(.int 0 0),(.int 0 0),(.int 3 0),(.ref 105),(.bool .true),(.int 181 0),(.ref 106),.none,.none,.none,(.ref 107),(.int 314 0),(.int 45 0),(.str "/claim/cut.py" 315)])
(.node (tu [])
(.node (co [(.str "is_live" 578),(.str "Memory.is_live" 579),(.str "/claim/cut.py" 580),(.int 189 0),(.int 2 0),(.int 0 0),(.int 0 0),(.int 3 0),(.ref 295),(.bool .true),(.int 181 0),(.ref 296),.none,(.ref 297),(.ref 298),(.ref 299),(.int 583 0),(.int 189 0),(.str "/claim/cut.py" 584)])
(.node ⟨.none,none,fd 62 3 "Places.spot_of" 0 [] .none .none .none .none none .none .none 0,#[]⟩
.nil .nil) .nil) (.node ⟨.none,none,fd 44 0 "is_signed" 0 [] .none .none .none .none none .none .none 0,#[]⟩
(.node (fi [])
.nil .nil) .nil)) (.node (tu [(.str "place" 502),(.str "many" 503)])
(.node (di P [("__module__",543,(.str "lendcore.memory" 482)),("__firstlineno__",547,(.int 168 546)),("__init__",554,(.ref 273)),("fresh_tag",561,(.ref 280)),("allocate",569,(.ref 287)),("base",577,(.ref 294)),("is_live",585,(.ref 301)),("live_count",592,(.ref 308)),("free",600,(.ref 315)),("room",610,(.ref 322)),("read",619,(.ref 329)),("known",628,(.ref 336)),("write",638,(.ref 343)),("read_all",644,(.ref 348)),("write_all",654,(.ref 355)),("retagged",667,(.ref 362)),("__static_attributes__",671,(.ref 363)),("__dict__",673,(.ref 366)),("__weakref__",675,(.ref 367)),("__doc__",676,.none)] 4)
(.node (co [(.str "__init__" 1064),(.str "Rvalues.__init__" 1065),(.str "/claim/cut.py" 1066),(.int 444 0),(.int 2 0),(.int 0 0),(.int 0 0),(.int 3 0),(.ref 615),(.bool .true),(.int 181 0),(.ref 616),.none,(.ref 617),(.ref 618),(.ref 619),(.int 1069 0),(.int 444 0),(.str "/claim/cut.py" 1070)])
.nil .nil) .nil) (.node (co [(.str "shifted" 860),(.str "shifted" 861),(.str "/claim/cut.py" 862),(.int 348 0),(.int 4 0),(.int 0 0),(.int 0 0),(.int 3 0),(.ref 487),(.bool .true),(.int 181 0),(.ref 488),.none,(.ref 489),(.ref 490),(.ref 491),(.int 869 0),(.int 348 0),(.str "/claim/cut.py" 870)])
(.node (tu [(.str "call" 1266),(.str "fault" 1267)])
.nil .nil) .nil)))) (.node (co [(.str "MachineFault" 246),(.str "MachineFault" 247),(.str "/claim/cut.py" 248),(.int 13 0),(.int 0 0),(.int 0 0),(.int 0 0),(.int 0 0),(.ref 58),(.bool .false),(.int 181 0),(.ref 59),.none,.none,.none,.none,(.int 249 0),(.int 13 0),(.str "/claim/cut.py" 250)])
(.node ⟨(.type "function"),none,fd 7 0 "parts_of" 3 [] .none .none .none (.str "lendcore.types" 286) none (.ref 91) .none 0,#[]⟩
(.node (tu [])
(.node (tu [])
(.node (tu [(.str "self" 951),(.str "memory" 952),(.str "world" 953)])
.nil .nil) .nil) (.node (tu [])
(.node ⟨(.type "function"),none,fd 63 8 "Rvalues.made" 3 [] .none .none .none (.str "lendcore.places" 889) none (.ref 667) .none 0,#[]⟩
.nil .nil) .nil)) (.node (di P [("__module__",407,(.str "lendcore.stacks" 398)),("__firstlineno__",411,(.int 115 410)),("__init__",419,(.ref 178)),("place",428,(.ref 185)),("may",439,(.ref 192)),("kind",447,(.ref 199)),("read",453,(.ref 204)),("write",462,(.ref 211)),("push",472,(.ref 218)),("__static_attributes__",474,(.ref 219)),("__dict__",476,(.ref 222)),("__weakref__",478,(.ref 223)),("__doc__",479,.none)] 4)
(.node ⟨(.type "function"),none,fd 32 12 "Memory.read_all" 3 [] .none .none .none (.str "lendcore.memory" 482) none (.ref 347) .none 0,#[]⟩
(.node ⟨(.type "getset_descriptor"),.none,(.fields #[(.str "__dict__" 1045),(.ref 603),(.builtin "function.__dict__"),(.builtin "function.__dict__#set")]),#[]⟩
.nil .nil) .nil) (.node (tu [])
(.node (tu [])
.nil .nil) .nil))) (.node (tu [(.str "told" 343),(.str "world" 344)])
(.node (tu [(.str "self" 432),(.str "tag" 433),(.str "is_write" 434),(.str "other" 435),(.str "kind" 436)])
(.node (tu [])
(.node ⟨(.type "function"),none,fd 62 5 "Places.led" 3 [] .none .none .none (.str "lendcore.places" 889) none (.ref 571) .none 0,#[]⟩
.nil .nil) .nil) (.node ⟨(.type "function"),none,fd 46 0 "greatest" 3 [] .none .none .none (.str "lendcore.integers" 755) none (.ref 443) .none 0,#[]⟩
(.node (tu [])
.nil .nil) .nil)) (.node ⟨(.type "function"),none,fd 31 1 "Allocation.__init__" 3 [] .none .none .none (.str "lendcore.memory" 482) none (.ref 251) .none 0,#[]⟩
(.node (co [(.str "parts_told" 689),(.str "parts_told" 690),(.str "/claim/cut.py" 691),(.int 241 0),(.int 3 0),(.int 0 0),(.int 0 0),(.int 3 0),(.ref 377),(.bool .true),(.int 181 0),(.ref 378),.none,.none,.none,(.ref 379),(.int 692 0),(.int 241 0),(.str "/claim/cut.py" 693)])
(.node (tu [])
.nil .nil) .nil) (.node (di P [("shared",891,(.str "shared" 892)),("mut",893,(.str "unique" 894)),("two-phase",895,(.str "reserved" 896))] 3)
(.node ⟨(.type "function"),none,fd 77 0 "_law_same" 3 [] .none .none .none (.str "law_xm0611_01" 1162) none (.ref 763) .none 0,#[]⟩
.nil .nil) .nil))))))) (.node (boot_o_6 P)
(.node (boot_o_10 P)
(.node (tu [])
(.node ⟨.none,none,fd 2 1 "LendError.__init__" 0 [] .none .none .none .none none .none .none 0,#[]⟩
(.node ⟨.none,none,fd 4 1 "MachineFault.__init__" 0 [] .none .none .none .none none .none .none 0,#[]⟩
(.node (fi [])
(.node ⟨(.type "super"),.none,(.fields #[(.ref 255),(.ref 255),(.ref 255)]),#[]⟩
(.node ⟨.none,none,fd 59 0 "is_pointer" 0 [] .none .none .none .none none .none .none 0,#[]⟩
.nil .nil) (.node (co [(.str "_law_truths_right" 1288),(.str "_law_truths_right" 1289),(.str "/claim/cut.py" 1290),(.int 577 0),(.int 2 0),(.int 0 0),(.int 0 0),(.int 3 0),(.ref 765),(.bool .true),(.int 181 0),(.ref 766),.none,(.ref 767),(.ref 768),(.ref 769),(.int 1300 0),(.int 577 0),(.str "/claim/cut.py" 1301)])
.nil .nil)) (.node ⟨.none,none,fd 36 0 "is_of_parts" 0 [] .none .none .none .none none .none .none 0,#[]⟩
(.node ⟨(.type "function"),none,fd 63 4 "Rvalues.of_two" 3 [] .none .none .none (.str "lendcore.places" 889) none (.ref 641) .none 0,#[]⟩
.nil .nil) .nil)) (.node (fi [])
(.node ⟨(.type "function"),none,fd 32 8 "Memory.room" 3 [] .none .none .none (.str "lendcore.memory" 482) none (.ref 321) .none 0,#[]⟩
(.node (co [(.str "element_of" 999),(.str "Places.element_of" 1000),(.str "/claim/cut.py" 1001),(.int 420 0),(.int 5 0),(.int 0 0),(.int 0 0),(.int 3 0),(.ref 573),(.bool .true),(.int 181 0),(.ref 574),.none,(.ref 575),(.ref 576),(.ref 577),(.int 1008 0),(.int 420 0),(.str "/claim/cut.py" 1009)])
.nil .nil) .nil) (.node (co [(.str "fits" 806),(.str "fits" 807),(.str "/claim/cut.py" 808),(.int 311 0),(.int 2 0),(.int 0 0),(.int 0 0),(.int 3 0),(.ref 445),(.bool .true),(.int 181 0),(.ref 446),.none,(.ref 447),(.ref 448),(.ref 449),(.int 811 0),(.int 311 0),(.str "/claim/cut.py" 812)])
(.node (tu [(.str "kind" 1202),(.str "number" 1203),(.str "rest" 1204)])
.nil .nil) .nil))) (.node (co [(.str "rebuilt" 296),(.str "rebuilt" 297),(.str "/claim/cut.py" 298),(.int 30 0),(.int 2 0),(.int 0 0),(.int 0 0),(.int 3 0),(.ref 93),(.bool .true),(.int 181 0),(.ref 94),.none,(.ref 95),(.ref 96),(.ref 97),(.int 302 0),(.int 30 0),(.str "/claim/cut.py" 303)])
(.node ⟨.none,none,fd 22 0 "offset_of_field" 0 [] .none .none .none .none none .none .none 0,#[]⟩
(.node (tu [(.str "self" 573),(.str "number" 574)])
(.node (fi [])
.nil .nil) .nil) (.node (tu [(.str "t" 747),(.str "variant" 748),(.str "rows" 749),(.str "world" 750),(.str "found" 751)])
(.node ⟨(.type "super"),.none,(.fields #[(.ref 671),(.ref 671),(.ref 671)]),#[]⟩
.nil .nil) .nil)) (.node (tu [(.str "uninit" 484)])
(.node (co [(.str "write_all" 645),(.str "Memory.write_all" 646),(.str "/claim/cut.py" 647),(.int 225 0),(.int 3 0),(.int 0 0),(.int 0 0),(.int 3 0),(.ref 349),(.bool .true),(.int 181 0),(.ref 350),.none,(.ref 351),(.ref 352),(.ref 353),(.int 652 0),(.int 225 0),(.str "/claim/cut.py" 653)])
(.node (di P [("__module__",1059,(.str "lendcore.places" 889)),("__qualname__",1061,(.str "Rvalues" 1060)),("__firstlineno__",1063,(.int 442 1062)),("__init__",1071,(.ref 621)),("cells",1081,(.ref 628)),("reference",1093,(.ref 635)),("of_two",1110,(.ref 642)),("of_one",1122,(.ref 649)),("variant_of",1133,(.ref 656)),("boxed",1145,(.ref 663)),("made",1151,(.ref 668)),("__static_attributes__",1154,(.ref 669))] 12)
.nil .nil) .nil) (.node (tu [(.str "kind" 852),(.str "op" 853),(.str "a" 854),(.str "b" 855),(.str "found" 856)])
(.node ⟨(.type "function"),none,fd 73 0 "_law_bits" 3 [] .none .none .none (.str "law_xm0611_01" 1162) none (.ref 737) .none 0,#[]⟩
.nil .nil) .nil)))) (.node (tu [])
(.node (di P [("__module__",277,(.str "lendcore.errors" 194)),("__firstlineno__",281,(.int 18 280)),("__static_attributes__",282,(.ref 81)),("__doc__",283,.none)] 2)
(.node (co [(.str "summed" 364),(.str "summed" 365),(.str "/claim/cut.py" 366),(.int 99 0),(.int 4 0),(.int 0 0),(.int 0 0),(.int 3 0),(.ref 141),(.bool .true),(.int 181 0),(.ref 142),.none,(.ref 143),(.ref 144),(.ref 145),(.int 375 0),(.int 99 0),(.str "/claim/cut.py" 376)])
(.node (tu [])
(.node ⟨(.type "function"),none,fd 61 0 "reckoned" 3 [] .none .none .none (.str "lendcore.places" 889) none (.ref 529) .none 0,#[]⟩
.nil .nil) .nil) (.node ⟨(.type "function"),none,fd 38 0 "want_whole" 3 [] .none .none .none (.str "lendcore.cells" 679) none (.ref 401) .none 0,#[]⟩
(.node (fi [])
.nil .nil) .nil)) (.node (co [(.str "write" 454),(.str "Stack.write" 455),(.str "/claim/cut.py" 456),(.int 140 0),(.int 2 0),(.int 0 0),(.int 0 0),(.int 3 0),(.ref 205),(.bool .true),(.int 181 0),(.ref 206),.none,(.ref 207),(.ref 208),(.ref 209),(.int 460 0),(.int 140 0),(.str "/claim/cut.py" 461)])
(.node (fi [])
(.node (tu [])
.nil .nil) .nil) (.node (tu [])
(.node ⟨.none,none,fd 71 0 "_law_reckoned" 0 [] .none .none .none .none none .none .none 0,#[]⟩
.nil .nil) .nil))) (.node ⟨.none,none,fd 11 0 "field_rows" 0 [] .none .none .none .none none .none .none 0,#[]⟩
(.node ⟨(.type "function"),none,fd 24 1 "Stack.__init__" 3 [] .none .none .none (.str "lendcore.stacks" 398) none (.ref 177) .none 0,#[]⟩
(.node ⟨.none,none,fd 32 6 "Memory.live_count" 0 [] .none .none .none .none none .none .none 0,#[]⟩
(.node (tu [])
.nil .nil) .nil) (.node (tu [])
(.node (tu [])
.nil .nil) .nil)) (.node ⟨(.type "builtin_function_or_method"),.none,(.fields #[(.builtin "type.__prepare__"),(.type "type")]),#[]⟩
(.node (tu [])
(.node ⟨.none,none,fd 63 2 "Rvalues.cells" 0 [] .none .none .none .none none .none .none 0,#[]⟩
.nil .nil) .nil) (.node ⟨.none,none,fd 54 0 "inverted" 0 [] .none .none .none .none none .none .none 0,#[]⟩
(.node (fi [])
.nil .nil) .nil))))) (.node (fi [(.int 7 0),(.int 4 0),(.ref 35)])
(.node ⟨(.type "builtin_function_or_method"),.none,(.fields #[(.builtin "object.__init_subclass__"),(.ref 39)]),#[]⟩
(.node (tu [(.ref 39)])
(.node ⟨.none,none,fd 18 0 "measured_anew" 0 [] .none .none .none .none none .none .none 0,#[]⟩
(.node ⟨(.type "frame"),.none,.plain,#[(.some (.ref 265)),(.some (.ref 3)),(.some (.ref 262)),.none,(.some (.str "lendcore.memory" 482)),.none,(.some (.ref 0))]⟩
(.node (co [(.str "of_bits" 915),(.str "of_bits" 916),(.str "/claim/cut.py" 917),(.int 373 0),(.int 3 0),(.int 0 0),(.int 0 0),(.int 3 0),(.ref 517),(.bool .true),(.int 181 0),(.ref 518),.none,(.ref 519),(.ref 520),(.ref 521),(.int 921 0),(.int 373 0),(.str "/claim/cut.py" 922)])
.nil .nil) (.node ⟨(.type "function"),none,fd 79 0 "_law_numbers_right" 3 [] .none .none .none (.str "law_xm0611_01" 1162) none (.ref 777) .none 0,#[]⟩
.nil .nil)) (.node (co [(.str "parts_of_cells" 702),(.str "parts_of_cells" 703),(.str "/claim/cut.py" 704),(.int 249 0),(.int 3 0),(.int 0 0),(.int 0 0),(.int 3 0),(.ref 389),(.bool .true),(.int 181 0),(.ref 390),.none,(.ref 391),(.ref 392),(.ref 393),(.int 713 0),(.int 249 0),(.str "/claim/cut.py" 714)])
(.node (tu [])
.nil .nil) .nil)) (.node ⟨.none,none,fd 24 5 "Stack.read" 0 [] .none .none .none .none none .none .none 0,#[]⟩
(.node (tu [])
(.node ⟨(.type "function"),none,fd 62 7 "Places.read" 3 [] .none .none .none (.str "lendcore.places" 889) none (.ref 585) .none 0,#[]⟩
.nil .nil) .nil) (.node ⟨(.type "function"),none,fd 48 0 "wrapped" 3 [] .none .none .none (.str "lendcore.integers" 755) none (.ref 457) .none 0,#[]⟩
(.node (tu [])
.nil .nil) .nil))) (.node (fi [])
(.node (co [(.str "Stack" 402),(.str "Stack" 403),(.str "/claim/cut.py" 404),(.int 115 0),(.int 0 0),(.int 0 0),(.int 0 0),(.int 0 0),(.ref 168),(.bool .false),(.int 181 0),(.ref 169),.none,.none,.none,.none,(.int 405 0),(.int 115 0),(.str "/claim/cut.py" 406)])
(.node (tu [])
(.node (tu [(.str "self" 969),(.str "frame" 970),(.str "place" 971),(.str "local" 972),(.str "steps" 973),(.str "pointer" 974),(.str "t" 975),(.str "variant" 976),(.str "step" 977)])
.nil .nil) .nil) (.node (tu [(.str "kind" 788)])
(.node ⟨(.type "function"),none,fd 65 0 "_law_pool" 3 [] .none .none .none (.str "law_xm0611_01" 1162) none (.ref 681) .none 0,#[]⟩
.nil .nil) .nil)) (.node (tu [])
(.node ⟨(.type "function"),none,fd 32 14 "Memory.retagged" 3 [] .none .none .none (.str "lendcore.memory" 482) none (.ref 361) .none 0,#[]⟩
(.node (tu [])
.nil .nil) .nil) (.node (tu [])
(.node (tu [])
.nil .nil) .nil)))) (.node (tu [])
(.node ⟨.none,none,fd 7 0 "parts_of" 0 [] .none .none .none .none none .none .none 0,#[]⟩
(.node (fi [])
(.node (fi [])
(.node (tu [])
.nil .nil) .nil) (.node (fi [])
(.node ⟨.none,none,fd 63 8 "Rvalues.made" 0 [] .none .none .none .none none .none .none 0,#[]⟩
.nil .nil) .nil)) (.node ⟨(.type "function"),none,fd 24 7 "Stack.push" 3 [] .none .none .none (.str "lendcore.stacks" 398) none (.ref 217) .none 0,#[]⟩
(.node ⟨.none,none,fd 32 12 "Memory.read_all" 0 [] .none .none .none .none none .none .none 0,#[]⟩
(.node (di P [("__module__",943,(.str "lendcore.places" 889)),("__firstlineno__",947,(.int 382 946)),("__init__",956,(.ref 544)),("home_of",965,(.ref 551)),("spot_of",980,(.ref 558)),("want_variant",989,(.ref 565)),("led",998,(.ref 572)),("element_of",1010,(.ref 579)),("read",1020,(.ref 586)),("leave",1029,(.ref 593)),("taken",1041,(.ref 600)),("__static_attributes__",1044,(.ref 601)),("__dict__",1046,(.ref 604)),("__weakref__",1048,(.ref 605)),("__doc__",1049,.none)] 4)
.nil .nil) .nil) (.node (fi [])
(.node (co [(.str "_law_shifted" 1229),(.str "_law_shifted" 1230),(.str "/claim/cut.py" 1231),(.int 546 0),(.int 4 0),(.int 0 0),(.int 0 0),(.int 3 0),(.ref 725),(.bool .true),(.int 181 0),(.ref 726),.none,(.ref 727),(.ref 728),(.ref 729),(.int 1237 0),(.int 546 0),(.str "/claim/cut.py" 1238)])
.nil .nil) .nil))) (.node (tu [])
(.node (tu [])
(.node (co [(.str "free" 593),(.str "Memory.free" 594),(.str "/claim/cut.py" 595),(.int 195 0),(.int 2 0),(.int 0 0),(.int 0 0),(.int 3 0),(.ref 309),(.bool .true),(.int 181 0),(.ref 310),.none,(.ref 311),(.ref 312),(.ref 313),(.int 598 0),(.int 195 0),(.str "/claim/cut.py" 599)])
(.node ⟨.none,none,fd 62 5 "Places.led" 0 [] .none .none .none .none none .none .none 0,#[]⟩
.nil .nil) .nil) (.node ⟨.none,none,fd 46 0 "greatest" 0 [] .none .none .none .none none .none .none 0,#[]⟩
(.node (fi [])
.nil .nil) .nil)) (.node ⟨.none,none,fd 31 1 "Allocation.__init__" 0 [] .none .none .none .none none .none .none 0,#[]⟩
(.node (fi [])
(.node (co [(.str "reference" 1082),(.str "Rvalues.reference" 1083),(.str "/claim/cut.py" 1084),(.int 464 0),(.int 4 0),(.int 0 0),(.int 0 0),(.int 3 0),(.ref 629),(.bool .true),(.int 181 0),(.ref 630),.none,(.ref 631),(.ref 632),(.ref 633),(.int 1091 0),(.int 464 0),(.str "/claim/cut.py" 1092)])
.nil .nil) .nil) (.node (co [(.str "compared" 880),(.str "compared" 881),(.str "/claim/cut.py" 882),(.int 354 0),(.int 3 0),(.int 0 0),(.int 0 0),(.int 3 0),(.ref 501),(.bool .true),(.int 181 0),(.ref 502),.none,(.ref 503),(.ref 504),(.ref 505),(.int 886 0),(.int 354 0),(.str "/claim/cut.py" 887)])
(.node ⟨.none,none,fd 77 0 "_law_same" 0 [] .none .none .none .none none .none .none 0,#[]⟩
.nil .nil) .nil)))))) (.node ⟨(.type "frame"),.none,.plain,#[(.some (.ref 13)),(.some (.ref 3)),(.some (.ref 3)),.none,(.some (.str "__main__" 164)),.none,(.some (.ref 0))]⟩
(.node (tu [(.type "Exception")])
(.node (di P [("__module__",203,(.str "lendcore.errors" 194)),("__firstlineno__",207,(.int 5 206)),("__init__",217,(.ref 36)),("__static_attributes__",220,(.ref 37)),("__weakref__",222,(.ref 40)),("__doc__",223,.none)] 3)
(.node (di P [("__module__",251,(.str "lendcore.errors" 194)),("__firstlineno__",255,(.int 13 254)),("__init__",264,(.ref 68)),("__static_attributes__",266,(.ref 69)),("__doc__",267,.none)] 2)
(.node (co [(.str "measured" 348),(.str "measured" 349),(.str "/claim/cut.py" 350),(.int 70 0),(.int 4 0),(.int 0 0),(.int 0 0),(.int 3 0),(.ref 129),(.bool .true),(.int 181 0),(.ref 130),.none,(.ref 131),(.ref 132),(.ref 133),(.int 355 0),(.int 70 0),(.str "/claim/cut.py" 356)])
(.node (di P [("__module__",543,(.str "lendcore.memory" 482)),("__qualname__",545,(.str "Memory" 544)),("__firstlineno__",547,(.int 168 546)),("__init__",554,(.ref 273)),("fresh_tag",561,(.ref 280)),("allocate",569,(.ref 287)),("base",577,(.ref 294)),("is_live",585,(.ref 301)),("live_count",592,(.ref 308)),("free",600,(.ref 315)),("room",610,(.ref 322)),("read",619,(.ref 329)),("known",628,(.ref 336)),("write",638,(.ref 343)),("read_all",644,(.ref 348)),("write_all",654,(.ref 355)),("retagged",667,(.ref 362)),("__static_attributes__",671,(.ref 363))] 18)
(.node (fi [])
.nil .nil) (.node (tu [(.str "source" 1306),(.str "rvalues" 1307),(.str "kinds" 1308),(.str "kind" 1309),(.str "wide" 1310),(.str "a" 1311),(.str "b" 1312),(.str "one" 1313),(.str "other" 1314),(.str "op" 1315),(.str "many" 1316),(.str "due" 1317),(.str "told" 1318),(.str "full" 1319)])
.nil .nil)) (.node (fi [])
(.node (tu [])
.nil .nil) .nil)) (.node (co [(.str "kind" 440),(.str "Stack.kind" 441),(.str "/claim/cut.py" 442),(.int 132 0),(.int 2 0),(.int 0 0),(.int 0 0),(.int 3 0),(.ref 193),(.bool .true),(.int 181 0),(.ref 194),.none,(.ref 195),(.ref 196),(.ref 197),(.int 445 0),(.int 132 0),(.str "/claim/cut.py" 446)])
(.node (tu [])
(.node (tu [(.str "self" 1014),(.str "pointer" 1015),(.str "t" 1016),(.str "cells" 1017)])
.nil .nil) .nil) (.node (tu [(.str "kind" 817),(.str "number" 818),(.str "low" 819)])
(.node ⟨(.type "function"),none,fd 69 0 "_law_led" 3 [] .none .none .none (.str "law_xm0611_01" 1162) none (.ref 709) .none 0,#[]⟩
.nil .nil) .nil))) (.node ⟨.none,none,fd 9 0 "substituted" 0 [] .none .none .none .none none .none .none 0,#[]⟩
(.node ⟨(.type "builtin_function_or_method"),.none,(.fields #[(.builtin "type.__prepare__"),(.type "type")]),#[]⟩
(.node ⟨(.type "function"),none,fd 32 4 "Memory.base" 3 [] .none .none .none (.str "lendcore.memory" 482) none (.ref 293) .none 0,#[]⟩
(.node (co [(.str "home_of" 957),(.str "Places.home_of" 958),(.str "/claim/cut.py" 959),(.int 388 0),(.int 3 0),(.int 0 0),(.int 0 0),(.int 3 0),(.ref 545),(.bool .true),(.int 181 0),(.ref 546),.none,(.ref 547),(.ref 548),(.ref 549),(.int 963 0),(.int 388 0),(.str "/claim/cut.py" 964)])
.nil .nil) .nil) (.node ⟨(.type "function"),none,fd 41 0 "filled" 3 [] .none .none .none (.str "lendcore.cells" 679) none (.ref 421) .none 0,#[]⟩
(.node (tu [(.str "script" 1167),(.str "k" 1168),(.str "cell" 1169),(.str "big" 1170),(.str "mixed" 1171)])
.nil .nil) .nil)) (.node (tu [])
(.node (tu [(.str "self" 658),(.str "place" 659),(.str "size" 660),(.str "kind" 661),(.str "found" 662),(.str "at" 663),(.str "tag" 664)])
(.node ⟨(.type "frame"),.none,.plain,#[(.some (.ref 613)),(.some (.ref 3)),(.some (.ref 610)),.none,(.some (.str "lendcore.places" 889)),.none,(.some (.ref 0))]⟩
.nil .nil) .nil) (.node ⟨(.type "function"),none,fd 52 0 "checked" 3 [] .none .none .none (.str "lendcore.integers" 755) none (.ref 485) .none 0,#[]⟩
(.node (tu [])
.nil .nil) .nil)))) (.node ⟨(.type "builtin_function_or_method"),.none,(.fields #[(.builtin "object.__init_subclass__"),(.ref 52)]),#[]⟩
(.node (tu [])
(.node ⟨.none,none,fd 20 0 "part_types" 0 [] .none .none .none .none none .none .none 0,#[]⟩
(.node ⟨.none,none,fd 32 2 "Memory.fresh_tag" 0 [] .none .none .none .none none .none .none 0,#[]⟩
(.node (tu [])
.nil .nil) .nil) (.node ⟨.none,none,fd 39 0 "cells_of" 0 [] .none .none .none .none none .none .none 0,#[]⟩
(.node (co [(.str "boxed" 1134),(.str "Rvalues.boxed" 1135),(.str "/claim/cut.py" 1136),(.int 495 0),(.int 3 0),(.int 0 0),(.int 0 0),(.int 3 0),(.ref 657),(.bool .true),(.int 181 0),(.ref 658),.none,(.ref 659),(.ref 660),(.ref 661),(.int 1143 0),(.int 495 0),(.str "/claim/cut.py" 1144)])
.nil .nil) .nil)) (.node (tu [(.str "self" 466),(.str "parent" 467),(.str "tag" 468),(.str "kind" 469)])
(.node (co [(.str "write" 629),(.str "Memory.write" 630),(.str "/claim/cut.py" 631),(.int 217 0),(.int 3 0),(.int 0 0),(.int 0 0),(.int 3 0),(.ref 337),(.bool .true),(.int 181 0),(.ref 338),.none,(.ref 339),(.ref 340),(.ref 341),(.int 636 0),(.int 217 0),(.str "/claim/cut.py" 637)])
(.node ⟨.none,none,fd 62 9 "Places.taken" 0 [] .none .none .none .none none .none .none 0,#[]⟩
.nil .nil) .nil) (.node ⟨.none,none,fd 50 0 "cut_quotient" 0 [] .none .none .none .none none .none .none 0,#[]⟩
(.node (fi [])
.nil .nil) .nil))) (.node (fi [])
(.node (tu [])
(.node (fi [])
(.node (tu [])
.nil .nil) .nil) (.node (tu [])
(.node ⟨.none,none,fd 67 0 "_law_one" 0 [] .none .none .none .none none .none .none 0,#[]⟩
.nil .nil) .nil)) (.node (co [(.str "Allocation" 509),(.str "Allocation" 510),(.str "/claim/cut.py" 511),(.int 162 0),(.int 0 0),(.int 0 0),(.int 0 0),(.int 0 0),(.ref 244),(.bool .false),(.int 181 0),(.ref 245),.none,.none,.none,.none,(.int 512 0),(.int 162 0),(.str "/claim/cut.py" 513)])
(.node ⟨.none,none,fd 34 0 "is_enum" 0 [] .none .none .none .none none .none .none 0,#[]⟩
(.node (fi [])
.nil .nil) .nil) (.node (fi [])
(.node (tu [])
.nil .nil) .nil))))) (.node (tu [])
(.node (tu [])
(.node (fi [])
(.node (fi [])
(.node (tu [])
(.node (tu [(.str "t" 927),(.str "op" 928),(.str "a" 929),(.str "b" 930),(.str "value" 931),(.str "is_over" 932)])
.nil .nil) (.node (tu [])
.nil .nil)) (.node (tu [(.str "t" 719),(.str "cells" 720),(.str "world" 721),(.str "variant" 722),(.str "rows" 723),(.str "types_now" 724),(.str "k" 725)])
(.node ⟨.none,none,fd 63 6 "Rvalues.variant_of" 0 [] .none .none .none .none none .none .none 0,#[]⟩
.nil .nil) .nil)) (.node (fi [])
(.node ⟨.none,none,fd 32 10 "Memory.known" 0 [] .none .none .none .none none .none .none 0,#[]⟩
(.node (tu [])
.nil .nil) .nil) (.node (tu [])
(.node (tu [])
.nil .nil) .nil))) (.node (tu [])
(.node (tu [(.str "self" 415),(.str "tag" 416)])
(.node (tu [])
(.node ⟨(.type "function"),none,fd 62 3 "Places.spot_of" 3 [] .none .none .none (.str "lendcore.places" 889) none (.ref 557) .none 0,#[]⟩
.nil .nil) .nil) (.node ⟨(.type "function"),none,fd 44 0 "is_signed" 3 [] .none .none .none (.str "lendcore.integers" 755) none (.ref 429) .none 0,#[]⟩
(.node (tu [])
.nil .nil) .nil)) (.node ⟨.none,none,fd 30 0 "moved" 0 [] .none .none .none .none none .none .none 0,#[]⟩
(.node ⟨(.type "getset_descriptor"),.none,(.fields #[(.str "__dict__" 672),(.ref 365),(.builtin "function.__dict__"),(.builtin "function.__dict__#set")]),#[]⟩
(.node (tu [])
.nil .nil) .nil) (.node (tu [])
(.node ⟨.none,none,fd 75 0 "_law_told" 0 [] .none .none .none .none none .none .none 0,#[]⟩
.nil .nil) .nil)))) (.node (tu [])
(.node (fi [])
(.node (co [(.str "first_place" 384),(.str "first_place" 385),(.str "/claim/cut.py" 386),(.int 109 0),(.int 2 0),(.int 0 0),(.int 0 0),(.int 3 0),(.ref 153),(.bool .true),(.int 181 0),(.ref 154),.none,(.ref 155),(.ref 156),(.ref 157),(.int 389 0),(.int 109 0),(.str "/claim/cut.py" 390)])
(.node (co [(.str "allocate" 562),(.str "Memory.allocate" 563),(.str "/claim/cut.py" 564),(.int 179 0),(.int 2 0),(.int 0 0),(.int 0 0),(.int 3 0),(.ref 281),(.bool .true),(.int 181 0),(.ref 282),.none,(.ref 283),(.ref 284),(.ref 285),(.int 567 0),(.int 179 0),(.str "/claim/cut.py" 568)])
(.node ⟨.none,none,fd 62 1 "Places.__init__" 0 [] .none .none .none .none none .none .none 0,#[]⟩
.nil .nil) .nil) (.node (co [(.str "joined" 735),(.str "joined" 736),(.str "/claim/cut.py" 737),(.int 293 0),(.int 1 0),(.int 0 0),(.int 0 0),(.int 3 0),(.ref 409),(.bool .true),(.int 181 0),(.ref 410),.none,(.ref 411),(.ref 412),(.ref 413),(.int 741 0),(.int 293 0),(.str "/claim/cut.py" 742)])
(.node (di P [("__module__",1059,(.str "lendcore.places" 889)),("__firstlineno__",1063,(.int 442 1062)),("__init__",1071,(.ref 621)),("cells",1081,(.ref 628)),("reference",1093,(.ref 635)),("of_two",1110,(.ref 642)),("of_one",1122,(.ref 649)),("variant_of",1133,(.ref 656)),("boxed",1145,(.ref 663)),("made",1151,(.ref 668)),("__static_attributes__",1154,(.ref 669)),("__dict__",1156,(.ref 672)),("__weakref__",1158,(.ref 673)),("__doc__",1159,.none)] 4)
.nil .nil) .nil)) (.node ⟨(.type "getset_descriptor"),.none,(.fields #[(.str "__dict__" 475),(.ref 221),(.builtin "function.__dict__"),(.builtin "function.__dict__#set")]),#[]⟩
(.node (fi [])
(.node ⟨(.type "super"),.none,(.fields #[(.ref 603),(.ref 603),(.ref 603)]),#[]⟩
.nil .nil) .nil) (.node (co [(.str "exact" 840),(.str "exact" 841),(.str "/claim/cut.py" 842),(.int 321 0),(.int 3 0),(.int 0 0),(.int 0 0),(.int 3 0),(.ref 473),(.bool .true),(.int 181 0),(.ref 474),.none,(.ref 475),(.ref 476),(.ref 477),(.int 846 0),(.int 321 0),(.str "/claim/cut.py" 847)])
(.node (tu [(.str "kind" 1243),(.str "op" 1244),(.str "a" 1245),(.str "b" 1246),(.str "found" 1247),(.str "at" 1248),(.str "ones" 1249)])
.nil .nil) .nil))) (.node ⟨.none,none,fd 16 0 "size_of" 0 [] .none .none .none .none none .none .none 0,#[]⟩
(.node ⟨.none,none,fd 24 3 "Stack.may" 0 [] .none .none .none .none none .none .none 0,#[]⟩
(.node (tu [(.str "self" 604),(.str "place" 605),(.str "size" 606),(.str "found" 607)])
(.node (fi [])
.nil .nil) .nil) (.node (fi [])
(.node (co [(.str "_law_wide" 1192),(.str "_law_wide" 1193),(.str "/claim/cut.py" 1194),(.int 524 0),(.int 1 0),(.int 0 0),(.int 0 0),(.int 3 0),(.ref 697),(.bool .true),(.int 181 0),(.ref 698),.none,(.ref 699),(.ref 700),(.ref 701),(.int 1196 0),(.int 524 0),(.str "/claim/cut.py" 1197)])
.nil .nil) .nil)) (.node (di P [("__module__",514,(.str "lendcore.memory" 482)),("__firstlineno__",518,(.int 162 517)),("__init__",524,(.ref 252)),("__static_attributes__",528,(.ref 253)),("__dict__",530,(.ref 256)),("__weakref__",532,(.ref 257)),("__doc__",533,.none)] 4)
(.node (tu [])
(.node (tu [(.str "self" 1097),(.str "frame" 1098),(.str "rvalue" 1099),(.str "op" 1100),(.str "first" 1101),(.str "t" 1102),(.str "second" 1103),(.str "a" 1104),(.str "b" 1105),(.str "value" 1106),(.str "is_over" 1107)])
.nil .nil) .nil) (.node (tu [])
(.node (fi [])
.nil .nil) .nil)))))))))
noncomputable def T0 : Params → BT := fun P => (BT.set (BT.set (BT.set (cutT 15 (fin P) 1 0) 2 fun _ => ⟨.none,none,.dict (en P []).toArray 0,#[]⟩) 3 fun _ => (di P [("__name__",165,(.str "__main__" 164)),("__doc__",166,.none),("__package__",167,.none),("__loader__",168,(.builtin "__main__.__loader__#opaque")),("__spec__",169,.none),("__annotations__",170,(.ref 6)),("__builtins__",171,(.ref 4)),("__file__",173,(.str "/claim/cut.py" 172)),("__cached__",174,.none)] 9)) 12 (cutF 0))
noncomputable def Ha : Params → Heap := fun P => absHeap (BT.set (BT.set (BT.set (cutT 15 (fin P) 1 0) 2 fun _ => ⟨.none,none,.dict (en P []).toArray 0,#[]⟩) 3 fun _ => (di P [("__name__",165,(.str "__main__" 164)),("__doc__",166,.none),("__package__",167,.none),("__loader__",168,(.builtin "__main__.__loader__#opaque")),("__spec__",169,.none),("__annotations__",170,(.ref 6)),("__builtins__",171,(.ref 4)),("__file__",173,(.str "/claim/cut.py" 172)),("__cached__",174,.none)] 9)) 12 (cutF 0)) 15 {}
noncomputable def T1 : Params → BT := fun P => (BT.set (BT.set (cutT 93 (fin P) 1 0) 3 (cutD 15 15 (.str "lendcore.types" 286))) 12 (cutF 18))
abbrev S1 (w : World) : Prop := (fun os => SEG PW w 11 (some (.ref 6)) 1 (nat_lit 982) (⟨T0 w.params, nat_lit 15, {}, ⟨[]⟩, {}, nat_lit 187, os⟩ : SharedT) (piecesOf (sl 0 8) env (Code.body (behindTheImports PW) env) ⟨0,0,0,0⟩ [topFrame ⟨0,0,0,0⟩])) = fun os => some (.next, (⟨T1 w.params, nat_lit 93, {}, ⟨[]⟩, {}, nat_lit 296, os⟩ : SharedT), (Code.body (behindTheImports PW) env), ⟨21,0,29,43⟩)
theorem s1 : ∀ w, S1 w := fun w => by kernel_rfl
noncomputable def T2 : Params → BT := fun P => (BT.set (BT.set (cutT 241 (fin P) 1 0) 3 (cutD 35 35 (.str "lendcore.memory" 482))) 12 (cutF 63))
abbrev S2 (w : World) : Prop := (fun os => SEG PW w 11 (some (.ref 6)) 1 (nat_lit 905) (⟨T1 w.params, nat_lit 93, {}, ⟨[]⟩, {}, nat_lit 296, os⟩ : SharedT) (piecesOf (sl 8 31) env (Code.body (behindTheImports PW) env) ⟨21,0,29,43⟩ [topFrame ⟨0,0,0,0⟩])) = fun os => some (.next, (⟨T2 w.params, nat_lit 241, {}, ⟨[]⟩, {}, nat_lit 507, os⟩ : SharedT), (Code.body (behindTheImports PW) env), ⟨160,0,161,59⟩)
theorem s2 : ∀ w, S2 w := fun w => by kernel_rfl
noncomputable def T3 : Params → BT := fun P => (BT.set (BT.set (cutT 396 (fin P) 1 0) 3 (cutD 41 41 (.str "lendcore.cells" 679))) 12 (cutF 81))
abbrev S3 (w : World) : Prop := (fun os => SEG PW w 11 (some (.ref 6)) 1 (nat_lit 997) (⟨T2 w.params, nat_lit 241, {}, ⟨[]⟩, {}, nat_lit 507, os⟩ : SharedT) (piecesOf (sl 31 38) env (Code.body (behindTheImports PW) env) ⟨160,0,161,59⟩ [topFrame ⟨0,0,0,0⟩])) = fun os => some (.next, (⟨T3 w.params, nat_lit 396, {}, ⟨[]⟩, {}, nat_lit 716, os⟩ : SharedT), (Code.body (behindTheImports PW) env), ⟨249,0,258,27⟩)
theorem s3 : ∀ w, S3 w := fun w => by kernel_rfl
noncomputable def T4 : Params → BT := fun P => (BT.set (BT.set (cutT 423 (fin P) 1 0) 3 (cutD 45 45 (.str "lendcore.integers" 755))) 12 (cutF 93))
abbrev S4 (w : World) : Prop := (fun os => SEG PW w 11 (some (.ref 6)) 1 (nat_lit 136) (⟨T3 w.params, nat_lit 396, {}, ⟨[]⟩, {}, nat_lit 716, os⟩ : SharedT) (piecesOf (sl 38 43) env (Code.body (behindTheImports PW) env) ⟨249,0,258,27⟩ [topFrame ⟨0,0,0,0⟩])) = fun os => some (.next, (⟨T4 w.params, nat_lit 423, {}, ⟨[]⟩, {}, nat_lit 757, os⟩ : SharedT), (Code.body (behindTheImports PW) env), ⟨303,0,303,8⟩)
theorem s4 : ∀ w, S4 w := fun w => by kernel_rfl
noncomputable def T5 : Params → BT := fun P => (BT.set (BT.set (cutT 424 (fin P) 1 0) 3 (cutD 46 46 (.str "lendcore.integers" 755))) 12 (cutF 93))
abbrev S5 (w : World) : Prop := (fun os => SEG PW w 11 (some (.ref 6)) 1 (nat_lit 146) (⟨T4 w.params, nat_lit 423, {}, ⟨[]⟩, {}, nat_lit 757, os⟩ : SharedT) (piecesOf (sl 43 44) env (Code.body (behindTheImports PW) env) ⟨303,0,303,8⟩ [topFrame ⟨0,0,0,0⟩])) = fun os => some (.next, (⟨T5 w.params, nat_lit 424, {}, ⟨[]⟩, {}, nat_lit 785, os⟩ : SharedT), (Code.body (behindTheImports PW) env), ⟨304,0,304,4⟩)
theorem s5false : ∀ w : World, S5 (w.withFollow "special-get-raises" false) := fun w => by kernel_rfl
theorem s5true : ∀ w : World, S5 (w.withFollow "special-get-raises" true) := fun w => by kernel_rfl
theorem s5 : ∀ w, S5 w := byRow2 "special-get-raises" s5false s5true
noncomputable def T6 : Params → BT := fun P => (BT.set (BT.set (cutT 508 (fin P) 1 0) 3 (cutD 58 58 (.str "lendcore.places" 889))) 12 (cutF 129))
abbrev S6 (w : World) : Prop := (fun os => SEG PW w 11 (some (.ref 6)) 1 (nat_lit 378) (⟨T5 w.params, nat_lit 424, {}, ⟨[]⟩, {}, nat_lit 785, os⟩ : SharedT) (piecesOf (sl 44 57) env (Code.body (behindTheImports PW) env) ⟨304,0,304,4⟩ [topFrame ⟨0,0,0,0⟩])) = fun os => some (.next, (⟨T6 w.params, nat_lit 508, {}, ⟨[]⟩, {}, nat_lit 891, os⟩ : SharedT), (Code.body (behindTheImports PW) env), ⟨368,0,368,8⟩)
theorem s6 : ∀ w, S6 w := fun w => by kernel_rfl
noncomputable def T7 : Params → BT := fun P => (BT.set (BT.set (cutT 509 (fin P) 1 0) 3 (cutD 59 59 (.str "lendcore.places" 889))) 12 (cutF 129))
abbrev S7 (w : World) : Prop := (fun os => SEG PW w 11 (some (.ref 6)) 1 (nat_lit 56) (⟨T6 w.params, nat_lit 508, {}, ⟨[]⟩, {}, nat_lit 891, os⟩ : SharedT) (piecesOf (sl 57 58) env (Code.body (behindTheImports PW) env) ⟨368,0,368,8⟩ [topFrame ⟨0,0,0,0⟩])) = fun os => some (.next, (⟨T7 w.params, nat_lit 509, {}, ⟨[]⟩, {}, nat_lit 901, os⟩ : SharedT), (Code.body (behindTheImports PW) env), ⟨369,0,369,9⟩)
theorem s7false : ∀ w : World, S7 (w.withFollow "special-get-raises" false) := fun w => by kernel_rfl
theorem s7true : ∀ w : World, S7 (w.withFollow "special-get-raises" true) := fun w => by kernel_rfl
theorem s7 : ∀ w, S7 w := byRow2 "special-get-raises" s7false s7true
noncomputable def T8 : Params → BT := fun P => (BT.set (BT.set (cutT 608 (fin P) 1 0) 3 (cutD 64 64 (.str "lendcore.places" 889))) 12 (cutF 141))
abbrev S8 (w : World) : Prop := (fun os => SEG PW w 11 (some (.ref 6)) 1 (nat_lit 612) (⟨T7 w.params, nat_lit 509, {}, ⟨[]⟩, {}, nat_lit 901, os⟩ : SharedT) (piecesOf (sl 58 63) env (Code.body (behindTheImports PW) env) ⟨369,0,369,9⟩ [topFrame ⟨0,0,0,0⟩])) = fun os => some (.next, (⟨T8 w.params, nat_lit 608, {}, ⟨[]⟩, {}, nat_lit 1052, os⟩ : SharedT), (Code.body (behindTheImports PW) env), ⟨382,0,441,25⟩)
theorem s8 : ∀ w, S8 w := fun w => by kernel_rfl
noncomputable def T9 : Params → BT := fun P => (cutT 786 (fin P) 1 0)
abbrev S9 (w : World) : Prop := (fun os => SEG PW w 11 (some (.ref 6)) 1 (nat_lit 999) (⟨T8 w.params, nat_lit 608, {}, ⟨[]⟩, {}, nat_lit 1052, os⟩ : SharedT) (piecesOf (sl 63 81) env (Code.body (behindTheImports PW) env) ⟨382,0,441,25⟩ [topFrame ⟨0,0,0,0⟩])) = fun os => some (.next, (⟨T9 w.params, nat_lit 786, {}, ⟨[]⟩, {}, nat_lit 1334, os⟩ : SharedT), (Code.body (behindTheImports PW) env), ⟨613,0,623,15⟩)
theorem s9 : ∀ w, S9 w := fun w => by kernel_rfl
theorem up {p : Program} {w : World} {n₀ : Nat} {ann : Option Value} {b n : Nat} {s s' : SharedT} {t : Thread} {f : Flow} {c : Code} {q : Pos} (h : SEG p w n₀ ann b n s t = some (f, s', c, q)) : segRun treeTable p w n₀ ann b n s.abs t = some (f, s'.abs, c, q) := by
  refine segRun_of ?_
  rw [PySem.W.Fast.te10110043849684766642, PySem.W.Fast.te14364793385576792824]
  exact h
theorem pre (w : World) : (fun os => TOPGO PW w 11 (some (.ref 6)) (nat_lit 12) (⟨boot_heap w.params, ⟨[]⟩, boot_drawn, boot_toks, os⟩ : Shared) (topStub PW)) = fun os => some ((⟨Ha w.params, ⟨[]⟩, {}, nat_lit 187, os⟩ : Shared), ⟨PySem.W.Fast.tw11892475500146522536 PySem.W.Fast.tw14364793385576792824 (Code.body (behindTheImports PW) env), Code.body (behindTheImports PW) env, p0, [topFrame p0]⟩) := by kernel_rfl
theorem blk (w : World) : (fun os => SEGA PW w 11 (some (.ref 6)) 1 (nat_lit 1) (⟨Ha w.params, ⟨[]⟩, {}, nat_lit 187, os⟩ : Shared) (blockOf (behindTheImports PW) env (Code.body (behindTheImports PW) env) p0 [topFrame p0])) = fun os => some (.next, SharedT.abs ⟨T0 w.params, nat_lit 15, {}, ⟨[]⟩, {}, nat_lit 187, os⟩, Code.body (behindTheImports PW) env, p0) := by kernel_rfl
theorem body_eq : behindTheImports PW = sl 0 8 ++ (sl 8 31 ++ (sl 31 38 ++ (sl 38 43 ++ (sl 43 44 ++ (sl 44 57 ++ (sl 57 58 ++ (sl 58 63 ++ (sl 63 81 ++ [])))))))) := by kernel_rfl
theorem fin_run {n₀ : Nat} {ann : Option Value} {w : World} {s : Shared} {c : Code} {q p' : Pos} : topRun treeTable PW w n₀ ann 2 s (restOf [] env c p' [topFrame q]) = some s := by cases s; rfl
theorem run (w : World) (os : OsState) : topRun treeTable PW w 11 (some (.ref 6)) (nat_lit 12 + (nat_lit 1 + (nat_lit 982 + (nat_lit 905 + (nat_lit 997 + (nat_lit 136 + (nat_lit 146 + (nat_lit 378 + (nat_lit 56 + (nat_lit 612 + (nat_lit 999 + 2))))))))))) ⟨boot_heap w.params, ⟨[]⟩, boot_drawn, boot_toks, os⟩ (topStub PW) = some ⟨absHeap (T9 w.params) (nat_lit 786) {}, ⟨[]⟩, {}, nat_lit 1334, os⟩ := by
  have h1 := congrFun (pre w) os
  have h2 := congrFun (blk w) os
  unfold TOPGO at h1; unfold SEGA at h2
  rw [← PySem.W.Fast.te15667345088766844465, ← PySem.W.Fast.te11892475500146522536, ← PySem.W.Fast.te14364793385576792824] at h1
  rw [← PySem.W.Fast.te14374325043358763698, ← PySem.W.Fast.te14364793385576792824] at h2
  refine go_top h1 (piece_block h2 ?_)
  rw [show restOf (behindTheImports PW) env (Code.body (behindTheImports PW) env) p0 [topFrame p0] = _ from congrArg (fun l => restOf l env (Code.body (behindTheImports PW) env) p0 [topFrame p0]) body_eq]
  exact (piece_app (up (congrFun (s1 w) os)) (piece_app (up (congrFun (s2 w) os)) (piece_app (up (congrFun (s3 w) os)) (piece_app (up (congrFun (s4 w) os)) (piece_app (up (congrFun (s5 w) os)) (piece_app (up (congrFun (s6 w) os)) (piece_app (up (congrFun (s7 w) os)) (piece_app (up (congrFun (s8 w) os)) (piece_app (up (congrFun (s9 w) os)) fin_run)))))))))
noncomputable def q1 : Program := view PW [nat_lit 80]
noncomputable abbrev lo : List Str := ("_wall"::"LendError"::"TypeFault"::"MachineFault"::"FuelFault"::"parts_of"::"rebuilt"::"substituted"::"with_regions"::"field_rows"::"fields_of"::"MOST_DEEP"::"MOST_PARTS"::"size_of"::"measured"::"measured_anew"::"summed"::"part_types"::"first_place"::"offset_of_field"::"Stack"::"UNINIT"::"OWNER"::"MOST_CELLS"::"pointer"::"moved"::"Allocation"::"Memory"::"is_enum"::"parts_told"::"is_of_parts"::"parts_of_cells"::"want_whole"::"cells_of"::"joined"::"filled"::"BITS"::"is_signed"::"least"::"greatest"::"fits"::"wrapped"::"cast_int"::"cut_quotient"::"exact"::"checked"::"shifted"::"inverted"::"compared"::"TAG_KINDS"::"COMPARISONS"::"is_pointer"::"of_bits"::"reckoned"::"Places"::"Rvalues"::"_law_pool"::"_law_take"::"_law_one"::"_law_wide"::"_law_led"::"_law_number"::"_law_reckoned"::"_law_shifted"::"_law_bits"::"_law_compared"::"_law_told"::"_law_pair_right"::"_law_same"::"_law_truths_right"::"_law_numbers_right"::[])
noncomputable def heap_39 : Params → Frag := fun P => (((nat_lit 2),⟨.none,.none,(.dict #[⟨(PySem.PyData.keyHash P "type.__subclasses__.Exception.0"),(.str "type.__subclasses__.Exception.0" 224),(.int 39 0)⟩,⟨(PySem.PyData.keyHash P "type.__subclasses__.Exception.n"),(.str "type.__subclasses__.Exception.n" 225),(.int 1 0)⟩] 2),#[]⟩)::
((nat_lit 3),⟨(.type "dict"),.none,(.dict (List.toArray (⟨(PySem.PyData.keyHash P "__name__"),(.str "__name__" 165),(.str "law_xm0611_01" 1162)⟩::⟨(PySem.PyData.keyHash P "__doc__"),(.str "__doc__" 166),.none⟩::⟨(PySem.PyData.keyHash P "__package__"),(.str "__package__" 167),.none⟩::⟨(PySem.PyData.keyHash P "__loader__"),(.str "__loader__" 168),(.builtin "__main__.__loader__#opaque")⟩::⟨(PySem.PyData.keyHash P "__spec__"),(.str "__spec__" 169),.none⟩::⟨(PySem.PyData.keyHash P "__annotations__"),(.str "__annotations__" 170),(.ref 6)⟩::⟨(PySem.PyData.keyHash P "__builtins__"),(.str "__builtins__" 171),(.ref 4)⟩::⟨(PySem.PyData.keyHash P "__file__"),(.str "__file__" 173),(.str "/claim/cut.py" 172)⟩::⟨(PySem.PyData.keyHash P "__cached__"),(.str "__cached__" 174),.none⟩::⟨(PySem.PyData.keyHash P "_wall"),(.str "_wall" 193),(.ref 21)⟩::⟨(PySem.PyData.keyHash P "LendError"),(.str "LendError" 227),(.ref 39)⟩::⟨(PySem.PyData.keyHash P "TypeFault"),(.str "TypeFault" 243),(.ref 52)⟩::⟨(PySem.PyData.keyHash P "MachineFault"),(.str "MachineFault" 269),(.ref 71)⟩::⟨(PySem.PyData.keyHash P "FuelFault"),(.str "FuelFault" 285),(.ref 83)⟩::⟨(PySem.PyData.keyHash P "parts_of"),(.str "parts_of" 295),(.ref 92)⟩::⟨(PySem.PyData.keyHash P "rebuilt"),(.str "rebuilt" 304),(.ref 99)⟩::⟨(PySem.PyData.keyHash P "substituted"),(.str "substituted" 310),(.ref 104)⟩::⟨(PySem.PyData.keyHash P "with_regions"),(.str "with_regions" 316),(.ref 109)⟩::⟨(PySem.PyData.keyHash P "field_rows"),(.str "field_rows" 325),(.ref 116)⟩::⟨(PySem.PyData.keyHash P "fields_of"),(.str "fields_of" 331),(.ref 121)⟩::⟨(PySem.PyData.keyHash P "MOST_DEEP"),(.str "MOST_DEEP" 335),(.int 100 334)⟩::⟨(PySem.PyData.keyHash P "MOST_PARTS"),(.str "MOST_PARTS" 339),(.int 65536 338)⟩::⟨(PySem.PyData.keyHash P "size_of"),(.str "size_of" 347),(.ref 128)⟩::⟨(PySem.PyData.keyHash P "measured"),(.str "measured" 357),(.ref 135)⟩::⟨(PySem.PyData.keyHash P "measured_anew"),(.str "measured_anew" 363),(.ref 140)⟩::⟨(PySem.PyData.keyHash P "summed"),(.str "summed" 377),(.ref 147)⟩::⟨(PySem.PyData.keyHash P "part_types"),(.str "part_types" 383),(.ref 152)⟩::⟨(PySem.PyData.keyHash P "first_place"),(.str "first_place" 391),(.ref 159)⟩::⟨(PySem.PyData.keyHash P "offset_of_field"),(.str "offset_of_field" 397),(.ref 164)⟩::⟨(PySem.PyData.keyHash P "Stack"),(.str "Stack" 481),(.ref 221)⟩::⟨(PySem.PyData.keyHash P "UNINIT"),(.str "UNINIT" 485),(.ref 226)⟩::⟨(PySem.PyData.keyHash P "OWNER"),(.str "OWNER" 487),(.int 0 486)⟩::⟨(PySem.PyData.keyHash P "MOST_CELLS"),(.str "MOST_CELLS" 489),(.int 200000 488)⟩::⟨(PySem.PyData.keyHash P "pointer"),(.str "pointer" 498),(.ref 233)⟩::⟨(PySem.PyData.keyHash P "moved"),(.str "moved" 506),(.ref 240)⟩::⟨(PySem.PyData.keyHash P "Allocation"),(.str "Allocation" 535),(.ref 255)⟩::⟨(PySem.PyData.keyHash P "Memory"),(.str "Memory" 678),(.ref 365)⟩::⟨(PySem.PyData.keyHash P "is_enum"),(.str "is_enum" 688),(.ref 376)⟩::⟨(PySem.PyData.keyHash P "parts_told"),(.str "parts_told" 694),(.ref 381)⟩::⟨(PySem.PyData.keyHash P "is_of_parts"),(.str "is_of_parts" 701),(.ref 388)⟩::⟨(PySem.PyData.keyHash P "parts_of_cells"),(.str "parts_of_cells" 715),(.ref 395)⟩::⟨(PySem.PyData.keyHash P "want_whole"),(.str "want_whole" 728),(.ref 402)⟩::⟨(PySem.PyData.keyHash P "cells_of"),(.str "cells_of" 734),(.ref 408)⟩::⟨(PySem.PyData.keyHash P "joined"),(.str "joined" 743),(.ref 415)⟩::⟨(PySem.PyData.keyHash P "filled"),(.str "filled" 754),(.ref 422)⟩::⟨(PySem.PyData.keyHash P "BITS"),(.str "BITS" 784),(.ref 423)⟩::⟨(PySem.PyData.keyHash P "is_signed"),(.str "is_signed" 791),(.ref 430)⟩::⟨(PySem.PyData.keyHash P "least"),(.str "least" 798),(.ref 437)⟩::⟨(PySem.PyData.keyHash P "greatest"),(.str "greatest" 805),(.ref 444)⟩::⟨(PySem.PyData.keyHash P "fits"),(.str "fits" 813),(.ref 451)⟩::⟨(PySem.PyData.keyHash P "wrapped"),(.str "wrapped" 822),(.ref 458)⟩::⟨(PySem.PyData.keyHash P "cast_int"),(.str "cast_int" 830),(.ref 465)⟩::⟨(PySem.PyData.keyHash P "cut_quotient"),(.str "cut_quotient" 839),(.ref 472)⟩::⟨(PySem.PyData.keyHash P "exact"),(.str "exact" 848),(.ref 479)⟩::⟨(PySem.PyData.keyHash P "checked"),(.str "checked" 859),(.ref 486)⟩::⟨(PySem.PyData.keyHash P "shifted"),(.str "shifted" 871),(.ref 493)⟩::⟨(PySem.PyData.keyHash P "inverted"),(.str "inverted" 879),(.ref 500)⟩::⟨(PySem.PyData.keyHash P "compared"),(.str "compared" 888),(.ref 507)⟩::⟨(PySem.PyData.keyHash P "TAG_KINDS"),(.str "TAG_KINDS" 900),(.ref 508)⟩::⟨(PySem.PyData.keyHash P "COMPARISONS"),(.str "COMPARISONS" 907),(.ref 509)⟩::⟨(PySem.PyData.keyHash P "is_pointer"),(.str "is_pointer" 914),(.ref 516)⟩::⟨(PySem.PyData.keyHash P "of_bits"),(.str "of_bits" 923),(.ref 523)⟩::⟨(PySem.PyData.keyHash P "reckoned"),(.str "reckoned" 935),(.ref 530)⟩::⟨(PySem.PyData.keyHash P "Places"),(.str "Places" 1051),(.ref 603)⟩::⟨(PySem.PyData.keyHash P "Rvalues"),(.str "Rvalues" 1161),(.ref 671)⟩::⟨(PySem.PyData.keyHash P "_law_pool"),(.str "_law_pool" 1174),(.ref 682)⟩::⟨(PySem.PyData.keyHash P "_law_take"),(.str "_law_take" 1183),(.ref 689)⟩::⟨(PySem.PyData.keyHash P "_law_one"),(.str "_law_one" 1191),(.ref 696)⟩::⟨(PySem.PyData.keyHash P "_law_wide"),(.str "_law_wide" 1198),(.ref 703)⟩::⟨(PySem.PyData.keyHash P "_law_led"),(.str "_law_led" 1207),(.ref 710)⟩::⟨(PySem.PyData.keyHash P "_law_number"),(.str "_law_number" 1216),(.ref 717)⟩::⟨(PySem.PyData.keyHash P "_law_reckoned"),(.str "_law_reckoned" 1228),(.ref 724)⟩::⟨(PySem.PyData.keyHash P "_law_shifted"),(.str "_law_shifted" 1239),(.ref 731)⟩::⟨(PySem.PyData.keyHash P "_law_bits"),(.str "_law_bits" 1252),(.ref 738)⟩::⟨(PySem.PyData.keyHash P "_law_compared"),(.str "_law_compared" 1262),(.ref 745)⟩::⟨(PySem.PyData.keyHash P "_law_told"),(.str "_law_told" 1270),(.ref 752)⟩::⟨(PySem.PyData.keyHash P "_law_pair_right"),(.str "_law_pair_right" 1276),(.ref 757)⟩::⟨(PySem.PyData.keyHash P "_law_same"),(.str "_law_same" 1287),(.ref 764)⟩::⟨(PySem.PyData.keyHash P "_law_truths_right"),(.str "_law_truths_right" 1302),(.ref 771)⟩::⟨(PySem.PyData.keyHash P "_law_numbers_right"),(.str "_law_numbers_right" 1322),(.ref 778)⟩::⟨(PySem.PyData.keyHash P "law"),(.str "law" 1333),(.ref 785)⟩::[])) 81),#[]⟩)::
((nat_lit 15),⟨(.type "tuple"),.none,(.seq #[] 0),#[]⟩)::
((nat_lit 17),⟨(.type "tuple"),.none,(.seq #[(.str "k" 190)] 0),#[]⟩)::
((nat_lit 18),⟨(.type "tuple"),.none,(.seq #[] 0),#[]⟩)::
((nat_lit 22),⟨(.type "tuple"),.none,(.seq #[(.type "Exception")] 0),#[]⟩)::
((nat_lit 29),⟨(.type "tuple"),.none,(.seq #[(.int 0 208)] 0),#[]⟩)::
((nat_lit 30),⟨(.type "tuple"),.none,(.seq #[] 0),#[]⟩)::
((nat_lit 32),⟨(.type "tuple"),.none,(.seq #[(.str "self" 212),(.str "message" 213),(.str "spot" 214)] 0),#[]⟩)::
((nat_lit 33),⟨(.type "tuple"),.none,(.seq #[] 0),#[]⟩)::
((nat_lit 35),⟨(.type "code"),.none,(.fields #[(.str "__init__" 209),(.str "LendError.__init__" 210),(.str "/claim/cut.py" 211),(.int 7 0),(.int 3 0),(.int 0 0),(.int 0 0),(.int 3 0),(.ref 30),(.bool .true),(.int 181 0),(.ref 31),.none,(.ref 32),(.ref 33),(.ref 34),(.int 215 0),(.int 7 0),(.str "/claim/cut.py" 216)]),#[]⟩)::
((nat_lit 36),(fun (a : Arguments) (b : List Stmt) (c : Scope) (_ : sig (pick 2 1) = some (a, b, c)) => (⟨(.type "function"),.none,(.func ⟨"__init__","LendError.__init__",a,(.stmts b),c,3,[],(.ref 29),.none,.none,(.str "lendcore.errors" 194),.none,(.ref 35),.none,0⟩),#[]⟩ : Obj)) _ _ _ rfl)::
((nat_lit 37),⟨(.type "tuple"),.none,(.seq #[(.str "message" 218),(.str "spot" 219)] 0),#[]⟩)::
((nat_lit 38),⟨(.type "dict"),.none,(.dict #[⟨(PySem.PyData.keyHash P "__module__"),(.str "__module__" 203),(.str "lendcore.errors" 194)⟩,⟨(PySem.PyData.keyHash P "__firstlineno__"),(.str "__firstlineno__" 207),(.int 5 206)⟩,⟨(PySem.PyData.keyHash P "__init__"),(.str "__init__" 217),(.ref 36)⟩,⟨(PySem.PyData.keyHash P "__static_attributes__"),(.str "__static_attributes__" 220),(.ref 37)⟩,⟨(PySem.PyData.keyHash P "__weakref__"),(.str "__weakref__" 222),(.ref 40)⟩,⟨(PySem.PyData.keyHash P "__doc__"),(.str "__doc__" 223),.none⟩] 3),#[]⟩)::
((nat_lit 39),⟨(.type "type"),.none,(.cls ⟨"LendError",[(.type "Exception")],[(.ref 39),(.type "Exception"),(.type "BaseException"),(.type "object")],38,"LendError",.true,[],[(.ref 52),(.ref 71),(.ref 83)],.false,.none,.false⟩),#[(.some (.ref 22)),.none,(.some (.str "LendError" 196)),(.some (.str "LendError" 204)),(.some (.builtin "Exception.__new__")),(.some (.bool .true))]⟩)::
((nat_lit 40),⟨(.type "getset_descriptor"),.none,(.fields #[(.str "__weakref__" 221),(.ref 39),(.builtin "ExceptionGroup.__weakref__"),.none]),#[]⟩)::
((nat_lit 43),⟨(.type "tuple"),.none,(.seq #[(.ref 39)] 0),#[]⟩)::
((nat_lit 50),⟨(.type "tuple"),.none,(.seq #[] 0),#[]⟩)::
((nat_lit 51),⟨(.type "dict"),.none,(.dict #[⟨(PySem.PyData.keyHash P "__module__"),(.str "__module__" 235),(.str "lendcore.errors" 194)⟩,⟨(PySem.PyData.keyHash P "__firstlineno__"),(.str "__firstlineno__" 239),(.int 11 238)⟩,⟨(PySem.PyData.keyHash P "__static_attributes__"),(.str "__static_attributes__" 240),(.ref 50)⟩,⟨(PySem.PyData.keyHash P "__doc__"),(.str "__doc__" 241),.none⟩] 2),#[]⟩)::
((nat_lit 52),⟨(.type "type"),.none,(.cls ⟨"TypeFault",[(.ref 39)],[(.ref 52),(.ref 39),(.type "Exception"),(.type "BaseException"),(.type "object")],51,"TypeFault",.true,[],[],.false,.none,.false⟩),#[(.some (.ref 43)),.none,(.some (.str "TypeFault" 228)),(.some (.str "TypeFault" 236)),(.some (.builtin "Exception.__new__")),(.some (.bool .true))]⟩)::
((nat_lit 55),⟨(.type "tuple"),.none,(.seq #[(.ref 39)] 0),#[]⟩)::
((nat_lit 62),⟨(.type "tuple"),.none,(.seq #[] 0),#[]⟩)::
((nat_lit 64),⟨(.type "tuple"),.none,(.seq #[(.str "self" 259),(.str "kind" 260),(.str "message" 261)] 0),#[]⟩)::
((nat_lit 65),⟨(.type "tuple"),.none,(.seq #[] 0),#[]⟩)::
((nat_lit 67),⟨(.type "code"),.none,(.fields #[(.str "__init__" 256),(.str "MachineFault.__init__" 257),(.str "/claim/cut.py" 258),(.int 15 0),(.int 3 0),(.int 0 0),(.int 0 0),(.int 3 0),(.ref 62),(.bool .true),(.int 181 0),(.ref 63),.none,(.ref 64),(.ref 65),(.ref 66),(.int 262 0),(.int 15 0),(.str "/claim/cut.py" 263)]),#[]⟩)::
((nat_lit 68),(fun (a : Arguments) (b : List Stmt) (c : Scope) (_ : sig (pick 4 1) = some (a, b, c)) => (⟨(.type "function"),.none,(.func ⟨"__init__","MachineFault.__init__",a,(.stmts b),c,3,[],.none,.none,.none,(.str "lendcore.errors" 194),.none,(.ref 67),.none,0⟩),#[]⟩ : Obj)) _ _ _ rfl)::
((nat_lit 69),⟨(.type "tuple"),.none,(.seq #[(.str "kind" 265)] 0),#[]⟩)::
((nat_lit 70),⟨(.type "dict"),.none,(.dict #[⟨(PySem.PyData.keyHash P "__module__"),(.str "__module__" 251),(.str "lendcore.errors" 194)⟩,⟨(PySem.PyData.keyHash P "__firstlineno__"),(.str "__firstlineno__" 255),(.int 13 254)⟩,⟨(PySem.PyData.keyHash P "__init__"),(.str "__init__" 264),(.ref 68)⟩,⟨(PySem.PyData.keyHash P "__static_attributes__"),(.str "__static_attributes__" 266),(.ref 69)⟩,⟨(PySem.PyData.keyHash P "__doc__"),(.str "__doc__" 267),.none⟩] 2),#[]⟩)::
((nat_lit 71),⟨(.type "type"),.none,(.cls ⟨"MachineFault",[(.ref 39)],[(.ref 71),(.ref 39),(.type "Exception"),(.type "BaseException"),(.type "object")],70,"MachineFault",.true,[],[],.false,.none,.false⟩),#[(.some (.ref 55)),.none,(.some (.str "MachineFault" 244)),(.some (.str "MachineFault" 252)),(.some (.builtin "Exception.__new__")),(.some (.bool .true))]⟩)::
((nat_lit 74),⟨(.type "tuple"),.none,(.seq #[(.ref 39)] 0),#[]⟩)::
((nat_lit 81),⟨(.type "tuple"),.none,(.seq #[] 0),#[]⟩)::
((nat_lit 82),⟨(.type "dict"),.none,(.dict #[⟨(PySem.PyData.keyHash P "__module__"),(.str "__module__" 277),(.str "lendcore.errors" 194)⟩,⟨(PySem.PyData.keyHash P "__firstlineno__"),(.str "__firstlineno__" 281),(.int 18 280)⟩,⟨(PySem.PyData.keyHash P "__static_attributes__"),(.str "__static_attributes__" 282),(.ref 81)⟩,⟨(PySem.PyData.keyHash P "__doc__"),(.str "__doc__" 283),.none⟩] 2),#[]⟩)::
((nat_lit 83),⟨(.type "type"),.none,(.cls ⟨"FuelFault",[(.ref 39)],[(.ref 83),(.ref 39),(.type "Exception"),(.type "BaseException"),(.type "object")],82,"FuelFault",.true,[],[],.false,.none,.false⟩),#[(.some (.ref 74)),.none,(.some (.str "FuelFault" 270)),(.some (.str "FuelFault" 278)),(.some (.builtin "Exception.__new__")),(.some (.bool .true))]⟩)::
((nat_lit 86),⟨(.type "tuple"),.none,(.seq #[] 0),#[]⟩)::
((nat_lit 88),⟨(.type "tuple"),.none,(.seq #[(.str "told" 291),(.str "kind" 292)] 0),#[]⟩)::
((nat_lit 89),⟨(.type "tuple"),.none,(.seq #[] 0),#[]⟩)::
((nat_lit 93),⟨(.type "tuple"),.none,(.seq #[] 0),#[]⟩)::
((nat_lit 95),⟨(.type "tuple"),.none,(.seq #[(.str "told" 299),(.str "parts" 300),(.str "kind" 301)] 0),#[]⟩)::
((nat_lit 96),⟨(.type "tuple"),.none,(.seq #[] 0),#[]⟩)::
((nat_lit 100),⟨(.type "tuple"),.none,(.seq #[] 0),#[]⟩)::
((nat_lit 105),⟨(.type "tuple"),.none,(.seq #[] 0),#[]⟩)::
((nat_lit 110),⟨(.type "tuple"),.none,(.seq #[] 0),#[]⟩)::
((nat_lit 112),⟨(.type "tuple"),.none,(.seq #[(.str "told" 320),(.str "variant" 321),(.str "world" 322)] 0),#[]⟩)::
((nat_lit 113),⟨(.type "tuple"),.none,(.seq #[] 0),#[]⟩)::
((nat_lit 117),⟨(.type "tuple"),.none,(.seq #[] 0),#[]⟩)::
((nat_lit 120),⟨(.type "code"),.none,(.fields #[(.str "fields_of" 326),(.str "fields_of" 327),(.str "/claim/cut.py" 328),(.int 53 0),(.int 3 0),(.int 0 0),(.int 0 0),(.int 3 0),(.ref 117),(.bool .true),(.int 181 0),(.ref 118),.none,.none,.none,(.ref 119),(.int 329 0),(.int 53 0),(.str "/claim/cut.py" 330)]),#[]⟩)::
((nat_lit 121),(fun (a : Arguments) (b : List Stmt) (c : Scope) (_ : sig (pick 12 0) = some (a, b, c)) => (⟨(.type "function"),.none,(.func ⟨"fields_of","fields_of",a,(.stmts b),c,3,[],.none,.none,.none,(.str "lendcore.types" 286),.none,(.ref 120),.none,0⟩),#[]⟩ : Obj)) _ _ _ rfl)::
((nat_lit 122),⟨(.type "tuple"),.none,(.seq #[] 0),#[]⟩)::
((nat_lit 124),⟨(.type "tuple"),.none,(.seq #[(.str "told" 343),(.str "world" 344)] 0),#[]⟩)::
((nat_lit 125),⟨(.type "tuple"),.none,(.seq #[] 0),#[]⟩)::
((nat_lit 129),⟨(.type "tuple"),.none,(.seq #[] 0),#[]⟩)::
((nat_lit 131),⟨(.type "tuple"),.none,(.seq #[(.str "told" 351),(.str "world" 352),(.str "deep" 353),(.str "known" 354)] 0),#[]⟩)::
((nat_lit 132),⟨(.type "tuple"),.none,(.seq #[] 0),#[]⟩)::
((nat_lit 136),⟨(.type "tuple"),.none,(.seq #[] 0),#[]⟩)::
((nat_lit 141),⟨(.type "tuple"),.none,(.seq #[] 0),#[]⟩)::
((nat_lit 143),⟨(.type "tuple"),.none,(.seq #[(.str "types" 367),(.str "world" 368),(.str "deep" 369),(.str "known" 370),(.str "cells" 371),(.str "parts" 372),(.str "told" 373),(.str "row" 374)] 0),#[]⟩)::
((nat_lit 144),⟨(.type "tuple"),.none,(.seq #[] 0),#[]⟩)::
((nat_lit 148),⟨(.type "tuple"),.none,(.seq #[] 0),#[]⟩)::
((nat_lit 153),⟨(.type "tuple"),.none,(.seq #[] 0),#[]⟩)::
((nat_lit 155),⟨(.type "tuple"),.none,(.seq #[(.str "told" 387),(.str "world" 388)] 0),#[]⟩)::
((nat_lit 156),⟨(.type "tuple"),.none,(.seq #[] 0),#[]⟩)::
((nat_lit 160),⟨(.type "tuple"),.none,(.seq #[] 0),#[]⟩)::
((nat_lit 172),⟨(.type "tuple"),.none,(.seq #[] 0),#[]⟩)::
((nat_lit 174),⟨(.type "tuple"),.none,(.seq #[(.str "self" 415),(.str "tag" 416)] 0),#[]⟩)::
((nat_lit 175),⟨(.type "tuple"),.none,(.seq #[] 0),#[]⟩)::
((nat_lit 179),⟨(.type "tuple"),.none,(.seq #[] 0),#[]⟩)::
((nat_lit 181),⟨(.type "tuple"),.none,(.seq #[(.str "self" 423),(.str "tag" 424),(.str "at" 425)] 0),#[]⟩)::
((nat_lit 182),⟨(.type "tuple"),.none,(.seq #[] 0),#[]⟩)::
((nat_lit 186),⟨(.type "tuple"),.none,(.seq #[] 0),#[]⟩)::
((nat_lit 188),⟨(.type "tuple"),.none,(.seq #[(.str "self" 432),(.str "tag" 433),(.str "is_write" 434),(.str "other" 435),(.str "kind" 436)] 0),#[]⟩)::
((nat_lit 189),⟨(.type "tuple"),.none,(.seq #[] 0),#[]⟩)::
((nat_lit 193),⟨(.type "tuple"),.none,(.seq #[] 0),#[]⟩)::
((nat_lit 195),⟨(.type "tuple"),.none,(.seq #[(.str "self" 443),(.str "tag" 444)] 0),#[]⟩)::
((nat_lit 196),⟨(.type "tuple"),.none,(.seq #[] 0),#[]⟩)::
((nat_lit 200),⟨(.type "tuple"),.none,(.seq #[] 0),#[]⟩)::
((nat_lit 205),⟨(.type "tuple"),.none,(.seq #[] 0),#[]⟩)::
((nat_lit 207),⟨(.type "tuple"),.none,(.seq #[(.str "self" 457),(.str "tag" 458),(.str "at" 459)] 0),#[]⟩)::
((nat_lit 208),⟨(.type "tuple"),.none,(.seq #[] 0),#[]⟩)::
((nat_lit 212),⟨(.type "tuple"),.none,(.seq #[] 0),#[]⟩)::
((nat_lit 214),⟨(.type "tuple"),.none,(.seq #[(.str "self" 466),(.str "parent" 467),(.str "tag" 468),(.str "kind" 469)] 0),#[]⟩)::
((nat_lit 215),⟨(.type "tuple"),.none,(.seq #[] 0),#[]⟩)::
((nat_lit 219),⟨(.type "tuple"),.none,(.seq #[(.str "items" 473)] 0),#[]⟩)::
((nat_lit 220),⟨(.type "dict"),.none,(.dict #[⟨(PySem.PyData.keyHash P "__module__"),(.str "__module__" 407),(.str "lendcore.stacks" 398)⟩,⟨(PySem.PyData.keyHash P "__firstlineno__"),(.str "__firstlineno__" 411),(.int 115 410)⟩,⟨(PySem.PyData.keyHash P "__init__"),(.str "__init__" 419),(.ref 178)⟩,⟨(PySem.PyData.keyHash P "place"),(.str "place" 428),(.ref 185)⟩,⟨(PySem.PyData.keyHash P "may"),(.str "may" 439),(.ref 192)⟩,⟨(PySem.PyData.keyHash P "kind"),(.str "kind" 447),(.ref 199)⟩,⟨(PySem.PyData.keyHash P "read"),(.str "read" 453),(.ref 204)⟩,⟨(PySem.PyData.keyHash P "write"),(.str "write" 462),(.ref 211)⟩,⟨(PySem.PyData.keyHash P "push"),(.str "push" 472),(.ref 218)⟩,⟨(PySem.PyData.keyHash P "__static_attributes__"),(.str "__static_attributes__" 474),(.ref 219)⟩,⟨(PySem.PyData.keyHash P "__dict__"),(.str "__dict__" 476),(.ref 222)⟩,⟨(PySem.PyData.keyHash P "__weakref__"),(.str "__weakref__" 478),(.ref 223)⟩,⟨(PySem.PyData.keyHash P "__doc__"),(.str "__doc__" 479),.none⟩] 4),#[]⟩)::
((nat_lit 221),⟨(.type "type"),.none,(.cls ⟨"Stack",[(.type "object")],[(.ref 221),(.type "object")],220,"Stack",.true,[],[],.false,.none,.false⟩),#[.none,.none,(.some (.str "Stack" 400)),(.some (.str "Stack" 408)),(.some (.builtin "object.__new__")),(.some (.bool .true))]⟩)::
((nat_lit 222),⟨(.type "getset_descriptor"),.none,(.fields #[(.str "__dict__" 475),(.ref 221),(.builtin "function.__dict__"),(.builtin "function.__dict__#set")]),#[]⟩)::
((nat_lit 223),⟨(.type "getset_descriptor"),.none,(.fields #[(.str "__weakref__" 477),(.ref 221),(.builtin "ExceptionGroup.__weakref__"),.none]),#[]⟩)::
((nat_lit 226),⟨(.type "tuple"),.none,(.seq #[(.str "uninit" 484)] 0),#[]⟩)::
((nat_lit 227),⟨(.type "tuple"),.none,(.seq #[] 0),#[]⟩)::
((nat_lit 229),⟨(.type "tuple"),.none,(.seq #[(.str "allocation" 493),(.str "offset" 494),(.str "tag" 495)] 0),#[]⟩)::
((nat_lit 230),⟨(.type "tuple"),.none,(.seq #[] 0),#[]⟩)::
((nat_lit 234),⟨(.type "tuple"),.none,(.seq #[] 0),#[]⟩)::
((nat_lit 236),⟨(.type "tuple"),.none,(.seq #[(.str "place" 502),(.str "many" 503)] 0),#[]⟩)::
((nat_lit 237),⟨(.type "tuple"),.none,(.seq #[] 0),#[]⟩)::
((nat_lit 248),⟨(.type "tuple"),.none,(.seq #[] 0),#[]⟩)::
((nat_lit 253),⟨(.type "tuple"),.none,(.seq #[(.str "cells" 525),(.str "is_live" 526),(.str "stacks" 527)] 0),#[]⟩)::
((nat_lit 254),⟨(.type "dict"),.none,(.dict #[⟨(PySem.PyData.keyHash P "__module__"),(.str "__module__" 514),(.str "lendcore.memory" 482)⟩,⟨(PySem.PyData.keyHash P "__firstlineno__"),(.str "__firstlineno__" 518),(.int 162 517)⟩,⟨(PySem.PyData.keyHash P "__init__"),(.str "__init__" 524),(.ref 252)⟩,⟨(PySem.PyData.keyHash P "__static_attributes__"),(.str "__static_attributes__" 528),(.ref 253)⟩,⟨(PySem.PyData.keyHash P "__dict__"),(.str "__dict__" 530),(.ref 256)⟩,⟨(PySem.PyData.keyHash P "__weakref__"),(.str "__weakref__" 532),(.ref 257)⟩,⟨(PySem.PyData.keyHash P "__doc__"),(.str "__doc__" 533),.none⟩] 4),#[]⟩)::
((nat_lit 255),⟨(.type "type"),.none,(.cls ⟨"Allocation",[(.type "object")],[(.ref 255),(.type "object")],254,"Allocation",.true,[],[],.false,.none,.false⟩),#[.none,.none,(.some (.str "Allocation" 507)),(.some (.str "Allocation" 515)),(.some (.builtin "object.__new__")),(.some (.bool .true))]⟩)::
((nat_lit 256),⟨(.type "getset_descriptor"),.none,(.fields #[(.str "__dict__" 529),(.ref 255),(.builtin "function.__dict__"),(.builtin "function.__dict__#set")]),#[]⟩)::
((nat_lit 257),⟨(.type "getset_descriptor"),.none,(.fields #[(.str "__weakref__" 531),(.ref 255),(.builtin "ExceptionGroup.__weakref__"),.none]),#[]⟩)::
((nat_lit 267),⟨(.type "tuple"),.none,(.seq #[] 0),#[]⟩)::
((nat_lit 269),⟨(.type "tuple"),.none,(.seq #[(.str "self" 551)] 0),#[]⟩)::
((nat_lit 270),⟨(.type "tuple"),.none,(.seq #[] 0),#[]⟩)::
((nat_lit 272),⟨(.type "code"),.none,(.fields #[(.str "__init__" 548),(.str "Memory.__init__" 549),(.str "/claim/cut.py" 550),(.int 170 0),(.int 1 0),(.int 0 0),(.int 0 0),(.int 3 0),(.ref 267),(.bool .true),(.int 181 0),(.ref 268),.none,(.ref 269),(.ref 270),(.ref 271),(.int 552 0),(.int 170 0),(.str "/claim/cut.py" 553)]),#[]⟩)::
((nat_lit 273),(fun (a : Arguments) (b : List Stmt) (c : Scope) (_ : sig (pick 32 1) = some (a, b, c)) => (⟨(.type "function"),.none,(.func ⟨"__init__","Memory.__init__",a,(.stmts b),c,3,[],.none,.none,.none,(.str "lendcore.memory" 482),.none,(.ref 272),.none,0⟩),#[]⟩ : Obj)) _ _ _ rfl)::
((nat_lit 274),⟨(.type "tuple"),.none,(.seq #[] 0),#[]⟩)::
((nat_lit 276),⟨(.type "tuple"),.none,(.seq #[(.str "self" 558)] 0),#[]⟩)::
((nat_lit 277),⟨(.type "tuple"),.none,(.seq #[] 0),#[]⟩)::
((nat_lit 281),⟨(.type "tuple"),.none,(.seq #[] 0),#[]⟩)::
((nat_lit 283),⟨(.type "tuple"),.none,(.seq #[(.str "self" 565),(.str "size" 566)] 0),#[]⟩)::
((nat_lit 284),⟨(.type "tuple"),.none,(.seq #[] 0),#[]⟩)::
((nat_lit 288),⟨(.type "tuple"),.none,(.seq #[] 0),#[]⟩)::
((nat_lit 290),⟨(.type "tuple"),.none,(.seq #[(.str "self" 573),(.str "number" 574)] 0),#[]⟩)::
((nat_lit 291),⟨(.type "tuple"),.none,(.seq #[] 0),#[]⟩)::
((nat_lit 295),⟨(.type "tuple"),.none,(.seq #[] 0),#[]⟩)::
((nat_lit 297),⟨(.type "tuple"),.none,(.seq #[(.str "self" 581),(.str "number" 582)] 0),#[]⟩)::
((nat_lit 298),⟨(.type "tuple"),.none,(.seq #[] 0),#[]⟩)::
((nat_lit 302),⟨(.type "tuple"),.none,(.seq #[] 0),#[]⟩)::
((nat_lit 304),⟨(.type "tuple"),.none,(.seq #[(.str "self" 589)] 0),#[]⟩)::
((nat_lit 305),⟨(.type "tuple"),.none,(.seq #[] 0),#[]⟩)::
((nat_lit 309),⟨(.type "tuple"),.none,(.seq #[] 0),#[]⟩)::
((nat_lit 311),⟨(.type "tuple"),.none,(.seq #[(.str "self" 596),(.str "number" 597)] 0),#[]⟩)::
((nat_lit 312),⟨(.type "tuple"),.none,(.seq #[] 0),#[]⟩)::
((nat_lit 316),⟨(.type "tuple"),.none,(.seq #[] 0),#[]⟩)::
((nat_lit 318),⟨(.type "tuple"),.none,(.seq #[(.str "self" 604),(.str "place" 605),(.str "size" 606),(.str "found" 607)] 0),#[]⟩)::
((nat_lit 319),⟨(.type "tuple"),.none,(.seq #[] 0),#[]⟩)::
((nat_lit 323),⟨(.type "tuple"),.none,(.seq #[] 0),#[]⟩)::
((nat_lit 325),⟨(.type "tuple"),.none,(.seq #[(.str "self" 614),(.str "place" 615),(.str "found" 616)] 0),#[]⟩)::
((nat_lit 326),⟨(.type "tuple"),.none,(.seq #[] 0),#[]⟩)::
((nat_lit 330),⟨(.type "tuple"),.none,(.seq #[] 0),#[]⟩)::
((nat_lit 332),⟨(.type "tuple"),.none,(.seq #[(.str "self" 623),(.str "place" 624),(.str "found" 625)] 0),#[]⟩)::
((nat_lit 333),⟨(.type "tuple"),.none,(.seq #[] 0),#[]⟩)::
((nat_lit 337),⟨(.type "tuple"),.none,(.seq #[] 0),#[]⟩)::
((nat_lit 339),⟨(.type "tuple"),.none,(.seq #[(.str "self" 632),(.str "place" 633),(.str "value" 634),(.str "found" 635)] 0),#[]⟩)::
((nat_lit 340),⟨(.type "tuple"),.none,(.seq #[] 0),#[]⟩)::
((nat_lit 344),⟨(.type "tuple"),.none,(.seq #[] 0),#[]⟩)::
((nat_lit 349),⟨(.type "tuple"),.none,(.seq #[] 0),#[]⟩)::
((nat_lit 351),⟨(.type "tuple"),.none,(.seq #[(.str "self" 648),(.str "place" 649),(.str "values" 650),(.str "at" 651)] 0),#[]⟩)::
((nat_lit 352),⟨(.type "tuple"),.none,(.seq #[] 0),#[]⟩)::
((nat_lit 356),⟨(.type "tuple"),.none,(.seq #[] 0),#[]⟩)::
((nat_lit 358),⟨(.type "tuple"),.none,(.seq #[(.str "self" 658),(.str "place" 659),(.str "size" 660),(.str "kind" 661),(.str "found" 662),(.str "at" 663),(.str "tag" 664)] 0),#[]⟩)::
((nat_lit 359),⟨(.type "tuple"),.none,(.seq #[] 0),#[]⟩)::
((nat_lit 363),⟨(.type "tuple"),.none,(.seq #[(.str "allocations" 668),(.str "many" 669),(.str "tags" 670)] 0),#[]⟩)::
((nat_lit 364),⟨(.type "dict"),.none,(.dict #[⟨(PySem.PyData.keyHash P "__module__"),(.str "__module__" 543),(.str "lendcore.memory" 482)⟩,⟨(PySem.PyData.keyHash P "__firstlineno__"),(.str "__firstlineno__" 547),(.int 168 546)⟩,⟨(PySem.PyData.keyHash P "__init__"),(.str "__init__" 554),(.ref 273)⟩,⟨(PySem.PyData.keyHash P "fresh_tag"),(.str "fresh_tag" 561),(.ref 280)⟩,⟨(PySem.PyData.keyHash P "allocate"),(.str "allocate" 569),(.ref 287)⟩,⟨(PySem.PyData.keyHash P "base"),(.str "base" 577),(.ref 294)⟩,⟨(PySem.PyData.keyHash P "is_live"),(.str "is_live" 585),(.ref 301)⟩,⟨(PySem.PyData.keyHash P "live_count"),(.str "live_count" 592),(.ref 308)⟩,⟨(PySem.PyData.keyHash P "free"),(.str "free" 600),(.ref 315)⟩,⟨(PySem.PyData.keyHash P "room"),(.str "room" 610),(.ref 322)⟩,⟨(PySem.PyData.keyHash P "read"),(.str "read" 619),(.ref 329)⟩,⟨(PySem.PyData.keyHash P "known"),(.str "known" 628),(.ref 336)⟩,⟨(PySem.PyData.keyHash P "write"),(.str "write" 638),(.ref 343)⟩,⟨(PySem.PyData.keyHash P "read_all"),(.str "read_all" 644),(.ref 348)⟩,⟨(PySem.PyData.keyHash P "write_all"),(.str "write_all" 654),(.ref 355)⟩,⟨(PySem.PyData.keyHash P "retagged"),(.str "retagged" 667),(.ref 362)⟩,⟨(PySem.PyData.keyHash P "__static_attributes__"),(.str "__static_attributes__" 671),(.ref 363)⟩,⟨(PySem.PyData.keyHash P "__dict__"),(.str "__dict__" 673),(.ref 366)⟩,⟨(PySem.PyData.keyHash P "__weakref__"),(.str "__weakref__" 675),(.ref 367)⟩,⟨(PySem.PyData.keyHash P "__doc__"),(.str "__doc__" 676),.none⟩] 4),#[]⟩)::
((nat_lit 365),⟨(.type "type"),.none,(.cls ⟨"Memory",[(.type "object")],[(.ref 365),(.type "object")],364,"Memory",.true,[],[],.false,.none,.false⟩),#[.none,.none,(.some (.str "Memory" 536)),(.some (.str "Memory" 544)),(.some (.builtin "object.__new__")),(.some (.bool .true))]⟩)::
((nat_lit 366),⟨(.type "getset_descriptor"),.none,(.fields #[(.str "__dict__" 672),(.ref 365),(.builtin "function.__dict__"),(.builtin "function.__dict__#set")]),#[]⟩)::
((nat_lit 367),⟨(.type "getset_descriptor"),.none,(.fields #[(.str "__weakref__" 674),(.ref 365),(.builtin "ExceptionGroup.__weakref__"),.none]),#[]⟩)::
((nat_lit 370),⟨(.type "tuple"),.none,(.seq #[] 0),#[]⟩)::
((nat_lit 372),⟨(.type "tuple"),.none,(.seq #[(.str "t" 684),(.str "world" 685)] 0),#[]⟩)::
((nat_lit 373),⟨(.type "tuple"),.none,(.seq #[] 0),#[]⟩)::
((nat_lit 377),⟨(.type "tuple"),.none,(.seq #[] 0),#[]⟩)::
((nat_lit 380),⟨(.type "code"),.none,(.fields #[(.str "parts_told" 689),(.str "parts_told" 690),(.str "/claim/cut.py" 691),(.int 241 0),(.int 3 0),(.int 0 0),(.int 0 0),(.int 3 0),(.ref 377),(.bool .true),(.int 181 0),(.ref 378),.none,.none,.none,(.ref 379),(.int 692 0),(.int 241 0),(.str "/claim/cut.py" 693)]),#[]⟩)::
((nat_lit 381),(fun (a : Arguments) (b : List Stmt) (c : Scope) (_ : sig (pick 35 0) = some (a, b, c)) => (⟨(.type "function"),.none,(.func ⟨"parts_told","parts_told",a,(.stmts b),c,3,[],.none,.none,.none,(.str "lendcore.cells" 679),.none,(.ref 380),.none,0⟩),#[]⟩ : Obj)) _ _ _ rfl)::
((nat_lit 382),⟨(.type "tuple"),.none,(.seq #[] 0),#[]⟩)::
((nat_lit 384),⟨(.type "tuple"),.none,(.seq #[(.str "t" 698)] 0),#[]⟩)::
((nat_lit 385),⟨(.type "tuple"),.none,(.seq #[] 0),#[]⟩)::
((nat_lit 387),⟨(.type "code"),.none,(.fields #[(.str "is_of_parts" 695),(.str "is_of_parts" 696),(.str "/claim/cut.py" 697),(.int 247 0),(.int 1 0),(.int 0 0),(.int 0 0),(.int 3 0),(.ref 382),(.bool .true),(.int 181 0),(.ref 383),.none,(.ref 384),(.ref 385),(.ref 386),(.int 699 0),(.int 247 0),(.str "/claim/cut.py" 700)]),#[]⟩)::
((nat_lit 388),(fun (a : Arguments) (b : List Stmt) (c : Scope) (_ : sig (pick 36 0) = some (a, b, c)) => (⟨(.type "function"),.none,(.func ⟨"is_of_parts","is_of_parts",a,(.stmts b),c,3,[],.none,.none,.none,(.str "lendcore.cells" 679),.none,(.ref 387),.none,0⟩),#[]⟩ : Obj)) _ _ _ rfl)::
((nat_lit 389),⟨(.type "tuple"),.none,(.seq #[] 0),#[]⟩)::
((nat_lit 391),⟨(.type "tuple"),.none,(.seq #[(.str "t" 705),(.str "cells" 706),(.str "world" 707),(.str "variant" 708),(.str "at" 709),(.str "found" 710),(.str "each" 711),(.str "many" 712)] 0),#[]⟩)::
((nat_lit 392),⟨(.type "tuple"),.none,(.seq #[] 0),#[]⟩)::
((nat_lit 396),⟨(.type "tuple"),.none,(.seq #[] 0),#[]⟩)::
((nat_lit 398),⟨(.type "tuple"),.none,(.seq #[(.str "t" 719),(.str "cells" 720),(.str "world" 721),(.str "variant" 722),(.str "rows" 723),(.str "types_now" 724),(.str "k" 725)] 0),#[]⟩)::
((nat_lit 399),⟨(.type "tuple"),.none,(.seq #[] 0),#[]⟩)::
((nat_lit 403),⟨(.type "tuple"),.none,(.seq #[.none] 0),#[]⟩)::
((nat_lit 404),⟨(.type "tuple"),.none,(.seq #[] 0),#[]⟩)::
((nat_lit 407),⟨(.type "code"),.none,(.fields #[(.str "cells_of" 729),(.str "cells_of" 730),(.str "/claim/cut.py" 731),(.int 270 0),(.int 4 0),(.int 0 0),(.int 0 0),(.int 3 0),(.ref 404),(.bool .true),(.int 181 0),(.ref 405),.none,.none,.none,(.ref 406),(.int 732 0),(.int 270 0),(.str "/claim/cut.py" 733)]),#[]⟩)::
((nat_lit 408),(fun (a : Arguments) (b : List Stmt) (c : Scope) (_ : sig (pick 39 0) = some (a, b, c)) => (⟨(.type "function"),.none,(.func ⟨"cells_of","cells_of",a,(.stmts b),c,3,[],(.ref 403),.none,.none,(.str "lendcore.cells" 679),.none,(.ref 407),.none,0⟩),#[]⟩ : Obj)) _ _ _ rfl)::
((nat_lit 409),⟨(.type "tuple"),.none,(.seq #[] 0),#[]⟩)::
((nat_lit 411),⟨(.type "tuple"),.none,(.seq #[(.str "rows" 738),(.str "found" 739),(.str "row" 740)] 0),#[]⟩)::
((nat_lit 412),⟨(.type "tuple"),.none,(.seq #[] 0),#[]⟩)::
((nat_lit 416),⟨(.type "tuple"),.none,(.seq #[] 0),#[]⟩)::
((nat_lit 418),⟨(.type "tuple"),.none,(.seq #[(.str "t" 747),(.str "variant" 748),(.str "rows" 749),(.str "world" 750),(.str "found" 751)] 0),#[]⟩)::
((nat_lit 419),⟨(.type "tuple"),.none,(.seq #[] 0),#[]⟩)::
((nat_lit 423),⟨(.type "dict"),.none,(.dict #[⟨(PySem.PyData.keyHash P "i8"),(.str "i8" 757),(.int 8 758)⟩,⟨(PySem.PyData.keyHash P "i16"),(.str "i16" 759),(.int 16 760)⟩,⟨(PySem.PyData.keyHash P "i32"),(.str "i32" 761),(.int 32 762)⟩,⟨(PySem.PyData.keyHash P "i64"),(.str "i64" 763),(.int 64 764)⟩,⟨(PySem.PyData.keyHash P "u8"),(.str "u8" 765),(.int 8 766)⟩,⟨(PySem.PyData.keyHash P "u16"),(.str "u16" 767),(.int 16 768)⟩,⟨(PySem.PyData.keyHash P "u32"),(.str "u32" 769),(.int 32 770)⟩,⟨(PySem.PyData.keyHash P "u64"),(.str "u64" 771),(.int 64 772)⟩,⟨(PySem.PyData.keyHash P "usize"),(.str "usize" 773),(.int 64 774)⟩] 9),#[]⟩)::
((nat_lit 424),⟨(.type "tuple"),.none,(.seq #[] 0),#[]⟩)::
((nat_lit 426),⟨(.type "tuple"),.none,(.seq #[(.str "kind" 788)] 0),#[]⟩)::
((nat_lit 427),⟨(.type "tuple"),.none,(.seq #[] 0),#[]⟩)::
((nat_lit 429),⟨(.type "code"),.none,(.fields #[(.str "is_signed" 785),(.str "is_signed" 786),(.str "/claim/cut.py" 787),(.int 305 0),(.int 1 0),(.int 0 0),(.int 0 0),(.int 3 0),(.ref 424),(.bool .true),(.int 181 0),(.ref 425),.none,(.ref 426),(.ref 427),(.ref 428),(.int 789 0),(.int 305 0),(.str "/claim/cut.py" 790)]),#[]⟩)::
((nat_lit 430),(fun (a : Arguments) (b : List Stmt) (c : Scope) (_ : sig (pick 44 0) = some (a, b, c)) => (⟨(.type "function"),.none,(.func ⟨"is_signed","is_signed",a,(.stmts b),c,3,[],.none,.none,.none,(.str "lendcore.integers" 755),.none,(.ref 429),.none,0⟩),#[]⟩ : Obj)) _ _ _ rfl)::
((nat_lit 431),⟨(.type "tuple"),.none,(.seq #[] 0),#[]⟩)::
((nat_lit 433),⟨(.type "tuple"),.none,(.seq #[(.str "kind" 795)] 0),#[]⟩)::
((nat_lit 434),⟨(.type "tuple"),.none,(.seq #[] 0),#[]⟩)::
((nat_lit 436),⟨(.type "code"),.none,(.fields #[(.str "least" 792),(.str "least" 793),(.str "/claim/cut.py" 794),(.int 307 0),(.int 1 0),(.int 0 0),(.int 0 0),(.int 3 0),(.ref 431),(.bool .true),(.int 181 0),(.ref 432),.none,(.ref 433),(.ref 434),(.ref 435),(.int 796 0),(.int 307 0),(.str "/claim/cut.py" 797)]),#[]⟩)::
((nat_lit 437),(fun (a : Arguments) (b : List Stmt) (c : Scope) (_ : sig (pick 45 0) = some (a, b, c)) => (⟨(.type "function"),.none,(.func ⟨"least","least",a,(.stmts b),c,3,[],.none,.none,.none,(.str "lendcore.integers" 755),.none,(.ref 436),.none,0⟩),#[]⟩ : Obj)) _ _ _ rfl)::
((nat_lit 438),⟨(.type "tuple"),.none,(.seq #[] 0),#[]⟩)::
((nat_lit 440),⟨(.type "tuple"),.none,(.seq #[(.str "kind" 802)] 0),#[]⟩)::
((nat_lit 441),⟨(.type "tuple"),.none,(.seq #[] 0),#[]⟩)::
((nat_lit 443),⟨(.type "code"),.none,(.fields #[(.str "greatest" 799),(.str "greatest" 800),(.str "/claim/cut.py" 801),(.int 309 0),(.int 1 0),(.int 0 0),(.int 0 0),(.int 3 0),(.ref 438),(.bool .true),(.int 181 0),(.ref 439),.none,(.ref 440),(.ref 441),(.ref 442),(.int 803 0),(.int 309 0),(.str "/claim/cut.py" 804)]),#[]⟩)::
((nat_lit 444),(fun (a : Arguments) (b : List Stmt) (c : Scope) (_ : sig (pick 46 0) = some (a, b, c)) => (⟨(.type "function"),.none,(.func ⟨"greatest","greatest",a,(.stmts b),c,3,[],.none,.none,.none,(.str "lendcore.integers" 755),.none,(.ref 443),.none,0⟩),#[]⟩ : Obj)) _ _ _ rfl)::
((nat_lit 445),⟨(.type "tuple"),.none,(.seq #[] 0),#[]⟩)::
((nat_lit 447),⟨(.type "tuple"),.none,(.seq #[(.str "kind" 809),(.str "number" 810)] 0),#[]⟩)::
((nat_lit 448),⟨(.type "tuple"),.none,(.seq #[] 0),#[]⟩)::
((nat_lit 450),⟨(.type "code"),.none,(.fields #[(.str "fits" 806),(.str "fits" 807),(.str "/claim/cut.py" 808),(.int 311 0),(.int 2 0),(.int 0 0),(.int 0 0),(.int 3 0),(.ref 445),(.bool .true),(.int 181 0),(.ref 446),.none,(.ref 447),(.ref 448),(.ref 449),(.int 811 0),(.int 311 0),(.str "/claim/cut.py" 812)]),#[]⟩)::
((nat_lit 451),(fun (a : Arguments) (b : List Stmt) (c : Scope) (_ : sig (pick 47 0) = some (a, b, c)) => (⟨(.type "function"),.none,(.func ⟨"fits","fits",a,(.stmts b),c,3,[],.none,.none,.none,(.str "lendcore.integers" 755),.none,(.ref 450),.none,0⟩),#[]⟩ : Obj)) _ _ _ rfl)::
((nat_lit 452),⟨(.type "tuple"),.none,(.seq #[] 0),#[]⟩)::
((nat_lit 454),⟨(.type "tuple"),.none,(.seq #[(.str "kind" 817),(.str "number" 818),(.str "low" 819)] 0),#[]⟩)::
((nat_lit 455),⟨(.type "tuple"),.none,(.seq #[] 0),#[]⟩)::
((nat_lit 457),⟨(.type "code"),.none,(.fields #[(.str "wrapped" 814),(.str "wrapped" 815),(.str "/claim/cut.py" 816),(.int 313 0),(.int 2 0),(.int 0 0),(.int 0 0),(.int 3 0),(.ref 452),(.bool .true),(.int 181 0),(.ref 453),.none,(.ref 454),(.ref 455),(.ref 456),(.int 820 0),(.int 313 0),(.str "/claim/cut.py" 821)]),#[]⟩)::
((nat_lit 458),(fun (a : Arguments) (b : List Stmt) (c : Scope) (_ : sig (pick 48 0) = some (a, b, c)) => (⟨(.type "function"),.none,(.func ⟨"wrapped","wrapped",a,(.stmts b),c,3,[],.none,.none,.none,(.str "lendcore.integers" 755),.none,(.ref 457),.none,0⟩),#[]⟩ : Obj)) _ _ _ rfl)::
((nat_lit 459),⟨(.type "tuple"),.none,(.seq #[] 0),#[]⟩)::
((nat_lit 461),⟨(.type "tuple"),.none,(.seq #[(.str "kind" 826),(.str "number" 827)] 0),#[]⟩)::
((nat_lit 462),⟨(.type "tuple"),.none,(.seq #[] 0),#[]⟩)::
((nat_lit 464),⟨(.type "code"),.none,(.fields #[(.str "cast_int" 823),(.str "cast_int" 824),(.str "/claim/cut.py" 825),(.int 316 0),(.int 2 0),(.int 0 0),(.int 0 0),(.int 3 0),(.ref 459),(.bool .true),(.int 181 0),(.ref 460),.none,(.ref 461),(.ref 462),(.ref 463),(.int 828 0),(.int 316 0),(.str "/claim/cut.py" 829)]),#[]⟩)::
((nat_lit 465),(fun (a : Arguments) (b : List Stmt) (c : Scope) (_ : sig (pick 49 0) = some (a, b, c)) => (⟨(.type "function"),.none,(.func ⟨"cast_int","cast_int",a,(.stmts b),c,3,[],.none,.none,.none,(.str "lendcore.integers" 755),.none,(.ref 464),.none,0⟩),#[]⟩ : Obj)) _ _ _ rfl)::
((nat_lit 466),⟨(.type "tuple"),.none,(.seq #[] 0),#[]⟩)::
((nat_lit 468),⟨(.type "tuple"),.none,(.seq #[(.str "a" 834),(.str "b" 835),(.str "found" 836)] 0),#[]⟩)::
((nat_lit 469),⟨(.type "tuple"),.none,(.seq #[] 0),#[]⟩)::
((nat_lit 471),⟨(.type "code"),.none,(.fields #[(.str "cut_quotient" 831),(.str "cut_quotient" 832),(.str "/claim/cut.py" 833),(.int 318 0),(.int 2 0),(.int 0 0),(.int 0 0),(.int 3 0),(.ref 466),(.bool .true),(.int 181 0),(.ref 467),.none,(.ref 468),(.ref 469),(.ref 470),(.int 837 0),(.int 318 0),(.str "/claim/cut.py" 838)]),#[]⟩)::
((nat_lit 472),(fun (a : Arguments) (b : List Stmt) (c : Scope) (_ : sig (pick 50 0) = some (a, b, c)) => (⟨(.type "function"),.none,(.func ⟨"cut_quotient","cut_quotient",a,(.stmts b),c,3,[],.none,.none,.none,(.str "lendcore.integers" 755),.none,(.ref 471),.none,0⟩),#[]⟩ : Obj)) _ _ _ rfl)::
((nat_lit 473),⟨(.type "tuple"),.none,(.seq #[] 0),#[]⟩)::
((nat_lit 475),⟨(.type "tuple"),.none,(.seq #[(.str "op" 843),(.str "a" 844),(.str "b" 845)] 0),#[]⟩)::
((nat_lit 476),⟨(.type "tuple"),.none,(.seq #[] 0),#[]⟩)::
((nat_lit 478),⟨(.type "code"),.none,(.fields #[(.str "exact" 840),(.str "exact" 841),(.str "/claim/cut.py" 842),(.int 321 0),(.int 3 0),(.int 0 0),(.int 0 0),(.int 3 0),(.ref 473),(.bool .true),(.int 181 0),(.ref 474),.none,(.ref 475),(.ref 476),(.ref 477),(.int 846 0),(.int 321 0),(.str "/claim/cut.py" 847)]),#[]⟩)::
((nat_lit 479),(fun (a : Arguments) (b : List Stmt) (c : Scope) (_ : sig (pick 51 0) = some (a, b, c)) => (⟨(.type "function"),.none,(.func ⟨"exact","exact",a,(.stmts b),c,3,[],.none,.none,.none,(.str "lendcore.integers" 755),.none,(.ref 478),.none,0⟩),#[]⟩ : Obj)) _ _ _ rfl)::
((nat_lit 480),⟨(.type "tuple"),.none,(.seq #[] 0),#[]⟩)::
((nat_lit 482),⟨(.type "tuple"),.none,(.seq #[(.str "kind" 852),(.str "op" 853),(.str "a" 854),(.str "b" 855),(.str "found" 856)] 0),#[]⟩)::
((nat_lit 483),⟨(.type "tuple"),.none,(.seq #[] 0),#[]⟩)::
((nat_lit 485),⟨(.type "code"),.none,(.fields #[(.str "checked" 849),(.str "checked" 850),(.str "/claim/cut.py" 851),(.int 339 0),(.int 4 0),(.int 0 0),(.int 0 0),(.int 3 0),(.ref 480),(.bool .true),(.int 181 0),(.ref 481),.none,(.ref 482),(.ref 483),(.ref 484),(.int 857 0),(.int 339 0),(.str "/claim/cut.py" 858)]),#[]⟩)::
((nat_lit 486),(fun (a : Arguments) (b : List Stmt) (c : Scope) (_ : sig (pick 52 0) = some (a, b, c)) => (⟨(.type "function"),.none,(.func ⟨"checked","checked",a,(.stmts b),c,3,[],.none,.none,.none,(.str "lendcore.integers" 755),.none,(.ref 485),.none,0⟩),#[]⟩ : Obj)) _ _ _ rfl)::
((nat_lit 487),⟨(.type "tuple"),.none,(.seq #[] 0),#[]⟩)::
((nat_lit 489),⟨(.type "tuple"),.none,(.seq #[(.str "kind" 863),(.str "op" 864),(.str "a" 865),(.str "many" 866),(.str "places" 867),(.str "found" 868)] 0),#[]⟩)::
((nat_lit 490),⟨(.type "tuple"),.none,(.seq #[] 0),#[]⟩)::
((nat_lit 492),⟨(.type "code"),.none,(.fields #[(.str "shifted" 860),(.str "shifted" 861),(.str "/claim/cut.py" 862),(.int 348 0),(.int 4 0),(.int 0 0),(.int 0 0),(.int 3 0),(.ref 487),(.bool .true),(.int 181 0),(.ref 488),.none,(.ref 489),(.ref 490),(.ref 491),(.int 869 0),(.int 348 0),(.str "/claim/cut.py" 870)]),#[]⟩)::
((nat_lit 493),(fun (a : Arguments) (b : List Stmt) (c : Scope) (_ : sig (pick 53 0) = some (a, b, c)) => (⟨(.type "function"),.none,(.func ⟨"shifted","shifted",a,(.stmts b),c,3,[],.none,.none,.none,(.str "lendcore.integers" 755),.none,(.ref 492),.none,0⟩),#[]⟩ : Obj)) _ _ _ rfl)::
((nat_lit 494),⟨(.type "tuple"),.none,(.seq #[] 0),#[]⟩)::
((nat_lit 496),⟨(.type "tuple"),.none,(.seq #[(.str "kind" 875),(.str "a" 876)] 0),#[]⟩)::
((nat_lit 497),⟨(.type "tuple"),.none,(.seq #[] 0),#[]⟩)::
((nat_lit 499),⟨(.type "code"),.none,(.fields #[(.str "inverted" 872),(.str "inverted" 873),(.str "/claim/cut.py" 874),(.int 352 0),(.int 2 0),(.int 0 0),(.int 0 0),(.int 3 0),(.ref 494),(.bool .true),(.int 181 0),(.ref 495),.none,(.ref 496),(.ref 497),(.ref 498),(.int 877 0),(.int 352 0),(.str "/claim/cut.py" 878)]),#[]⟩)::
((nat_lit 500),(fun (a : Arguments) (b : List Stmt) (c : Scope) (_ : sig (pick 54 0) = some (a, b, c)) => (⟨(.type "function"),.none,(.func ⟨"inverted","inverted",a,(.stmts b),c,3,[],.none,.none,.none,(.str "lendcore.integers" 755),.none,(.ref 499),.none,0⟩),#[]⟩ : Obj)) _ _ _ rfl)::
((nat_lit 501),⟨(.type "tuple"),.none,(.seq #[] 0),#[]⟩)::
((nat_lit 503),⟨(.type "tuple"),.none,(.seq #[(.str "op" 883),(.str "a" 884),(.str "b" 885)] 0),#[]⟩)::
((nat_lit 504),⟨(.type "tuple"),.none,(.seq #[] 0),#[]⟩)::
((nat_lit 506),⟨(.type "code"),.none,(.fields #[(.str "compared" 880),(.str "compared" 881),(.str "/claim/cut.py" 882),(.int 354 0),(.int 3 0),(.int 0 0),(.int 0 0),(.int 3 0),(.ref 501),(.bool .true),(.int 181 0),(.ref 502),.none,(.ref 503),(.ref 504),(.ref 505),(.int 886 0),(.int 354 0),(.str "/claim/cut.py" 887)]),#[]⟩)::
((nat_lit 507),(fun (a : Arguments) (b : List Stmt) (c : Scope) (_ : sig (pick 55 0) = some (a, b, c)) => (⟨(.type "function"),.none,(.func ⟨"compared","compared",a,(.stmts b),c,3,[],.none,.none,.none,(.str "lendcore.integers" 755),.none,(.ref 506),.none,0⟩),#[]⟩ : Obj)) _ _ _ rfl)::
((nat_lit 508),⟨(.type "dict"),.none,(.dict #[⟨(PySem.PyData.keyHash P "shared"),(.str "shared" 891),(.str "shared" 892)⟩,⟨(PySem.PyData.keyHash P "mut"),(.str "mut" 893),(.str "unique" 894)⟩,⟨(PySem.PyData.keyHash P "two-phase"),(.str "two-phase" 895),(.str "reserved" 896)⟩] 3),#[]⟩)::
((nat_lit 509),⟨(.type "tuple"),.none,(.seq #[(.str "==" 901),(.str "!=" 902),(.str "<" 903),(.str "<=" 904),(.str ">" 905),(.str ">=" 906)] 0),#[]⟩)::
((nat_lit 510),⟨(.type "tuple"),.none,(.seq #[] 0),#[]⟩)::
((nat_lit 512),⟨(.type "tuple"),.none,(.seq #[(.str "cell" 911)] 0),#[]⟩)::
((nat_lit 513),⟨(.type "tuple"),.none,(.seq #[] 0),#[]⟩)::
((nat_lit 517),⟨(.type "tuple"),.none,(.seq #[] 0),#[]⟩)::
((nat_lit 519),⟨(.type "tuple"),.none,(.seq #[(.str "op" 918),(.str "a" 919),(.str "b" 920)] 0),#[]⟩)::
((nat_lit 520),⟨(.type "tuple"),.none,(.seq #[] 0),#[]⟩)::
((nat_lit 522),⟨(.type "code"),.none,(.fields #[(.str "of_bits" 915),(.str "of_bits" 916),(.str "/claim/cut.py" 917),(.int 373 0),(.int 3 0),(.int 0 0),(.int 0 0),(.int 3 0),(.ref 517),(.bool .true),(.int 181 0),(.ref 518),.none,(.ref 519),(.ref 520),(.ref 521),(.int 921 0),(.int 373 0),(.str "/claim/cut.py" 922)]),#[]⟩)::
((nat_lit 523),(fun (a : Arguments) (b : List Stmt) (c : Scope) (_ : sig (pick 60 0) = some (a, b, c)) => (⟨(.type "function"),.none,(.func ⟨"of_bits","of_bits",a,(.stmts b),c,3,[],.none,.none,.none,(.str "lendcore.places" 889),.none,(.ref 522),.none,0⟩),#[]⟩ : Obj)) _ _ _ rfl)::
((nat_lit 524),⟨(.type "tuple"),.none,(.seq #[] 0),#[]⟩)::
((nat_lit 526),⟨(.type "tuple"),.none,(.seq #[(.str "t" 927),(.str "op" 928),(.str "a" 929),(.str "b" 930),(.str "value" 931),(.str "is_over" 932)] 0),#[]⟩)::
((nat_lit 527),⟨(.type "tuple"),.none,(.seq #[] 0),#[]⟩)::
((nat_lit 529),⟨(.type "code"),.none,(.fields #[(.str "reckoned" 924),(.str "reckoned" 925),(.str "/claim/cut.py" 926),(.int 377 0),(.int 4 0),(.int 0 0),(.int 0 0),(.int 3 0),(.ref 524),(.bool .true),(.int 181 0),(.ref 525),.none,(.ref 526),(.ref 527),(.ref 528),(.int 933 0),(.int 377 0),(.str "/claim/cut.py" 934)]),#[]⟩)::
((nat_lit 530),(fun (a : Arguments) (b : List Stmt) (c : Scope) (_ : sig (pick 61 0) = some (a, b, c)) => (⟨(.type "function"),.none,(.func ⟨"reckoned","reckoned",a,(.stmts b),c,3,[],.none,.none,.none,(.str "lendcore.places" 889),.none,(.ref 529),.none,0⟩),#[]⟩ : Obj)) _ _ _ rfl)::
((nat_lit 538),⟨(.type "tuple"),.none,(.seq #[] 0),#[]⟩)::
((nat_lit 540),⟨(.type "tuple"),.none,(.seq #[(.str "self" 951),(.str "memory" 952),(.str "world" 953)] 0),#[]⟩)::
((nat_lit 541),⟨(.type "tuple"),.none,(.seq #[] 0),#[]⟩)::
((nat_lit 543),⟨(.type "code"),.none,(.fields #[(.str "__init__" 948),(.str "Places.__init__" 949),(.str "/claim/cut.py" 950),(.int 384 0),(.int 3 0),(.int 0 0),(.int 0 0),(.int 3 0),(.ref 538),(.bool .true),(.int 181 0),(.ref 539),.none,(.ref 540),(.ref 541),(.ref 542),(.int 954 0),(.int 384 0),(.str "/claim/cut.py" 955)]),#[]⟩)::
((nat_lit 544),(fun (a : Arguments) (b : List Stmt) (c : Scope) (_ : sig (pick 62 1) = some (a, b, c)) => (⟨(.type "function"),.none,(.func ⟨"__init__","Places.__init__",a,(.stmts b),c,3,[],.none,.none,.none,(.str "lendcore.places" 889),.none,(.ref 543),.none,0⟩),#[]⟩ : Obj)) _ _ _ rfl)::
((nat_lit 545),⟨(.type "tuple"),.none,(.seq #[] 0),#[]⟩)::
((nat_lit 547),⟨(.type "tuple"),.none,(.seq #[(.str "self" 960),(.str "frame" 961),(.str "local" 962)] 0),#[]⟩)::
((nat_lit 548),⟨(.type "tuple"),.none,(.seq #[] 0),#[]⟩)::
((nat_lit 552),⟨(.type "tuple"),.none,(.seq #[] 0),#[]⟩)::
((nat_lit 554),⟨(.type "tuple"),.none,(.seq #[(.str "self" 969),(.str "frame" 970),(.str "place" 971),(.str "local" 972),(.str "steps" 973),(.str "pointer" 974),(.str "t" 975),(.str "variant" 976),(.str "step" 977)] 0),#[]⟩)::
((nat_lit 555),⟨(.type "tuple"),.none,(.seq #[] 0),#[]⟩)::
((nat_lit 559),⟨(.type "tuple"),.none,(.seq #[] 0),#[]⟩)::
((nat_lit 561),⟨(.type "tuple"),.none,(.seq #[(.str "self" 984),(.str "pointer" 985),(.str "variant" 986)] 0),#[]⟩)::
((nat_lit 562),⟨(.type "tuple"),.none,(.seq #[] 0),#[]⟩)::
((nat_lit 566),⟨(.type "tuple"),.none,(.seq #[] 0),#[]⟩)::
((nat_lit 568),⟨(.type "tuple"),.none,(.seq #[(.str "self" 993),(.str "pointer" 994),(.str "cell" 995)] 0),#[]⟩)::
((nat_lit 569),⟨(.type "tuple"),.none,(.seq #[] 0),#[]⟩)::
((nat_lit 573),⟨(.type "tuple"),.none,(.seq #[] 0),#[]⟩)::
((nat_lit 575),⟨(.type "tuple"),.none,(.seq #[(.str "self" 1002),(.str "frame" 1003),(.str "pointer" 1004),(.str "t" 1005),(.str "local" 1006),(.str "number" 1007)] 0),#[]⟩)::
((nat_lit 576),⟨(.type "tuple"),.none,(.seq #[] 0),#[]⟩)::
((nat_lit 580),⟨(.type "tuple"),.none,(.seq #[] 0),#[]⟩)::
((nat_lit 582),⟨(.type "tuple"),.none,(.seq #[(.str "self" 1014),(.str "pointer" 1015),(.str "t" 1016),(.str "cells" 1017)] 0),#[]⟩)::
((nat_lit 583),⟨(.type "tuple"),.none,(.seq #[] 0),#[]⟩)::
((nat_lit 587),⟨(.type "tuple"),.none,(.seq #[] 0),#[]⟩)::
((nat_lit 589),⟨(.type "tuple"),.none,(.seq #[(.str "self" 1024),(.str "pointer" 1025),(.str "t" 1026)] 0),#[]⟩)::
((nat_lit 590),⟨(.type "tuple"),.none,(.seq #[] 0),#[]⟩)::
((nat_lit 594),⟨(.type "tuple"),.none,(.seq #[] 0),#[]⟩)::
((nat_lit 596),⟨(.type "tuple"),.none,(.seq #[(.str "self" 1033),(.str "frame" 1034),(.str "operand" 1035),(.str "pointer" 1036),(.str "t" 1037),(.str "cells" 1038)] 0),#[]⟩)::
((nat_lit 597),⟨(.type "tuple"),.none,(.seq #[] 0),#[]⟩)::
((nat_lit 599),⟨(.type "code"),.none,(.fields #[(.str "taken" 1030),(.str "Places.taken" 1031),(.str "/claim/cut.py" 1032),(.int 434 0),(.int 3 0),(.int 0 0),(.int 0 0),(.int 3 0),(.ref 594),(.bool .true),(.int 181 0),(.ref 595),.none,(.ref 596),(.ref 597),(.ref 598),(.int 1039 0),(.int 434 0),(.str "/claim/cut.py" 1040)]),#[]⟩)::
((nat_lit 600),(fun (a : Arguments) (b : List Stmt) (c : Scope) (_ : sig (pick 62 9) = some (a, b, c)) => (⟨(.type "function"),.none,(.func ⟨"taken","Places.taken",a,(.stmts b),c,3,[],.none,.none,.none,(.str "lendcore.places" 889),.none,(.ref 599),.none,0⟩),#[]⟩ : Obj)) _ _ _ rfl)::
((nat_lit 601),⟨(.type "tuple"),.none,(.seq #[(.str "memory" 1042),(.str "world" 1043)] 0),#[]⟩)::
((nat_lit 602),⟨(.type "dict"),.none,(.dict #[⟨(PySem.PyData.keyHash P "__module__"),(.str "__module__" 943),(.str "lendcore.places" 889)⟩,⟨(PySem.PyData.keyHash P "__firstlineno__"),(.str "__firstlineno__" 947),(.int 382 946)⟩,⟨(PySem.PyData.keyHash P "__init__"),(.str "__init__" 956),(.ref 544)⟩,⟨(PySem.PyData.keyHash P "home_of"),(.str "home_of" 965),(.ref 551)⟩,⟨(PySem.PyData.keyHash P "spot_of"),(.str "spot_of" 980),(.ref 558)⟩,⟨(PySem.PyData.keyHash P "want_variant"),(.str "want_variant" 989),(.ref 565)⟩,⟨(PySem.PyData.keyHash P "led"),(.str "led" 998),(.ref 572)⟩,⟨(PySem.PyData.keyHash P "element_of"),(.str "element_of" 1010),(.ref 579)⟩,⟨(PySem.PyData.keyHash P "read"),(.str "read" 1020),(.ref 586)⟩,⟨(PySem.PyData.keyHash P "leave"),(.str "leave" 1029),(.ref 593)⟩,⟨(PySem.PyData.keyHash P "taken"),(.str "taken" 1041),(.ref 600)⟩,⟨(PySem.PyData.keyHash P "__static_attributes__"),(.str "__static_attributes__" 1044),(.ref 601)⟩,⟨(PySem.PyData.keyHash P "__dict__"),(.str "__dict__" 1046),(.ref 604)⟩,⟨(PySem.PyData.keyHash P "__weakref__"),(.str "__weakref__" 1048),(.ref 605)⟩,⟨(PySem.PyData.keyHash P "__doc__"),(.str "__doc__" 1049),.none⟩] 4),#[]⟩)::
((nat_lit 603),⟨(.type "type"),.none,(.cls ⟨"Places",[(.type "object")],[(.ref 603),(.type "object")],602,"Places",.true,[],[],.false,.none,.false⟩),#[.none,.none,(.some (.str "Places" 936)),(.some (.str "Places" 944)),(.some (.builtin "object.__new__")),(.some (.bool .true))]⟩)::
((nat_lit 604),⟨(.type "getset_descriptor"),.none,(.fields #[(.str "__dict__" 1045),(.ref 603),(.builtin "function.__dict__"),(.builtin "function.__dict__#set")]),#[]⟩)::
((nat_lit 605),⟨(.type "getset_descriptor"),.none,(.fields #[(.str "__weakref__" 1047),(.ref 603),(.builtin "ExceptionGroup.__weakref__"),.none]),#[]⟩)::
((nat_lit 615),⟨(.type "tuple"),.none,(.seq #[] 0),#[]⟩)::
((nat_lit 617),⟨(.type "tuple"),.none,(.seq #[(.str "self" 1067),(.str "places" 1068)] 0),#[]⟩)::
((nat_lit 618),⟨(.type "tuple"),.none,(.seq #[] 0),#[]⟩)::
((nat_lit 620),⟨(.type "code"),.none,(.fields #[(.str "__init__" 1064),(.str "Rvalues.__init__" 1065),(.str "/claim/cut.py" 1066),(.int 444 0),(.int 2 0),(.int 0 0),(.int 0 0),(.int 3 0),(.ref 615),(.bool .true),(.int 181 0),(.ref 616),.none,(.ref 617),(.ref 618),(.ref 619),(.int 1069 0),(.int 444 0),(.str "/claim/cut.py" 1070)]),#[]⟩)::
((nat_lit 621),(fun (a : Arguments) (b : List Stmt) (c : Scope) (_ : sig (pick 63 1) = some (a, b, c)) => (⟨(.type "function"),.none,(.func ⟨"__init__","Rvalues.__init__",a,(.stmts b),c,3,[],.none,.none,.none,(.str "lendcore.places" 889),.none,(.ref 620),.none,0⟩),#[]⟩ : Obj)) _ _ _ rfl)::
((nat_lit 622),⟨(.type "tuple"),.none,(.seq #[] 0),#[]⟩)::
((nat_lit 624),⟨(.type "tuple"),.none,(.seq #[(.str "self" 1075),(.str "frame" 1076),(.str "rvalue" 1077),(.str "kind" 1078)] 0),#[]⟩)::
((nat_lit 625),⟨(.type "tuple"),.none,(.seq #[] 0),#[]⟩)::
((nat_lit 629),⟨(.type "tuple"),.none,(.seq #[] 0),#[]⟩)::
((nat_lit 631),⟨(.type "tuple"),.none,(.seq #[(.str "self" 1085),(.str "frame" 1086),(.str "kind" 1087),(.str "place" 1088),(.str "pointer" 1089),(.str "t" 1090)] 0),#[]⟩)::
((nat_lit 632),⟨(.type "tuple"),.none,(.seq #[] 0),#[]⟩)::
((nat_lit 636),⟨(.type "tuple"),.none,(.seq #[] 0),#[]⟩)::
((nat_lit 638),⟨(.type "tuple"),.none,(.seq #[(.str "self" 1097),(.str "frame" 1098),(.str "rvalue" 1099),(.str "op" 1100),(.str "first" 1101),(.str "t" 1102),(.str "second" 1103),(.str "a" 1104),(.str "b" 1105),(.str "value" 1106),(.str "is_over" 1107)] 0),#[]⟩)::
((nat_lit 639),⟨(.type "tuple"),.none,(.seq #[] 0),#[]⟩)::
((nat_lit 641),⟨(.type "code"),.none,(.fields #[(.str "of_two" 1094),(.str "Rvalues.of_two" 1095),(.str "/claim/cut.py" 1096),(.int 468 0),(.int 3 0),(.int 0 0),(.int 0 0),(.int 3 0),(.ref 636),(.bool .true),(.int 181 0),(.ref 637),.none,(.ref 638),(.ref 639),(.ref 640),(.int 1108 0),(.int 468 0),(.str "/claim/cut.py" 1109)]),#[]⟩)::
((nat_lit 642),(fun (a : Arguments) (b : List Stmt) (c : Scope) (_ : sig (pick 63 4) = some (a, b, c)) => (⟨(.type "function"),.none,(.func ⟨"of_two","Rvalues.of_two",a,(.stmts b),c,3,[],.none,.none,.none,(.str "lendcore.places" 889),.none,(.ref 641),.none,0⟩),#[]⟩ : Obj)) _ _ _ rfl)::
((nat_lit 643),⟨(.type "tuple"),.none,(.seq #[] 0),#[]⟩)::
((nat_lit 645),⟨(.type "tuple"),.none,(.seq #[(.str "self" 1114),(.str "frame" 1115),(.str "rvalue" 1116),(.str "cell" 1117),(.str "t" 1118),(.str "cells" 1119)] 0),#[]⟩)::
((nat_lit 646),⟨(.type "tuple"),.none,(.seq #[] 0),#[]⟩)::
((nat_lit 648),⟨(.type "code"),.none,(.fields #[(.str "of_one" 1111),(.str "Rvalues.of_one" 1112),(.str "/claim/cut.py" 1113),(.int 480 0),(.int 3 0),(.int 0 0),(.int 0 0),(.int 3 0),(.ref 643),(.bool .true),(.int 181 0),(.ref 644),.none,(.ref 645),(.ref 646),(.ref 647),(.int 1120 0),(.int 480 0),(.str "/claim/cut.py" 1121)]),#[]⟩)::
((nat_lit 649),(fun (a : Arguments) (b : List Stmt) (c : Scope) (_ : sig (pick 63 5) = some (a, b, c)) => (⟨(.type "function"),.none,(.func ⟨"of_one","Rvalues.of_one",a,(.stmts b),c,3,[],.none,.none,.none,(.str "lendcore.places" 889),.none,(.ref 648),.none,0⟩),#[]⟩ : Obj)) _ _ _ rfl)::
((nat_lit 650),⟨(.type "tuple"),.none,(.seq #[] 0),#[]⟩)::
((nat_lit 652),⟨(.type "tuple"),.none,(.seq #[(.str "self" 1126),(.str "frame" 1127),(.str "place" 1128),(.str "pointer" 1129),(.str "t" 1130)] 0),#[]⟩)::
((nat_lit 653),⟨(.type "tuple"),.none,(.seq #[] 0),#[]⟩)::
((nat_lit 657),⟨(.type "tuple"),.none,(.seq #[] 0),#[]⟩)::
((nat_lit 659),⟨(.type "tuple"),.none,(.seq #[(.str "self" 1137),(.str "frame" 1138),(.str "operand" 1139),(.str "cells" 1140),(.str "memory" 1141),(.str "pointer" 1142)] 0),#[]⟩)::
((nat_lit 660),⟨(.type "tuple"),.none,(.seq #[] 0),#[]⟩)::
((nat_lit 664),⟨(.type "tuple"),.none,(.seq #[] 0),#[]⟩)::
((nat_lit 669),⟨(.type "tuple"),.none,(.seq #[(.str "places" 1152),(.str "world" 1153)] 0),#[]⟩)::
((nat_lit 670),⟨(.type "dict"),.none,(.dict #[⟨(PySem.PyData.keyHash P "__module__"),(.str "__module__" 1059),(.str "lendcore.places" 889)⟩,⟨(PySem.PyData.keyHash P "__firstlineno__"),(.str "__firstlineno__" 1063),(.int 442 1062)⟩,⟨(PySem.PyData.keyHash P "__init__"),(.str "__init__" 1071),(.ref 621)⟩,⟨(PySem.PyData.keyHash P "cells"),(.str "cells" 1081),(.ref 628)⟩,⟨(PySem.PyData.keyHash P "reference"),(.str "reference" 1093),(.ref 635)⟩,⟨(PySem.PyData.keyHash P "of_two"),(.str "of_two" 1110),(.ref 642)⟩,⟨(PySem.PyData.keyHash P "of_one"),(.str "of_one" 1122),(.ref 649)⟩,⟨(PySem.PyData.keyHash P "variant_of"),(.str "variant_of" 1133),(.ref 656)⟩,⟨(PySem.PyData.keyHash P "boxed"),(.str "boxed" 1145),(.ref 663)⟩,⟨(PySem.PyData.keyHash P "made"),(.str "made" 1151),(.ref 668)⟩,⟨(PySem.PyData.keyHash P "__static_attributes__"),(.str "__static_attributes__" 1154),(.ref 669)⟩,⟨(PySem.PyData.keyHash P "__dict__"),(.str "__dict__" 1156),(.ref 672)⟩,⟨(PySem.PyData.keyHash P "__weakref__"),(.str "__weakref__" 1158),(.ref 673)⟩,⟨(PySem.PyData.keyHash P "__doc__"),(.str "__doc__" 1159),.none⟩] 4),#[]⟩)::
((nat_lit 671),⟨(.type "type"),.none,(.cls ⟨"Rvalues",[(.type "object")],[(.ref 671),(.type "object")],670,"Rvalues",.true,[],[],.false,.none,.false⟩),#[.none,.none,(.some (.str "Rvalues" 1052)),(.some (.str "Rvalues" 1060)),(.some (.builtin "object.__new__")),(.some (.bool .true))]⟩)::
((nat_lit 672),⟨(.type "getset_descriptor"),.none,(.fields #[(.str "__dict__" 1155),(.ref 671),(.builtin "function.__dict__"),(.builtin "function.__dict__#set")]),#[]⟩)::
((nat_lit 673),⟨(.type "getset_descriptor"),.none,(.fields #[(.str "__weakref__" 1157),(.ref 671),(.builtin "ExceptionGroup.__weakref__"),.none]),#[]⟩)::
((nat_lit 676),⟨(.type "tuple"),.none,(.seq #[] 0),#[]⟩)::
((nat_lit 678),⟨(.type "tuple"),.none,(.seq #[(.str "script" 1167),(.str "k" 1168),(.str "cell" 1169),(.str "big" 1170),(.str "mixed" 1171)] 0),#[]⟩)::
((nat_lit 679),⟨(.type "tuple"),.none,(.seq #[] 0),#[]⟩)::
((nat_lit 681),⟨(.type "code"),.none,(.fields #[(.str "_law_pool" 1164),(.str "_law_pool" 1165),(.str "/claim/cut.py" 1166),(.int 508 0),(.int 2 0),(.int 0 0),(.int 0 0),(.int 3 0),(.ref 676),(.bool .true),(.int 181 0),(.ref 677),.none,(.ref 678),(.ref 679),(.ref 680),(.int 1172 0),(.int 508 0),(.str "/claim/cut.py" 1173)]),#[]⟩)::
((nat_lit 682),(fun (a : Arguments) (b : List Stmt) (c : Scope) (_ : sig (pick 65 0) = some (a, b, c)) => (⟨(.type "function"),.none,(.func ⟨"_law_pool","_law_pool",a,(.stmts b),c,3,[],.none,.none,.none,(.str "law_xm0611_01" 1162),.none,(.ref 681),.none,0⟩),#[]⟩ : Obj)) _ _ _ rfl)::
((nat_lit 683),⟨(.type "tuple"),.none,(.seq #[] 0),#[]⟩)::
((nat_lit 685),⟨(.type "tuple"),.none,(.seq #[(.str "source" 1178),(.str "top" 1179),(.str "drawn" 1180)] 0),#[]⟩)::
((nat_lit 686),⟨(.type "tuple"),.none,(.seq #[] 0),#[]⟩)::
((nat_lit 688),⟨(.type "code"),.none,(.fields #[(.str "_law_take" 1175),(.str "_law_take" 1176),(.str "/claim/cut.py" 1177),(.int 515 0),(.int 2 0),(.int 0 0),(.int 0 0),(.int 3 0),(.ref 683),(.bool .true),(.int 181 0),(.ref 684),.none,(.ref 685),(.ref 686),(.ref 687),(.int 1181 0),(.int 515 0),(.str "/claim/cut.py" 1182)]),#[]⟩)::
((nat_lit 689),(fun (a : Arguments) (b : List Stmt) (c : Scope) (_ : sig (pick 66 0) = some (a, b, c)) => (⟨(.type "function"),.none,(.func ⟨"_law_take","_law_take",a,(.stmts b),c,3,[],.none,.none,.none,(.str "law_xm0611_01" 1162),.none,(.ref 688),.none,0⟩),#[]⟩ : Obj)) _ _ _ rfl)::
((nat_lit 690),⟨(.type "tuple"),.none,(.seq #[] 0),#[]⟩)::
((nat_lit 692),⟨(.type "tuple"),.none,(.seq #[(.str "source" 1187),(.str "things" 1188)] 0),#[]⟩)::
((nat_lit 693),⟨(.type "tuple"),.none,(.seq #[] 0),#[]⟩)::
((nat_lit 695),⟨(.type "code"),.none,(.fields #[(.str "_law_one" 1184),(.str "_law_one" 1185),(.str "/claim/cut.py" 1186),(.int 522 0),(.int 2 0),(.int 0 0),(.int 0 0),(.int 3 0),(.ref 690),(.bool .true),(.int 181 0),(.ref 691),.none,(.ref 692),(.ref 693),(.ref 694),(.int 1189 0),(.int 522 0),(.str "/claim/cut.py" 1190)]),#[]⟩)::
((nat_lit 696),(fun (a : Arguments) (b : List Stmt) (c : Scope) (_ : sig (pick 67 0) = some (a, b, c)) => (⟨(.type "function"),.none,(.func ⟨"_law_one","_law_one",a,(.stmts b),c,3,[],.none,.none,.none,(.str "law_xm0611_01" 1162),.none,(.ref 695),.none,0⟩),#[]⟩ : Obj)) _ _ _ rfl)::
((nat_lit 697),⟨(.type "tuple"),.none,(.seq #[] 0),#[]⟩)::
((nat_lit 699),⟨(.type "tuple"),.none,(.seq #[(.str "kind" 1195)] 0),#[]⟩)::
((nat_lit 700),⟨(.type "tuple"),.none,(.seq #[] 0),#[]⟩)::
((nat_lit 702),⟨(.type "code"),.none,(.fields #[(.str "_law_wide" 1192),(.str "_law_wide" 1193),(.str "/claim/cut.py" 1194),(.int 524 0),(.int 1 0),(.int 0 0),(.int 0 0),(.int 3 0),(.ref 697),(.bool .true),(.int 181 0),(.ref 698),.none,(.ref 699),(.ref 700),(.ref 701),(.int 1196 0),(.int 524 0),(.str "/claim/cut.py" 1197)]),#[]⟩)::
((nat_lit 703),(fun (a : Arguments) (b : List Stmt) (c : Scope) (_ : sig (pick 68 0) = some (a, b, c)) => (⟨(.type "function"),.none,(.func ⟨"_law_wide","_law_wide",a,(.stmts b),c,3,[],.none,.none,.none,(.str "law_xm0611_01" 1162),.none,(.ref 702),.none,0⟩),#[]⟩ : Obj)) _ _ _ rfl)::
((nat_lit 704),⟨(.type "tuple"),.none,(.seq #[] 0),#[]⟩)::
((nat_lit 706),⟨(.type "tuple"),.none,(.seq #[(.str "kind" 1202),(.str "number" 1203),(.str "rest" 1204)] 0),#[]⟩)::
((nat_lit 707),⟨(.type "tuple"),.none,(.seq #[] 0),#[]⟩)::
((nat_lit 709),⟨(.type "code"),.none,(.fields #[(.str "_law_led" 1199),(.str "_law_led" 1200),(.str "/claim/cut.py" 1201),(.int 526 0),(.int 2 0),(.int 0 0),(.int 0 0),(.int 3 0),(.ref 704),(.bool .true),(.int 181 0),(.ref 705),.none,(.ref 706),(.ref 707),(.ref 708),(.int 1205 0),(.int 526 0),(.str "/claim/cut.py" 1206)]),#[]⟩)::
((nat_lit 710),(fun (a : Arguments) (b : List Stmt) (c : Scope) (_ : sig (pick 69 0) = some (a, b, c)) => (⟨(.type "function"),.none,(.func ⟨"_law_led","_law_led",a,(.stmts b),c,3,[],.none,.none,.none,(.str "law_xm0611_01" 1162),.none,(.ref 709),.none,0⟩),#[]⟩ : Obj)) _ _ _ rfl)::
((nat_lit 711),⟨(.type "tuple"),.none,(.seq #[] 0),#[]⟩)::
((nat_lit 713),⟨(.type "tuple"),.none,(.seq #[(.str "source" 1211),(.str "kind" 1212),(.str "high" 1213)] 0),#[]⟩)::
((nat_lit 714),⟨(.type "tuple"),.none,(.seq #[] 0),#[]⟩)::
((nat_lit 716),⟨(.type "code"),.none,(.fields #[(.str "_law_number" 1208),(.str "_law_number" 1209),(.str "/claim/cut.py" 1210),(.int 529 0),(.int 2 0),(.int 0 0),(.int 0 0),(.int 3 0),(.ref 711),(.bool .true),(.int 181 0),(.ref 712),.none,(.ref 713),(.ref 714),(.ref 715),(.int 1214 0),(.int 529 0),(.str "/claim/cut.py" 1215)]),#[]⟩)::
((nat_lit 717),(fun (a : Arguments) (b : List Stmt) (c : Scope) (_ : sig (pick 70 0) = some (a, b, c)) => (⟨(.type "function"),.none,(.func ⟨"_law_number","_law_number",a,(.stmts b),c,3,[],.none,.none,.none,(.str "law_xm0611_01" 1162),.none,(.ref 716),.none,0⟩),#[]⟩ : Obj)) _ _ _ rfl)::
((nat_lit 718),⟨(.type "tuple"),.none,(.seq #[] 0),#[]⟩)::
((nat_lit 720),⟨(.type "tuple"),.none,(.seq #[(.str "kind" 1220),(.str "op" 1221),(.str "a" 1222),(.str "b" 1223),(.str "many" 1224),(.str "whole" 1225)] 0),#[]⟩)::
((nat_lit 721),⟨(.type "tuple"),.none,(.seq #[] 0),#[]⟩)::
((nat_lit 723),⟨(.type "code"),.none,(.fields #[(.str "_law_reckoned" 1217),(.str "_law_reckoned" 1218),(.str "/claim/cut.py" 1219),(.int 534 0),(.int 4 0),(.int 0 0),(.int 0 0),(.int 3 0),(.ref 718),(.bool .true),(.int 181 0),(.ref 719),.none,(.ref 720),(.ref 721),(.ref 722),(.int 1226 0),(.int 534 0),(.str "/claim/cut.py" 1227)]),#[]⟩)::
((nat_lit 724),(fun (a : Arguments) (b : List Stmt) (c : Scope) (_ : sig (pick 71 0) = some (a, b, c)) => (⟨(.type "function"),.none,(.func ⟨"_law_reckoned","_law_reckoned",a,(.stmts b),c,3,[],.none,.none,.none,(.str "law_xm0611_01" 1162),.none,(.ref 723),.none,0⟩),#[]⟩ : Obj)) _ _ _ rfl)::
((nat_lit 725),⟨(.type "tuple"),.none,(.seq #[] 0),#[]⟩)::
((nat_lit 727),⟨(.type "tuple"),.none,(.seq #[(.str "kind" 1232),(.str "op" 1233),(.str "a" 1234),(.str "many" 1235),(.str "turn" 1236)] 0),#[]⟩)::
((nat_lit 728),⟨(.type "tuple"),.none,(.seq #[] 0),#[]⟩)::
((nat_lit 730),⟨(.type "code"),.none,(.fields #[(.str "_law_shifted" 1229),(.str "_law_shifted" 1230),(.str "/claim/cut.py" 1231),(.int 546 0),(.int 4 0),(.int 0 0),(.int 0 0),(.int 3 0),(.ref 725),(.bool .true),(.int 181 0),(.ref 726),.none,(.ref 727),(.ref 728),(.ref 729),(.int 1237 0),(.int 546 0),(.str "/claim/cut.py" 1238)]),#[]⟩)::
((nat_lit 731),(fun (a : Arguments) (b : List Stmt) (c : Scope) (_ : sig (pick 72 0) = some (a, b, c)) => (⟨(.type "function"),.none,(.func ⟨"_law_shifted","_law_shifted",a,(.stmts b),c,3,[],.none,.none,.none,(.str "law_xm0611_01" 1162),.none,(.ref 730),.none,0⟩),#[]⟩ : Obj)) _ _ _ rfl)::
((nat_lit 732),⟨(.type "tuple"),.none,(.seq #[] 0),#[]⟩)::
((nat_lit 734),⟨(.type "tuple"),.none,(.seq #[(.str "kind" 1243),(.str "op" 1244),(.str "a" 1245),(.str "b" 1246),(.str "found" 1247),(.str "at" 1248),(.str "ones" 1249)] 0),#[]⟩)::
((nat_lit 735),⟨(.type "tuple"),.none,(.seq #[] 0),#[]⟩)::
((nat_lit 737),⟨(.type "code"),.none,(.fields #[(.str "_law_bits" 1240),(.str "_law_bits" 1241),(.str "/claim/cut.py" 1242),(.int 550 0),(.int 4 0),(.int 0 0),(.int 0 0),(.int 3 0),(.ref 732),(.bool .true),(.int 181 0),(.ref 733),.none,(.ref 734),(.ref 735),(.ref 736),(.int 1250 0),(.int 550 0),(.str "/claim/cut.py" 1251)]),#[]⟩)::
((nat_lit 738),(fun (a : Arguments) (b : List Stmt) (c : Scope) (_ : sig (pick 73 0) = some (a, b, c)) => (⟨(.type "function"),.none,(.func ⟨"_law_bits","_law_bits",a,(.stmts b),c,3,[],.none,.none,.none,(.str "law_xm0611_01" 1162),.none,(.ref 737),.none,0⟩),#[]⟩ : Obj)) _ _ _ rfl)::
((nat_lit 739),⟨(.type "tuple"),.none,(.seq #[] 0),#[]⟩)::
((nat_lit 741),⟨(.type "tuple"),.none,(.seq #[(.str "op" 1256),(.str "a" 1257),(.str "b" 1258),(.str "order" 1259)] 0),#[]⟩)::
((nat_lit 742),⟨(.type "tuple"),.none,(.seq #[] 0),#[]⟩)::
((nat_lit 744),⟨(.type "code"),.none,(.fields #[(.str "_law_compared" 1253),(.str "_law_compared" 1254),(.str "/claim/cut.py" 1255),(.int 556 0),(.int 3 0),(.int 0 0),(.int 0 0),(.int 3 0),(.ref 739),(.bool .true),(.int 181 0),(.ref 740),.none,(.ref 741),(.ref 742),(.ref 743),(.int 1260 0),(.int 556 0),(.str "/claim/cut.py" 1261)]),#[]⟩)::
((nat_lit 745),(fun (a : Arguments) (b : List Stmt) (c : Scope) (_ : sig (pick 74 0) = some (a, b, c)) => (⟨(.type "function"),.none,(.func ⟨"_law_compared","_law_compared",a,(.stmts b),c,3,[],.none,.none,.none,(.str "law_xm0611_01" 1162),.none,(.ref 744),.none,0⟩),#[]⟩ : Obj)) _ _ _ rfl)::
((nat_lit 746),⟨(.type "tuple"),.none,(.seq #[] 0),#[]⟩)::
((nat_lit 748),⟨(.type "tuple"),.none,(.seq #[(.str "call" 1266),(.str "fault" 1267)] 0),#[]⟩)::
((nat_lit 749),⟨(.type "tuple"),.none,(.seq #[] 0),#[]⟩)::
((nat_lit 751),⟨(.type "code"),.none,(.fields #[(.str "_law_told" 1263),(.str "_law_told" 1264),(.str "/claim/cut.py" 1265),(.int 561 0),(.int 1 0),(.int 0 0),(.int 0 0),(.int 3 0),(.ref 746),(.bool .true),(.int 181 0),(.ref 747),.none,(.ref 748),(.ref 749),(.ref 750),(.int 1268 0),(.int 561 0),(.str "/claim/cut.py" 1269)]),#[]⟩)::
((nat_lit 752),(fun (a : Arguments) (b : List Stmt) (c : Scope) (_ : sig (pick 75 0) = some (a, b, c)) => (⟨(.type "function"),.none,(.func ⟨"_law_told","_law_told",a,(.stmts b),c,3,[],.none,.none,.none,(.str "law_xm0611_01" 1162),.none,(.ref 751),.none,0⟩),#[]⟩ : Obj)) _ _ _ rfl)::
((nat_lit 753),⟨(.type "tuple"),.none,(.seq #[] 0),#[]⟩)::
((nat_lit 756),⟨(.type "code"),.none,(.fields #[(.str "_law_pair_right" 1271),(.str "_law_pair_right" 1272),(.str "/claim/cut.py" 1273),(.int 566 0),(.int 6 0),(.int 0 0),(.int 0 0),(.int 3 0),(.ref 753),(.bool .true),(.int 181 0),(.ref 754),.none,.none,.none,(.ref 755),(.int 1274 0),(.int 566 0),(.str "/claim/cut.py" 1275)]),#[]⟩)::
((nat_lit 757),(fun (a : Arguments) (b : List Stmt) (c : Scope) (_ : sig (pick 76 0) = some (a, b, c)) => (⟨(.type "function"),.none,(.func ⟨"_law_pair_right","_law_pair_right",a,(.stmts b),c,3,[],.none,.none,.none,(.str "law_xm0611_01" 1162),.none,(.ref 756),.none,0⟩),#[]⟩ : Obj)) _ _ _ rfl)::
((nat_lit 758),⟨(.type "tuple"),.none,(.seq #[] 0),#[]⟩)::
((nat_lit 760),⟨(.type "tuple"),.none,(.seq #[(.str "rvalues" 1280),(.str "op" 1281),(.str "one" 1282),(.str "other" 1283),(.str "due" 1284)] 0),#[]⟩)::
((nat_lit 761),⟨(.type "tuple"),.none,(.seq #[] 0),#[]⟩)::
((nat_lit 763),⟨(.type "code"),.none,(.fields #[(.str "_law_same" 1277),(.str "_law_same" 1278),(.str "/claim/cut.py" 1279),(.int 575 0),(.int 5 0),(.int 0 0),(.int 0 0),(.int 3 0),(.ref 758),(.bool .true),(.int 181 0),(.ref 759),.none,(.ref 760),(.ref 761),(.ref 762),(.int 1285 0),(.int 575 0),(.str "/claim/cut.py" 1286)]),#[]⟩)::
((nat_lit 764),(fun (a : Arguments) (b : List Stmt) (c : Scope) (_ : sig (pick 77 0) = some (a, b, c)) => (⟨(.type "function"),.none,(.func ⟨"_law_same","_law_same",a,(.stmts b),c,3,[],.none,.none,.none,(.str "law_xm0611_01" 1162),.none,(.ref 763),.none,0⟩),#[]⟩ : Obj)) _ _ _ rfl)::
((nat_lit 765),⟨(.type "tuple"),.none,(.seq #[] 0),#[]⟩)::
((nat_lit 767),⟨(.type "tuple"),.none,(.seq #[(.str "source" 1291),(.str "rvalues" 1292),(.str "a" 1293),(.str "b" 1294),(.str "one" 1295),(.str "other" 1296),(.str "op" 1297),(.str "due" 1298),(.str "told" 1299)] 0),#[]⟩)::
((nat_lit 768),⟨(.type "tuple"),.none,(.seq #[] 0),#[]⟩)::
((nat_lit 770),⟨(.type "code"),.none,(.fields #[(.str "_law_truths_right" 1288),(.str "_law_truths_right" 1289),(.str "/claim/cut.py" 1290),(.int 577 0),(.int 2 0),(.int 0 0),(.int 0 0),(.int 3 0),(.ref 765),(.bool .true),(.int 181 0),(.ref 766),.none,(.ref 767),(.ref 768),(.ref 769),(.int 1300 0),(.int 577 0),(.str "/claim/cut.py" 1301)]),#[]⟩)::
((nat_lit 771),(fun (a : Arguments) (b : List Stmt) (c : Scope) (_ : sig (pick 78 0) = some (a, b, c)) => (⟨(.type "function"),.none,(.func ⟨"_law_truths_right","_law_truths_right",a,(.stmts b),c,3,[],.none,.none,.none,(.str "law_xm0611_01" 1162),.none,(.ref 770),.none,0⟩),#[]⟩ : Obj)) _ _ _ rfl)::
((nat_lit 772),⟨(.type "tuple"),.none,(.seq #[] 0),#[]⟩)::
((nat_lit 774),⟨(.type "tuple"),.none,(.seq #[(.str "source" 1306),(.str "rvalues" 1307),(.str "kinds" 1308),(.str "kind" 1309),(.str "wide" 1310),(.str "a" 1311),(.str "b" 1312),(.str "one" 1313),(.str "other" 1314),(.str "op" 1315),(.str "many" 1316),(.str "due" 1317),(.str "told" 1318),(.str "full" 1319)] 0),#[]⟩)::
((nat_lit 775),⟨(.type "tuple"),.none,(.seq #[] 0),#[]⟩)::
((nat_lit 777),⟨(.type "code"),.none,(.fields #[(.str "_law_numbers_right" 1303),(.str "_law_numbers_right" 1304),(.str "/claim/cut.py" 1305),(.int 590 0),(.int 2 0),(.int 0 0),(.int 0 0),(.int 3 0),(.ref 772),(.bool .true),(.int 181 0),(.ref 773),.none,(.ref 774),(.ref 775),(.ref 776),(.int 1320 0),(.int 590 0),(.str "/claim/cut.py" 1321)]),#[]⟩)::
((nat_lit 778),(fun (a : Arguments) (b : List Stmt) (c : Scope) (_ : sig (pick 79 0) = some (a, b, c)) => (⟨(.type "function"),.none,(.func ⟨"_law_numbers_right","_law_numbers_right",a,(.stmts b),c,3,[],.none,.none,.none,(.str "law_xm0611_01" 1162),.none,(.ref 777),.none,0⟩),#[]⟩ : Obj)) _ _ _ rfl)::
((nat_lit 779),⟨(.type "tuple"),.none,(.seq #[] 0),#[]⟩)::
((nat_lit 781),⟨(.type "tuple"),.none,(.seq #[(.str "script" 1326),(.str "rvalues" 1327),(.str "byte" 1328),(.str "k" 1329),(.str "source" 1330)] 0),#[]⟩)::
((nat_lit 782),⟨(.type "tuple"),.none,(.seq #[] 0),#[]⟩)::
((nat_lit 784),⟨(.type "code"),.none,(.fields #[(.str "law" 1323),(.str "law" 1324),(.str "/claim/cut.py" 1325),(.int 613 0),(.int 1 0),(.int 0 0),(.int 0 0),(.int 3 0),(.ref 779),(.bool .true),(.int 181 0),(.ref 780),.none,(.ref 781),(.ref 782),(.ref 783),(.int 1331 0),(.int 613 0),(.str "/claim/cut.py" 1332)]),#[]⟩)::
((nat_lit 785),(fun (a : Arguments) (b : List Stmt) (c : Scope) (_ : sig (pick 80 0) = some (a, b, c)) => (⟨(.type "function"),.none,(.func ⟨"law","law",a,(.stmts b),c,3,[],.none,.none,.none,(.str "law_xm0611_01" 1162),.none,(.ref 784),.none,0⟩),#[]⟩ : Obj)) _ _ _ rfl)::[])
noncomputable abbrev as : List Addr := (nat_lit 2::nat_lit 3::nat_lit 15::nat_lit 17::nat_lit 18::nat_lit 22::nat_lit 29::nat_lit 30::nat_lit 32::nat_lit 33::nat_lit 35::nat_lit 36::nat_lit 37::nat_lit 38::nat_lit 39::nat_lit 40::nat_lit 43::nat_lit 50::nat_lit 51::nat_lit 52::nat_lit 55::nat_lit 62::nat_lit 64::nat_lit 65::nat_lit 67::nat_lit 68::nat_lit 69::nat_lit 70::nat_lit 71::nat_lit 74::nat_lit 81::nat_lit 82::nat_lit 83::nat_lit 86::nat_lit 88::nat_lit 89::nat_lit 93::nat_lit 95::nat_lit 96::nat_lit 100::nat_lit 105::nat_lit 110::nat_lit 112::nat_lit 113::nat_lit 117::nat_lit 120::nat_lit 121::nat_lit 122::nat_lit 124::nat_lit 125::nat_lit 129::nat_lit 131::nat_lit 132::nat_lit 136::nat_lit 141::nat_lit 143::nat_lit 144::nat_lit 148::nat_lit 153::nat_lit 155::nat_lit 156::nat_lit 160::nat_lit 172::nat_lit 174::nat_lit 175::nat_lit 179::nat_lit 181::nat_lit 182::nat_lit 186::nat_lit 188::nat_lit 189::nat_lit 193::nat_lit 195::nat_lit 196::nat_lit 200::nat_lit 205::nat_lit 207::nat_lit 208::nat_lit 212::nat_lit 214::nat_lit 215::nat_lit 219::nat_lit 220::nat_lit 221::nat_lit 222::nat_lit 223::nat_lit 226::nat_lit 227::nat_lit 229::nat_lit 230::nat_lit 234::nat_lit 236::nat_lit 237::nat_lit 248::nat_lit 253::nat_lit 254::nat_lit 255::nat_lit 256::nat_lit 257::nat_lit 267::nat_lit 269::nat_lit 270::nat_lit 272::nat_lit 273::nat_lit 274::nat_lit 276::nat_lit 277::nat_lit 281::nat_lit 283::nat_lit 284::nat_lit 288::nat_lit 290::nat_lit 291::nat_lit 295::nat_lit 297::nat_lit 298::nat_lit 302::nat_lit 304::nat_lit 305::nat_lit 309::nat_lit 311::nat_lit 312::nat_lit 316::nat_lit 318::nat_lit 319::nat_lit 323::nat_lit 325::nat_lit 326::nat_lit 330::nat_lit 332::nat_lit 333::nat_lit 337::nat_lit 339::nat_lit 340::nat_lit 344::nat_lit 349::nat_lit 351::nat_lit 352::nat_lit 356::nat_lit 358::nat_lit 359::nat_lit 363::nat_lit 364::nat_lit 365::nat_lit 366::nat_lit 367::nat_lit 370::nat_lit 372::nat_lit 373::nat_lit 377::nat_lit 380::nat_lit 381::nat_lit 382::nat_lit 384::nat_lit 385::nat_lit 387::nat_lit 388::nat_lit 389::nat_lit 391::nat_lit 392::nat_lit 396::nat_lit 398::nat_lit 399::nat_lit 403::nat_lit 404::nat_lit 407::nat_lit 408::nat_lit 409::nat_lit 411::nat_lit 412::nat_lit 416::nat_lit 418::nat_lit 419::nat_lit 423::nat_lit 424::nat_lit 426::nat_lit 427::nat_lit 429::nat_lit 430::nat_lit 431::nat_lit 433::nat_lit 434::nat_lit 436::nat_lit 437::nat_lit 438::nat_lit 440::nat_lit 441::nat_lit 443::nat_lit 444::nat_lit 445::nat_lit 447::nat_lit 448::nat_lit 450::nat_lit 451::nat_lit 452::nat_lit 454::nat_lit 455::nat_lit 457::nat_lit 458::nat_lit 459::nat_lit 461::nat_lit 462::nat_lit 464::nat_lit 465::nat_lit 466::nat_lit 468::nat_lit 469::nat_lit 471::nat_lit 472::nat_lit 473::nat_lit 475::nat_lit 476::nat_lit 478::nat_lit 479::nat_lit 480::nat_lit 482::nat_lit 483::nat_lit 485::nat_lit 486::nat_lit 487::nat_lit 489::nat_lit 490::nat_lit 492::nat_lit 493::nat_lit 494::nat_lit 496::nat_lit 497::nat_lit 499::nat_lit 500::nat_lit 501::nat_lit 503::nat_lit 504::nat_lit 506::nat_lit 507::nat_lit 508::nat_lit 509::nat_lit 510::nat_lit 512::nat_lit 513::nat_lit 517::nat_lit 519::nat_lit 520::nat_lit 522::nat_lit 523::nat_lit 524::nat_lit 526::nat_lit 527::nat_lit 529::nat_lit 530::nat_lit 538::nat_lit 540::nat_lit 541::nat_lit 543::nat_lit 544::nat_lit 545::nat_lit 547::nat_lit 548::nat_lit 552::nat_lit 554::nat_lit 555::nat_lit 559::nat_lit 561::nat_lit 562::nat_lit 566::nat_lit 568::nat_lit 569::nat_lit 573::nat_lit 575::nat_lit 576::nat_lit 580::nat_lit 582::nat_lit 583::nat_lit 587::nat_lit 589::nat_lit 590::nat_lit 594::nat_lit 596::nat_lit 597::nat_lit 599::nat_lit 600::nat_lit 601::nat_lit 602::nat_lit 603::nat_lit 604::nat_lit 605::nat_lit 615::nat_lit 617::nat_lit 618::nat_lit 620::nat_lit 621::nat_lit 622::nat_lit 624::nat_lit 625::nat_lit 629::nat_lit 631::nat_lit 632::nat_lit 636::nat_lit 638::nat_lit 639::nat_lit 641::nat_lit 642::nat_lit 643::nat_lit 645::nat_lit 646::nat_lit 648::nat_lit 649::nat_lit 650::nat_lit 652::nat_lit 653::nat_lit 657::nat_lit 659::nat_lit 660::nat_lit 664::nat_lit 669::nat_lit 670::nat_lit 671::nat_lit 672::nat_lit 673::nat_lit 676::nat_lit 678::nat_lit 679::nat_lit 681::nat_lit 682::nat_lit 683::nat_lit 685::nat_lit 686::nat_lit 688::nat_lit 689::nat_lit 690::nat_lit 692::nat_lit 693::nat_lit 695::nat_lit 696::nat_lit 697::nat_lit 699::nat_lit 700::nat_lit 702::nat_lit 703::nat_lit 704::nat_lit 706::nat_lit 707::nat_lit 709::nat_lit 710::nat_lit 711::nat_lit 713::nat_lit 714::nat_lit 716::nat_lit 717::nat_lit 718::nat_lit 720::nat_lit 721::nat_lit 723::nat_lit 724::nat_lit 725::nat_lit 727::nat_lit 728::nat_lit 730::nat_lit 731::nat_lit 732::nat_lit 734::nat_lit 735::nat_lit 737::nat_lit 738::nat_lit 739::nat_lit 741::nat_lit 742::nat_lit 744::nat_lit 745::nat_lit 746::nat_lit 748::nat_lit 749::nat_lit 751::nat_lit 752::nat_lit 753::nat_lit 756::nat_lit 757::nat_lit 758::nat_lit 760::nat_lit 761::nat_lit 763::nat_lit 764::nat_lit 765::nat_lit 767::nat_lit 768::nat_lit 770::nat_lit 771::nat_lit 772::nat_lit 774::nat_lit 775::nat_lit 777::nat_lit 778::nat_lit 779::nat_lit 781::nat_lit 782::nat_lit 784::nat_lit 785::[])
theorem as_eq (P : Params) : as = (heap_39 P).map (·.1) := by kernel_rfl
noncomputable abbrev H : Hook := kmHook heap_39 as as_eq [754, 118]
noncomputable abbrev st1 (w : World) (os : OsState) : Shared := ⟨absHeap (T9 w.params) (nat_lit 786) {}, ⟨[]⟩, {}, nat_lit 1334, os⟩
theorem la (w : World) : (fun os => staticsOk (importedModules PW.main.body) (boot_heap w.params) (st1 w os).heap && namesBound PW (st1 w os).heap && gensDone (st1 w os) && laidKept (boot_heap w.params) (st1 w os).heap) = fun _ => true := by kernel_rfl
noncomputable abbrev Xt : Shared → Bool := fun s => xlAt q1 [] s && recOk (PySem.W.OpenRow.toRowW PySem.Challenge.rw_xm0611_01.row).records s
theorem lb' (w : World) : (fun os => PySem.W.Fast.tw4187177175401517315 q1 lo (importedModules PW.main.body) Xt true (st1 w os)) = fun _ => openGood q1 lo := by kernel_rfl
theorem lb (w : World) : (fun os => openSeen q1 lo (importedModules PW.main.body) Xt true (st1 w os)) = fun _ => openGood q1 lo := by
  rw [PySem.W.Fast.te4187177175401517315]; exact lb' w
theorem lc (w : World) : (fun os => H.obs (st1 w os)) = fun _ => H.val w := by kernel_rfl
theorem opened (w : World) : (fencedOpening treeTable PW w 10530).map (fun s => (s.heap, s.gens, s.drawn, s.toks)) = some (boot_heap w.params, ⟨[]⟩, boot_drawn, boot_toks) :=
  boot_open (by kernel_rfl) rfl (fun s => by kernel_rfl) w
theorem sized (w : World) : ((boot_heap w.params).isNs mainGlobals && (⟨[]⟩ : Array GenState).size == 0, (boot_heap w.params).objs.size, (boot_heap w.params).nsMap mainGlobals "__annotations__") = (true, 11, some (.ref 6)) := by kernel_rfl
theorem left : LeftO PW q1 lo Xt H.obs H.val 10530 true :=
  LeftO.of_pieces (H₀ := boot_heap) (H₁ := fun P => absHeap (T9 P) (nat_lit 786) {}) opened sized run (by decide) fun w => funext fun os => Prod.ext (congrFun (la w) os) (Prod.ext (congrFun (lb w) os) (congrFun (lc w) os))
set_option maxHeartbeats 0 in
theorem said : PySem.Challenge.rw_xm0611_01.wellSaid = true := by
  rw [PySem.W.Fast.te9446332074065402090]
  delta PySem.W.Fast.tw9446332074065402090
  repeat' with_reducible refine look_both ?_ ?_
  all_goals first | (delta PySem.W.Fast.tw17960256430627541270; repeat' with_reducible refine look_both ?_ ?_) | skip
  all_goals first | (delta PySem.W.Fast.tw2436336058641802641; repeat' with_reducible refine look_both ?_ ?_) | skip
  all_goals first | (delta PySem.W.Fast.tw9825065953147845992; repeat' with_reducible refine look_both ?_ ?_) | skip
  all_goals first | (delta PySem.W.Fast.tw12908688711261696721; repeat' with_reducible refine look_both ?_ ?_) | skip
  all_goals decide +kernel
end hd
noncomputable def hd.law3 : Arguments × List Stmt × Scope := (hd.sig (hd.pick 80 0)).elim (⟨[], [], none, [], [], none, []⟩, [], ⟨.function, [], false, false, []⟩) id
set_option maxHeartbeats 0 in
theorem hd {a : Arguments} {b : List Stmt} {c : Scope} (e : hd.sig (hd.pick 80 0) = some (a, b, c)) (walk : WalkO hd.q1 hd.lo (XL hd.q1 []) hd.H.says (PySem.W.OpenRow.toRowW PySem.Challenge.rw_xm0611_01.row) ⟨"law", a, b, c, ⟨613,0,623,15⟩⟩ [] (fun f vs => PySem.call f vs)) : PySem.Challenge.rw_xm0611_01.Holds := by
  have e' : hd.law3 = (a, b, c) := by unfold hd.law3; rw [e]; rfl
  obtain rfl : a = hd.law3.1 := by rw [e']
  obtain rfl : b = hd.law3.2.1 := by rw [e']
  obtain rfl : c = hd.law3.2.2 := by rw [e']
  clear e e'
  refine holds_law hd.said fun said => ?_
  refine holds_open (q := hd.q1) (loose := hd.lo) (Xt := hd.Xt) (XP := XL hd.q1 []) (Yf := hd.H.obs) (Ya := hd.H.val) (YP := hd.H.says) (N := 10530) hd.left (Hook.of hd.H) (Hook.keeps hd.H) (fun s e => xl_of s (Bool.and_eq_true_iff.mp e).1) XL.keeps ?h1 ?h2 ?h3 (fun s e => recFacts_of (Bool.and_eq_true_iff.mp e).2) rfl said ?ok ⟨rfl, rfl, rfl, rfl, rfl, by decide +kernel⟩ ?hw walk
  case h1 => kernel_rfl
  case h2 => kernel_rfl
  case h3 => kernel_rfl
  case ok => decide +kernel
  case hw => w_witness2

theorem neLt {l : List (Addr × Obj)} {a d : Addr} {o : Obj} (h : ∀ p ∈ l, p.1 < d) (m : (a, o) ∈ l) : @Ne Nat a d := Nat.ne_of_lt (h _ m)
theorem neGt {l : List (Addr × Obj)} {a d : Addr} {o : Obj} (h : ∀ p ∈ l, p.1 < d) (m : (a, o) ∈ l) : @Ne Nat d a := Nat.ne_of_gt (h _ m)
theorem neLtK {l : List (Addr × Obj)} {a d k : Nat} {o : Obj} (h : ∀ p ∈ l, p.1 < d) (m : (a, o) ∈ l) : @Ne Nat a (d + k) := Nat.ne_of_lt (Nat.lt_of_lt_of_le (h _ m) (Nat.le_add_right _ _))
theorem neGtK {l : List (Addr × Obj)} {a d k : Nat} {o : Obj} (h : ∀ p ∈ l, p.1 < d) (m : (a, o) ∈ l) : @Ne Nat (d + k) a := Nat.ne_of_gt (Nat.lt_of_lt_of_le (h _ m) (Nat.le_add_right _ _))
theorem neLt2 {l : List (Addr × Obj)} {a d x : Nat} {o : Obj} (e : d < x) (h : ∀ p ∈ l, p.1 < d) (m : (a, o) ∈ l) : @Ne Nat a x := Nat.ne_of_lt (Nat.lt_trans (h _ m) e)
theorem neGt2 {l : List (Addr × Obj)} {a d x : Nat} {o : Obj} (e : d < x) (h : ∀ p ∈ l, p.1 < d) (m : (a, o) ∈ l) : @Ne Nat x a := Nat.ne_of_gt (Nat.lt_trans (h _ m) e)
theorem neNe {l : List (Addr × Obj)} {a d : Addr} {o : Obj} (h : ∀ p ∈ l, @Ne Nat p.1 d) (m : (a, o) ∈ l) : @Ne Nat a d := h _ m
theorem neEn {l : List (Addr × Obj)} {a d : Addr} {o : Obj} (h : ∀ p ∈ l, @Ne Nat p.1 d) (m : (a, o) ∈ l) : @Ne Nat d a := (h _ m).symm
theorem allLtNe {l : List (Addr × Obj)} {d : Addr} (h : ∀ p ∈ l, p.1 < d) : ∀ p ∈ l, @Ne Nat p.1 d := fun p m => Nat.ne_of_lt (h p m)
theorem room2 {x c b a R : Nat} (h : x + a < R) (e : Nat.ble (c + b) a = true) : x + c + b < R := by
  have := Nat.le_of_ble_eq_true e; omega
theorem room1 {x b a R : Nat} (h : x + a < R) (e : Nat.ble b a = true) : x + b < R := by
  have := Nat.le_of_ble_eq_true e; omega
theorem room0 {x a R : Nat} (h : x + a < R) : x < R := by omega
theorem sizeAt {n : Nat} (e : Nat.ble n 16777216 = true) : n ≤ sizeLine := by rw [sizeLine_eq]; exact Nat.le_of_ble_eq_true e
theorem freshN {h₀ h : Heap} {L D : Addr} {news : List (Addr × Obj)} (N : News h₀ L h news) (nd : h.get? D = none) : ∀ q ∈ news, @Ne Nat q.1 D := fun q hq e => by
  have := (N q hq).1
  rw [e, nd] at this; cases this
theorem newsTail {h₀ h : Heap} {L : Addr} {x : Addr × Obj} {news : List (Addr × Obj)} (N : News h₀ L h (x :: news)) : News h₀ L h news := fun q hq => N q (.tail _ hq)
def AllNe' (D : Nat) : List (Addr × Obj) → Prop
  | [] => True
  | p :: r => (@Ne Nat p.1 D) ∧ AllNe' D r
theorem allNe_of' {D : Nat} : ∀ {l : List (Addr × Obj)}, (∀ p ∈ l, @Ne Nat p.1 D) → AllNe' D l
  | [], _ => trivial
  | p :: r, h => ⟨h p (.head _), allNe_of' fun q hq => h q (.tail _ hq)⟩
theorem words_p00b_over_0 : True := by
  k_with "ne" => (((repeat (rename (∀ p ∈ (_ : List (Addr × Obj)), Prod.fst p < (_ : Nat)) => hq8; replace hq8 := allLt_of hq8; simp only [AllLt, and_true] at hq8)); (repeat (rename (∀ p ∈ (_ : List (Addr × Obj)), @Ne Nat (Prod.fst p) _) => hq8; replace hq8 := allNe_of' hq8; simp only [AllNe', and_true] at hq8)); (try dsimp only); omega))
  k_with "ne" => (first | with_reducible assumption | exact Ne.symm (by with_reducible assumption) | exact Nat.ne_of_lt (by with_reducible assumption) | exact Nat.ne_of_gt (by with_reducible assumption) | (refine' neLt ?zqh ?zqm; (case zqh => with_reducible assumption); (case zqm => k_mem)) | (refine' neGt ?zqh ?zqm; (case zqh => with_reducible assumption); (case zqm => k_mem)) | (refine' neNe ?zqh ?zqm; (case zqh => with_reducible assumption); (case zqm => k_mem)) | (refine' neEn ?zqh ?zqm; (case zqh => with_reducible assumption); (case zqm => k_mem)) | (refine' neLt2 ?zqe ?zqh ?zqm; (case zqe => with_reducible assumption); (case zqh => with_reducible assumption); (case zqm => k_mem)) | (refine' neGt2 ?zqe ?zqh ?zqm; (case zqe => with_reducible assumption); (case zqh => with_reducible assumption); (case zqm => k_mem)) | (refine' neLtK ?zqh ?zqm; (case zqh => with_reducible assumption); (case zqm => k_mem)) | (refine' neGtK ?zqh ?zqm; (case zqh => with_reducible assumption); (case zqm => k_mem)) | (walk_say "NE by omega"; fail))
  k_with "all ne" => (first | exact allLtNe (by with_reducible assumption) | with_reducible assumption)
  k_with "size" => (first | exact sizeAt rfl | exact (Nat.le_of_ble_eq_true rfl))
  k_with "room" => (first | exact room2 (by with_reducible assumption) rfl | exact room1 (by with_reducible assumption) rfl | exact room0 (by with_reducible assumption))
  trivial
local macro_rules | `(tactic| walk_at $s:str) => `(tactic| k_extra $s)
local macro_rules | `(tactic| k_ne) => `(tactic| (refine neN ?_; walk_at "ne"))
local macro_rules | `(tactic| k_all) => `(tactic| k_extra "all ne")
local macro_rules | `(tactic| k_lt $h:ident) => `(tactic| skip)
local macro_rules | `(tactic| ktr_room) => `(tactic| k_extra "room")
local macro_rules | `(tactic| ktr_units) => `(tactic| k_extra "room")
local macro_rules | `(tactic| size_fits) => `(tactic| k_extra "size")

/-- the nine kinds -/
inductive Kd where
  | i8 | i16 | i32 | i64 | u8 | u16 | u32 | u64 | us
def Kd.str : Kd → Str
  | .i8 => Str.ofString "i8" | .i16 => Str.ofString "i16" | .i32 => Str.ofString "i32" | .i64 => Str.ofString "i64"
  | .u8 => Str.ofString "u8" | .u16 => Str.ofString "u16" | .u32 => Str.ofString "u32" | .u64 => Str.ofString "u64" | .us => Str.ofString "usize"
def Kd.bits : Kd → Int
  | .i8 => 8 | .i16 => 16 | .i32 => 32 | .i64 => 64 | .u8 => 8 | .u16 => 16 | .u32 => 32 | .u64 => 64 | .us => 64
/-- two to the bits -/
def Kd.pw : Kd → Int
  | .i8 => 256 | .i16 => 65536 | .i32 => 4294967296 | .i64 => 18446744073709551616 | .u8 => 256 | .u16 => 65536 | .u32 => 4294967296 | .u64 => 18446744073709551616 | .us => 18446744073709551616
/-- the half of it -/
def Kd.hf : Kd → Int
  | .i8 => 128 | .i16 => 32768 | .i32 => 2147483648 | .i64 => 9223372036854775808 | .u8 => 128 | .u16 => 32768 | .u32 => 2147483648 | .u64 => 9223372036854775808 | .us => 9223372036854775808
def Kd.sgn : Kd → Bool
  | .i8 => true | .i16 => true | .i32 => true | .i64 => true | _ => false
def Kd.hd : Kd → Str
  | .i8 => Str.ofString "i" | .i16 => Str.ofString "i" | .i32 => Str.ofString "i" | .i64 => Str.ofString "i" | _ => Str.ofString "u"
def Kd.lo (k : Kd) : Int := if k.sgn then 0 - k.hf else 0
def Kd.hi (k : Kd) : Int := if k.sgn then k.hf - 1 else k.pw - 1
def Kd.wrap (k : Kd) (n : Int) : Int := k.lo + (n - k.lo).fmod k.pw
theorem Kd.pw_hf (k : Kd) : k.pw = 2 * k.hf := by cases k <;> rfl
theorem Kd.hf_lo (k : Kd) : 128 ≤ k.hf := by cases k <;> decide
theorem Kd.hf_hi (k : Kd) : k.hf ≤ 9223372036854775808 := by cases k <;> decide
theorem Kd.bits_lo (k : Kd) : 8 ≤ k.bits := by cases k <;> decide
theorem Kd.bits_hi (k : Kd) : k.bits ≤ 64 := by cases k <;> decide
theorem Kd.pw_eq (k : Kd) : (2 : Int) ^ k.bits.toNat = k.pw := by cases k <;> decide +kernel
theorem Kd.hf_eq (k : Kd) : (2 : Int) ^ (k.bits - 1).toNat = k.hf := by cases k <;> decide +kernel
theorem Kd.len (k : Kd) : k.str.length ≤ sizeLine := by cases k <;> decide
theorem Kd.tail_int (k : Kd) (h : (k.str == Str.ofString "usize") = false) : PySem.intText? (Txt.slice k.str (some 1) none) = some k.bits := by revert h; cases k <;> decide +kernel
theorem Kd.tail_len (k : Kd) : (Txt.slice k.str (some 1) none).length ≤ 640 := by cases k <;> decide +kernel
theorem Kd.us_of (k : Kd) (h : (k.str == Str.ofString "usize") = true) : k = .us := by revert h; cases k <;> first | (intro; rfl) | (intro h; exact absurd h (by decide))
theorem Kd.pw_ne (k : Kd) : k.pw ≠ 0 := by have := k.pw_hf; have := k.hf_lo; omega

noncomputable abbrev PG : Program := PySem.Challenge.rw_xm0611_01.row.prog

abbrev Au (dp un : Nat) (gd : Option (List Code)) (envs : List Env) : Around := { handled := none, depth := dp, frames := some envs, guards := gd, units := un }

structure Gd (w : World) (base : Heap) (envs : List Env) (p : Program) (loose : List Str) (mean : ExcName → Option Value) (mg mb : Str → Option Value) (h : Heap) : Prop where
  stays : base.StaysIn h
  frames : h.FunFrames base envs
  kin : (Mine.hd.heap_39 w.params).In h
  top : Top p loose mean mg mb h

abbrev Post (s : Shared) (Q : Value → Shared → Prop) (v : Tok → Value) : Prop :=
  ∀ t h' tk', s.heap.StaysIn h' → Q (v t) { s with heap := h', toks := tk' }

section
variable {w : World} {A A₀ : Around} {dp un : Nat} {gd : Option (List Code)} {base h₀ : Heap} {L : Addr} {m : Str → Option Value} {envs outer : List Env} {env : Env} {p : Program} {loose : List Str} {mean : ExcName → Option Value} {mg mb : Str → Option Value} {s : Shared} {Q E : Value → Shared → Prop}

theorem gd_of {h : Heap} (F : Fr h₀ L h m) (B : Below A₀ base outer h₀) (X : (Mine.hd.heap_39 w.params).In h₀) (T : Top p loose mean mg mb h₀) (hf : env.frame = some L) (hk : env.scope.kind = .function) :
    Gd w base (env :: outer) p loose mean mg mb h :=
  ⟨fun b o e => F.keep b o (B.stays b o e), (pushX B F hf hk).frames, X.keeps F.keep, T.keeps F.keep⟩

theorem enter0 {name qual : Str} {params : Arguments} {body : List Stmt} {scope : Scope} {dV kV doc pm cdv ct oc : Value} {an od : Option Addr} {osl : Array (Option Value)} {f : Addr} {vs : List Value} {binds : List (Str × Value)}
    (G : Gd w base envs p loose mean mg mb s.heap)
    (ho : (Mine.hd.heap_39 w.params).lookup f = some ⟨oc, od, .func (fnOf name qual params body scope dV kV doc pm an cdv ct), osl⟩) (hcd : codeIn (Mine.hd.heap_39 w.params) cdv qual = true) (hroom : dp < recursionLimit)
    (hbind : BindsTo s (fnOf name qual params body scope dV kV doc pm an cdv ct) ⟨vs, []⟩ binds) (hloc : ∀ y ∈ binds, scope.names.lookup y.1 = some .local)
    (h : ∀ L' h₁, Fr s.heap L' h₁ (fun y => binds.reverse.lookup y) → News s.heap L' h₁ [] → Below (Au dp un gd envs) base envs s.heap → (Mine.hd.heap_39 w.params).In s.heap → Top p loose mean mg mb s.heap →
      wpAny (model PG w) ((Au dp un gd envs).deeper (envOf qual scope L' f cdv)) (execs body (envOf qual scope L' f cdv))
        (fun fl s' => Q (match fl with | .ret v => v | _ => .none) s')
        (fun e s' => wpAny (model PG w) ((Au dp un gd envs).deeper (envOf qual scope L' f cdv)) (leaving (envOf qual scope L' f cdv) e) (fun _ s'' => E e s'') (fun e' s'' => E e' s'') s')
        { s with heap := h₁, toks := s.toks + binds.length })
    (hco : scope.isCoroutine = false) (hgen : scope.isGenerator = false) (hk : scope.kind = .function)
    (hcell : ∀ x ∈ scope.names, x.2 ≠ .cell) : wpAny (model PG w) (Au dp un gd envs) (call (.ref f) vs) Q E s := by
  refine wpAny_call (codeAny_call_def (fd := fnOf name qual params body scope dV kV doc pm an cdv ct) (body := body) (binds := binds) hroom (G.kin _ _ ho) rfl G.top.nolimit (codeRec_of G.kin hcd) rfl hbind hcell hloc (fun h₁ hns hk₁ => ?_) hco hgen hk)
  exact h s.heap.objs.size h₁ ⟨hns, hk₁, Nat.le_refl _⟩ News.nil ⟨rfl, G.stays, G.frames⟩ G.kin G.top

theorem enterC {name qual : Str} {params : Arguments} {body : List Stmt} {scope : Scope} {dV kV doc pm cdv ct oc : Value} {an od : Option Addr} {osl : Array (Option Value)} {f : Addr} {vs : List Value} {binds : List (Str × Value)}
    (G : Gd w base envs p loose mean mg mb s.heap)
    (ho : (Mine.hd.heap_39 w.params).lookup f = some ⟨oc, od, .func (fnOf name qual params body scope dV kV doc pm an cdv ct), osl⟩) (hcd : codeIn (Mine.hd.heap_39 w.params) cdv qual = true) (hroom : dp < recursionLimit)
    (hbind : BindsTo s (fnOf name qual params body scope dV kV doc pm an cdv ct) ⟨vs, []⟩ binds) (hkind : (binds.all fun y => scope.names.lookup y.1 == some .local || scope.names.lookup y.1 == some .cell) = true)
    (hnd : ((cellsFrom 0 scope.names []).map (·.1)).Nodup)
    (h : ∀ L' h₁ tk cells, Fr s.heap L' h₁ (bindL (envOfC qual scope L' f cdv).kindOf binds fun _ => none) → News s.heap L' h₁ cells →
      CellsAre (bindC (envOfC qual scope L' f cdv).kindOf binds fun _ => none) (cellsFrom (L' + 1) scope.names []) cells → Below (Au dp un gd envs) base envs s.heap → (Mine.hd.heap_39 w.params).In s.heap → Top p loose mean mg mb s.heap →
      wpAny (model PG w) ((Au dp un gd envs).deeper (envOfC qual scope L' f cdv)) (execs body (envOfC qual scope L' f cdv))
        (fun fl s' => Q (match fl with | .ret v => v | _ => .none) s')
        (fun e s' => wpAny (model PG w) ((Au dp un gd envs).deeper (envOfC qual scope L' f cdv)) (leaving (envOfC qual scope L' f cdv) e) (fun _ s'' => E e s'') (fun e' s'' => E e' s'') s')
        { s with heap := h₁, toks := tk })
    (hco : scope.isCoroutine = false) (hgen : scope.isGenerator = false) (hk : scope.kind = .function) : wpAny (model PG w) (Au dp un gd envs) (call (.ref f) vs) Q E s := by
  refine wpAny_call (codeAny_call_function (fd := fnOf name qual params body scope dV kV doc pm an cdv ct) hroom (G.kin _ _ ho) rfl hco hgen rfl (codeRec_of G.kin hcd) (hbind _ _ _ _ ?_))
  refine wpAny_newFunctionEnv_cells hk (kindsX hkind _) fun env' he s' x => ?_
  subst he
  refine ⟨G.top.nolimit.keeps x.toInCall.keep, codeAny_func ?_⟩
  obtain ⟨h₁, tk, rfl, _⟩ := x.done
  obtain ⟨cells, NC, Y⟩ := Cl.news (h₀ := s.heap) (Nat.le_refl _) fun n c hm => ⟨x.cell n c (lookup_of_mem_nodup (cellsFrom_names scope.names 0 (s.heap.objs.size + 1) [] [] rfl ▸ hnd) hm), x.above n c hm⟩
  exact h s.heap.objs.size h₁ tk cells ⟨x.toInCall.ns, x.toInCall.keep, Nat.le_refl _⟩ NC Y ⟨rfl, G.stays, G.frames⟩ G.kin G.top

theorem bits_tab {h : Heap} (X : (Mine.hd.heap_39 w.params).In h) : StrTab PG w h 423 [(.str (Str.ofString "i8"), .int 8), (.str (Str.ofString "i16"), .int 16), (.str (Str.ofString "i32"), .int 32), (.str (Str.ofString "i64"), .int 64), (.str (Str.ofString "u8"), .int 8), (.str (Str.ofString "u16"), .int 16), (.str (Str.ofString "u32"), .int 32), (.str (Str.ofString "u64"), .int 64), (.str (Str.ofString "usize"), .int 64)] :=
  kt_tab_in (a := 423) (D := [(Str.ofString "i8", .int 8), (Str.ofString "i16", .int 16), (Str.ofString "i32", .int 32), (Str.ofString "i64", .int 64), (Str.ofString "u8", .int 8), (Str.ofString "u16", .int 16), (Str.ofString "u32", .int 32), (Str.ofString "u64", .int 64), (Str.ofString "usize", .int 64)]) PG w X (by kernel_rfl) (by decide) (by kernel_rfl)
theorem item_bits {value slice : Expr} {k : Kd} {t : Tok} (F : Fr h₀ L s.heap m) (X : (Mine.hd.heap_39 w.params).In h₀) (h : ∀ u, Q (.int k.bits u) { s with toks := s.toks + 1 })
    (hs : subscripted slice false (.ref 423) (.str k.str t) = operate [.ref 423, .str k.str t] (getItem (.ref 423) (.str k.str t)) := by with_unfolding_all rfl) (hg : ∀ r, letTemporaryGo value (.ref 423) r = pure () := by intro _; with_unfolding_all rfl) :
    wpAny (model PG w) A (subscriptTail value slice (.ref 423) (.str k.str t)) Q E s := by
  refine item_strTab (dv := .int k.bits) (bits_tab (X.keeps F.keep)) (by cases k <;> rfl) (fun v hv => ?_) hs hg
  obtain ⟨u, rfl⟩ := PyProof.V.Flat.int_inv hv
  exact h _
end

abbrev tupO (vs : List Value) : Obj := { cls := .type "tuple", data := .seq vs.toArray }
abbrev PostT (s : Shared) (Q : Value → Shared → Prop) (o : Tok → Obj) : Prop :=
  ∀ D t h' tk', s.heap.StaysIn h' → s.heap.get? D = none → h'.get? D = some (o t) → Q (.ref D) { s with heap := h', toks := tk' }
theorem post_tup {s : Shared} {Q : Value → Shared → Prop} {ob : Tok → Obj} {D L : Addr} {o : Obj} {t : Tok} {h' : Heap} {tk' : Nat} {m : Str → Option Value} {news : List (Addr × Obj)} (hQ : PostT s Q ob) (F : Fr s.heap L h' m) (N : News s.heap L h' news) (hm : (D, o) ∈ news) (e : o = ob t) :
    Q (.ref D) { s with heap := h', toks := tk' } := by
  subst e; exact hQ D t h' tk' F.keep (N.fresh hm) (N.get hm)
theorem news_add {h₀ h h' : Heap} {L D : Addr} {m : Str → Option Value} {news : List (Addr × Obj)} {o : Obj} (F : Fr h₀ L h m) (N : News h₀ L h news) (st : h.StaysIn h') (nd : h.get? D = none) (gd : h'.get? D = some o) : News h₀ L h' ((D, o) :: news) := fun q hq => by
  rcases List.mem_cons.mp hq with rfl | hq
  · refine ⟨gd, fun e => ?_, ?_⟩
    · obtain ⟨oL, es, ep, hL, _⟩ := F.ns
      dsimp only at e nd
      rw [e, hL] at nd; cases nd
    · cases q : h₀.get? D with
      | none => rfl
      | some o => have := F.keep _ _ q; rw [nd] at this; cases this
  · exact ⟨st _ _ (N q hq).1, (N q hq).2⟩
abbrev PostTL (s : Shared) (Q : Value → Shared → Prop) (v : Value) (lt : Addr) : Prop :=
  ∀ D C h' tk', s.heap.StaysIn h' → s.heap.get? D = none → s.heap.get? C = none → C ≠ D → h'.get? D = some (tupO [.ref C, .ref lt]) → h'.get? C = some (W.listOf [v].toArray 0) → Q (.ref D) { s with heap := h', toks := tk' }
theorem news_add2 {h₀ h h' : Heap} {L D C : Addr} {m : Str → Option Value} {news : List (Addr × Obj)} {o o' : Obj} (F : Fr h₀ L h m) (N : News h₀ L h news) (st : h.StaysIn h') (nd : h.get? D = none) (nc : h.get? C = none) (gd : h'.get? D = some o) (gc : h'.get? C = some o') : News h₀ L h' ((D, o) :: (C, o') :: news) := fun q hq => by
  rcases List.mem_cons.mp hq with rfl | hq
  · exact news_add F N st nd gd _ (.head _)
  · exact news_add F N st nc gc _ hq
section
variable {s : Shared} {Q : Value → Shared → Prop} {h₀ : Heap} {L : Addr} {m : Str → Option Value} {news : List (Addr × Obj)}
theorem post_use {v : Tok → Value} (F : Fr h₀ L s.heap m) (N : News h₀ L s.heap news) (h : ∀ t h' tk', Fr h₀ L h' m → News h₀ L h' news → Q (v t) { s with heap := h', toks := tk' }) : Post s Q v :=
  fun t h' tk' st => h t h' tk' (F.keeps st) (N.keeps st)
theorem postT_use {ob : Tok → Obj} (F : Fr h₀ L s.heap m) (N : News h₀ L s.heap news) (h : ∀ D t h' tk', Fr h₀ L h' m → News h₀ L h' ((D, ob t) :: news) → (∀ q ∈ news, @Ne Nat q.1 D) → Q (.ref D) { s with heap := h', toks := tk' }) : PostT s Q ob :=
  fun D t h' tk' st nd gd => h D t h' tk' (F.keeps st) (news_add F N st nd gd) (freshN N nd)
theorem post2_use {v : Value} {lt : Addr} (F : Fr h₀ L s.heap m) (N : News h₀ L s.heap news) (h : ∀ D C h' tk', Fr h₀ L h' m → News h₀ L h' ((D, tupO [.ref C, .ref lt]) :: (C, W.listOf [v].toArray 0) :: news) → (∀ q ∈ news, @Ne Nat q.1 D) → (∀ q ∈ news, @Ne Nat q.1 C) → @Ne Nat C D → Q (.ref D) { s with heap := h', toks := tk' }) : PostTL s Q v lt :=
  fun D C h' tk' st nd nc ne gd gc => h D C h' tk' (F.keeps st) (news_add2 F N st nd nc gd gc) (freshN N nd) (freshN N nc) ne
end

section
variable {prog : Program} {w : World} {A : Around} {s : Shared} {Q E : Value → Shared → Prop}
theorem item_hd {value slice : Expr} {k : Kd} {t u : Tok} (h : ∀ t', Q (.str k.hd t') { s with toks := s.toks + 1 })
    (hs : subscripted slice false (.str k.str t) (.int 0 u) = operate [.str k.str t, .int 0 u] (getItem (.str k.str t) (.int 0 u)) := by with_unfolding_all rfl) (hg : ∀ r, letTemporaryGo value (.str k.str t) r = pure () := by intro _; with_unfolding_all rfl) :
    wpAny (model prog w) A (subscriptTail value slice (.str k.str t) (.int 0 u)) Q E s := by
  refine item_str (by decide) (by cases k <;> decide) (by cases k <;> decide) (fun _ => ?_) hs hg
  rw [show Txt.item k.str 0 = k.hd by cases k <;> decide +kernel]
  exact h _
theorem eq_hd {k : Kd} {t u : Tok} (h : Q (.bool k.sgn) s) : wpAny (model prog w) A (compareOp .Eq (.str k.hd t) (.str (Str.ofString "i") u)) Q E s := by
  refine PyProof.Rows.eq_str ?_
  rw [show (k.hd == Str.ofString "i") = k.sgn by cases k <;> decide]
  exact h
theorem pow_bits {k : Kd} {t u : Tok} (h : Q (.int k.pw s.toks) { s with toks := s.toks + 1 }) : wpAny (model prog w) A (binaryOp .Pow (.int 2 t) (.int k.bits u)) Q E s := by
  have := k.bits_lo; have := k.bits_hi
  refine pow_int_small (by omega) (by omega) (by decide) ?_
  rw [k.pw_eq]; exact h
theorem pow_bits1 {k : Kd} {t u : Tok} (h : Q (.int k.hf s.toks) { s with toks := s.toks + 1 }) : wpAny (model prog w) A (binaryOp .Pow (.int 2 t) (.int (k.bits - 1) u)) Q E s := by
  have := k.bits_lo; have := k.bits_hi
  refine pow_int_small (by omega) (by omega) (by decide) ?_
  rw [k.hf_eq]; exact h
theorem post_int {x y : Int} {t : Tok} {h' : Heap} {tk' : Nat} (hQ : Post s Q fun t => .int x t) (st : s.heap.StaysIn h') (e : y = x) : Q (.int y t) { s with heap := h', toks := tk' } := by
  subst e; exact hQ t h' tk' st
theorem post_bool {x y : Bool} {h' : Heap} {tk' : Nat} (hQ : Post s Q fun _ => .bool x) (st : s.heap.StaysIn h') (e : y = x) : Q (.bool y) { s with heap := h', toks := tk' } := by
  subst e; exact hQ 0 h' tk' st
theorem post_str {x y : Str} {t : Tok} {h' : Heap} {tk' : Nat} (hQ : Post s Q fun t => .str x t) (st : s.heap.StaysIn h') (e : y = x) : Q (.str y t) { s with heap := h', toks := tk' } := by
  subst e; exact hQ t h' tk' st
end
theorem Kd.lo_s (k : Kd) (h : k.sgn = true) : 0 - k.hf = k.lo := by simp [Kd.lo, h]
theorem Kd.lo_u (k : Kd) (h : k.sgn = false) : 0 = k.lo := by simp [Kd.lo, h]
theorem Kd.hi_s (k : Kd) (h : k.sgn = true) : k.hf - 1 = k.hi := by simp [Kd.hi, h]
theorem Kd.hi_u (k : Kd) (h : k.sgn = false) : k.pw - 1 = k.hi := by simp [Kd.hi, h]

theorem words_p02_kinds_0 : True := by
  k_with "subscriptTail Name Slice str ref" => ((with_reducible show wpAny _ _ (subscriptTail _ (Expr.Slice (some _) none none _) (Value.str (Kd.str _) _) _) _ _ _); (with_reducible rename Fr _ _ _ _ => F'); (with_reducible rename News _ _ _ _ => N'); (refine slice_strN_sn (hsz := Kd.len _) (s := ⟨_, _, _, _, _⟩) F' N' ?_); intro h' t' tk' F' N'; k_sweep)
  k_with "call type:int" => ((with_reducible show wpAny _ _ (call (Value.type "int") [Value.str (Txt.slice (Kd.str _) _ _) _]) _ _ _); refine KIN.call_text (Kd.tail_int _ (by assumption)) (Kd.tail_len _) ?_)
  k_with "subscriptTail Name Constant str int" => ((with_reducible show wpAny _ _ (subscriptTail _ _ (Value.str (Kd.str _) _) (Value.int 0 _)) _ _ _); with_unfolding_all refine item_hd ?_; intro _)
  k_with "compareOp Eq str str" => ((with_reducible show wpAny _ _ (compareOp _ (Value.str (Kd.hd _) _) _) _ _ _); refine eq_hd ?_)
  k_with "binaryOp Pow int int" => first | with_reducible refine pow_bits ?_ | with_reducible refine pow_bits1 ?_
  k_with "binaryOp Mod int int" => ((with_reducible show wpAny _ _ (binaryOp _ _ (Value.int (Kd.pw _) _)) _ _ _); refine mod_int' (Kd.pw_ne _) ?_)
  k_with "subscriptTail Name Name ref str" => ((with_reducible show wpAny _ _ (subscriptTail _ _ (Value.ref 423) (Value.str (Kd.str _) _)) _ _ _); k_dflt (refine' item_bits ?zqF ?zqX ?_ ?zqa ?zqb; (case zqF => k_asm); (case zqX => k_asm); (case zqa => with_unfolding_all rfl); (case zqb => (intro _; with_unfolding_all rfl)); k_whole); intro _)
  trivial
section
variable {w : World} {dp un : Nat} {gd : Option (List Code)} {base : Heap} {envs : List Env} {p : Program} {loose : List Str} {mean : ExcName → Option Value} {mg mb : Str → Option Value} {s : Shared} {Q E : Value → Shared → Prop}
set_option maxHeartbeats 4000000 in
theorem wide_ok (G : Gd w base envs p loose mean mg mb s.heap) {k : Kd} {t : Tok} (hdp : dp + 2 < recursionLimit) (hu : un + 20 < cLine)
    (hQ : Post s Q fun t => .int k.bits t) : wpAny (model PG w) (Au dp un gd envs) (call (.ref 703) [.str k.str t]) Q E s := by
  have H0 : PySem.Challenge.rw_xm0611_01 = PySem.Challenge.rw_xm0611_01 ∧ Mine.hd.heap_39 = Mine.hd.heap_39 := ⟨rfl, rfl⟩
  revert H0; k_fill; intro _
  (k_dflt (refine' enter0 (binds := [(Str.ofString "kind", Value.str k.str t)]) ?G ?k6 ?k7 ?k8 ?k9 ?kB ?_ ?c2 ?c3 ?c4 ?c5; (case G => assumption); (case k6 => k_is); (case k7 => k_is); (case k8 => ktr_room); (case k9 => first | exact BindsTo.of_eq rfl | exact binds_K (Gd.kin (by assumption)) rfl (by k_is) rfl rfl rfl); (case c5 => decide); (case kB => exact locs rfl); (case c2 => exact rfl); (case c3 => exact rfl); (case c4 => exact rfl); k_whole; intro L' h' F' N' B' X' T'; (try dsimp only); (try k_fold)))
  k_steps
  · exact post_int (s := s) (Q := Q) hQ (Fr.keep (by assumption)) (by rw [Kd.us_of k (by assumption)]; rfl)
  · exact post_int (s := s) (Q := Q) hQ (Fr.keep (by assumption)) rfl
set_option maxHeartbeats 4000000 in
theorem signed_ok (G : Gd w base envs p loose mean mg mb s.heap) {k : Kd} {t : Tok} (hdp : dp + 2 < recursionLimit) (hu : un + 20 < cLine)
    (hQ : Post s Q fun _ => .bool k.sgn) : wpAny (model PG w) (Au dp un gd envs) (call (.ref 430) [.str k.str t]) Q E s := by
  have H0 : PySem.Challenge.rw_xm0611_01 = PySem.Challenge.rw_xm0611_01 ∧ Mine.hd.heap_39 = Mine.hd.heap_39 := ⟨rfl, rfl⟩
  revert H0; k_fill; intro _
  (k_dflt (refine' enter0 (binds := [(Str.ofString "kind", Value.str k.str t)]) ?G ?k6 ?k7 ?k8 ?k9 ?kB ?_ ?c2 ?c3 ?c4 ?c5; (case G => assumption); (case k6 => k_is); (case k7 => k_is); (case k8 => ktr_room); (case k9 => first | exact BindsTo.of_eq rfl | exact binds_K (Gd.kin (by assumption)) rfl (by k_is) rfl rfl rfl); (case c5 => decide); (case kB => exact locs rfl); (case c2 => exact rfl); (case c3 => exact rfl); (case c4 => exact rfl); k_whole; intro L' h' F' N' B' X' T'; (try dsimp only); (try k_fold)))
  k_steps
  exact post_bool (s := s) (Q := Q) hQ (Fr.keep (by assumption)) rfl
end
theorem words_p02_kinds_1 : True := by
  k_with "call ref" => (k_here; (with_reducible show wpAny _ _ (call (Value.ref 703) _) _ _ _); k_dflt (refine' wide_ok (gd_of ?zqF ?zqB ?zqX ?zqT ?zqhf ?zqhk)  ?zqhdp ?zqhu ?_; (case zqF => k_asm); (case zqX => k_asm); (case zqT => k_asm); (case zqB => k_asm); (case zqhf => exact rfl); (case zqhk => exact rfl); (case zqhdp => ktr_room); (case zqhu => ktr_units);  k_whole; refine post_use (by assumption) (by assumption) ?_; intro t9 h9 tk9 F9 N9; (try dsimp only); (try k_sweep); (try k_fold)))
  k_with "call ref" => (k_here; (with_reducible show wpAny _ _ (call (Value.ref 430) _) _ _ _); k_dflt (refine' signed_ok (gd_of ?zqF ?zqB ?zqX ?zqT ?zqhf ?zqhk)  ?zqhdp ?zqhu ?_; (case zqF => k_asm); (case zqX => k_asm); (case zqT => k_asm); (case zqB => k_asm); (case zqhf => exact rfl); (case zqhk => exact rfl); (case zqhdp => ktr_room); (case zqhu => ktr_units);  k_whole; refine post_use (by assumption) (by assumption) ?_; intro t9 h9 tk9 F9 N9; (try dsimp only); (try k_sweep); (try k_fold)))
  trivial
section
variable {w : World} {dp un : Nat} {gd : Option (List Code)} {base : Heap} {envs : List Env} {p : Program} {loose : List Str} {mean : ExcName → Option Value} {mg mb : Str → Option Value} {s : Shared} {Q E : Value → Shared → Prop}
set_option maxHeartbeats 4000000 in
theorem least_ok (G : Gd w base envs p loose mean mg mb s.heap) {k : Kd} {t : Tok} (hdp : dp + 5 < recursionLimit) (hu : un + 50 < cLine)
    (hQ : Post s Q fun t => .int k.lo t) : wpAny (model PG w) (Au dp un gd envs) (call (.ref 437) [.str k.str t]) Q E s := by
  have H0 : PySem.Challenge.rw_xm0611_01 = PySem.Challenge.rw_xm0611_01 ∧ Mine.hd.heap_39 = Mine.hd.heap_39 := ⟨rfl, rfl⟩
  revert H0; k_fill; intro _
  (k_dflt (refine' enter0 (binds := [(Str.ofString "kind", Value.str k.str t)]) ?G ?k6 ?k7 ?k8 ?k9 ?kB ?_ ?c2 ?c3 ?c4 ?c5; (case G => assumption); (case k6 => k_is); (case k7 => k_is); (case k8 => ktr_room); (case k9 => first | exact BindsTo.of_eq rfl | exact binds_K (Gd.kin (by assumption)) rfl (by k_is) rfl rfl rfl); (case c5 => decide); (case kB => exact locs rfl); (case c2 => exact rfl); (case c3 => exact rfl); (case c4 => exact rfl); k_whole; intro L' h' F' N' B' X' T'; (try dsimp only); (try k_fold)))
  k_steps
  · exact post_int (s := s) (Q := Q) hQ (Fr.keep (by assumption)) (Kd.lo_s _ (by assumption))
  · exact post_int (s := s) (Q := Q) hQ (Fr.keep (by assumption)) (Kd.lo_u _ (by assumption))
set_option maxHeartbeats 4000000 in
theorem greatest_ok (G : Gd w base envs p loose mean mg mb s.heap) {k : Kd} {t : Tok} (hdp : dp + 5 < recursionLimit) (hu : un + 50 < cLine)
    (hQ : Post s Q fun t => .int k.hi t) : wpAny (model PG w) (Au dp un gd envs) (call (.ref 444) [.str k.str t]) Q E s := by
  have H0 : PySem.Challenge.rw_xm0611_01 = PySem.Challenge.rw_xm0611_01 ∧ Mine.hd.heap_39 = Mine.hd.heap_39 := ⟨rfl, rfl⟩
  revert H0; k_fill; intro _
  (k_dflt (refine' enter0 (binds := [(Str.ofString "kind", Value.str k.str t)]) ?G ?k6 ?k7 ?k8 ?k9 ?kB ?_ ?c2 ?c3 ?c4 ?c5; (case G => assumption); (case k6 => k_is); (case k7 => k_is); (case k8 => ktr_room); (case k9 => first | exact BindsTo.of_eq rfl | exact binds_K (Gd.kin (by assumption)) rfl (by k_is) rfl rfl rfl); (case c5 => decide); (case kB => exact locs rfl); (case c2 => exact rfl); (case c3 => exact rfl); (case c4 => exact rfl); k_whole; intro L' h' F' N' B' X' T'; (try dsimp only); (try k_fold)))
  k_steps
  · exact post_int (s := s) (Q := Q) hQ (Fr.keep (by assumption)) (Kd.hi_s _ (by assumption))
  · exact post_int (s := s) (Q := Q) hQ (Fr.keep (by assumption)) (Kd.hi_u _ (by assumption))
end

theorem words_p02_kinds_2 : True := by
  k_with "call ref" => (k_here; (with_reducible show wpAny _ _ (call (Value.ref 437) _) _ _ _); k_dflt (refine' least_ok (gd_of ?zqF ?zqB ?zqX ?zqT ?zqhf ?zqhk)  ?zqhdp ?zqhu ?_; (case zqF => k_asm); (case zqX => k_asm); (case zqT => k_asm); (case zqB => k_asm); (case zqhf => exact rfl); (case zqhk => exact rfl); (case zqhdp => ktr_room); (case zqhu => ktr_units);  k_whole; refine post_use (by assumption) (by assumption) ?_; intro t9 h9 tk9 F9 N9; (try dsimp only); (try k_sweep); (try k_fold)))
  k_with "call ref" => (k_here; (with_reducible show wpAny _ _ (call (Value.ref 444) _) _ _ _); k_dflt (refine' greatest_ok (gd_of ?zqF ?zqB ?zqX ?zqT ?zqhf ?zqhk)  ?zqhdp ?zqhu ?_; (case zqF => k_asm); (case zqX => k_asm); (case zqT => k_asm); (case zqB => k_asm); (case zqhf => exact rfl); (case zqhk => exact rfl); (case zqhdp => ktr_room); (case zqhu => ktr_units);  k_whole; refine post_use (by assumption) (by assumption) ?_; intro t9 h9 tk9 F9 N9; (try dsimp only); (try k_sweep); (try k_fold)))
  trivial
theorem fmod_one {x p r q : Int} (hp : 0 < p) (h : r + p * q = x) (h0 : 0 ≤ r) (h1 : r < p) : x.fmod p = r := by
  rw [Int.fmod_eq_emod_of_nonneg x (Int.le_of_lt hp)]
  exact (kbt_unique hp h h0 h1).2
theorem fmod_has (x : Int) {p : Int} (hp : 0 < p) : ∃ q, x.fmod p + p * q = x ∧ 0 ≤ x.fmod p ∧ x.fmod p < p := by
  rw [Int.fmod_eq_emod_of_nonneg x (Int.le_of_lt hp)]
  exact ⟨x / p, Int.emod_add_mul_ediv x p, Int.emod_nonneg x (by omega), Int.emod_lt_of_pos x hp⟩
theorem Kd.pw_pos (k : Kd) : 0 < k.pw := by have := k.pw_hf; have := k.hf_lo; omega
theorem Kd.lo_hi (k : Kd) : k.hi = k.lo + k.pw - 1 := by
  have := k.pw_hf
  unfold Kd.hi Kd.lo
  split <;> omega
theorem Kd.wrap_one (k : Kd) {n r q : Int} (h : r + k.pw * q = n) (h0 : k.lo ≤ r) (h1 : r ≤ k.hi) : k.wrap n = r := by
  unfold Kd.wrap
  rw [fmod_one (r := r - k.lo) (q := q) k.pw_pos (by omega) (by omega) (by have := k.lo_hi; omega)]
  omega
theorem Kd.wrap_has (k : Kd) (n : Int) : ∃ q, k.wrap n + k.pw * q = n ∧ k.lo ≤ k.wrap n ∧ k.wrap n ≤ k.hi := by
  obtain ⟨q, h, h0, h1⟩ := fmod_has (n - k.lo) k.pw_pos
  have := k.lo_hi
  exact ⟨q, by unfold Kd.wrap; omega, by unfold Kd.wrap; omega, by unfold Kd.wrap; omega⟩
theorem Kd.led_hi (k : Kd) (n : Int) (hs : k.sgn = true) (h : k.pw ≤ 2 * n.fmod k.pw) : n.fmod k.pw - k.pw = k.wrap n := by
  obtain ⟨q, e, h0, h1⟩ := fmod_has n k.pw_pos
  have := k.pw_hf
  refine (k.wrap_one (q := q + 1) ?_ ?_ ?_).symm
  · rw [Int.mul_add, Int.mul_one]; omega
  · rw [← k.lo_s hs]; omega
  · rw [← k.hi_s hs]; omega
theorem Kd.led_lo (k : Kd) (n : Int) (hs : k.sgn = true) (h : ¬ k.pw ≤ 2 * n.fmod k.pw) : n.fmod k.pw = k.wrap n := by
  obtain ⟨q, e, h0, h1⟩ := fmod_has n k.pw_pos
  have := k.pw_hf
  refine (k.wrap_one (q := q) e ?_ ?_).symm
  · rw [← k.lo_s hs]; have := k.hf_lo; omega
  · rw [← k.hi_s hs]; omega
theorem Kd.led_u (k : Kd) (n : Int) (hs : k.sgn = false) : n.fmod k.pw = k.wrap n := by
  unfold Kd.wrap
  rw [← k.lo_u hs]; simp
def Kd.fits (k : Kd) (n : Int) : Bool := decide (k.lo ≤ n ∧ n ≤ k.hi)
theorem Kd.fmod_bits (k : Kd) (n : Int) : Builtin.Int.intBits (n.fmod k.pw) ≤ 64 := by
  obtain ⟨q, e, h0, h1⟩ := fmod_has n k.pw_pos
  have := k.pw_hf; have := k.hf_hi
  exact intBits_le_64 (by omega) (by omega)

theorem words_p03_wrap_0 : True := by
  k_with "binaryOp Mult int int" => ((with_reducible show wpAny _ _ (binaryOp _ _ (Value.int (Int.fmod _ (Kd.pw _)) _)) _ _ _); refine PyProof.Rows.mul_int ?_ (IntMulOk.of_right (Kd.fmod_bits _ _)))
  trivial
section
variable {w : World} {dp un : Nat} {gd : Option (List Code)} {base : Heap} {envs : List Env} {p : Program} {loose : List Str} {mean : ExcName → Option Value} {mg mb : Str → Option Value} {s : Shared} {Q E : Value → Shared → Prop}
set_option maxHeartbeats 4000000 in
theorem fits_ok (G : Gd w base envs p loose mean mg mb s.heap) {k : Kd} {n : Int} {t u : Tok} (hdp : dp + 8 < recursionLimit) (hu : un + 80 < cLine)
    (hQ : Post s Q fun _ => .bool (k.fits n)) : wpAny (model PG w) (Au dp un gd envs) (call (.ref 451) [.str k.str t, .int n u]) Q E s := by
  have H0 : PySem.Challenge.rw_xm0611_01 = PySem.Challenge.rw_xm0611_01 ∧ Mine.hd.heap_39 = Mine.hd.heap_39 := ⟨rfl, rfl⟩
  revert H0; k_fill; intro _
  (k_dflt (refine' enter0 (binds := [(Str.ofString "kind", Value.str k.str t), (Str.ofString "number", Value.int n u)]) ?G ?k6 ?k7 ?k8 ?k9 ?kB ?_ ?c2 ?c3 ?c4 ?c5; (case G => assumption); (case k6 => k_is); (case k7 => k_is); (case k8 => ktr_room); (case k9 => first | exact BindsTo.of_eq rfl | exact binds_K (Gd.kin (by assumption)) rfl (by k_is) rfl rfl rfl); (case c5 => decide); (case kB => exact locs rfl); (case c2 => exact rfl); (case c3 => exact rfl); (case c4 => exact rfl); k_whole; intro L' h' F' N' B' X' T'; (try dsimp only); (try k_fold)))
  k_steps
  all_goals exact post_bool (s := s) (Q := Q) hQ (Fr.keep (by assumption)) (by simp [Kd.fits, *])
set_option maxHeartbeats 4000000 in
theorem wrapped_ok (G : Gd w base envs p loose mean mg mb s.heap) {k : Kd} {n : Int} {t u : Tok} (hdp : dp + 8 < recursionLimit) (hu : un + 80 < cLine)
    (hQ : Post s Q fun t => .int (k.wrap n) t) : wpAny (model PG w) (Au dp un gd envs) (call (.ref 458) [.str k.str t, .int n u]) Q E s := by
  have H0 : PySem.Challenge.rw_xm0611_01 = PySem.Challenge.rw_xm0611_01 ∧ Mine.hd.heap_39 = Mine.hd.heap_39 := ⟨rfl, rfl⟩
  revert H0; k_fill; intro _
  (k_dflt (refine' enter0 (binds := [(Str.ofString "kind", Value.str k.str t), (Str.ofString "number", Value.int n u)]) ?G ?k6 ?k7 ?k8 ?k9 ?kB ?_ ?c2 ?c3 ?c4 ?c5; (case G => assumption); (case k6 => k_is); (case k7 => k_is); (case k8 => ktr_room); (case k9 => first | exact BindsTo.of_eq rfl | exact binds_K (Gd.kin (by assumption)) rfl (by k_is) rfl rfl rfl); (case c5 => decide); (case kB => exact locs rfl); (case c2 => exact rfl); (case c3 => exact rfl); (case c4 => exact rfl); k_whole; intro L' h' F' N' B' X' T'; (try dsimp only); (try k_fold)))
  k_steps
  exact post_int (s := s) (Q := Q) hQ (Fr.keep (by assumption)) rfl
set_option maxHeartbeats 4000000 in
theorem led_ok (G : Gd w base envs p loose mean mg mb s.heap) {k : Kd} {n : Int} {t u : Tok} (hdp : dp + 8 < recursionLimit) (hu : un + 80 < cLine)
    (hQ : Post s Q fun t => .int (k.wrap n) t) : wpAny (model PG w) (Au dp un gd envs) (call (.ref 710) [.str k.str t, .int n u]) Q E s := by
  have H0 : PySem.Challenge.rw_xm0611_01 = PySem.Challenge.rw_xm0611_01 ∧ Mine.hd.heap_39 = Mine.hd.heap_39 := ⟨rfl, rfl⟩
  revert H0; k_fill; intro _
  (k_dflt (refine' enter0 (binds := [(Str.ofString "kind", Value.str k.str t), (Str.ofString "number", Value.int n u)]) ?G ?k6 ?k7 ?k8 ?k9 ?kB ?_ ?c2 ?c3 ?c4 ?c5; (case G => assumption); (case k6 => k_is); (case k7 => k_is); (case k8 => ktr_room); (case k9 => first | exact BindsTo.of_eq rfl | exact binds_K (Gd.kin (by assumption)) rfl (by k_is) rfl rfl rfl); (case c5 => decide); (case kB => exact locs rfl); (case c2 => exact rfl); (case c3 => exact rfl); (case c4 => exact rfl); k_whole; intro L' h' F' N' B' X' T'; (try dsimp only); (try k_fold)))
  k_steps
  all_goals exact post_int (s := s) (Q := Q) hQ (Fr.keep (by assumption)) (by first | exact Kd.led_hi _ _ (by assumption) (by assumption) | exact Kd.led_lo _ _ (by assumption) (by assumption) | exact Kd.led_u _ _ (by assumption))
end
theorem words_p03_wrap_1 : True := by
  k_with "call ref" => (k_here; (with_reducible show wpAny _ _ (call (Value.ref 451) _) _ _ _); k_dflt (refine' fits_ok (gd_of ?zqF ?zqB ?zqX ?zqT ?zqhf ?zqhk)  ?zqhdp ?zqhu ?_; (case zqF => k_asm); (case zqX => k_asm); (case zqT => k_asm); (case zqB => k_asm); (case zqhf => exact rfl); (case zqhk => exact rfl); (case zqhdp => ktr_room); (case zqhu => ktr_units);  k_whole; refine post_use (by assumption) (by assumption) ?_; intro t9 h9 tk9 F9 N9; (try dsimp only); (try k_sweep); (try k_fold)))
  k_with "call ref" => (k_here; (with_reducible show wpAny _ _ (call (Value.ref 458) _) _ _ _); k_dflt (refine' wrapped_ok (gd_of ?zqF ?zqB ?zqX ?zqT ?zqhf ?zqhk)  ?zqhdp ?zqhu ?_; (case zqF => k_asm); (case zqX => k_asm); (case zqT => k_asm); (case zqB => k_asm); (case zqhf => exact rfl); (case zqhk => exact rfl); (case zqhdp => ktr_room); (case zqhu => ktr_units);  k_whole; refine post_use (by assumption) (by assumption) ?_; intro t9 h9 tk9 F9 N9; (try dsimp only); (try k_sweep); (try k_fold)))
  k_with "call ref" => (k_here; (with_reducible show wpAny _ _ (call (Value.ref 710) _) _ _ _); k_dflt (refine' led_ok (gd_of ?zqF ?zqB ?zqX ?zqT ?zqhf ?zqhk)  ?zqhdp ?zqhu ?_; (case zqF => k_asm); (case zqX => k_asm); (case zqT => k_asm); (case zqB => k_asm); (case zqhf => exact rfl); (case zqhk => exact rfl); (case zqhdp => ktr_room); (case zqhu => ktr_units);  k_whole; refine post_use (by assumption) (by assumption) ?_; intro t9 h9 tk9 F9 N9; (try dsimp only); (try k_sweep); (try k_fold)))
  trivial
section
variable {w : World} {dp un : Nat} {gd : Option (List Code)} {base : Heap} {envs : List Env} {p : Program} {loose : List Str} {mean : ExcName → Option Value} {mg mb : Str → Option Value} {s : Shared} {Q E : Value → Shared → Prop}
set_option maxHeartbeats 4000000 in
theorem cast_ok (G : Gd w base envs p loose mean mg mb s.heap) {k : Kd} {n : Int} {t u : Tok} (hdp : dp + 10 < recursionLimit) (hu : un + 100 < cLine)
    (hQ : Post s Q fun t => .int (k.wrap n) t) : wpAny (model PG w) (Au dp un gd envs) (call (.ref 465) [.str k.str t, .int n u]) Q E s := by
  have H0 : PySem.Challenge.rw_xm0611_01 = PySem.Challenge.rw_xm0611_01 ∧ Mine.hd.heap_39 = Mine.hd.heap_39 := ⟨rfl, rfl⟩
  revert H0; k_fill; intro _
  (k_dflt (refine' enter0 (binds := [(Str.ofString "kind", Value.str k.str t), (Str.ofString "number", Value.int n u)]) ?G ?k6 ?k7 ?k8 ?k9 ?kB ?_ ?c2 ?c3 ?c4 ?c5; (case G => assumption); (case k6 => k_is); (case k7 => k_is); (case k8 => ktr_room); (case k9 => first | exact BindsTo.of_eq rfl | exact binds_K (Gd.kin (by assumption)) rfl (by k_is) rfl rfl rfl); (case c5 => decide); (case kB => exact locs rfl); (case c2 => exact rfl); (case c3 => exact rfl); (case c4 => exact rfl); k_whole; intro L' h' F' N' B' X' T'; (try dsimp only); (try k_fold)))
  k_steps
  exact post_int (s := s) (Q := Q) hQ (Fr.keep (by assumption)) rfl
set_option maxHeartbeats 4000000 in
theorem inverted_ok (G : Gd w base envs p loose mean mg mb s.heap) {k : Kd} {n : Int} {t u : Tok} (hdp : dp + 10 < recursionLimit) (hu : un + 100 < cLine)
    (hQ : Post s Q fun t => .int (k.wrap (-1 - n)) t) : wpAny (model PG w) (Au dp un gd envs) (call (.ref 500) [.str k.str t, .int n u]) Q E s := by
  have H0 : PySem.Challenge.rw_xm0611_01 = PySem.Challenge.rw_xm0611_01 ∧ Mine.hd.heap_39 = Mine.hd.heap_39 := ⟨rfl, rfl⟩
  revert H0; k_fill; intro _
  (k_dflt (refine' enter0 (binds := [(Str.ofString "kind", Value.str k.str t), (Str.ofString "a", Value.int n u)]) ?G ?k6 ?k7 ?k8 ?k9 ?kB ?_ ?c2 ?c3 ?c4 ?c5; (case G => assumption); (case k6 => k_is); (case k7 => k_is); (case k8 => ktr_room); (case k9 => first | exact BindsTo.of_eq rfl | exact binds_K (Gd.kin (by assumption)) rfl (by k_is) rfl rfl rfl); (case c5 => decide); (case kB => exact locs rfl); (case c2 => exact rfl); (case c3 => exact rfl); (case c4 => exact rfl); k_whole; intro L' h' F' N' B' X' T'; (try dsimp only); (try k_fold)))
  k_steps
  exact post_int (s := s) (Q := Q) hQ (Fr.keep (by assumption)) rfl
end


theorem words_p03_wrap_2 : True := by
  k_with "call ref" => (k_here; (with_reducible show wpAny _ _ (call (Value.ref 465) _) _ _ _); k_dflt (refine' cast_ok (gd_of ?zqF ?zqB ?zqX ?zqT ?zqhf ?zqhk)  ?zqhdp ?zqhu ?_; (case zqF => k_asm); (case zqX => k_asm); (case zqT => k_asm); (case zqB => k_asm); (case zqhf => exact rfl); (case zqhk => exact rfl); (case zqhdp => ktr_room); (case zqhu => ktr_units);  k_whole; refine post_use (by assumption) (by assumption) ?_; intro t9 h9 tk9 F9 N9; (try dsimp only); (try k_sweep); (try k_fold)))
  k_with "call ref" => (k_here; (with_reducible show wpAny _ _ (call (Value.ref 500) _) _ _ _); k_dflt (refine' inverted_ok (gd_of ?zqF ?zqB ?zqX ?zqT ?zqhf ?zqhk)  ?zqhdp ?zqhu ?_; (case zqF => k_asm); (case zqX => k_asm); (case zqT => k_asm); (case zqB => k_asm); (case zqhf => exact rfl); (case zqhk => exact rfl); (case zqhdp => ktr_room); (case zqhu => ktr_units);  k_whole; refine post_use (by assumption) (by assumption) ?_; intro t9 h9 tk9 F9 N9; (try dsimp only); (try k_sweep); (try k_fold)))
  trivial
inductive Ar where
  | add | sub | mul | div | mod | shl | shr
def Ar.str : Ar → Str
  | .add => Str.ofString "+" | .sub => Str.ofString "-" | .mul => Str.ofString "*" | .div => Str.ofString "/" | .mod => Str.ofString "%" | .shl => Str.ofString "<<" | .shr => Str.ofString ">>"
def Ar.sh : Ar → Bool
  | .shl => true | .shr => true | _ => false
/-- an int of at most 64 bits -/
def Bd (n : Int) : Prop := -18446744073709551616 < n ∧ n < 18446744073709551616
theorem Bd.bits {n : Int} (h : Bd n) : Builtin.Int.intBits n ≤ 64 := intBits_le_64 (by have := h.1; omega) (by have := h.2; omega)
theorem Bd.noPy {x y : Int} (h : Bd y) : Builtin.divisionGoesByPylong x y = false := by
  obtain ⟨h1, h2⟩ := h
  refine PyProof.noPylong_of_log2 ?_
  by_cases h0 : y.natAbs = 0
  · rw [h0]; decide +kernel
  · have : y.natAbs.log2 < 64 := (Nat.log2_lt h0).mpr (by omega)
    omega
theorem Bd.noPyAbs {x y : Int} (h : Bd y) : Builtin.divisionGoesByPylong x (if y < 0 then -y else y) = false := by
  refine Bd.noPy ⟨?_, ?_⟩ <;> (have := h.1; have := h.2; split <;> omega)
theorem Kd.bd (k : Kd) {n : Int} (h0 : k.lo ≤ n) (h1 : n ≤ k.hi) : Bd n := by
  have := k.pw_hf; have := k.hf_hi; have := k.hf_lo
  constructor
  · unfold Kd.lo at h0; split at h0 <;> omega
  · unfold Kd.hi at h1; split at h1 <;> omega
theorem abs_ne {b : Int} (hb : b ≠ 0) : (if b < 0 then -b else b) ≠ 0 := by split <;> omega
theorem tdiv_abs (a b : Int) (hb : b ≠ 0) : (if (decide (a < 0) == decide (b < 0)) = true then (if a < 0 then -a else a).fdiv (if b < 0 then -b else b) else 0 - (if a < 0 then -a else a).fdiv (if b < 0 then -b else b)) = a.tdiv b := by
  have e : ∀ x y : Int, 0 ≤ y → x.fdiv y = x / y := fun x y h => Int.fdiv_eq_ediv_of_nonneg x h
  by_cases ha : a < 0 <;> by_cases hb' : b < 0 <;> simp only [ha, hb', if_true, if_false, decide_true, decide_false, beq_self_eq_true, Bool.false_eq_true, reduceCtorEq, beq_iff_eq]
  · rw [e _ _ (by omega), ← Int.neg_tdiv_neg, Int.tdiv_eq_ediv_of_nonneg (by omega)]
  · have h := Int.neg_tdiv (-a) b
    rw [Int.neg_neg] at h
    rw [e _ _ (by omega), h, Int.tdiv_eq_ediv_of_nonneg (by omega)]; omega
  · have h := Int.tdiv_neg a (-b)
    rw [Int.neg_neg] at h
    rw [e _ _ (by omega), h, Int.tdiv_eq_ediv_of_nonneg (by omega)]; omega
  · rw [e _ _ (by omega), Int.tdiv_eq_ediv_of_nonneg (by omega)]
theorem words_p04_exact_0 : True := by
  k_with "binaryOp FloorDiv int int" => ((with_reducible show wpAny _ _ (binaryOp _ _ (Value.int (ite _ _ _) _)) _ _ _); refine floordiv_int (abs_ne (by assumption)) ?_ (Or.inl (Bd.noPyAbs (by assumption))))
  trivial
section
variable {w : World} {dp un : Nat} {gd : Option (List Code)} {base : Heap} {envs : List Env} {p : Program} {loose : List Str} {mean : ExcName → Option Value} {mg mb : Str → Option Value} {s : Shared} {Q E : Value → Shared → Prop}
set_option maxHeartbeats 4000000 in
theorem cutq_ok (G : Gd w base envs p loose mean mg mb s.heap) {a b : Int} {t u : Tok} (hb : b ≠ 0) (bb : Bd b) (hdp : dp + 2 < recursionLimit) (hu : un + 20 < cLine)
    (hQ : Post s Q fun t => .int (a.tdiv b) t) : wpAny (model PG w) (Au dp un gd envs) (call (.ref 472) [.int a t, .int b u]) Q E s := by
  have H0 : PySem.Challenge.rw_xm0611_01 = PySem.Challenge.rw_xm0611_01 ∧ Mine.hd.heap_39 = Mine.hd.heap_39 := ⟨rfl, rfl⟩
  revert H0; k_fill; intro _
  (k_dflt (refine' enter0 (binds := [(Str.ofString "a", Value.int a t), (Str.ofString "b", Value.int b u)]) ?G ?k6 ?k7 ?k8 ?k9 ?kB ?_ ?c2 ?c3 ?c4 ?c5; (case G => assumption); (case k6 => k_is); (case k7 => k_is); (case k8 => ktr_room); (case k9 => first | exact BindsTo.of_eq rfl | exact binds_K (Gd.kin (by assumption)) rfl (by k_is) rfl rfl rfl); (case c5 => decide); (case kB => exact locs rfl); (case c2 => exact rfl); (case c3 => exact rfl); (case c4 => exact rfl); k_whole; intro L' h' F' N' B' X' T'; (try dsimp only); (try k_fold)))
  k_steps
  · exact post_int (s := s) (Q := Q) hQ (Fr.keep (by assumption)) ((if_pos (by assumption)).symm.trans (tdiv_abs a b hb))
  · exact post_int (s := s) (Q := Q) hQ (Fr.keep (by assumption)) ((if_neg (Bool.eq_false_iff.mp (by assumption))).symm.trans (tdiv_abs a b hb))
end
theorem words_p04_exact_1 : True := by
  k_with "call ref" => (k_here; (with_reducible show wpAny _ _ (call (Value.ref 472) _) _ _ _); k_dflt (refine' cutq_ok (gd_of ?zqF ?zqB ?zqX ?zqT ?zqhf ?zqhk) (by assumption) (by assumption) ?zqhdp ?zqhu ?_; (case zqF => k_asm); (case zqX => k_asm); (case zqT => k_asm); (case zqB => k_asm); (case zqhf => exact rfl); (case zqhk => exact rfl); (case zqhdp => ktr_room); (case zqhu => ktr_units);  k_whole; refine post_use (by assumption) (by assumption) ?_; intro t9 h9 tk9 F9 N9; (try dsimp only); (try k_sweep); (try k_fold)))
  k_with "binaryOp Mult int int" => ((with_reducible show wpAny _ _ (binaryOp _ (Value.int _ _) (Value.int _ _)) _ _ _); first | refine PyProof.Rows.mul_int ?_ (IntMulOk.of_right (Bd.bits (by with_reducible assumption))) | refine PyProof.Rows.mul_int ?_ (IntMulOk.of_left (Bd.bits (by with_reducible assumption))))
  trivial
theorem Ar.of_eq {o o' : Ar} (h : (o.str == o'.str) = true) : o = o' := by revert h; cases o <;> cases o' <;> first | (intro; rfl) | (intro h; exact absurd h (by decide))
theorem Ar.no_other {o : Ar} (ho : o.sh = false) (h1 : (o.str == Str.ofString "+") = false) (h2 : (o.str == Str.ofString "-") = false) (h3 : (o.str == Str.ofString "*") = false) (h4 : ([Str.ofString "/", Str.ofString "%"].any fun x => x == o.str) = false) : False := by
  cases o <;> revert ho h1 h2 h3 h4 <;> decide
theorem Ar.no_and {o : Ar} (h : (o.str == Str.ofString "&") = true) : False := by cases o <;> revert h <;> decide
theorem Ar.no_or {o : Ar} (h : (o.str == Str.ofString "|") = true) : False := by cases o <;> revert h <;> decide
theorem Ar.no_xor {o : Ar} (h : (o.str == Str.ofString "^") = true) : False := by cases o <;> revert h <;> decide
theorem Ar.mod_of {o : Ar} (h : (o.str == Str.ofString "/") = false) (h4 : ([Str.ofString "/", Str.ofString "%"].any fun x => x == o.str) = true) : o = .mod := by
  revert h h4; cases o <;> first | (intro _ _; rfl) | (intro h h4; exact absurd h (by decide)) | (intro h h4; exact absurd h4 (by decide))
theorem Ar.dm_of {o : Ar} (h4 : ([Str.ofString "/", Str.ofString "%"].any fun x => x == o.str) = true) : o = .div ∨ o = .mod := by
  revert h4; cases o <;> first | (intro _; exact .inl rfl) | (intro _; exact .inr rfl) | (intro h4; exact absurd h4 (by decide))
def Ar.ex (o : Ar) (a b : Int) : Option Int := match o with
  | .add => some (a + b) | .sub => some (a - b) | .mul => some (a * b)
  | .div => if b = 0 then none else some (a.tdiv b) | .mod => if b = 0 then none else some (a - b * a.tdiv b) | _ => none
def optV (x : Option Int) (t : Tok) : Value := match x with
  | some n => .int n t | none => .none
theorem post_opt {s : Shared} {Q : Value → Shared → Prop} {x : Option Int} {v : Value} {t : Tok} {h' : Heap} {tk' : Nat} (hQ : Post s Q (optV x)) (st : s.heap.StaysIn h') (e : v = optV x t) : Q v { s with heap := h', toks := tk' } := by
  subst e; exact hQ t h' tk' st
theorem words_p04_exact_2 : True := by
  k_with "exec Raise some none" => (exfalso; exact Ar.no_other (by assumption) (by assumption) (by assumption) (by assumption) (by assumption))
  trivial
section
variable {w : World} {dp un : Nat} {gd : Option (List Code)} {base : Heap} {envs : List Env} {p : Program} {loose : List Str} {mean : ExcName → Option Value} {mg mb : Str → Option Value} {s : Shared} {Q E : Value → Shared → Prop}
set_option maxHeartbeats 4000000 in
theorem exact_ok (G : Gd w base envs p loose mean mg mb s.heap) {o : Ar} {a b : Int} {t0 t u : Tok} (ho : o.sh = false) (bb : Bd b) (hdp : dp + 4 < recursionLimit) (hu : un + 40 < cLine)
    (hQ : Post s Q (optV (o.ex a b))) : wpAny (model PG w) (Au dp un gd envs) (call (.ref 479) [.str o.str t0, .int a t, .int b u]) Q E s := by
  have H0 : PySem.Challenge.rw_xm0611_01 = PySem.Challenge.rw_xm0611_01 ∧ Mine.hd.heap_39 = Mine.hd.heap_39 := ⟨rfl, rfl⟩
  revert H0; k_fill; intro _
  (k_dflt (refine' enter0 (binds := [(Str.ofString "op", Value.str o.str t0), (Str.ofString "a", Value.int a t), (Str.ofString "b", Value.int b u)]) ?G ?k6 ?k7 ?k8 ?k9 ?kB ?_ ?c2 ?c3 ?c4 ?c5; (case G => assumption); (case k6 => k_is); (case k7 => k_is); (case k8 => ktr_room); (case k9 => first | exact BindsTo.of_eq rfl | exact binds_K (Gd.kin (by assumption)) rfl (by k_is) rfl rfl rfl); (case c5 => decide); (case kB => exact locs rfl); (case c2 => exact rfl); (case c3 => exact rfl); (case c4 => exact rfl); k_whole; intro L' h' F' N' B' X' T'; (try dsimp only); (try k_fold)))
  k_steps
  · rw [Ar.of_eq (o := o) (o' := .add) (by assumption)] at hQ
    exact post_opt (s := s) (Q := Q) hQ (Fr.keep (by assumption)) rfl
  · rw [Ar.of_eq (o := o) (o' := .sub) (by assumption)] at hQ
    exact post_opt (s := s) (Q := Q) hQ (Fr.keep (by assumption)) rfl
  · rw [Ar.of_eq (o := o) (o' := .mul) (by assumption)] at hQ
    exact post_opt (s := s) (Q := Q) hQ (Fr.keep (by assumption)) rfl
  · exact (Ar.no_and (o := o) (by assumption)).elim
  · exact (Ar.no_or (o := o) (by assumption)).elim
  · exact (Ar.no_xor (o := o) (by assumption)).elim
  · have e : o.ex a b = none := by rcases Ar.dm_of (o := o) (by assumption) with rfl | rfl <;> exact if_pos (by assumption)
    rw [e] at hQ
    exact post_opt (s := s) (Q := Q) (t := 0) hQ (Fr.keep (by assumption)) rfl
  · rw [Ar.of_eq (o := o) (o' := .div) (by assumption), show Ar.ex .div a b = some (a.tdiv b) from if_neg (by assumption)] at hQ
    exact post_opt (s := s) (Q := Q) hQ (Fr.keep (by assumption)) rfl
  · rw [Ar.mod_of (o := o) (by assumption) (by assumption), show Ar.ex .mod a b = some (a - b * a.tdiv b) from if_neg (by assumption)] at hQ
    exact post_opt (s := s) (Q := Q) hQ (Fr.keep (by assumption)) rfl
end

def Ar.isMod : Ar → Bool
  | .mod => true | _ => false
def Ar.isShl : Ar → Bool
  | .shl => true | _ => false
def Kd.sh (k : Kd) (b : Int) : Nat := (b.fmod k.bits).toNat
def Ar.shv (o : Ar) (k : Kd) (a b : Int) : Int := if o.isShl then a * 2 ^ k.sh b else a.fdiv (2 ^ k.sh b)
def chkV (k : Kd) (o : Ar) (a b : Int) : Option (Int × Bool) :=
  if o.sh then some (k.wrap (o.shv k a b), !decide (0 ≤ b ∧ b < k.bits))
  else match o.ex a b with
  | none => none
  | some x => if (o.isMod && decide (b = -1) && k.sgn) = true then some (0, a == k.lo) else some (k.wrap x, !k.fits x)
def chkO (x : Option (Int × Bool)) (t : Tok) : Obj := match x with
  | none => tupO [.none, .bool false]
  | some (v, o) => tupO [.int v t, .bool o]
theorem Kd.sh_lt (k : Kd) (b : Int) : 0 ≤ b.fmod k.bits ∧ b.fmod k.bits < k.bits := by
  have := k.bits_lo
  obtain ⟨q, e, h0, h1⟩ := fmod_has b (p := k.bits) (by omega)
  exact ⟨h0, h1⟩
theorem Kd.sh_pw (k : Kd) (b : Int) : (0 : Int) < 2 ^ k.sh b ∧ Bd (2 ^ k.sh b) := by
  have := k.bits_hi
  obtain ⟨h0, h1⟩ := k.sh_lt b
  have hp := kbt_pos (k.sh b)
  have hl : k.sh b ≤ 63 := by unfold Kd.sh; omega
  have hm : (2 : Int) ^ k.sh b ≤ 2 ^ 63 := by
    rw [← kbt_cast, ← kbt_cast]
    exact_mod_cast Nat.pow_le_pow_right (by decide) hl
  refine ⟨hp, by omega, ?_⟩
  have : (2 : Int) ^ 63 = 9223372036854775808 := by decide
  omega
section
variable {prog : Program} {w : World} {A : Around} {s : Shared} {Q E : Value → Shared → Prop}
theorem pow_sh {k : Kd} {b : Int} {t u : Tok} (h : Q (.int (2 ^ k.sh b) s.toks) { s with toks := s.toks + 1 }) : wpAny (model prog w) A (binaryOp .Pow (.int 2 t) (.int (b.fmod k.bits) u)) Q E s := by
  have := k.bits_hi; obtain ⟨h0, h1⟩ := k.sh_lt b
  exact pow_int_small h0 (by omega) (by decide) h
end
theorem chk_l1 {k : Kd} {a b : Int} (h : 0 ≤ b) : chkV k .shl a b = some (k.wrap (a * 2 ^ k.sh b), !decide (b < k.bits)) := by simp [chkV, Ar.sh, Ar.shv, Ar.isShl, h]
theorem chk_l2 {k : Kd} {a b : Int} (h : ¬ 0 ≤ b) : chkV k .shl a b = some (k.wrap (a * 2 ^ k.sh b), !decide (0 ≤ b)) := by simp [chkV, Ar.sh, Ar.shv, Ar.isShl, h]
theorem chk_r1 {k : Kd} {a b : Int} (h : 0 ≤ b) : chkV k .shr a b = some (k.wrap (a.fdiv (2 ^ k.sh b)), !decide (b < k.bits)) := by simp [chkV, Ar.sh, Ar.shv, Ar.isShl, h]
theorem chk_r2 {k : Kd} {a b : Int} (h : ¬ 0 ≤ b) : chkV k .shr a b = some (k.wrap (a.fdiv (2 ^ k.sh b)), !decide (0 ≤ b)) := by simp [chkV, Ar.sh, Ar.shv, Ar.isShl, h]
theorem Ar.shr_of {o : Ar} (ho : o.sh = true) (h : (o.str == Str.ofString "<<") = false) : o = .shr := by revert ho h; cases o <;> first | (intro _ _; rfl) | (intro h _; exact absurd h (by decide)) | (intro _ h; exact absurd h (by decide))
theorem Kd.bits_ne (k : Kd) : k.bits ≠ 0 := by have := k.bits_lo; omega
theorem Ar.no_mod {o : Ar} (h : (o.str == Str.ofString "%") = false) : o.isMod = false := by revert h; cases o <;> first | (intro; rfl) | (intro h; exact absurd h (by decide))
theorem chk_n {k : Kd} {o : Ar} {a b : Int} (ho : o.sh = false) (h : o.ex a b = none) : chkV k o a b = none := by
  unfold chkV; rw [ho, h]; rfl
theorem chk_m {k : Kd} {o : Ar} {a b x : Int} (ho : o = .mod) (h : o.ex a b = some x) (hb : b = -1) (hs : k.sgn = true) : chkV k o a b = some (0, a == k.lo) := by
  unfold chkV; rw [h]; subst ho hb; simp [Ar.sh, Ar.isMod, hs]
theorem chk_x {k : Kd} {o : Ar} {a b x : Int} (ho : o.sh = false) (h : o.ex a b = some x) (hn : o.isMod = false ∨ b ≠ -1 ∨ k.sgn = false) : chkV k o a b = some (k.wrap x, !k.fits x) := by
  unfold chkV; rw [ho, h]
  have : (o.isMod && decide (b = -1) && k.sgn) = false := by rcases hn with h | h | h <;> simp [h]
  simp [this]
theorem words_p05_checked_0 : True := by
  k_with "binaryOp Mod int int" => ((with_reducible show wpAny _ _ (binaryOp _ _ (Value.int (Kd.bits _) _)) _ _ _); refine mod_int' (Kd.bits_ne _) ?_)
  k_with "binaryOp Pow int int" => with_reducible refine pow_sh ?_
  k_with "binaryOp FloorDiv int int" => ((with_reducible show wpAny _ _ (binaryOp _ _ (Value.int (_ ^ Kd.sh _ _) _)) _ _ _); refine floordiv_int (Int.ne_of_gt (Kd.sh_pw _ _).1) ?_ (Or.inl (Bd.noPy (Kd.sh_pw _ _).2)))
  k_with "binaryOp Mult int int" => ((with_reducible show wpAny _ _ (binaryOp _ _ (Value.int (_ ^ Kd.sh _ _) _)) _ _ _); refine PyProof.Rows.mul_int ?_ (IntMulOk.of_right (Bd.bits (Kd.sh_pw _ _).2)))
  trivial
section
variable {w : World} {dp un : Nat} {gd : Option (List Code)} {base : Heap} {envs : List Env} {p : Program} {loose : List Str} {mean : ExcName → Option Value} {mg mb : Str → Option Value} {s : Shared} {Q E : Value → Shared → Prop}
set_option maxHeartbeats 4000000 in
theorem shifted_ok (G : Gd w base envs p loose mean mg mb s.heap) {k : Kd} {o : Ar} {a b : Int} {t0 t1 t u : Tok} (ho : o.sh = true) (hdp : dp + 10 < recursionLimit) (hu : un + 100 < cLine)
    (hQ : PostT s Q (chkO (chkV k o a b))) : wpAny (model PG w) (Au dp un gd envs) (call (.ref 493) [.str k.str t0, .str o.str t1, .int a t, .int b u]) Q E s := by
  have H0 : PySem.Challenge.rw_xm0611_01 = PySem.Challenge.rw_xm0611_01 ∧ Mine.hd.heap_39 = Mine.hd.heap_39 := ⟨rfl, rfl⟩
  revert H0; k_fill; intro _
  (k_dflt (refine' enter0 (binds := [(Str.ofString "kind", Value.str k.str t0), (Str.ofString "op", Value.str o.str t1), (Str.ofString "a", Value.int a t), (Str.ofString "many", Value.int b u)]) ?G ?k6 ?k7 ?k8 ?k9 ?kB ?_ ?c2 ?c3 ?c4 ?c5; (case G => assumption); (case k6 => k_is); (case k7 => k_is); (case k8 => ktr_room); (case k9 => first | exact BindsTo.of_eq rfl | exact binds_K (Gd.kin (by assumption)) rfl (by k_is) rfl rfl rfl); (case c5 => decide); (case kB => exact locs rfl); (case c2 => exact rfl); (case c3 => exact rfl); (case c4 => exact rfl); k_whole; intro L' h' F' N' B' X' T'; (try dsimp only); (try k_fold)))
  k_steps
  · rw [Ar.of_eq (o := o) (o' := .shl) (by assumption), chk_l1 (by assumption)] at hQ
    exact post_tup (s := s) (Q := Q) hQ (by assumption) (by assumption) (.head _) rfl
  · rw [Ar.of_eq (o := o) (o' := .shl) (by assumption), chk_l2 (by assumption)] at hQ
    exact post_tup (s := s) (Q := Q) hQ (by assumption) (by assumption) (.head _) rfl
  · rw [Ar.shr_of (o := o) ho (by assumption), chk_r1 (by assumption)] at hQ
    exact post_tup (s := s) (Q := Q) hQ (by assumption) (by assumption) (.head _) rfl
  · rw [Ar.shr_of (o := o) ho (by assumption), chk_r2 (by assumption)] at hQ
    exact post_tup (s := s) (Q := Q) hQ (by assumption) (by assumption) (.head _) rfl
end
theorem Ar.sh_of {o : Ar} (h : ([Str.ofString "<<", Str.ofString ">>"].any fun x => x == o.str) = true) : o.sh = true := by revert h; cases o <;> first | (intro; rfl) | (intro h; exact absurd h (by decide))
theorem Ar.sh_no {o : Ar} (h : ([Str.ofString "<<", Str.ofString ">>"].any fun x => x == o.str) = false) : o.sh = false := by revert h; cases o <;> first | (intro; rfl) | (intro h; exact absurd h (by decide))
theorem words_p05_checked_1 : True := by
  k_with "call ref" => (k_here; (with_reducible show wpAny _ _ (call (Value.ref 493) _) _ _ _); k_dflt (refine' shifted_ok (gd_of ?zqF ?zqB ?zqX ?zqT ?zqhf ?zqhk) (Ar.sh_of (by assumption)) ?zqhdp ?zqhu ?_; (case zqF => k_asm); (case zqX => k_asm); (case zqT => k_asm); (case zqB => k_asm); (case zqhf => exact rfl); (case zqhk => exact rfl); (case zqhdp => ktr_room); (case zqhu => ktr_units);  k_whole; refine postT_use (by assumption) (by assumption) ?_; intro D9 t9 h9 tk9 F9 N9 l9; (try dsimp only at N9); (try dsimp only); (try k_sweep); (try k_fold)))
  k_with "call ref" => (k_here; (with_reducible show wpAny _ _ (call (Value.ref 479) _) _ _ _); k_dflt (refine' exact_ok (gd_of ?zqF ?zqB ?zqX ?zqT ?zqhf ?zqhk) (Ar.sh_no (by assumption)) (by assumption) ?zqhdp ?zqhu ?_; (case zqF => k_asm); (case zqX => k_asm); (case zqT => k_asm); (case zqB => k_asm); (case zqhf => exact rfl); (case zqhk => exact rfl); (case zqhdp => ktr_room); (case zqhu => ktr_units);  k_whole; refine post_use (by assumption) (by assumption) ?_; intro t9 h9 tk9 F9 N9; (generalize hex9 : Ar.ex _ _ _ = x9); (cases x9 <;> ((try dsimp only [optV]); (try k_sweep); (try k_fold)))))
  trivial
section
variable {w : World} {dp un : Nat} {gd : Option (List Code)} {base : Heap} {envs : List Env} {p : Program} {loose : List Str} {mean : ExcName → Option Value} {mg mb : Str → Option Value} {s : Shared} {Q E : Value → Shared → Prop}
set_option maxHeartbeats 4000000 in
theorem checked_ok (G : Gd w base envs p loose mean mg mb s.heap) {k : Kd} {o : Ar} {a b : Int} {t0 t1 t u : Tok} (bb : Bd b) (hdp : dp + 15 < recursionLimit) (hu : un + 150 < cLine)
    (hQ : PostT s Q (chkO (chkV k o a b))) : wpAny (model PG w) (Au dp un gd envs) (call (.ref 486) [.str k.str t0, .str o.str t1, .int a t, .int b u]) Q E s := by
  have H0 : PySem.Challenge.rw_xm0611_01 = PySem.Challenge.rw_xm0611_01 ∧ Mine.hd.heap_39 = Mine.hd.heap_39 := ⟨rfl, rfl⟩
  revert H0; k_fill; intro _
  (k_dflt (refine' enter0 (binds := [(Str.ofString "kind", Value.str k.str t0), (Str.ofString "op", Value.str o.str t1), (Str.ofString "a", Value.int a t), (Str.ofString "b", Value.int b u)]) ?G ?k6 ?k7 ?k8 ?k9 ?kB ?_ ?c2 ?c3 ?c4 ?c5; (case G => assumption); (case k6 => k_is); (case k7 => k_is); (case k8 => ktr_room); (case k9 => first | exact BindsTo.of_eq rfl | exact binds_K (Gd.kin (by assumption)) rfl (by k_is) rfl rfl rfl); (case c5 => decide); (case kB => exact locs rfl); (case c2 => exact rfl); (case c3 => exact rfl); (case c4 => exact rfl); k_whole; intro L' h' F' N' B' X' T'; (try dsimp only); (try k_fold)))
  k_steps
  · exact post_tup (s := s) (Q := Q) hQ (by assumption) (by assumption) (.head _) rfl
  · rw [chk_n (Ar.sh_no (by assumption)) (by assumption)] at hQ
    exact post_tup (s := s) (Q := Q) (t := 0) hQ (by assumption) (by assumption) (.head _) rfl
  · rw [chk_m (Ar.of_eq (o := o) (o' := .mod) (by assumption)) (by assumption) (by assumption) (by assumption)] at hQ
    exact post_tup (s := s) (Q := Q) hQ (by assumption) (by assumption) (.head _) rfl
  · rw [chk_x (Ar.sh_no (by assumption)) (by assumption) (.inr (.inr (by assumption)))] at hQ
    exact post_tup (s := s) (Q := Q) hQ (by assumption) (by assumption) (.head _) rfl
  · rw [chk_x (Ar.sh_no (by assumption)) (by assumption) (.inr (.inl (by assumption)))] at hQ
    exact post_tup (s := s) (Q := Q) hQ (by assumption) (by assumption) (.head _) rfl
  · rw [chk_x (Ar.sh_no (by assumption)) (by assumption) (.inl (Ar.no_mod (by assumption)))] at hQ
    exact post_tup (s := s) (Q := Q) hQ (by assumption) (by assumption) (.head _) rfl
end

section
variable {prog : Program} {w : World} {A : Around} {s : Shared} {Q E : Value → Shared → Prop}
theorem seqAt {k : Int} {n : Nat} (h0 : 0 ≤ k) (h1 : k < n) : seqIndex? k n = some k.toNat := by
  have hn : ¬ k < 0 := by omega
  simp [seqIndex?, hn, h0, h1]
theorem tup_at {value slice : Expr} {lt : Addr} {l : List Value} {k : Int} {u : Tok} {x : Value} (T : IsTup s.heap lt l.toArray) (h0 : 0 ≤ k) (hk : k < 4) (hx : l[k.toNat]? = some x) (h : Q x s)
    (hs : subscripted slice false (.ref lt) (.int k u) = operate [.ref lt, .int k u] (getItem (.ref lt) (.int k u))) : wpAny (model prog w) A (subscriptTail value slice (.ref lt) (.int k u)) Q E s := by
  have hl : k.toNat < l.length := (List.getElem?_eq_some_iff.mp hx).1
  exact item_tupleT T (by omega) (by omega) (seqAt h0 (by omega)) hx h hs
theorem lst_at {value slice : Expr} {lt : Addr} {l : List Value} {k : Int} {u : Tok} {x : Value} (T : s.heap.IsList lt l.toArray) (h0 : 0 ≤ k) (hk : k < 4) (hx : l[k.toNat]? = some x) (h : Q x s)
    (hs : subscripted slice false (.ref lt) (.int k u) = operate [.ref lt, .int k u] (getItem (.ref lt) (.int k u))) : wpAny (model prog w) A (subscriptTail value slice (.ref lt) (.int k u)) Q E s :=
  tail_any T.typeIs slot_list_getitem.lookup (wpAny_getItem_list T h0 (by omega) (by simpa using hx) h) hs
end
theorem words_p06_reck_0 : True := by
  k_with "subscriptTail Name Constant ref int" => (k_here; (with_reducible show wpAny _ _ (subscriptTail _ _ (Value.ref _) (Value.int _ _)) _ _ _); k_dflt (refine' tup_at ?zqT ?zqa ?zqb ?zqx ?_ ?zqhs; (case zqT => first | exact Fr.tup (by k_asm) (by with_reducible assumption) | exact News.isTup (by k_asm) (by k_mem)); (case zqa => decide); (case zqb => decide); (case zqx => exact rfl); (case zqhs => with_unfolding_all rfl); k_whole))
  k_with "subscriptTail Name Constant ref int" => (k_here; (with_reducible show wpAny _ _ (subscriptTail _ _ (Value.ref _) (Value.int _ _)) _ _ _); k_dflt (refine' lst_at ?zqT ?zqa ?zqb ?zqx ?_ ?zqhs; (case zqT => is_list); (case zqa => decide); (case zqb => decide); (case zqx => exact rfl); (case zqhs => with_unfolding_all rfl); k_whole))
  k_with "call ref" => (k_here; (with_reducible show wpAny _ _ (call (Value.ref 486) _) _ _ _); k_dflt (refine' checked_ok (gd_of ?zqF ?zqB ?zqX ?zqT ?zqhf ?zqhk) (by assumption) ?zqhdp ?zqhu ?_; (case zqF => k_asm); (case zqX => k_asm); (case zqT => k_asm); (case zqB => k_asm); (case zqhf => exact rfl); (case zqhk => exact rfl); (case zqhdp => ktr_room); (case zqhu => ktr_units);  k_whole; refine postT_use (by assumption) (by assumption) ?_; intro D9 t9 h9 tk9 F9 N9 l9; (try dsimp only at N9); (first | (rename chkV _ _ _ _ = some _ => hv9) | (rename chkV _ _ _ _ = none => hv9)); rw [hv9] at N9; dsimp only [chkO, tupO] at N9; (try dsimp only); (try k_sweep); (try k_fold)))
  trivial
section
variable {w : World} {dp un : Nat} {gd : Option (List Code)} {base : Heap} {envs : List Env} {p : Program} {loose : List Str} {mean : ExcName → Option Value} {mg mb : Str → Option Value} {s : Shared} {Q E : Value → Shared → Prop}
set_option maxHeartbeats 4000000 in
theorem reckoned_ok (G : Gd w base envs p loose mean mg mb s.heap) {k : Kd} {o : Ar} {a b : Int} {lt : Addr} {x0 : Value} {t1 t t2 u : Tok} {v : Int} {ov : Bool} (bb : Bd b) (hl : IsTup s.heap lt [x0, Value.str k.str t1].toArray) (hv : chkV k o a b = some (v, ov)) (hdp : dp + 20 < recursionLimit) (hu : un + 200 < cLine)
    (hQ : PostT s Q (chkO (some (v, ov)))) : wpAny (model PG w) (Au dp un gd envs) (call (.ref 530) [.ref lt, .str o.str t2, .int a t, .int b u]) Q E s := by
  have H0 : PySem.Challenge.rw_xm0611_01 = PySem.Challenge.rw_xm0611_01 ∧ Mine.hd.heap_39 = Mine.hd.heap_39 := ⟨rfl, rfl⟩
  revert H0; k_fill; intro _
  (k_dflt (refine' enter0 (binds := [(Str.ofString "t", Value.ref lt), (Str.ofString "op", Value.str o.str t2), (Str.ofString "a", Value.int a t), (Str.ofString "b", Value.int b u)]) ?G ?k6 ?k7 ?k8 ?k9 ?kB ?_ ?c2 ?c3 ?c4 ?c5; (case G => assumption); (case k6 => k_is); (case k7 => k_is); (case k8 => ktr_room); (case k9 => first | exact BindsTo.of_eq rfl | exact binds_K (Gd.kin (by assumption)) rfl (by k_is) rfl rfl rfl); (case c5 => decide); (case kB => exact locs rfl); (case c2 => exact rfl); (case c3 => exact rfl); (case c4 => exact rfl); k_whole; intro L' h' F' N' B' X' T'; (try dsimp only); (try k_fold)))
  k_steps
  exact post_tup (s := s) (Q := Q) hQ (by assumption) (by assumption) (.head _) rfl
end

inductive Ty where
  | int | bool
def Ty.str : Ty → Str
  | .int => Str.ofString "int" | .bool => Str.ofString "bool"
section
variable {prog : Program} {w : World} {A : Around} {s : Shared} {Q E : Value → Shared → Prop}
theorem eq_ty_box {k : Ty} {t u : Tok} (h : Q (.bool false) s) : wpAny (model prog w) A (compareOp .Eq (.str k.str t) (.str (Str.ofString "box") u)) Q E s := by
  refine PyProof.Rows.eq_str ?_
  rw [show (k.str == Str.ofString "box") = false by cases k <;> decide]
  exact h
theorem Ty.no_parts (k : Ty) : ([Str.ofString "tuple", Str.ofString "array", Str.ofString "adt"].any fun x => x == k.str) = false := by cases k <;> decide
end
section
variable {prog : Program} {w : World} {A : Around} {s : Shared} {Q E : Value → Shared → Prop}
theorem ne_len {l b : Addr} {vs ws : List Value} (hl : s.heap.IsList l vs.toArray) (hb : s.heap.IsList b ws.toArray) (hsz : (vs.length != ws.length) = true) (hu : A.units < cLine) (h : Q (.bool true) s) :
    wpAny (model prog w) A (compareOp .NotEq (.ref l) (.ref b)) Q E s :=
  cmp_ofNotEq (PySem.SeqAt.RcNeAt.lists_lengths hl hb (by simpa using hsz) hu prog w E Q h)
theorem ne_nil2 {l b : Addr} (hl : s.heap.IsList l [].toArray) (hb : s.heap.IsList b [].toArray) (hu : A.units < cLine) (h : Q (.bool false) s) :
    wpAny (model prog w) A (compareOp .NotEq (.ref l) (.ref b)) Q E s :=
  cmp_ofNotEq (PySem.SeqAt.RcNeAt.lists (e := fun _ => true) hl hb rfl hu (fun j h1 => absurd h1 (Nat.not_lt_zero j)) prog w E Q (by simpa using h))
end
theorem words_p07_taken_0 : True := by
  k_with "compareOp NotEq ref ref" => (k_here; (with_reducible show wpAny _ _ (compareOp CmpOp.NotEq (Value.ref _) (Value.ref _)) _ _ _); k_dflt (first | (refine' ne_nil2 ?zqa ?zqb ?zqu ?_; (case zqa => is_list); (case zqb => is_list); (case zqu => ktr_units)) | (refine' ne_len ?zqa ?zqb ?zqz ?zqu ?_; (case zqa => is_list); (case zqb => is_list); (case zqz => exact rfl); (case zqu => ktr_units))))
  k_with "compareOp Eq str str" => ((with_reducible show wpAny _ _ (compareOp _ (Value.str (Ty.str _) _) _) _ _ _); with_reducible refine eq_ty_box ?_)
  trivial
section
variable {w : World} {dp un : Nat} {gd : Option (List Code)} {base : Heap} {envs : List Env} {p : Program} {loose : List Str} {mean : ExcName → Option Value} {mg mb : Str → Option Value} {s : Shared} {Q E : Value → Shared → Prop}
set_option maxHeartbeats 4000000 in
theorem parts_ok (G : Gd w base envs p loose mean mg mb s.heap) {y : Ty} {lt : Addr} {t0 : Tok} {rest : List Value} (hl : IsTup s.heap lt (Value.str y.str t0 :: rest).toArray) (hdp : dp + 2 < recursionLimit) (hu : un + 20 < cLine)
    (hQ : Post s Q fun _ => .bool false) : wpAny (model PG w) (Au dp un gd envs) (call (.ref 388) [.ref lt]) Q E s := by
  have H0 : PySem.Challenge.rw_xm0611_01 = PySem.Challenge.rw_xm0611_01 ∧ Mine.hd.heap_39 = Mine.hd.heap_39 := ⟨rfl, rfl⟩
  revert H0; k_fill; intro _
  (k_dflt (refine' enter0 (binds := [(Str.ofString "t", Value.ref lt)]) ?G ?k6 ?k7 ?k8 ?k9 ?kB ?_ ?c2 ?c3 ?c4 ?c5; (case G => assumption); (case k6 => k_is); (case k7 => k_is); (case k8 => ktr_room); (case k9 => first | exact BindsTo.of_eq rfl | exact binds_K (Gd.kin (by assumption)) rfl (by k_is) rfl rfl rfl); (case c5 => decide); (case kB => exact locs rfl); (case c2 => exact rfl); (case c3 => exact rfl); (case c4 => exact rfl); k_whole; intro L' h' F' N' B' X' T'; (try dsimp only); (try k_fold)))
  k_steps
  exact post_bool (s := s) (Q := Q) hQ (Fr.keep (by assumption)) (Ty.no_parts _)
end
theorem words_p07_taken_1 : True := by
  k_with "call ref" => (k_here; (with_reducible show wpAny _ _ (call (Value.ref 388) _) _ _ _); k_dflt (refine' parts_ok (gd_of ?zqF ?zqB ?zqX ?zqT ?zqhf ?zqhk) (Fr.tup (by k_asm) (by with_reducible assumption)) ?zqhdp ?zqhu ?_; (case zqF => k_asm); (case zqX => k_asm); (case zqT => k_asm); (case zqB => k_asm); (case zqhf => exact rfl); (case zqhk => exact rfl); (case zqhdp => ktr_room); (case zqhu => ktr_units);  k_whole; refine post_use (by assumption) (by assumption) ?_; intro t9 h9 tk9 F9 N9; (try dsimp only); (try k_sweep); (try k_fold)))
  trivial
section
variable {w : World} {dp un : Nat} {gd : Option (List Code)} {base : Heap} {envs : List Env} {p : Program} {loose : List Str} {mean : ExcName → Option Value} {mg mb : Str → Option Value} {s : Shared} {Q E : Value → Shared → Prop}
set_option maxHeartbeats 4000000 in
theorem cells_ok (G : Gd w base envs p loose mean mg mb s.heap) {y : Ty} {lt : Addr} {t0 : Tok} {rest : List Value} {v : Value} (hl : IsTup s.heap lt (Value.str y.str t0 :: rest).toArray) (hdp : dp + 5 < recursionLimit) (hu : un + 50 < cLine)
    (hQ : PostT s Q fun _ => W.listOf [v].toArray 0) : wpAny (model PG w) (Au dp un gd envs) (call (.ref 408) [.ref lt, v, .none]) Q E s := by
  have H0 : PySem.Challenge.rw_xm0611_01 = PySem.Challenge.rw_xm0611_01 ∧ Mine.hd.heap_39 = Mine.hd.heap_39 := ⟨rfl, rfl⟩
  revert H0; k_fill; intro _
  (k_dflt (refine' enterC (binds := [(Str.ofString "t", Value.ref lt), (Str.ofString "value", v), (Str.ofString "world", Value.none), (Str.ofString "memory", Value.none)]) ?G ?k6 ?k7 ?k8 ?k9 ?kB ?kD ?_ ?c2 ?c3 ?c4; (case G => assumption); (case k6 => k_is); (case k7 => k_is); (case k8 => ktr_room); (case k9 => first | exact BindsTo.of_eq rfl | exact binds_K (Gd.kin (by assumption)) rfl (by k_is) rfl rfl rfl); (case kB => exact rfl); (case kD => decide +kernel); (case c2 => exact rfl); (case c3 => exact rfl); (case c4 => exact rfl); k_whole; intro L' h' tk' cells' F' N' Y' B' X' T'; k_cells Y'; (try dsimp only [List.cons_append, List.nil_append] at N'); (try dsimp only); (try k_fold)))
  k_steps
  exact post_tup (s := s) (Q := Q) (t := 0) hQ (by assumption) (by assumption) (by k_mem) rfl
end
theorem words_p07_taken_2 : True := by
  k_with "call ref" => (k_here; (with_reducible show wpAny _ _ (call (Value.ref 408) _) _ _ _); k_dflt (refine' cells_ok (gd_of ?zqF ?zqB ?zqX ?zqT ?zqhf ?zqhk) (Fr.tup (by k_asm) (by with_reducible assumption)) ?zqhdp ?zqhu ?_; (case zqF => k_asm); (case zqX => k_asm); (case zqT => k_asm); (case zqB => k_asm); (case zqhf => exact rfl); (case zqhk => exact rfl); (case zqhdp => ktr_room); (case zqhu => ktr_units);  k_whole; refine postT_use (by assumption) (by assumption) ?_; intro D9 t9 h9 tk9 F9 N9 l9; (try dsimp only at N9); (try dsimp only); (try k_sweep); (try k_fold)))
  trivial
structure RV (h : Heap) (rv pl : Addr) : Prop where
  ex : ∃ ox ox' mm h1 t1 h2 t2 n h3 t3 h4 t4 n', InstAt h rv ox 671 (some (W.dictOf [⟨h1, .str (Str.ofString "places") t1, .ref pl⟩, ⟨h2, .str (Str.ofString "world") t2, .none⟩] n)) ∧
    InstAt h pl ox' 603 (some (W.dictOf [⟨h3, .str (Str.ofString "memory") t3, .ref mm⟩, ⟨h4, .str (Str.ofString "world") t4, .none⟩] n'))
theorem inst_keeps {h h' : Heap} {x C : Addr} {ox : Obj} {od : Option Obj} (I : InstAt h x ox C od) (st : h.StaysIn h') : InstAt h' x ox C od := by
  refine ⟨st _ _ I.at_, I.cls, I.no, ?_⟩
  have := I.dict
  split at this
  · exact st _ _ this
  · trivial
  · exact this.elim
local macro_rules | `(tactic| k_inst) => `(tactic| exact inst_keeps (by with_reducible assumption) (Fr.keep (by k_asm)))
section
variable {w : World} {dp un : Nat} {gd : Option (List Code)} {base : Heap} {envs : List Env} {p : Program} {loose : List Str} {mean : ExcName → Option Value} {mg mb : Str → Option Value} {s : Shared} {Q E : Value → Shared → Prop}
set_option maxHeartbeats 4000000 in
theorem taken_ok (G : Gd w base envs p loose mean mg mb s.heap) {y : Ty} {rv pl lt ot : Addr} {t0 t1 : Tok} {rest : List Value} {v : Value} (R : RV s.heap rv pl) (ho : IsTup s.heap ot [Value.str (Str.ofString "const") t1, .ref lt, v].toArray) (hl : IsTup s.heap lt (Value.str y.str t0 :: rest).toArray) (hdp : dp + 10 < recursionLimit) (hu : un + 100 < cLine)
    (hQ : PostTL s Q v lt) : wpAny (model PG w) (Au dp un gd envs) (call (.ref 600) [.ref pl, .none, .ref ot]) Q E s := by
  obtain ⟨ox, ox', mm, h1, t1, h2, t2, n, h3, t3, h4, t4, n', R1, R2⟩ := R.ex
  have H0 : PySem.Challenge.rw_xm0611_01 = PySem.Challenge.rw_xm0611_01 ∧ Mine.hd.heap_39 = Mine.hd.heap_39 := ⟨rfl, rfl⟩
  revert H0; k_fill; intro _
  (k_dflt (refine' enter0 (binds := [(Str.ofString "self", Value.ref pl), (Str.ofString "frame", Value.none), (Str.ofString "operand", Value.ref ot)]) ?G ?k6 ?k7 ?k8 ?k9 ?kB ?_ ?c2 ?c3 ?c4 ?c5; (case G => assumption); (case k6 => k_is); (case k7 => k_is); (case k8 => ktr_room); (case k9 => first | exact BindsTo.of_eq rfl | exact binds_K (Gd.kin (by assumption)) rfl (by k_is) rfl rfl rfl); (case c5 => decide); (case kB => exact locs rfl); (case c2 => exact rfl); (case c3 => exact rfl); (case c4 => exact rfl); k_whole; intro L' h' F' N' B' X' T'; (try dsimp only); (try k_fold)))
  k_steps
  exact hQ _ _ _ _ (Fr.keep (by assumption)) (News.fresh (by assumption) (.head _)) (News.fresh (by assumption) (.tail _ (.head _))) (by k_ne) (News.get (by assumption) (.head _)) (News.get (by assumption) (.tail _ (.head _)))
end

inductive Cm where
  | eq | ne | lt | le | gt | ge
def Cm.str : Cm → Str
  | .eq => Str.ofString "==" | .ne => Str.ofString "!=" | .lt => Str.ofString "<" | .le => Str.ofString "<=" | .gt => Str.ofString ">" | .ge => Str.ofString ">="
def Cm.val (c : Cm) (a b : Int) : Bool := match c with
  | .eq => a == b | .ne => a != b | .lt => decide (a < b) | .le => decide (a ≤ b) | .gt => decide (b < a) | .ge => decide (b ≤ a)
inductive Bt where
  | and | or | xor
def Bt.str : Bt → Str
  | .and => Str.ofString "&" | .or => Str.ofString "|" | .xor => Str.ofString "^"
def Bt.val (c : Bt) (a b : Int) : Int := match c with
  | .and => Builtin.bitAnd a b | .or => Builtin.bitOr a b | .xor => Builtin.bitXor a b
def Bt.valB (c : Bt) (a b : Bool) : Bool := match c with
  | .and => a && b | .or => a || b | .xor => a != b
theorem Cm.of_eq {o o' : Cm} (h : (o.str == o'.str) = true) : o = o' := by revert h; cases o <;> cases o' <;> first | (intro; rfl) | (intro h; exact absurd h (by decide))
theorem Cm.no_other {o : Cm} (h1 : (o.str == Str.ofString "==") = false) (h2 : (o.str == Str.ofString "!=") = false) (h3 : (o.str == Str.ofString "<") = false) (h4 : (o.str == Str.ofString "<=") = false) (h5 : (o.str == Str.ofString ">") = false) (h6 : (o.str == Str.ofString ">=") = false) : False := by
  cases o <;> revert h1 h2 h3 h4 h5 h6 <;> decide
theorem Bt.of_eq {o o' : Bt} (h : (o.str == o'.str) = true) : o = o' := by revert h; cases o <;> cases o' <;> first | (intro; rfl) | (intro h; exact absurd h (by decide))
theorem Bt.xor_of {o : Bt} (h1 : (o.str == Str.ofString "&") = false) (h2 : (o.str == Str.ofString "|") = false) : o = .xor := by revert h1 h2; cases o <;> first | (intro _ _; rfl) | (intro h1 h2; exact absurd h1 (by decide)) | (intro h1 h2; exact absurd h2 (by decide))
theorem b2i_eq (a b : Bool) : (a == b) = (b2i a == b2i b) := by cases a <;> cases b <;> decide
theorem b2i_ne (a b : Bool) : (a != b) = (b2i a != b2i b) := by cases a <;> cases b <;> decide
theorem words_p08_ops_0 : True := by
  k_with "exec Raise some none" => (exfalso; exact Cm.no_other (by assumption) (by assumption) (by assumption) (by assumption) (by assumption) (by assumption))
  trivial
section
variable {w : World} {dp un : Nat} {gd : Option (List Code)} {base : Heap} {envs : List Env} {p : Program} {loose : List Str} {mean : ExcName → Option Value} {mg mb : Str → Option Value} {s : Shared} {Q E : Value → Shared → Prop}
set_option maxHeartbeats 4000000 in
theorem compared_ok (G : Gd w base envs p loose mean mg mb s.heap) {c : Cm} {a b : Int} {t0 t u : Tok} (hdp : dp + 2 < recursionLimit) (hu : un + 20 < cLine)
    (hQ : Post s Q fun _ => .bool (c.val a b)) : wpAny (model PG w) (Au dp un gd envs) (call (.ref 507) [.str c.str t0, .int a t, .int b u]) Q E s := by
  have H0 : PySem.Challenge.rw_xm0611_01 = PySem.Challenge.rw_xm0611_01 ∧ Mine.hd.heap_39 = Mine.hd.heap_39 := ⟨rfl, rfl⟩
  revert H0; k_fill; intro _
  (k_dflt (refine' enter0 (binds := [(Str.ofString "op", Value.str c.str t0), (Str.ofString "a", Value.int a t), (Str.ofString "b", Value.int b u)]) ?G ?k6 ?k7 ?k8 ?k9 ?kB ?_ ?c2 ?c3 ?c4 ?c5; (case G => assumption); (case k6 => k_is); (case k7 => k_is); (case k8 => ktr_room); (case k9 => first | exact BindsTo.of_eq rfl | exact binds_K (Gd.kin (by assumption)) rfl (by k_is) rfl rfl rfl); (case c5 => decide); (case kB => exact locs rfl); (case c2 => exact rfl); (case c3 => exact rfl); (case c4 => exact rfl); k_whole; intro L' h' F' N' B' X' T'; (try dsimp only); (try k_fold)))
  k_steps
  · rw [Cm.of_eq (o := c) (o' := .eq) (by assumption)] at hQ
    exact post_bool (s := s) (Q := Q) hQ (Fr.keep (by assumption)) rfl
  · rw [Cm.of_eq (o := c) (o' := .ne) (by assumption)] at hQ
    exact post_bool (s := s) (Q := Q) hQ (Fr.keep (by assumption)) rfl
  · rw [Cm.of_eq (o := c) (o' := .lt) (by assumption)] at hQ
    exact post_bool (s := s) (Q := Q) hQ (Fr.keep (by assumption)) rfl
  · rw [Cm.of_eq (o := c) (o' := .le) (by assumption)] at hQ
    exact post_bool (s := s) (Q := Q) hQ (Fr.keep (by assumption)) rfl
  · rw [Cm.of_eq (o := c) (o' := .gt) (by assumption)] at hQ
    exact post_bool (s := s) (Q := Q) hQ (Fr.keep (by assumption)) rfl
  · rw [Cm.of_eq (o := c) (o' := .ge) (by assumption)] at hQ
    exact post_bool (s := s) (Q := Q) hQ (Fr.keep (by assumption)) rfl
set_option maxHeartbeats 4000000 in
theorem comparedB_ok (G : Gd w base envs p loose mean mg mb s.heap) {c : Cm} {a b : Bool} {t0 : Tok} (hdp : dp + 2 < recursionLimit) (hu : un + 20 < cLine)
    (hQ : Post s Q fun _ => .bool (c.val (b2i a) (b2i b))) : wpAny (model PG w) (Au dp un gd envs) (call (.ref 507) [.str c.str t0, .bool a, .bool b]) Q E s := by
  have H0 : PySem.Challenge.rw_xm0611_01 = PySem.Challenge.rw_xm0611_01 ∧ Mine.hd.heap_39 = Mine.hd.heap_39 := ⟨rfl, rfl⟩
  revert H0; k_fill; intro _
  (k_dflt (refine' enter0 (binds := [(Str.ofString "op", Value.str c.str t0), (Str.ofString "a", Value.bool a), (Str.ofString "b", Value.bool b)]) ?G ?k6 ?k7 ?k8 ?k9 ?kB ?_ ?c2 ?c3 ?c4 ?c5; (case G => assumption); (case k6 => k_is); (case k7 => k_is); (case k8 => ktr_room); (case k9 => first | exact BindsTo.of_eq rfl | exact binds_K (Gd.kin (by assumption)) rfl (by k_is) rfl rfl rfl); (case c5 => decide); (case kB => exact locs rfl); (case c2 => exact rfl); (case c3 => exact rfl); (case c4 => exact rfl); k_whole; intro L' h' F' N' B' X' T'; (try dsimp only); (try k_fold)))
  k_steps
  · rw [Cm.of_eq (o := c) (o' := .eq) (by assumption)] at hQ
    exact post_bool (s := s) (Q := Q) hQ (Fr.keep (by assumption)) (b2i_eq a b)
  · rw [Cm.of_eq (o := c) (o' := .ne) (by assumption)] at hQ
    exact post_bool (s := s) (Q := Q) hQ (Fr.keep (by assumption)) (b2i_ne a b)
  · rw [Cm.of_eq (o := c) (o' := .lt) (by assumption)] at hQ
    exact post_bool (s := s) (Q := Q) hQ (Fr.keep (by assumption)) rfl
  · rw [Cm.of_eq (o := c) (o' := .le) (by assumption)] at hQ
    exact post_bool (s := s) (Q := Q) hQ (Fr.keep (by assumption)) rfl
  · rw [Cm.of_eq (o := c) (o' := .gt) (by assumption)] at hQ
    exact post_bool (s := s) (Q := Q) hQ (Fr.keep (by assumption)) rfl
  · rw [Cm.of_eq (o := c) (o' := .ge) (by assumption)] at hQ
    exact post_bool (s := s) (Q := Q) hQ (Fr.keep (by assumption)) rfl
set_option maxHeartbeats 4000000 in
theorem bits_ok (G : Gd w base envs p loose mean mg mb s.heap) {c : Bt} {a b : Int} {t0 t u : Tok} (hdp : dp + 2 < recursionLimit) (hu : un + 20 < cLine)
    (hQ : Post s Q fun t => .int (c.val a b) t) : wpAny (model PG w) (Au dp un gd envs) (call (.ref 523) [.str c.str t0, .int a t, .int b u]) Q E s := by
  have H0 : PySem.Challenge.rw_xm0611_01 = PySem.Challenge.rw_xm0611_01 ∧ Mine.hd.heap_39 = Mine.hd.heap_39 := ⟨rfl, rfl⟩
  revert H0; k_fill; intro _
  (k_dflt (refine' enter0 (binds := [(Str.ofString "op", Value.str c.str t0), (Str.ofString "a", Value.int a t), (Str.ofString "b", Value.int b u)]) ?G ?k6 ?k7 ?k8 ?k9 ?kB ?_ ?c2 ?c3 ?c4 ?c5; (case G => assumption); (case k6 => k_is); (case k7 => k_is); (case k8 => ktr_room); (case k9 => first | exact BindsTo.of_eq rfl | exact binds_K (Gd.kin (by assumption)) rfl (by k_is) rfl rfl rfl); (case c5 => decide); (case kB => exact locs rfl); (case c2 => exact rfl); (case c3 => exact rfl); (case c4 => exact rfl); k_whole; intro L' h' F' N' B' X' T'; (try dsimp only); (try k_fold)))
  k_steps
  · rw [Bt.of_eq (o := c) (o' := .and) (by assumption)] at hQ
    exact post_int (s := s) (Q := Q) hQ (Fr.keep (by assumption)) rfl
  · rw [Bt.of_eq (o := c) (o' := .or) (by assumption)] at hQ
    exact post_int (s := s) (Q := Q) hQ (Fr.keep (by assumption)) rfl
  · rw [Bt.xor_of (o := c) (by assumption) (by assumption)] at hQ
    exact post_int (s := s) (Q := Q) hQ (Fr.keep (by assumption)) rfl
set_option maxHeartbeats 4000000 in
theorem bitsB_ok (G : Gd w base envs p loose mean mg mb s.heap) {c : Bt} {a b : Bool} {t0 : Tok} (hdp : dp + 2 < recursionLimit) (hu : un + 20 < cLine)
    (hQ : Post s Q fun t => .bool (c.valB a b)) : wpAny (model PG w) (Au dp un gd envs) (call (.ref 523) [.str c.str t0, .bool a, .bool b]) Q E s := by
  have H0 : PySem.Challenge.rw_xm0611_01 = PySem.Challenge.rw_xm0611_01 ∧ Mine.hd.heap_39 = Mine.hd.heap_39 := ⟨rfl, rfl⟩
  revert H0; k_fill; intro _
  (k_dflt (refine' enter0 (binds := [(Str.ofString "op", Value.str c.str t0), (Str.ofString "a", Value.bool a), (Str.ofString "b", Value.bool b)]) ?G ?k6 ?k7 ?k8 ?k9 ?kB ?_ ?c2 ?c3 ?c4 ?c5; (case G => assumption); (case k6 => k_is); (case k7 => k_is); (case k8 => ktr_room); (case k9 => first | exact BindsTo.of_eq rfl | exact binds_K (Gd.kin (by assumption)) rfl (by k_is) rfl rfl rfl); (case c5 => decide); (case kB => exact locs rfl); (case c2 => exact rfl); (case c3 => exact rfl); (case c4 => exact rfl); k_whole; intro L' h' F' N' B' X' T'; (try dsimp only); (try k_fold)))
  k_steps
  · rw [Bt.of_eq (o := c) (o' := .and) (by assumption)] at hQ
    exact post_bool (s := s) (Q := Q) hQ (Fr.keep (by assumption)) rfl
  · rw [Bt.of_eq (o := c) (o' := .or) (by assumption)] at hQ
    exact post_bool (s := s) (Q := Q) hQ (Fr.keep (by assumption)) rfl
  · rw [Bt.xor_of (o := c) (by assumption) (by assumption)] at hQ
    exact post_bool (s := s) (Q := Q) hQ (Fr.keep (by assumption)) rfl
end

theorem RV.keeps {h h' : Heap} {rv pl : Addr} (R : RV h rv pl) (st : h.StaysIn h') : RV h' rv pl := by
  obtain ⟨ox, ox', mm, h1, t1, h2, t2, n, h3, t3, h4, t4, n', R1, R2⟩ := R.ex
  exact ⟨ox, ox', mm, h1, t1, h2, t2, n, h3, t3, h4, t4, n', inst_keeps R1 st, inst_keeps R2 st⟩
def Wd (c : Bool) : Str := match c with
  | true => Str.ofString "checked" | false => Str.ofString "binary"
section
variable {prog : Program} {w : World} {A : Around} {s : Shared} {Q E : Value → Shared → Prop}
theorem eq_wd {c : Bool} {t u : Tok} (h : Q (.bool c) s) : wpAny (model prog w) A (compareOp .Eq (.str (Wd c) t) (.str (Str.ofString "checked") u)) Q E s := by
  refine PyProof.Rows.eq_str ?_
  rw [show (Wd c == Str.ofString "checked") = c by cases c <;> decide]
  exact h
theorem in_b {t : Addr} {items : Array Value} {ys : List Str} {x : Str} {u : Tok} {b : Bool} (T : IsTup s.heap t items) (S : StrsAre items.toList ys) (e : (ys.any (· == x)) = b) (h : Q (.bool b) s) :
    wpAny (model prog w) A (compareOp .In (.str x u) (.ref t)) Q E s := by
  subst e; exact in_tuple_strs T S h
theorem isTup_K {K : Frag} {h₀ h : Heap} {L a : Addr} {m : Str → Option Value} {items : Array Value} {n : Nat} {d : Option Addr} {sl : Array (Option Value)} (F : Fr h₀ L h m) (X : K.In h₀) (e : K.lookup a = some ⟨.type "tuple", d, .seq items n, sl⟩) : IsTup h a items :=
  ⟨_, F.keep _ _ (X _ _ e), rfl, n, rfl⟩
end
abbrev cmps : List Str := [Str.ofString "==", Str.ofString "!=", Str.ofString "<", Str.ofString "<=", Str.ofString ">", Str.ofString ">="]
abbrev bts : List Str := [Str.ofString "&", Str.ofString "|", Str.ofString "^"]
theorem Ar.not_cm (o : Ar) : (cmps.any (· == o.str)) = false := by cases o <;> decide
theorem Ar.not_bt (o : Ar) : (bts.any (· == o.str)) = false := by cases o <;> decide
theorem Cm.in_cm (o : Cm) : (cmps.any (· == o.str)) = true := by cases o <;> decide
theorem Bt.not_cm (o : Bt) : (cmps.any (· == o.str)) = false := by cases o <;> decide
theorem Bt.in_bt (o : Bt) : (bts.any (· == o.str)) = true := by cases o <;> decide
theorem words_p09_two_0 : True := by
  k_with "compareOp Eq str str" => ((with_reducible show wpAny _ _ (compareOp _ (Value.str (Wd _) _) _) _ _ _); with_reducible refine eq_wd ?_)
  k_with "compareOp In str ref" => (k_here; (first | (with_reducible show wpAny _ _ (compareOp _ (Value.str (Ar.str _) _) (Value.ref 509)) _ _ _) | (with_reducible show wpAny _ _ (compareOp _ (Value.str (Cm.str _) _) (Value.ref 509)) _ _ _) | (with_reducible show wpAny _ _ (compareOp _ (Value.str (Bt.str _) _) (Value.ref 509)) _ _ _)); k_dflt (refine' in_b (ys := cmps) (isTup_K ?zqF ?zqX ?zqk) ?zqS ?zqe ?_; (case zqF => k_asm); (case zqX => k_asm); (case zqk => k_is); (case zqS => kde_strs); (case zqe => first | exact Ar.not_cm _ | exact Cm.in_cm _ | exact Bt.not_cm _); k_whole))
  k_with "compareOp In str ref" => (k_here; k_dflt (refine' in_b (ys := bts) ?zqT ?zqS ?zqe ?_; (case zqe => first | exact Ar.not_bt _ | exact Bt.in_bt _); (case zqT => exact News.isTup (by k_asm) (by k_mem)); (case zqS => kde_strs); k_whole))
  k_with "call ref" => (k_here; (with_reducible show wpAny _ _ (call (Value.ref 507) _) _ _ _); k_dflt (refine' compared_ok (gd_of ?zqF ?zqB ?zqX ?zqT ?zqhf ?zqhk)  ?zqhdp ?zqhu ?_; (case zqF => k_asm); (case zqX => k_asm); (case zqT => k_asm); (case zqB => k_asm); (case zqhf => exact rfl); (case zqhk => exact rfl); (case zqhdp => ktr_room); (case zqhu => ktr_units);  k_whole; refine post_use (by assumption) (by assumption) ?_; intro t9 h9 tk9 F9 N9; (try dsimp only); (try k_sweep); (try k_fold)))
  k_with "call ref" => (k_here; (with_reducible show wpAny _ _ (call (Value.ref 507) _) _ _ _); k_dflt (refine' comparedB_ok (gd_of ?zqF ?zqB ?zqX ?zqT ?zqhf ?zqhk)  ?zqhdp ?zqhu ?_; (case zqF => k_asm); (case zqX => k_asm); (case zqT => k_asm); (case zqB => k_asm); (case zqhf => exact rfl); (case zqhk => exact rfl); (case zqhdp => ktr_room); (case zqhu => ktr_units);  k_whole; refine post_use (by assumption) (by assumption) ?_; intro t9 h9 tk9 F9 N9; (try dsimp only); (try k_sweep); (try k_fold)))
  k_with "call ref" => (k_here; (with_reducible show wpAny _ _ (call (Value.ref 523) _) _ _ _); k_dflt (refine' bits_ok (gd_of ?zqF ?zqB ?zqX ?zqT ?zqhf ?zqhk)  ?zqhdp ?zqhu ?_; (case zqF => k_asm); (case zqX => k_asm); (case zqT => k_asm); (case zqB => k_asm); (case zqhf => exact rfl); (case zqhk => exact rfl); (case zqhdp => ktr_room); (case zqhu => ktr_units);  k_whole; refine post_use (by assumption) (by assumption) ?_; intro t9 h9 tk9 F9 N9; (try dsimp only); (try k_sweep); (try k_fold)))
  k_with "call ref" => (k_here; (with_reducible show wpAny _ _ (call (Value.ref 523) _) _ _ _); k_dflt (refine' bitsB_ok (gd_of ?zqF ?zqB ?zqX ?zqT ?zqhf ?zqhk)  ?zqhdp ?zqhu ?_; (case zqF => k_asm); (case zqX => k_asm); (case zqT => k_asm); (case zqB => k_asm); (case zqhf => exact rfl); (case zqhk => exact rfl); (case zqhdp => ktr_room); (case zqhu => ktr_units);  k_whole; refine post_use (by assumption) (by assumption) ?_; intro t9 h9 tk9 F9 N9; (try dsimp only); (try k_sweep); (try k_fold)))
  k_with "call ref" => (k_here; (with_reducible show wpAny _ _ (call (Value.ref 600) _) _ _ _); k_dflt (refine' taken_ok (gd_of ?zqF ?zqB ?zqX ?zqT ?zqhf ?zqhk) (RV.keeps (by with_reducible assumption) (Fr.keep (by k_asm))) (Fr.tup (by k_asm) (by with_reducible assumption)) (Fr.tup (by k_asm) (by with_reducible assumption)) ?zqhdp ?zqhu ?_; (case zqF => k_asm); (case zqX => k_asm); (case zqT => k_asm); (case zqB => k_asm); (case zqhf => exact rfl); (case zqhk => exact rfl); (case zqhdp => ktr_room); (case zqhu => ktr_units);  k_whole; refine post2_use (by assumption) (by assumption) ?_; intro D9 C9 h9 tk9 F9 N9 l9 l8 ne9; (try dsimp only); (try k_sweep); (try k_fold)))
  k_with "call ref" => (k_here; (with_reducible show wpAny _ _ (call (Value.ref 530) _) _ _ _); k_dflt (refine' reckoned_ok (gd_of ?zqF ?zqB ?zqX ?zqT ?zqhf ?zqhk) (by assumption) (Fr.tup (by k_asm) (by with_reducible assumption)) (by with_reducible assumption) ?zqhdp ?zqhu ?_; (case zqF => k_asm); (case zqX => k_asm); (case zqT => k_asm); (case zqB => k_asm); (case zqhf => exact rfl); (case zqhk => exact rfl); (case zqhdp => ktr_room); (case zqhu => ktr_units);  k_whole; refine postT_use (by assumption) (by assumption) ?_; intro D9 t9 h9 tk9 F9 N9 l9; (try dsimp only at N9); (try dsimp only); (try k_sweep); (try k_fold)))
  trivial
def twoO (c : Bool) (v : Int) (o : Bool) (t : Tok) : Obj := W.listOf (if c then [Value.int v t, Value.bool o] else [Value.int v t]).toArray 0
section
variable {w : World} {dp un : Nat} {gd : Option (List Code)} {base : Heap} {envs : List Env} {p : Program} {loose : List Str} {mean : ExcName → Option Value} {mg mb : Str → Option Value} {s : Shared} {Q E : Value → Shared → Prop}
set_option maxHeartbeats 4000000 in
theorem twoAr_ok (G : Gd w base envs p loose mean mg mb s.heap) {rv pl rt one other lt lt2 : Addr} {k k2 : Kd} {c : Bool} {o : Ar} {a b v : Int} {ov : Bool} {t1 t2 t3 t4 t5 t6 t7 t8 t9 u : Tok} (bb : Bd b) (R : RV s.heap rv pl)
    (hr : IsTup s.heap rt [Value.str (Wd c) t1, .str o.str t2, .ref one, .ref other].toArray) (h1 : IsTup s.heap one [Value.str (Str.ofString "const") t3, .ref lt, .int a t4].toArray) (h2 : IsTup s.heap other [Value.str (Str.ofString "const") t5, .ref lt2, .int b t6].toArray)
    (hl : IsTup s.heap lt [Value.str (Ty.str .int) t7, .str k.str t8].toArray) (hl2 : IsTup s.heap lt2 [Value.str (Ty.str .int) t9, .str k2.str u].toArray) (hv : chkV k o a b = some (v, ov)) (hdp : dp + 30 < recursionLimit) (hu : un + 300 < cLine)
    (hQ : PostT s Q (twoO c v ov)) : wpAny (model PG w) (Au dp un gd envs) (call (.ref 642) [.ref rv, .none, .ref rt]) Q E s := by
  obtain ⟨ox, ox', mm, h1', t1', h2', t2', n, h3', t3', h4', t4', n', R1, R2⟩ := R.ex
  have H0 : PySem.Challenge.rw_xm0611_01 = PySem.Challenge.rw_xm0611_01 ∧ Mine.hd.heap_39 = Mine.hd.heap_39 := ⟨rfl, rfl⟩
  revert H0; k_fill; intro _
  (k_dflt (refine' enter0 (binds := [(Str.ofString "self", Value.ref rv), (Str.ofString "frame", Value.none), (Str.ofString "rvalue", Value.ref rt)]) ?G ?k6 ?k7 ?k8 ?k9 ?kB ?_ ?c2 ?c3 ?c4 ?c5; (case G => assumption); (case k6 => k_is); (case k7 => k_is); (case k8 => ktr_room); (case k9 => first | exact BindsTo.of_eq rfl | exact binds_K (Gd.kin (by assumption)) rfl (by k_is) rfl rfl rfl); (case c5 => decide); (case kB => exact locs rfl); (case c2 => exact rfl); (case c3 => exact rfl); (case c4 => exact rfl); k_whole; intro L' h' F' N' B' X' T'; (try dsimp only); (try k_fold)))
  k_steps
  · rename c = true => hc
    exact post_tup (s := s) (Q := Q) hQ (by assumption) (by assumption) (.head _) (by subst hc; rfl)
  · rename c = false => hc
    exact post_tup (s := s) (Q := Q) hQ (by assumption) (by assumption) (.head _) (by subst hc; rfl)
set_option maxHeartbeats 4000000 in
theorem twoCm_ok (G : Gd w base envs p loose mean mg mb s.heap) {rv pl rt one other lt lt2 : Addr} {o : Cm} {rest rest2 : List Value} {a b : Int} {t4 t6 : Tok} {t1 t2 t3 t5 t7 t9 : Tok} (R : RV s.heap rv pl)
    (hr : IsTup s.heap rt [Value.str (Wd false) t1, .str o.str t2, .ref one, .ref other].toArray) (h1 : IsTup s.heap one [Value.str (Str.ofString "const") t3, .ref lt, .int a t4].toArray) (h2 : IsTup s.heap other [Value.str (Str.ofString "const") t5, .ref lt2, .int b t6].toArray)
    (hl : IsTup s.heap lt (Value.str (Ty.str .int) t7 :: rest).toArray) (hl2 : IsTup s.heap lt2 (Value.str (Ty.str .int) t9 :: rest2).toArray) (hdp : dp + 30 < recursionLimit) (hu : un + 300 < cLine)
    (hQ : PostT s Q fun t => W.listOf [.bool (o.val a b)].toArray 0) : wpAny (model PG w) (Au dp un gd envs) (call (.ref 642) [.ref rv, .none, .ref rt]) Q E s := by
  obtain ⟨ox, ox', mm, h1', t1', h2', t2', n, h3', t3', h4', t4', n', R1, R2⟩ := R.ex
  have H0 : PySem.Challenge.rw_xm0611_01 = PySem.Challenge.rw_xm0611_01 ∧ Mine.hd.heap_39 = Mine.hd.heap_39 := ⟨rfl, rfl⟩
  revert H0; k_fill; intro _
  (k_dflt (refine' enter0 (binds := [(Str.ofString "self", Value.ref rv), (Str.ofString "frame", Value.none), (Str.ofString "rvalue", Value.ref rt)]) ?G ?k6 ?k7 ?k8 ?k9 ?kB ?_ ?c2 ?c3 ?c4 ?c5; (case G => assumption); (case k6 => k_is); (case k7 => k_is); (case k8 => ktr_room); (case k9 => first | exact BindsTo.of_eq rfl | exact binds_K (Gd.kin (by assumption)) rfl (by k_is) rfl rfl rfl); (case c5 => decide); (case kB => exact locs rfl); (case c2 => exact rfl); (case c3 => exact rfl); (case c4 => exact rfl); k_whole; intro L' h' F' N' B' X' T'; (try dsimp only); (try k_fold)))
  k_steps
  exact post_tup (s := s) (Q := Q) (t := 0) hQ (by assumption) (by assumption) (.head _) rfl
set_option maxHeartbeats 4000000 in
theorem twoCmB_ok (G : Gd w base envs p loose mean mg mb s.heap) {rv pl rt one other lt lt2 : Addr} {o : Cm} {rest rest2 : List Value} {a b : Bool} {t1 t2 t3 t5 t7 t9 : Tok} (R : RV s.heap rv pl)
    (hr : IsTup s.heap rt [Value.str (Wd false) t1, .str o.str t2, .ref one, .ref other].toArray) (h1 : IsTup s.heap one [Value.str (Str.ofString "const") t3, .ref lt, .bool a].toArray) (h2 : IsTup s.heap other [Value.str (Str.ofString "const") t5, .ref lt2, .bool b].toArray)
    (hl : IsTup s.heap lt (Value.str (Ty.str .bool) t7 :: rest).toArray) (hl2 : IsTup s.heap lt2 (Value.str (Ty.str .bool) t9 :: rest2).toArray) (hdp : dp + 30 < recursionLimit) (hu : un + 300 < cLine)
    (hQ : PostT s Q fun t => W.listOf [.bool (o.val (b2i a) (b2i b))].toArray 0) : wpAny (model PG w) (Au dp un gd envs) (call (.ref 642) [.ref rv, .none, .ref rt]) Q E s := by
  obtain ⟨ox, ox', mm, h1', t1', h2', t2', n, h3', t3', h4', t4', n', R1, R2⟩ := R.ex
  have H0 : PySem.Challenge.rw_xm0611_01 = PySem.Challenge.rw_xm0611_01 ∧ Mine.hd.heap_39 = Mine.hd.heap_39 := ⟨rfl, rfl⟩
  revert H0; k_fill; intro _
  (k_dflt (refine' enter0 (binds := [(Str.ofString "self", Value.ref rv), (Str.ofString "frame", Value.none), (Str.ofString "rvalue", Value.ref rt)]) ?G ?k6 ?k7 ?k8 ?k9 ?kB ?_ ?c2 ?c3 ?c4 ?c5; (case G => assumption); (case k6 => k_is); (case k7 => k_is); (case k8 => ktr_room); (case k9 => first | exact BindsTo.of_eq rfl | exact binds_K (Gd.kin (by assumption)) rfl (by k_is) rfl rfl rfl); (case c5 => decide); (case kB => exact locs rfl); (case c2 => exact rfl); (case c3 => exact rfl); (case c4 => exact rfl); k_whole; intro L' h' F' N' B' X' T'; (try dsimp only); (try k_fold)))
  k_steps
  exact post_tup (s := s) (Q := Q) (t := 0) hQ (by assumption) (by assumption) (.head _) rfl
set_option maxHeartbeats 4000000 in
theorem twoBt_ok (G : Gd w base envs p loose mean mg mb s.heap) {rv pl rt one other lt lt2 : Addr} {o : Bt} {rest rest2 : List Value} {a b : Int} {t4 t6 : Tok} {t1 t2 t3 t5 t7 t9 : Tok} (R : RV s.heap rv pl)
    (hr : IsTup s.heap rt [Value.str (Wd false) t1, .str o.str t2, .ref one, .ref other].toArray) (h1 : IsTup s.heap one [Value.str (Str.ofString "const") t3, .ref lt, .int a t4].toArray) (h2 : IsTup s.heap other [Value.str (Str.ofString "const") t5, .ref lt2, .int b t6].toArray)
    (hl : IsTup s.heap lt (Value.str (Ty.str .int) t7 :: rest).toArray) (hl2 : IsTup s.heap lt2 (Value.str (Ty.str .int) t9 :: rest2).toArray) (hdp : dp + 30 < recursionLimit) (hu : un + 300 < cLine)
    (hQ : PostT s Q fun t => W.listOf [.int (o.val a b) t].toArray 0) : wpAny (model PG w) (Au dp un gd envs) (call (.ref 642) [.ref rv, .none, .ref rt]) Q E s := by
  obtain ⟨ox, ox', mm, h1', t1', h2', t2', n, h3', t3', h4', t4', n', R1, R2⟩ := R.ex
  have H0 : PySem.Challenge.rw_xm0611_01 = PySem.Challenge.rw_xm0611_01 ∧ Mine.hd.heap_39 = Mine.hd.heap_39 := ⟨rfl, rfl⟩
  revert H0; k_fill; intro _
  (k_dflt (refine' enter0 (binds := [(Str.ofString "self", Value.ref rv), (Str.ofString "frame", Value.none), (Str.ofString "rvalue", Value.ref rt)]) ?G ?k6 ?k7 ?k8 ?k9 ?kB ?_ ?c2 ?c3 ?c4 ?c5; (case G => assumption); (case k6 => k_is); (case k7 => k_is); (case k8 => ktr_room); (case k9 => first | exact BindsTo.of_eq rfl | exact binds_K (Gd.kin (by assumption)) rfl (by k_is) rfl rfl rfl); (case c5 => decide); (case kB => exact locs rfl); (case c2 => exact rfl); (case c3 => exact rfl); (case c4 => exact rfl); k_whole; intro L' h' F' N' B' X' T'; (try dsimp only); (try k_fold)))
  k_steps
  exact post_tup (s := s) (Q := Q) (t := _) hQ (by assumption) (by assumption) (.head _) rfl
set_option maxHeartbeats 4000000 in
theorem twoBtB_ok (G : Gd w base envs p loose mean mg mb s.heap) {rv pl rt one other lt lt2 : Addr} {o : Bt} {rest rest2 : List Value} {a b : Bool} {t1 t2 t3 t5 t7 t9 : Tok} (R : RV s.heap rv pl)
    (hr : IsTup s.heap rt [Value.str (Wd false) t1, .str o.str t2, .ref one, .ref other].toArray) (h1 : IsTup s.heap one [Value.str (Str.ofString "const") t3, .ref lt, .bool a].toArray) (h2 : IsTup s.heap other [Value.str (Str.ofString "const") t5, .ref lt2, .bool b].toArray)
    (hl : IsTup s.heap lt (Value.str (Ty.str .bool) t7 :: rest).toArray) (hl2 : IsTup s.heap lt2 (Value.str (Ty.str .bool) t9 :: rest2).toArray) (hdp : dp + 30 < recursionLimit) (hu : un + 300 < cLine)
    (hQ : PostT s Q fun t => W.listOf [.bool (o.valB a b)].toArray 0) : wpAny (model PG w) (Au dp un gd envs) (call (.ref 642) [.ref rv, .none, .ref rt]) Q E s := by
  obtain ⟨ox, ox', mm, h1', t1', h2', t2', n, h3', t3', h4', t4', n', R1, R2⟩ := R.ex
  have H0 : PySem.Challenge.rw_xm0611_01 = PySem.Challenge.rw_xm0611_01 ∧ Mine.hd.heap_39 = Mine.hd.heap_39 := ⟨rfl, rfl⟩
  revert H0; k_fill; intro _
  (k_dflt (refine' enter0 (binds := [(Str.ofString "self", Value.ref rv), (Str.ofString "frame", Value.none), (Str.ofString "rvalue", Value.ref rt)]) ?G ?k6 ?k7 ?k8 ?k9 ?kB ?_ ?c2 ?c3 ?c4 ?c5; (case G => assumption); (case k6 => k_is); (case k7 => k_is); (case k8 => ktr_room); (case k9 => first | exact BindsTo.of_eq rfl | exact binds_K (Gd.kin (by assumption)) rfl (by k_is) rfl rfl rfl); (case c5 => decide); (case kB => exact locs rfl); (case c2 => exact rfl); (case c3 => exact rfl); (case c4 => exact rfl); k_whole; intro L' h' F' N' B' X' T'; (try dsimp only); (try k_fold)))
  k_steps
  exact post_tup (s := s) (Q := Q) (t := 0) hQ (by assumption) (by assumption) (.head _) rfl
end

section
variable {prog : Program} {w : World} {A : Around} {s : Shared} {Q E : Value → Shared → Prop}
theorem eq_lit {x y : Str} {t u : Tok} {b : Bool} (e : (x == y) = b) (h : Q (.bool b) s) : wpAny (model prog w) A (compareOp .Eq (.str x t) (.str y u)) Q E s := by
  refine PyProof.Rows.eq_str ?_
  rw [e]; exact h
theorem ty_ii : (Ty.str .int == Str.ofString "int") = true := by decide
theorem ty_ib : (Ty.str .int == Str.ofString "bool") = false := by decide
theorem ty_bi : (Ty.str .bool == Str.ofString "int") = false := by decide
theorem ty_bb : (Ty.str .bool == Str.ofString "bool") = true := by decide
end
theorem words_p10_one_0 : True := by
  k_with "compareOp Eq str str" => first | with_reducible refine eq_lit ty_ii ?_ | with_reducible refine eq_lit ty_ib ?_ | with_reducible refine eq_lit ty_bi ?_ | with_reducible refine eq_lit ty_bb ?_
  trivial
section
variable {w : World} {dp un : Nat} {gd : Option (List Code)} {base : Heap} {envs : List Env} {p : Program} {loose : List Str} {mean : ExcName → Option Value} {mg mb : Str → Option Value} {s : Shared} {Q E : Value → Shared → Prop}
set_option maxHeartbeats 4000000 in
theorem oneNeg_ok (G : Gd w base envs p loose mean mg mb s.heap) {rv pl rt one lt : Addr} {k : Kd} {a : Int} {t4 : Tok} {t1 t2 t3 t7 t8 : Tok} (R : RV s.heap rv pl)
    (hr : IsTup s.heap rt [Value.str (Str.ofString "unary") t1, .str (Str.ofString "-") t2, .ref one].toArray) (h1 : IsTup s.heap one [Value.str (Str.ofString "const") t3, .ref lt, .int a t4].toArray)
    (hl : IsTup s.heap lt [Value.str (Ty.str .int) t7, .str k.str t8].toArray) (hdp : dp + 30 < recursionLimit) (hu : un + 300 < cLine)
    (hQ : Post s Q fun t => .int (k.wrap (0 - a)) t) : wpAny (model PG w) (Au dp un gd envs) (call (.ref 649) [.ref rv, .none, .ref rt]) Q E s := by
  obtain ⟨ox, ox', mm, h1', t1', h2', t2', n, h3', t3', h4', t4', n', R1, R2⟩ := R.ex
  have H0 : PySem.Challenge.rw_xm0611_01 = PySem.Challenge.rw_xm0611_01 ∧ Mine.hd.heap_39 = Mine.hd.heap_39 := ⟨rfl, rfl⟩
  revert H0; k_fill; intro _
  (k_dflt (refine' enter0 (binds := [(Str.ofString "self", Value.ref rv), (Str.ofString "frame", Value.none), (Str.ofString "rvalue", Value.ref rt)]) ?G ?k6 ?k7 ?k8 ?k9 ?kB ?_ ?c2 ?c3 ?c4 ?c5; (case G => assumption); (case k6 => k_is); (case k7 => k_is); (case k8 => ktr_room); (case k9 => first | exact BindsTo.of_eq rfl | exact binds_K (Gd.kin (by assumption)) rfl (by k_is) rfl rfl rfl); (case c5 => decide); (case kB => exact locs rfl); (case c2 => exact rfl); (case c3 => exact rfl); (case c4 => exact rfl); k_whole; intro L' h' F' N' B' X' T'; (try dsimp only); (try k_fold)))
  k_steps
  exact post_int (s := s) (Q := Q) hQ (Fr.keep (by assumption)) rfl
set_option maxHeartbeats 4000000 in
theorem oneInv_ok (G : Gd w base envs p loose mean mg mb s.heap) {rv pl rt one lt : Addr} {k : Kd} {a : Int} {t4 : Tok} {t1 t2 t3 t7 t8 : Tok} (R : RV s.heap rv pl)
    (hr : IsTup s.heap rt [Value.str (Str.ofString "unary") t1, .str (Str.ofString "!") t2, .ref one].toArray) (h1 : IsTup s.heap one [Value.str (Str.ofString "const") t3, .ref lt, .int a t4].toArray)
    (hl : IsTup s.heap lt [Value.str (Ty.str .int) t7, .str k.str t8].toArray) (hdp : dp + 30 < recursionLimit) (hu : un + 300 < cLine)
    (hQ : Post s Q fun t => .int (k.wrap (-1 - a)) t) : wpAny (model PG w) (Au dp un gd envs) (call (.ref 649) [.ref rv, .none, .ref rt]) Q E s := by
  obtain ⟨ox, ox', mm, h1', t1', h2', t2', n, h3', t3', h4', t4', n', R1, R2⟩ := R.ex
  have H0 : PySem.Challenge.rw_xm0611_01 = PySem.Challenge.rw_xm0611_01 ∧ Mine.hd.heap_39 = Mine.hd.heap_39 := ⟨rfl, rfl⟩
  revert H0; k_fill; intro _
  (k_dflt (refine' enter0 (binds := [(Str.ofString "self", Value.ref rv), (Str.ofString "frame", Value.none), (Str.ofString "rvalue", Value.ref rt)]) ?G ?k6 ?k7 ?k8 ?k9 ?kB ?_ ?c2 ?c3 ?c4 ?c5; (case G => assumption); (case k6 => k_is); (case k7 => k_is); (case k8 => ktr_room); (case k9 => first | exact BindsTo.of_eq rfl | exact binds_K (Gd.kin (by assumption)) rfl (by k_is) rfl rfl rfl); (case c5 => decide); (case kB => exact locs rfl); (case c2 => exact rfl); (case c3 => exact rfl); (case c4 => exact rfl); k_whole; intro L' h' F' N' B' X' T'; (try dsimp only); (try k_fold)))
  k_steps
  exact post_int (s := s) (Q := Q) hQ (Fr.keep (by assumption)) rfl
set_option maxHeartbeats 4000000 in
theorem oneCast_ok (G : Gd w base envs p loose mean mg mb s.heap) {rv pl rt one lt lt2 : Addr} {k k2 : Kd} {a : Int} {t4 : Tok} {t1 t2 t3 t7 t8 t9 : Tok} (R : RV s.heap rv pl)
    (hr : IsTup s.heap rt [Value.str (Str.ofString "cast") t1, .ref one, .ref lt2].toArray) (h1 : IsTup s.heap one [Value.str (Str.ofString "const") t3, .ref lt, .int a t4].toArray)
    (hl : IsTup s.heap lt [Value.str (Ty.str .int) t7, .str k.str t8].toArray)
    (hl2 : IsTup s.heap lt2 [Value.str (Ty.str .int) t9, .str k2.str t2].toArray) (hdp : dp + 30 < recursionLimit) (hu : un + 300 < cLine)
    (hQ : Post s Q fun t => .int (k2.wrap a) t) : wpAny (model PG w) (Au dp un gd envs) (call (.ref 649) [.ref rv, .none, .ref rt]) Q E s := by
  obtain ⟨ox, ox', mm, h1', t1', h2', t2', n, h3', t3', h4', t4', n', R1, R2⟩ := R.ex
  have H0 : PySem.Challenge.rw_xm0611_01 = PySem.Challenge.rw_xm0611_01 ∧ Mine.hd.heap_39 = Mine.hd.heap_39 := ⟨rfl, rfl⟩
  revert H0; k_fill; intro _
  (k_dflt (refine' enter0 (binds := [(Str.ofString "self", Value.ref rv), (Str.ofString "frame", Value.none), (Str.ofString "rvalue", Value.ref rt)]) ?G ?k6 ?k7 ?k8 ?k9 ?kB ?_ ?c2 ?c3 ?c4 ?c5; (case G => assumption); (case k6 => k_is); (case k7 => k_is); (case k8 => ktr_room); (case k9 => first | exact BindsTo.of_eq rfl | exact binds_K (Gd.kin (by assumption)) rfl (by k_is) rfl rfl rfl); (case c5 => decide); (case kB => exact locs rfl); (case c2 => exact rfl); (case c3 => exact rfl); (case c4 => exact rfl); k_whole; intro L' h' F' N' B' X' T'; (try dsimp only); (try k_fold)))
  k_steps
  exact post_int (s := s) (Q := Q) hQ (Fr.keep (by assumption)) rfl
set_option maxHeartbeats 4000000 in
theorem oneNot_ok (G : Gd w base envs p loose mean mg mb s.heap) {rv pl rt one lt : Addr} {a : Bool} {t1 t2 t3 t7 : Tok} (R : RV s.heap rv pl)
    (hr : IsTup s.heap rt [Value.str (Str.ofString "unary") t1, .str (Str.ofString "!") t2, .ref one].toArray) (h1 : IsTup s.heap one [Value.str (Str.ofString "const") t3, .ref lt, .bool a].toArray)
    (hl : IsTup s.heap lt [Value.str (Ty.str .bool) t7].toArray) (hdp : dp + 30 < recursionLimit) (hu : un + 300 < cLine)
    (hQ : Post s Q fun t => .bool (!a)) : wpAny (model PG w) (Au dp un gd envs) (call (.ref 649) [.ref rv, .none, .ref rt]) Q E s := by
  obtain ⟨ox, ox', mm, h1', t1', h2', t2', n, h3', t3', h4', t4', n', R1, R2⟩ := R.ex
  have H0 : PySem.Challenge.rw_xm0611_01 = PySem.Challenge.rw_xm0611_01 ∧ Mine.hd.heap_39 = Mine.hd.heap_39 := ⟨rfl, rfl⟩
  revert H0; k_fill; intro _
  (k_dflt (refine' enter0 (binds := [(Str.ofString "self", Value.ref rv), (Str.ofString "frame", Value.none), (Str.ofString "rvalue", Value.ref rt)]) ?G ?k6 ?k7 ?k8 ?k9 ?kB ?_ ?c2 ?c3 ?c4 ?c5; (case G => assumption); (case k6 => k_is); (case k7 => k_is); (case k8 => ktr_room); (case k9 => first | exact BindsTo.of_eq rfl | exact binds_K (Gd.kin (by assumption)) rfl (by k_is) rfl rfl rfl); (case c5 => decide); (case kB => exact locs rfl); (case c2 => exact rfl); (case c3 => exact rfl); (case c4 => exact rfl); k_whole; intro L' h' F' N' B' X' T'; (try dsimp only); (try k_fold)))
  k_steps
  exact post_bool (s := s) (Q := Q) hQ (Fr.keep (by assumption)) rfl
set_option maxHeartbeats 4000000 in
theorem oneCastB_ok (G : Gd w base envs p loose mean mg mb s.heap) {rv pl rt one lt lt2 : Addr} {a : Bool} {t1 t2 t3 t7 t9 : Tok} (R : RV s.heap rv pl)
    (hr : IsTup s.heap rt [Value.str (Str.ofString "cast") t1, .ref one, .ref lt2].toArray) (h1 : IsTup s.heap one [Value.str (Str.ofString "const") t3, .ref lt, .bool a].toArray)
    (hl : IsTup s.heap lt [Value.str (Ty.str .bool) t7].toArray)
    (hl2 : IsTup s.heap lt2 [Value.str (Ty.str .bool) t9].toArray) (hdp : dp + 30 < recursionLimit) (hu : un + 300 < cLine)
    (hQ : Post s Q fun t => .bool a) : wpAny (model PG w) (Au dp un gd envs) (call (.ref 649) [.ref rv, .none, .ref rt]) Q E s := by
  obtain ⟨ox, ox', mm, h1', t1', h2', t2', n, h3', t3', h4', t4', n', R1, R2⟩ := R.ex
  have H0 : PySem.Challenge.rw_xm0611_01 = PySem.Challenge.rw_xm0611_01 ∧ Mine.hd.heap_39 = Mine.hd.heap_39 := ⟨rfl, rfl⟩
  revert H0; k_fill; intro _
  (k_dflt (refine' enter0 (binds := [(Str.ofString "self", Value.ref rv), (Str.ofString "frame", Value.none), (Str.ofString "rvalue", Value.ref rt)]) ?G ?k6 ?k7 ?k8 ?k9 ?kB ?_ ?c2 ?c3 ?c4 ?c5; (case G => assumption); (case k6 => k_is); (case k7 => k_is); (case k8 => ktr_room); (case k9 => first | exact BindsTo.of_eq rfl | exact binds_K (Gd.kin (by assumption)) rfl (by k_is) rfl rfl rfl); (case c5 => decide); (case kB => exact locs rfl); (case c2 => exact rfl); (case c3 => exact rfl); (case c4 => exact rfl); k_whole; intro L' h' F' N' B' X' T'; (try dsimp only); (try k_fold)))
  k_steps
  exact post_bool (s := s) (Q := Q) hQ (Fr.keep (by assumption)) rfl
set_option maxHeartbeats 4000000 in
theorem oneCastI_ok (G : Gd w base envs p loose mean mg mb s.heap) {rv pl rt one lt lt2 : Addr} {k2 : Kd} {a : Bool} {t1 t2 t3 t7 t9 : Tok} (R : RV s.heap rv pl)
    (hr : IsTup s.heap rt [Value.str (Str.ofString "cast") t1, .ref one, .ref lt2].toArray) (h1 : IsTup s.heap one [Value.str (Str.ofString "const") t3, .ref lt, .bool a].toArray)
    (hl : IsTup s.heap lt [Value.str (Ty.str .bool) t7].toArray)
    (hl2 : IsTup s.heap lt2 [Value.str (Ty.str .int) t9, .str k2.str t2].toArray) (hdp : dp + 30 < recursionLimit) (hu : un + 300 < cLine)
    (hQ : Post s Q fun t => .int (k2.wrap (b2i a)) t) : wpAny (model PG w) (Au dp un gd envs) (call (.ref 649) [.ref rv, .none, .ref rt]) Q E s := by
  obtain ⟨ox, ox', mm, h1', t1', h2', t2', n, h3', t3', h4', t4', n', R1, R2⟩ := R.ex
  have H0 : PySem.Challenge.rw_xm0611_01 = PySem.Challenge.rw_xm0611_01 ∧ Mine.hd.heap_39 = Mine.hd.heap_39 := ⟨rfl, rfl⟩
  revert H0; k_fill; intro _
  (k_dflt (refine' enter0 (binds := [(Str.ofString "self", Value.ref rv), (Str.ofString "frame", Value.none), (Str.ofString "rvalue", Value.ref rt)]) ?G ?k6 ?k7 ?k8 ?k9 ?kB ?_ ?c2 ?c3 ?c4 ?c5; (case G => assumption); (case k6 => k_is); (case k7 => k_is); (case k8 => ktr_room); (case k9 => first | exact BindsTo.of_eq rfl | exact binds_K (Gd.kin (by assumption)) rfl (by k_is) rfl rfl rfl); (case c5 => decide); (case kB => exact locs rfl); (case c2 => exact rfl); (case c3 => exact rfl); (case c4 => exact rfl); k_whole; intro L' h' F' N' B' X' T'; (try dsimp only); (try k_fold)))
  k_steps
  exact post_int (s := s) (Q := Q) hQ (Fr.keep (by assumption)) rfl
end

def Cm.pick (c : Cm) (b1 b2 b3 b4 b5 b6 : Bool) : Bool := match c with
  | .eq => b1 | .ne => b2 | .lt => b3 | .le => b4 | .gt => b5 | .ge => b6
theorem Cm.pick_at (c : Cm) (t1 t2 t3 t4 t5 t6 : Tok) (b1 b2 b3 b4 b5 b6 : Bool) : valueAt (strPairs [(.str (Str.ofString "==") t1, .bool b1), (.str (Str.ofString "!=") t2, .bool b2), (.str (Str.ofString "<") t3, .bool b3), (.str (Str.ofString "<=") t4, .bool b4), (.str (Str.ofString ">") t5, .bool b5), (.str (Str.ofString ">=") t6, .bool b6)]) c.str = some (.bool (c.pick b1 b2 b3 b4 b5 b6)) := by
  cases c <;> rfl
theorem Cm.pick_1 (c : Cm) {a b : Int} (h : b < a) : c.pick ((1 : Int) == 0) ((1 : Int) != 0) (decide ((1 : Int) < 0)) (decide ((1 : Int) < 1)) (decide ((0 : Int) < 1)) (decide ((-1 : Int) < 1)) = c.val a b := by cases c <;> simp [Cm.pick, Cm.val] <;> omega
theorem Cm.pick_2 (c : Cm) {a b : Int} (h : a ≠ b) (h' : ¬ b < a) : c.pick ((-1 : Int) == 0) ((-1 : Int) != 0) (decide ((-1 : Int) < 0)) (decide ((-1 : Int) < 1)) (decide ((0 : Int) < -1)) (decide ((-1 : Int) < -1)) = c.val a b := by cases c <;> simp [Cm.pick, Cm.val] <;> omega
theorem Cm.pick_0 (c : Cm) {a b : Int} (h : a = b) : c.pick ((0 : Int) == 0) ((0 : Int) != 0) (decide ((0 : Int) < 0)) (decide ((0 : Int) < 1)) (decide ((0 : Int) < 0)) (decide ((-1 : Int) < 0)) = c.val a b := by subst h; cases c <;> simp [Cm.pick, Cm.val]
section
variable {prog : Program} {w : World} {A : Around} {s : Shared} {Q E : Value → Shared → Prop} {h₀ : Heap} {L d : Addr} {news : List (Addr × Obj)} {o : Obj}
theorem item_pick {value slice : Expr} {x : Str} {t : Tok} {kvs : List (Str × Value)} {v : Value} (N : News h₀ L s.heap news) (hp : (d, o) ∈ news) (hd : o.IsDictOf (PySem.strKind prog w) kvs) (hl : valueAt kvs x = some v) (h : Q v { s with toks := s.toks + 1 })
    (hs : subscripted slice false (.ref d) (.str x t) = operate [.ref d, .str x t] (getItem (.ref d) (.str x t))) :
    wpAny (model prog w) A (subscriptTail value slice (.ref d) (.str x t)) Q E s :=
  tail_any (kda_dict N hp hd).typeIs slot_dict_getitem.lookup (wpAny_getItem_of (strKind_is prog w x t) (kda_dict N hp hd).mapOf hl h) hs
end
theorem words_p11_lawcmp_0 : True := by
  k_with "subscriptTail Dict cons cons Name ref str" => (k_here; (with_reducible show wpAny _ _ (subscriptTail _ _ (Value.ref _) (Value.str (Cm.str _) _)) _ _ _); k_dflt (refine' item_pick ?zqN ?zqp ?zqd (Cm.pick_at _ _ _ _ _ _ _ _ _ _ _ _ _) ?_ ?zqhs; (case zqN => k_asm); (case zqp => k_mem); (case zqd => with_reducible assumption); (case zqhs => with_unfolding_all rfl); k_whole))
  trivial
section
variable {w : World} {dp un : Nat} {gd : Option (List Code)} {base : Heap} {envs : List Env} {p : Program} {loose : List Str} {mean : ExcName → Option Value} {mg mb : Str → Option Value} {s : Shared} {Q E : Value → Shared → Prop}
set_option maxHeartbeats 4000000 in
theorem lcmp_ok (G : Gd w base envs p loose mean mg mb s.heap) {c : Cm} {a b : Int} {t0 t u : Tok} (hdp : dp + 2 < recursionLimit) (hu : un + 20 < cLine)
    (hQ : Post s Q fun _ => .bool (c.val a b)) : wpAny (model PG w) (Au dp un gd envs) (call (.ref 745) [.str c.str t0, .int a t, .int b u]) Q E s := by
  have H0 : PySem.Challenge.rw_xm0611_01 = PySem.Challenge.rw_xm0611_01 ∧ Mine.hd.heap_39 = Mine.hd.heap_39 := ⟨rfl, rfl⟩
  revert H0; k_fill; intro _
  (k_dflt (refine' enter0 (binds := [(Str.ofString "op", Value.str c.str t0), (Str.ofString "a", Value.int a t), (Str.ofString "b", Value.int b u)]) ?G ?k6 ?k7 ?k8 ?k9 ?kB ?_ ?c2 ?c3 ?c4 ?c5; (case G => assumption); (case k6 => k_is); (case k7 => k_is); (case k8 => ktr_room); (case k9 => first | exact BindsTo.of_eq rfl | exact binds_K (Gd.kin (by assumption)) rfl (by k_is) rfl rfl rfl); (case c5 => decide); (case kB => exact locs rfl); (case c2 => exact rfl); (case c3 => exact rfl); (case c4 => exact rfl); k_whole; intro L' h' F' N' B' X' T'; (try dsimp only); (try k_fold)))
  k_steps
  · exact post_bool (s := s) (Q := Q) hQ (Fr.keep (by assumption)) (Cm.pick_1 c (by assumption))
  · exact post_bool (s := s) (Q := Q) hQ (Fr.keep (by assumption)) (Cm.pick_2 c (by assumption) (by assumption))
  · exact post_bool (s := s) (Q := Q) hQ (Fr.keep (by assumption)) (Cm.pick_0 c (by assumption))
end

theorem words_p11_lawcmp_1 : True := by
  k_with "call ref" => (k_here; (with_reducible show wpAny _ _ (call (Value.ref 745) _) _ _ _); k_dflt (refine' lcmp_ok (gd_of ?zqF ?zqB ?zqX ?zqT ?zqhf ?zqhk)  ?zqhdp ?zqhu ?_; (case zqF => k_asm); (case zqX => k_asm); (case zqT => k_asm); (case zqB => k_asm); (case zqhf => exact rfl); (case zqhk => exact rfl); (case zqhdp => ktr_room); (case zqhu => ktr_units);  k_whole; refine post_use (by assumption) (by assumption) ?_; intro t9 h9 tk9 F9 N9; (try dsimp only); (try k_sweep); (try k_fold)))
  trivial
structure Own (g h : Heap) (l : Addr) (o : Obj) : Prop where
  sub : g.StaysIn h
  size : g.objs.size ≤ h.objs.size
  fresh : g.get? l = none
  at_ : h.get? l = some o
section
variable {w : World} {A A₀ : Around} {dp un : Nat} {gd : Option (List Code)} {base h₀ g : Heap} {L l : Addr} {m : Str → Option Value} {envs outer : List Env} {env : Env} {p : Program} {loose : List Str} {mean : ExcName → Option Value} {mg mb : Str → Option Value} {s : Shared} {Q E : Value → Shared → Prop} {news : List (Addr × Obj)} {o o' : Obj} {gf : Obj → List (Addr × Obj)}
theorem own_of {h : Heap} (N : News h₀ L h news) (hm : (l, o) ∈ news) : Own (h.hide l) h l o :=
  ⟨fun _ _ e => Heap.of_hide e, Nat.le_of_eq (Heap.hide_size h l), Heap.hide_self h l, (N _ hm).1⟩
theorem own_back {h h' : Heap} (F : Fr h₀ L h m) (N : News h₀ L h news) (U : UpdF l o news gf) (O : Own (h.hide l) h' l o') : Fr h₀ L h' m ∧ News h₀ L h' (gf o') := by
  obtain ⟨pre, post, rfl, hg, h1, h2⟩ := U.split
  have hl := N (l, o) (List.mem_append_right _ (.head _))
  have up : ∀ b x, b ≠ l → h.get? b = some x → h'.get? b = some x := fun b x n e => O.sub b x ((Heap.hide_ne h n).trans e)
  obtain ⟨oL, es, ep, hL, r⟩ := F.ns
  refine ⟨⟨⟨oL, es, ep, up L oL hl.2.1.symm hL, r⟩, fun b x e => up b x (fun q => ?_) (F.keep b x e), F.above⟩, fun q hq => ?_⟩
  · have := hl.2.2; dsimp only at this; rw [← q, e] at this; cases this
  · rw [hg] at hq
    rcases List.mem_append.mp hq with hq | hq
    · have n := N q (List.mem_append_left _ hq); exact ⟨up _ _ (h1 q hq) n.1, n.2⟩
    · rcases List.mem_cons.mp hq with rfl | hq
      · exact ⟨O.at_, hl.2⟩
      · have n := N q (List.mem_append_right _ (.tail _ hq)); exact ⟨up _ _ (h2 q hq) n.1, n.2⟩
theorem gd_hide {h : Heap} (F : Fr h₀ L h m) (N : News h₀ L h news) (hm : (l, o) ∈ news) (B : Below A₀ base outer h₀) (X : (Mine.hd.heap_39 w.params).In h₀) (T : Top p loose mean mg mb h₀) (hf : env.frame = some L) (hk : env.scope.kind = .function) :
    Gd w base (env :: outer) p loose mean mg mb (h.hide l) := by
  have hl := N (l, o) hm
  have up : h₀.StaysIn (h.hide l) := fun b x e => (Heap.hide_ne h (fun q => by have := hl.2.2; dsimp only at this; rw [← q, e] at this; cases this)).trans (F.keep b x e)
  obtain ⟨oL, es, ep, hL, r⟩ := F.ns
  have F' : Fr h₀ L (h.hide l) m := ⟨⟨oL, es, ep, (Heap.hide_ne h hl.2.1.symm).trans hL, r⟩, up, F.above⟩
  exact gd_of F' B X T hf hk
theorem enterH {name qual : Str} {params : Arguments} {body : List Stmt} {scope : Scope} {dV kV doc pm cdv ct oc : Value} {an od : Option Addr} {osl : Array (Option Value)} {f : Addr} {vs : List Value} {binds : List (Str × Value)}
    (G : Gd w base envs p loose mean mg mb g) (O : Own g s.heap l o)
    (ho : (Mine.hd.heap_39 w.params).lookup f = some ⟨oc, od, .func (fnOf name qual params body scope dV kV doc pm an cdv ct), osl⟩) (hcd : codeIn (Mine.hd.heap_39 w.params) cdv qual = true) (hroom : dp < recursionLimit)
    (hbind : BindsTo s (fnOf name qual params body scope dV kV doc pm an cdv ct) ⟨vs, []⟩ binds) (hloc : ∀ y ∈ binds, scope.names.lookup y.1 = some .local)
    (h : ∀ L' h₁, Fr g L' h₁ (fun y => binds.reverse.lookup y) → News g L' h₁ [(l, o)] → Below (Au dp un gd envs) base envs g → (Mine.hd.heap_39 w.params).In g → Top p loose mean mg mb g →
      wpAny (model PG w) ((Au dp un gd envs).deeper (envOf qual scope L' f cdv)) (execs body (envOf qual scope L' f cdv))
        (fun fl s' => Q (match fl with | .ret v => v | _ => .none) s')
        (fun e s' => wpAny (model PG w) ((Au dp un gd envs).deeper (envOf qual scope L' f cdv)) (leaving (envOf qual scope L' f cdv) e) (fun _ s'' => E e s'') (fun e' s'' => E e' s'') s')
        { s with heap := h₁, toks := s.toks + binds.length })
    (hco : scope.isCoroutine = false) (hgen : scope.isGenerator = false) (hk : scope.kind = .function)
    (hcell : ∀ x ∈ scope.names, x.2 ≠ .cell) : wpAny (model PG w) (Au dp un gd envs) (call (.ref f) vs) Q E s := by
  refine wpAny_call (codeAny_call_def (fd := fnOf name qual params body scope dV kV doc pm an cdv ct) (body := body) (binds := binds) hroom (O.sub _ _ (G.kin _ _ ho)) rfl (G.top.nolimit.keeps O.sub) (codeRec_of (G.kin.keeps O.sub) hcd) rfl hbind hcell hloc (fun h₁ hns hk₁ => ?_) hco hgen hk)
  refine h s.heap.objs.size h₁ ⟨hns, fun b x e => hk₁ b x (O.sub b x e), O.size⟩ (fun q hq => ?_) ⟨rfl, G.stays, G.frames⟩ G.kin G.top
  rcases List.mem_singleton.mp hq with rfl
  exact ⟨hk₁ _ _ O.at_, Nat.ne_of_lt (Heap.lt_size O.at_), O.fresh⟩
theorem own_end {h' : Heap} (O : Own g s.heap l o) (F : Fr g L h' m) (N : News g L h' news) (hm : (l, o') ∈ news) : Own g h' l o' :=
  ⟨F.keep, Nat.le_trans F.above (Nat.le_of_lt F.ns.lt), O.fresh, N.get hm⟩
end
def SrcO (o : Obj) : Prop := ∃ x y t1 t2 n, 0 ≤ x ∧ 0 ≤ y ∧ y < 2147483647 ∧ o = W.listOf [Value.int x t1, Value.int y t2].toArray n
section
variable {w : World} {dp un : Nat} {gd : Option (List Code)} {base g : Heap} {envs : List Env} {p : Program} {loose : List Str} {mean : ExcName → Option Value} {mg mb : Str → Option Value} {s : Shared} {Q E : Value → Shared → Prop} {l : Addr}
theorem fdiv_nonneg' {x top : Int} (hx : 0 ≤ x) (ht : 1 ≤ top) : 0 ≤ x.fdiv top := by
  rw [Int.fdiv_eq_ediv_of_nonneg x (by omega)]
  exact Int.ediv_nonneg hx (by omega)
set_option maxHeartbeats 4000000 in
theorem take_ok (G : Gd w base envs p loose mean mg mb g) {top : Int} {t : Tok} {o : Obj} (O : Own g s.heap l o) (so : SrcO o) (h1 : 1 ≤ top) (h2 : top ≤ 1000) (hdp : dp + 2 < recursionLimit) (hu : un + 20 < cLine)
    (hQ : ∀ d t o' h' tk', 0 ≤ d → d < top → SrcO o' → Own g h' l o' → Q (.int d t) { s with heap := h', toks := tk' }) : wpAny (model PG w) (Au dp un gd envs) (call (.ref 689) [.ref l, .int top t]) Q E s := by
  obtain ⟨x, y, t1, t2, n, hx, hy, hy', rfl⟩ := so
  have H0 : PySem.Challenge.rw_xm0611_01 = PySem.Challenge.rw_xm0611_01 ∧ Mine.hd.heap_39 = Mine.hd.heap_39 := ⟨rfl, rfl⟩
  revert H0; k_fill; intro _
  (k_dflt (refine' enterH (binds := [(Str.ofString "source", Value.ref l), (Str.ofString "top", Value.int top t)]) ?G ?O ?k6 ?k7 ?k8 ?k9 ?kB ?_ ?c2 ?c3 ?c4 ?c5; (case G => assumption); (case O => assumption); (case k6 => k_is); (case k7 => k_is); (case k8 => ktr_room); (case k9 => first | exact BindsTo.of_eq rfl | exact binds_K ((Gd.kin (by assumption)).keeps (Own.sub (by assumption))) rfl (by k_is) rfl rfl rfl); (case c5 => decide); (case kB => exact locs rfl); (case c2 => exact rfl); (case c3 => exact rfl); (case c4 => exact rfl); k_whole; intro L' h' F' N' B' X' T'; (try dsimp only); (try k_fold)))
  k_steps
  · obtain ⟨_, _, a0, a1⟩ := fmod_has x (p := top) (by omega)
    exact hQ _ _ _ _ _ a0 a1 ⟨_, _, _, _, _, fdiv_nonneg' hx h1, hy, hy', rfl⟩ (own_end O (by assumption) (by assumption) (.head _))
  · obtain ⟨_, _, a0, a1⟩ := fmod_has ((((y * 39373 + 7).fmod 2147483647 * (y * 39373 + 7).fmod 2147483647).fmod 2147483629).fdiv 32) (p := top) (by omega)
    obtain ⟨_, _, b0, b1⟩ := fmod_has (y * 39373 + 7) (p := 2147483647) (by omega)
    exact hQ _ _ _ _ _ a0 a1 ⟨_, _, _, _, _, hx, b0, b1, rfl⟩ (own_end O (by assumption) (by assumption) (.head _))
end
section
variable {w : World} {A A₀ : Around} {dp un : Nat} {gd : Option (List Code)} {base h₀ g : Heap} {L l : Addr} {m : Str → Option Value} {envs outer : List Env} {env : Env} {p : Program} {loose : List Str} {mean : ExcName → Option Value} {mg mb : Str → Option Value} {s : Shared} {Q E : Value → Shared → Prop} {news : List (Addr × Obj)} {o o' : Obj} {gf : Obj → List (Addr × Obj)}
theorem take_use (F : Fr h₀ L s.heap m) (N : News h₀ L s.heap news) (U : UpdF l o news gf) (B : Below A₀ base outer h₀) (X : (Mine.hd.heap_39 w.params).In h₀) (T : Top p loose mean mg mb h₀) (hf : env.frame = some L) (hk : env.scope.kind = .function)
    {top : Int} {t : Tok} (hm : (l, o) ∈ news) (so : SrcO o) (h1 : 1 ≤ top) (h2 : top ≤ 1000) (hdp : dp + 2 < recursionLimit) (hu : un + 20 < cLine)
    (hQ : ∀ d t o' h' tk', 0 ≤ d → d < top → SrcO o' → Fr h₀ L h' m → News h₀ L h' (gf o') → Q (.int d t) { s with heap := h', toks := tk' }) : wpAny (model PG w) (Au dp un gd (env :: outer)) (call (.ref 689) [.ref l, .int top t]) Q E s :=
  take_ok (gd_hide F N hm B X T hf hk) (own_of N hm) so h1 h2 hdp hu fun d t o' h' tk' a b c O =>
    have q := own_back F N U O
    hQ d t o' h' tk' a b c q.1 q.2
end
theorem words_p12_take_0 : True := by
  k_with "call ref" => (k_here; (with_reducible show wpAny _ _ (call (Value.ref 689) _) _ _ _); k_dflt (refine' take_use ?zqF ?zqN ?zqU ?zqB ?zqX ?zqT ?zqhf ?zqhk ?zqmm ?zqso ?zqa ?zqb ?zqhdp ?zqhu ?_; (case zqF => k_asm); (case zqN => k_asm); (case zqmm => k_mem); (case zqU => k_updF); (case zqB => k_asm); (case zqX => k_asm); (case zqT => k_asm); (case zqhf => exact rfl); (case zqhk => exact rfl); (case zqso => with_reducible assumption); (case zqa => first | decide | omega); (case zqb => first | decide | omega); (case zqhdp => ktr_room); (case zqhu => ktr_units); k_whole; intro d9 t9 o9 h9 tk9 d0 d1 so9 F9 N9; (try dsimp only at N9); (try dsimp only); (try k_sweep); (try k_fold)))
  trivial
section
variable {prog : Program} {w : World} {A : Around} {s : Shared} {Q E : Value → Shared → Prop}
theorem lst_any {value slice : Expr} {lt : Addr} {l : List Value} {k : Int} {u : Tok} (T : s.heap.IsList lt l.toArray) (h0 : 0 ≤ k) (h1 : k < l.length) (hn : l.length ≤ 100) (h : ∀ v, v ∈ l → Q v s)
    (hs : subscripted slice false (.ref lt) (.int k u) = operate [.ref lt, .int k u] (getItem (.ref lt) (.int k u))) : wpAny (model prog w) A (subscriptTail value slice (.ref lt) (.int k u)) Q E s := by
  have hl : k.toNat < l.length := by omega
  exact tail_any T.typeIs slot_list_getitem.lookup (wpAny_getItem_list (x := l[k.toNat]) T h0 (by omega) (by simp [hl]) (h _ (List.getElem_mem hl))) hs
theorem len_any {lt : Addr} {l : List Value} (T : s.heap.IsList lt l.toArray) (hn : l.length ≤ 100) (h : Q (.int l.length (s.toks + 1)) { s with toks := s.toks + 1 + 1 }) : wpAny (model prog w) A (call (.builtin "len") [.ref lt]) Q E s :=
  len_list T (by simp; omega) (by simpa using h)
end
theorem words_p12_take_1 : True := by
  k_with "call builtin:len" => (k_here; (with_reducible show wpAny _ _ (call (Value.builtin "len") [Value.ref _]) _ _ _); k_dflt (refine' len_any ?zqT ?zqc ?_; (case zqT => exact Fr.lst (by k_asm) (by with_reducible assumption)); (case zqc => with_reducible assumption); k_whole))
  k_with "subscriptTail Name Call ref int" => (k_here; (with_reducible show wpAny _ _ (subscriptTail _ _ (Value.ref _) (Value.int _ _)) _ _ _); k_dflt (refine' lst_any ?zqT ?zqa ?zqb ?zqc ?_ ?zqhs; (case zqT => first | exact Fr.lst (by k_asm) (by with_reducible assumption) | is_list); (case zqa => assumption); (case zqb => assumption); (case zqc => assumption); (case zqhs => with_unfolding_all rfl); k_whole; intro v9 hv9))
  trivial
section
variable {w : World} {dp un : Nat} {gd : Option (List Code)} {base g : Heap} {envs : List Env} {p : Program} {loose : List Str} {mean : ExcName → Option Value} {mg mb : Str → Option Value} {s : Shared} {Q E : Value → Shared → Prop} {l : Addr}
set_option maxHeartbeats 4000000 in
theorem one_ok (G : Gd w base envs p loose mean mg mb g) {l2 : Addr} {items : List Value} {o : Obj} (O : Own g s.heap l o) (so : SrcO o) (T2 : g.IsList l2 items.toArray) (h1 : (1 : Int) ≤ items.length) (h2 : items.length ≤ 100) (h3 : (items.length : Int) ≤ 1000) (hdp : dp + 5 < recursionLimit) (hu : un + 50 < cLine)
    (hQ : ∀ v o' h' tk', v ∈ items → SrcO o' → Own g h' l o' → Q v { s with heap := h', toks := tk' }) : wpAny (model PG w) (Au dp un gd envs) (call (.ref 696) [.ref l, .ref l2]) Q E s := by
  have H0 : PySem.Challenge.rw_xm0611_01 = PySem.Challenge.rw_xm0611_01 ∧ Mine.hd.heap_39 = Mine.hd.heap_39 := ⟨rfl, rfl⟩
  revert H0; k_fill; intro _
  (k_dflt (refine' enterH (binds := [(Str.ofString "source", Value.ref l), (Str.ofString "things", Value.ref l2)]) ?G ?O ?k6 ?k7 ?k8 ?k9 ?kB ?_ ?c2 ?c3 ?c4 ?c5; (case G => assumption); (case O => assumption); (case k6 => k_is); (case k7 => k_is); (case k8 => ktr_room); (case k9 => first | exact BindsTo.of_eq rfl | exact binds_K ((Gd.kin (by assumption)).keeps (Own.sub (by assumption))) rfl (by k_is) rfl rfl rfl); (case c5 => decide); (case kB => exact locs rfl); (case c2 => exact rfl); (case c3 => exact rfl); (case c4 => exact rfl); k_whole; intro L' h' F' N' B' X' T'; (try dsimp only); (try k_fold)))
  k_steps
  exact hQ _ _ _ _ (by assumption) (by assumption) (own_end O (by assumption) (by assumption) (.head _))
end

theorem pick_kd {v : Value} {a0 a1 a2 a3 a4 a5 a6 a7 a8 : Tok} (h : v ∈ [Value.str (Str.ofString "i8") a0, Value.str (Str.ofString "i16") a1, Value.str (Str.ofString "i32") a2, Value.str (Str.ofString "i64") a3, Value.str (Str.ofString "u8") a4, Value.str (Str.ofString "u16") a5, Value.str (Str.ofString "u32") a6, Value.str (Str.ofString "u64") a7, Value.str (Str.ofString "usize") a8]) : ∃ (k : Kd) (t : Tok), v = .str k.str t := by
  simp only [List.mem_cons, List.not_mem_nil, or_false] at h
  rcases h with rfl | rfl | rfl | rfl | rfl | rfl | rfl | rfl | rfl
  · exact ⟨.i8, _, rfl⟩
  · exact ⟨.i16, _, rfl⟩
  · exact ⟨.i32, _, rfl⟩
  · exact ⟨.i64, _, rfl⟩
  · exact ⟨.u8, _, rfl⟩
  · exact ⟨.u16, _, rfl⟩
  · exact ⟨.u32, _, rfl⟩
  · exact ⟨.u64, _, rfl⟩
  · exact ⟨.us, _, rfl⟩
theorem pick_ar {v : Value} {a0 a1 a2 a3 a4 : Tok} (h : v ∈ [Value.str (Str.ofString "+") a0, Value.str (Str.ofString "-") a1, Value.str (Str.ofString "*") a2, Value.str (Str.ofString "/") a3, Value.str (Str.ofString "%") a4]) : ∃ (k : Ar) (t : Tok), k.sh = false ∧ v = .str k.str t := by
  simp only [List.mem_cons, List.not_mem_nil, or_false] at h
  rcases h with rfl | rfl | rfl | rfl | rfl
  · exact ⟨.add, _, rfl, rfl⟩
  · exact ⟨.sub, _, rfl, rfl⟩
  · exact ⟨.mul, _, rfl, rfl⟩
  · exact ⟨.div, _, rfl, rfl⟩
  · exact ⟨.mod, _, rfl, rfl⟩
theorem pick_sh {v : Value} {a0 a1 : Tok} (h : v ∈ [Value.str (Str.ofString "<<") a0, Value.str (Str.ofString ">>") a1]) : ∃ (k : Ar) (t : Tok), k.sh = true ∧ v = .str k.str t := by
  simp only [List.mem_cons, List.not_mem_nil, or_false] at h
  rcases h with rfl | rfl
  · exact ⟨.shl, _, rfl, rfl⟩
  · exact ⟨.shr, _, rfl, rfl⟩
theorem pick_bt {v : Value} {a0 a1 a2 : Tok} (h : v ∈ [Value.str (Str.ofString "&") a0, Value.str (Str.ofString "|") a1, Value.str (Str.ofString "^") a2]) : ∃ (k : Bt) (t : Tok), v = .str k.str t := by
  simp only [List.mem_cons, List.not_mem_nil, or_false] at h
  rcases h with rfl | rfl | rfl
  · exact ⟨.and, _, rfl⟩
  · exact ⟨.or, _, rfl⟩
  · exact ⟨.xor, _, rfl⟩
theorem pick_cm {v : Value} {a0 a1 a2 a3 a4 a5 : Tok} (h : v ∈ [Value.str (Str.ofString "==") a0, Value.str (Str.ofString "!=") a1, Value.str (Str.ofString "<") a2, Value.str (Str.ofString "<=") a3, Value.str (Str.ofString ">") a4, Value.str (Str.ofString ">=") a5]) : ∃ (k : Cm) (t : Tok), v = .str k.str t := by
  simp only [List.mem_cons, List.not_mem_nil, or_false] at h
  rcases h with rfl | rfl | rfl | rfl | rfl | rfl
  · exact ⟨.eq, _, rfl⟩
  · exact ⟨.ne, _, rfl⟩
  · exact ⟨.lt, _, rfl⟩
  · exact ⟨.le, _, rfl⟩
  · exact ⟨.gt, _, rfl⟩
  · exact ⟨.ge, _, rfl⟩
theorem pick_many {v : Value} {a0 a1 a2 a3 a4 a5 a6 a7 a8 a9 : Tok} (h : v ∈ [Value.int (0) a0, Value.int (1) a1, Value.int (7) a2, Value.int (8) a3, Value.int (31) a4, Value.int (63) a5, Value.int (64) a6, Value.int (65) a7, Value.int (-1) a8, Value.int (-8) a9]) : ∃ (n : Int) (t : Tok), (-8 ≤ n ∧ n ≤ 65) ∧ v = .int n t := by
  simp only [List.mem_cons, List.not_mem_nil, or_false] at h
  rcases h with rfl | rfl | rfl | rfl | rfl | rfl | rfl | rfl | rfl | rfl
  · exact ⟨_, _, by decide, rfl⟩
  · exact ⟨_, _, by decide, rfl⟩
  · exact ⟨_, _, by decide, rfl⟩
  · exact ⟨_, _, by decide, rfl⟩
  · exact ⟨_, _, by decide, rfl⟩
  · exact ⟨_, _, by decide, rfl⟩
  · exact ⟨_, _, by decide, rfl⟩
  · exact ⟨_, _, by decide, rfl⟩
  · exact ⟨_, _, by decide, rfl⟩
  · exact ⟨_, _, by decide, rfl⟩
theorem pick_ns {v : Value} {a0 a1 a2 a3 a4 a5 a6 a7 : Tok} {k : Kd} (hs : k.sgn = true) (h : v ∈ [Value.int (0) a0, Value.int (1) a1, Value.int (-1) a2, Value.int (2) a3, Value.int (-7) a4, Value.int (100) a5, Value.int (k.hf - 1) a6, Value.int (0 - k.hf) a7]) : ∃ (n : Int) (t : Tok), (k.lo ≤ n ∧ n ≤ k.hi) ∧ v = .int n t := by
  simp only [List.mem_cons, List.not_mem_nil, or_false] at h
  rcases h with rfl | rfl | rfl | rfl | rfl | rfl | rfl | rfl
  all_goals (refine ⟨_, _, ⟨?_, ?_⟩, rfl⟩ <;> (have h1 := k.hf_lo; have h2 := k.pw_hf; have h3 := k.lo_s hs; have h4 := k.hi_s hs; omega))
theorem pick_nu {v : Value} {a0 a1 a2 a3 a4 a5 a6 a7 : Tok} {k : Kd} (hs : k.sgn = false) (h : v ∈ [Value.int (0) a0, Value.int (1) a1, Value.int (2) a2, Value.int (7) a3, Value.int (200) a4, Value.int (k.hf) a5, Value.int (k.hf - 1) a6, Value.int (2 * k.hf - 1) a7]) : ∃ (n : Int) (t : Tok), (k.lo ≤ n ∧ n ≤ k.hi) ∧ v = .int n t := by
  simp only [List.mem_cons, List.not_mem_nil, or_false] at h
  rcases h with rfl | rfl | rfl | rfl | rfl | rfl | rfl | rfl
  all_goals (refine ⟨_, _, ⟨?_, ?_⟩, rfl⟩ <;> (have h1 := k.hf_lo; have h2 := k.pw_hf; have h3 := k.lo_u hs; have h4 := k.hi_u hs; omega))
section
variable {w : World} {A A₀ : Around} {dp un : Nat} {gd : Option (List Code)} {base h₀ g : Heap} {L l : Addr} {m : Str → Option Value} {envs outer : List Env} {env : Env} {p : Program} {loose : List Str} {mean : ExcName → Option Value} {mg mb : Str → Option Value} {s : Shared} {Q E : Value → Shared → Prop} {news : List (Addr × Obj)} {o o' : Obj} {gf : Obj → List (Addr × Obj)}
theorem hide_list {h : Heap} {l2 : Addr} {items : Array Value} (T : h.IsList l2 items) (hne : l2 ≠ l) : (h.hide l).IsList l2 items := let ⟨o, ho, r⟩ := T; ⟨o, (Heap.hide_ne h hne).trans ho, r⟩
theorem one_use (F : Fr h₀ L s.heap m) (N : News h₀ L s.heap news) (U : UpdF l o news gf) (B : Below A₀ base outer h₀) (X : (Mine.hd.heap_39 w.params).In h₀) (T : Top p loose mean mg mb h₀) (hf : env.frame = some L) (hk : env.scope.kind = .function)
    {l2 : Addr} {items : List Value} (hm : (l, o) ∈ news) (so : SrcO o) (T2 : s.heap.IsList l2 items.toArray) (hne : l2 ≠ l) (h1 : (1 : Int) ≤ items.length) (h2 : items.length ≤ 100) (hdp : dp + 5 < recursionLimit) (hu : un + 50 < cLine)
    (hQ : ∀ v o' h' tk', v ∈ items → SrcO o' → Fr h₀ L h' m → News h₀ L h' (gf o') → Q v { s with heap := h', toks := tk' }) : wpAny (model PG w) (Au dp un gd (env :: outer)) (call (.ref 696) [.ref l, .ref l2]) Q E s :=
  one_ok (gd_hide F N hm B X T hf hk) (own_of N hm) so (hide_list T2 hne) h1 h2 (by omega) hdp hu fun v o' h' tk' a c O =>
    have q := own_back F N U O
    hQ v o' h' tk' a c q.1 q.2
end
theorem words_p13_number_0 : True := by
  k_with "call ref" => (k_here; (with_reducible show wpAny _ _ (call (Value.ref 696) _) _ _ _); k_dflt (refine' one_use ?zqF ?zqN ?zqU ?zqB ?zqX ?zqT ?zqhf ?zqhk ?zqmm ?zqso ?zqT2 ?zqne ?zqa ?zqb ?zqhdp ?zqhu ?_; (case zqF => k_asm); (case zqN => k_asm); (case zqmm => k_mem); (case zqU => k_updF); (case zqB => k_asm); (case zqX => k_asm); (case zqT => k_asm); (case zqhf => exact rfl); (case zqhk => exact rfl); (case zqso => with_reducible assumption); (case zqT2 => is_list); (case zqne => k_ne); (case zqa => first | exact of_decide_eq_true rfl | (simp only [List.length_cons, List.length_nil]; omega)); (case zqb => first | exact Nat.le_of_ble_eq_true rfl | (simp only [List.length_cons, List.length_nil]; omega)); (case zqhdp => ktr_room); (case zqhu => ktr_units); k_whole; intro v9 o9 h9 tk9 hv9 so9 F9 N9; (try dsimp only at N9); (first | (obtain ⟨k9, t9, e9⟩ := pick_kd hv9; subst e9) | (obtain ⟨k9, t9, hk9, e9⟩ := pick_ar hv9; subst e9) | (obtain ⟨k9, t9, hk9, e9⟩ := pick_sh hv9; subst e9) | (obtain ⟨k9, t9, e9⟩ := pick_bt hv9; subst e9) | (obtain ⟨k9, t9, e9⟩ := pick_cm hv9; subst e9) | (obtain ⟨k9, t9, hk9, e9⟩ := pick_many hv9; subst e9) | (obtain ⟨k9, t9, hk9, e9⟩ := pick_ns (by assumption) hv9; subst e9) | (obtain ⟨k9, t9, hk9, e9⟩ := pick_nu (by assumption) hv9; subst e9)); (try dsimp only); (try k_sweep); (try k_fold)))
  k_with "call ref" => (k_here; (with_reducible show wpAny _ _ (call (Value.ref 696) _) _ _ _); k_dflt (refine' one_use ?zqF ?zqN ?zqU ?zqB ?zqX ?zqT ?zqhf ?zqhk ?zqmm ?zqso ?zqT2 ?zqne ?zqa ?zqb ?zqhdp ?zqhu ?_; (case zqF => k_asm); (case zqN => exact newsTail (by k_asm)); (case zqmm => k_mem); (case zqU => k_updF); (case zqB => k_asm); (case zqX => k_asm); (case zqT => k_asm); (case zqhf => exact rfl); (case zqhk => exact rfl); (case zqso => with_reducible assumption); (case zqT2 => exact News.isList (by k_asm) (List.Mem.head _)); (case zqne => k_ne); (case zqa => first | exact of_decide_eq_true rfl | (simp only [List.length_cons, List.length_nil]; omega)); (case zqb => first | exact Nat.le_of_ble_eq_true rfl | (simp only [List.length_cons, List.length_nil]; omega)); (case zqhdp => ktr_room); (case zqhu => ktr_units); k_whole; intro v9 o9 h9 tk9 hv9 so9 F9 N9; (try dsimp only at N9); (first | (obtain ⟨k9, t9, hk9, e9⟩ := pick_ar hv9; subst e9) | (obtain ⟨k9, t9, hk9, e9⟩ := pick_sh hv9; subst e9) | (obtain ⟨k9, t9, e9⟩ := pick_bt hv9; subst e9) | (obtain ⟨k9, t9, e9⟩ := pick_cm hv9; subst e9) | (obtain ⟨k9, t9, hk9, e9⟩ := pick_many hv9; subst e9) | (obtain ⟨k9, t9, hk9, e9⟩ := pick_ns (by assumption) hv9; subst e9) | (obtain ⟨k9, t9, hk9, e9⟩ := pick_nu (by assumption) hv9; subst e9)); (try dsimp only); (try k_sweep); (try k_fold)))
  trivial
section
variable {w : World} {dp un : Nat} {gd : Option (List Code)} {base g : Heap} {envs : List Env} {p : Program} {loose : List Str} {mean : ExcName → Option Value} {mg mb : Str → Option Value} {s : Shared} {Q E : Value → Shared → Prop} {l : Addr}
set_option maxHeartbeats 4000000 in
theorem num_ok (G : Gd w base envs p loose mean mg mb g) {k : Kd} {t0 : Tok} {o : Obj} (O : Own g s.heap l o) (so : SrcO o) (hdp : dp + 10 < recursionLimit) (hu : un + 100 < cLine)
    (hQ : ∀ a t o' h' tk', k.lo ≤ a → a ≤ k.hi → SrcO o' → Own g h' l o' → Q (.int a t) { s with heap := h', toks := tk' }) : wpAny (model PG w) (Au dp un gd envs) (call (.ref 717) [.ref l, .str k.str t0]) Q E s := by
  have H0 : PySem.Challenge.rw_xm0611_01 = PySem.Challenge.rw_xm0611_01 ∧ Mine.hd.heap_39 = Mine.hd.heap_39 := ⟨rfl, rfl⟩
  revert H0; k_fill; intro _
  (k_dflt (refine' enterH (binds := [(Str.ofString "source", Value.ref l), (Str.ofString "kind", Value.str k.str t0)]) ?G ?O ?k6 ?k7 ?k8 ?k9 ?kB ?_ ?c2 ?c3 ?c4 ?c5; (case G => assumption); (case O => assumption); (case k6 => k_is); (case k7 => k_is); (case k8 => ktr_room); (case k9 => first | exact BindsTo.of_eq rfl | exact binds_K ((Gd.kin (by assumption)).keeps (Own.sub (by assumption))) rfl (by k_is) rfl rfl rfl); (case c5 => decide); (case kB => exact locs rfl); (case c2 => exact rfl); (case c3 => exact rfl); (case c4 => exact rfl); k_whole; intro L' h' F' N' B' X' T'; (try dsimp only); (try k_fold)))
  k_steps
  all_goals (rename (Kd.lo _ ≤ _ ∧ _ ≤ Kd.hi _) => hk8; exact hQ _ _ _ _ _ hk8.1 hk8.2 (by assumption) (own_end O (by assumption) (by assumption) (by k_mem)))
end
section
variable {w : World} {A A₀ : Around} {dp un : Nat} {gd : Option (List Code)} {base h₀ g : Heap} {L l : Addr} {m : Str → Option Value} {envs outer : List Env} {env : Env} {p : Program} {loose : List Str} {mean : ExcName → Option Value} {mg mb : Str → Option Value} {s : Shared} {Q E : Value → Shared → Prop} {news : List (Addr × Obj)} {o o' : Obj} {gf : Obj → List (Addr × Obj)}
theorem num_use (F : Fr h₀ L s.heap m) (N : News h₀ L s.heap news) (U : UpdF l o news gf) (B : Below A₀ base outer h₀) (X : (Mine.hd.heap_39 w.params).In h₀) (T : Top p loose mean mg mb h₀) (hf : env.frame = some L) (hk : env.scope.kind = .function)
    {k : Kd} {t0 : Tok} (hm : (l, o) ∈ news) (so : SrcO o) (hdp : dp + 10 < recursionLimit) (hu : un + 100 < cLine)
    (hQ : ∀ a t o' h' tk', k.lo ≤ a → a ≤ k.hi → SrcO o' → Fr h₀ L h' m → News h₀ L h' (gf o') → Q (.int a t) { s with heap := h', toks := tk' }) : wpAny (model PG w) (Au dp un gd (env :: outer)) (call (.ref 717) [.ref l, .str k.str t0]) Q E s :=
  num_ok (gd_hide F N hm B X T hf hk) (own_of N hm) so hdp hu fun a t o' h' tk' b c d O =>
    have q := own_back F N U O
    hQ a t o' h' tk' b c d q.1 q.2
end

theorem words_p13_number_1 : True := by
  k_with "call ref" => (k_here; (with_reducible show wpAny _ _ (call (Value.ref 717) _) _ _ _); k_dflt (refine' num_use ?zqF ?zqN ?zqU ?zqB ?zqX ?zqT ?zqhf ?zqhk ?zqmm ?zqso ?zqhdp ?zqhu ?_; (case zqF => k_asm); (case zqN => k_asm); (case zqmm => k_mem); (case zqU => k_updF); (case zqB => k_asm); (case zqX => k_asm); (case zqT => k_asm); (case zqhf => exact rfl); (case zqhk => exact rfl); (case zqso => with_reducible assumption); (case zqhdp => ktr_room); (case zqhu => ktr_units); k_whole; intro a9 t9 o9 h9 tk9 d0 d1 so9 F9 N9; (try dsimp only at N9); (try dsimp only); (try k_sweep); (try k_fold)))
  trivial
theorem Kd.wrap_fix (k : Kd) {n : Int} (h0 : k.lo ≤ n) (h1 : n ≤ k.hi) : k.wrap n = n := k.wrap_one (q := 0) (by simp) h0 h1
theorem Kd.wrap_ne (k : Kd) (n : Int) : (k.wrap n != n) = !k.fits n := by
  by_cases h : k.lo ≤ n ∧ n ≤ k.hi
  · simp [Kd.fits, h, k.wrap_fix h.1 h.2]
  · obtain ⟨q, e, h0, h1⟩ := k.wrap_has n
    have : k.wrap n ≠ n := fun e => h (by rw [e] at h0 h1; exact ⟨h0, h1⟩)
    simp [Kd.fits, h, this]
theorem Kd.wrap_shift (k : Kd) (n q : Int) : k.wrap (n + k.pw * q) = k.wrap n := by
  obtain ⟨r, e, h0, h1⟩ := k.wrap_has n
  exact k.wrap_one (q := r + q) (by rw [Int.mul_add]; omega) h0 h1
theorem Kd.wrap_dbl (k : Kd) (n : Int) : k.wrap (k.wrap n + k.wrap n) = k.wrap (n * 2) := by
  obtain ⟨q, e, _, _⟩ := k.wrap_has n
  have : n * 2 = (k.wrap n + k.wrap n) + k.pw * (q + q) := by rw [Int.mul_add]; omega
  rw [this, k.wrap_shift]
theorem Kd.neg_led (k : Kd) (a : Int) : k.wrap (k.pw - a.fmod k.pw) = k.wrap (0 - a) := by
  obtain ⟨q, e, _, _⟩ := fmod_has a k.pw_pos
  have : k.pw - a.fmod k.pw = (0 - a) + k.pw * (1 + q) := by rw [Int.mul_add, Int.mul_one]; omega
  rw [this, k.wrap_shift]
theorem Kd.inv_led (k : Kd) (a : Int) : k.wrap (k.pw - 1 - a.fmod k.pw) = k.wrap (-1 - a) := by
  obtain ⟨q, e, _, _⟩ := fmod_has a k.pw_pos
  have : k.pw - 1 - a.fmod k.pw = (-1 - a) + k.pw * (1 + q) := by rw [Int.mul_add, Int.mul_one]; omega
  rw [this, k.wrap_shift]
theorem Kd.lo_le (k : Kd) : k.lo ≤ 0 := by have := k.hf_lo; unfold Kd.lo; split <;> omega
theorem Kd.hi_ge (k : Kd) : 127 ≤ k.hi := by have := k.hf_lo; have := k.pw_hf; unfold Kd.hi; split <;> omega
/-- shifts to the left, one place after the other -/
def shlN (k : Kd) (a : Int) : Nat → Int
  | 0 => a
  | n + 1 => k.wrap (shlN k a n + shlN k a n)
def shrN (a : Int) : Nat → Int
  | 0 => a
  | n + 1 => (shrN a n).fdiv 2
theorem shlN_is (k : Kd) {a : Int} (h0 : k.lo ≤ a) (h1 : a ≤ k.hi) : ∀ n, shlN k a n = k.wrap (a * 2 ^ n)
  | 0 => by simp [shlN, k.wrap_fix h0 h1]
  | n + 1 => by
    show k.wrap (shlN k a n + shlN k a n) = _
    rw [shlN_is k h0 h1 n, k.wrap_dbl, Int.pow_succ, Int.mul_assoc]
theorem fdiv_pow (a : Int) (n : Nat) : (a.fdiv (2 ^ n)).fdiv 2 = a.fdiv (2 ^ (n + 1)) := by
  have hp := kbt_pos n
  have hp' := kbt_pos (n + 1)
  rw [Int.fdiv_eq_ediv_of_nonneg _ (by decide), Int.fdiv_eq_ediv_of_nonneg _ (Int.le_of_lt hp), Int.fdiv_eq_ediv_of_nonneg _ (Int.le_of_lt hp'), Int.pow_succ]; exact Int.ediv_ediv_of_nonneg (Int.le_of_lt hp)
theorem shrN_is (a : Int) : ∀ n, shrN a n = a.fdiv (2 ^ n)
  | 0 => by simp [shrN]
  | n + 1 => by
    show (shrN a n).fdiv 2 = _
    rw [shrN_is a n, fdiv_pow]
theorem shr_range (k : Kd) {a : Int} (h0 : k.lo ≤ a) (h1 : a ≤ k.hi) (n : Nat) : k.lo ≤ a.fdiv (2 ^ n) ∧ a.fdiv (2 ^ n) ≤ k.hi := by
  have hp := kbt_pos n
  have hl := k.lo_le; have hh := k.hi_ge
  rw [Int.fdiv_eq_ediv_of_nonneg _ (Int.le_of_lt hp)]
  by_cases ha : 0 ≤ a
  · have := Int.ediv_nonneg ha (Int.le_of_lt hp)
    have := Int.ediv_le_self (2 ^ n) ha
    omega
  · have h2 : a / 2 ^ n < 0 := Int.ediv_neg_of_neg_of_pos (by omega) hp
    have h3 : a ≤ a / 2 ^ n := by
      refine (Int.le_ediv_iff_mul_le hp).mpr ?_
      have : a * 2 ^ n ≤ a * 1 := Int.mul_le_mul_of_nonpos_left (by omega) (by omega)
      omega
    omega
theorem chk_shl (k : Kd) {a b : Int} (h0 : k.lo ≤ a) (h1 : a ≤ k.hi) : chkV k .shl a b = some (shlN k a (k.sh b), !decide (0 ≤ b ∧ b < k.bits)) := by
  rw [shlN_is k h0 h1]; rfl
theorem chk_shr (k : Kd) {a b : Int} (h0 : k.lo ≤ a) (h1 : a ≤ k.hi) : chkV k .shr a b = some (shrN a (k.sh b), !decide (0 ≤ b ∧ b < k.bits)) := by
  have := shr_range k h0 h1 (k.sh b)
  rw [shrN_is]
  show some (k.wrap (a.fdiv (2 ^ k.sh b)), _) = _
  rw [k.wrap_fix this.1 this.2]
/-- one bit of the answer, of the sum of two bits -/
def Bt.bit (c : Bt) (ones : Int) : Int := match c with
  | .and => if ones = 2 then 1 else 0 | .or => if ones = 2 ∨ ones = 1 then 1 else 0 | .xor => if ones = 1 then 1 else 0
theorem Bt.halves (c : Bt) (x y : Int) : c.val x y = 2 * c.val (x.fdiv 2) (y.fdiv 2) + c.bit (x.fmod 2 + y.fmod 2) := by
  have hx := Int.fmod_eq_emod_of_nonneg x (show (0:Int) ≤ 2 by decide)
  have hy := Int.fmod_eq_emod_of_nonneg y (show (0:Int) ≤ 2 by decide)
  have hx' := Int.fdiv_eq_ediv_of_nonneg x (show (0:Int) ≤ 2 by decide)
  have hy' := Int.fdiv_eq_ediv_of_nonneg y (show (0:Int) ≤ 2 by decide)
  rw [hx, hy, hx', hy']
  have A := kbt_halves x y
  have X := bitXor_and x y
  have X' := bitXor_and (x / 2) (y / 2)
  have O : ∀ u v : Int, Builtin.bitOr u v = Builtin.bitXor u v + Builtin.bitAnd u v := fun u v => (Int.sub_add_cancel _ _).symm
  have ex := Int.mul_ediv_add_emod x 2
  have ey := Int.mul_ediv_add_emod y 2
  have px := Int.emod_two_eq x
  have py := Int.emod_two_eq y
  have main : ∀ {x y u v p q d a : Int}, 2 * u + p = x → 2 * v + q = y → (p = 0 ∨ p = 1) → (q = 0 ∨ q = 1) → a = 2 * d + (if p = 1 ∧ q = 1 then 1 else 0) →
      a = 2 * d + (if p + q = 2 then 1 else 0) ∧ (x + y - 2 * a + a = 2 * (u + v - 2 * d + d) + if p + q = 2 ∨ p + q = 1 then 1 else 0) ∧ (x + y - 2 * a = 2 * (u + v - 2 * d) + if p + q = 1 then 1 else 0) := by
    intro x y u v p q d a ex ey px py ea
    subst ex ey ea
    rcases px with rfl | rfl <;> rcases py with rfl | rfl <;> (refine ⟨?_, ?_, ?_⟩ <;> first | rfl | (simp; done) | (simp; omega))
  have M := main ex ey px py A
  cases c
  · exact M.1
  · show Builtin.bitOr x y = 2 * Builtin.bitOr (x / 2) (y / 2) + _
    rw [O, O, X, X']; exact M.2.1
  · show Builtin.bitXor x y = 2 * Builtin.bitXor (x / 2) (y / 2) + _
    rw [X, X']; exact M.2.2
def Bt.sum (c : Bt) (a b : Int) : Nat → Int
  | 0 => 0
  | n + 1 => c.sum a b n + 2 ^ n * c.bit ((a.fdiv (2 ^ n)).fmod 2 + (b.fdiv (2 ^ n)).fmod 2)
theorem Bt.sum_is (c : Bt) (a b : Int) : ∀ n, c.val a b = c.sum a b n + 2 ^ n * c.val (a.fdiv (2 ^ n)) (b.fdiv (2 ^ n))
  | 0 => by simp [Bt.sum]
  | n + 1 => by
    rw [Bt.sum_is c a b n, c.halves (a.fdiv (2 ^ n)), fdiv_pow, fdiv_pow]
    show _ = (c.sum a b n + 2 ^ n * c.bit _) + 2 ^ (n + 1) * _
    rw [Int.mul_add, Int.pow_succ, Int.mul_assoc]
    omega
theorem Bt.bit_b (c : Bt) (x : Int) : 0 ≤ c.bit x ∧ c.bit x ≤ 1 := by cases c <;> (unfold Bt.bit; dsimp only; split <;> omega)
theorem Bt.sum_b (c : Bt) (a b : Int) : ∀ n, 0 ≤ c.sum a b n ∧ c.sum a b n < 2 ^ n
  | 0 => by simp [Bt.sum]
  | n + 1 => by
    have h := Bt.sum_b c a b n
    have h2 := c.bit_b ((a.fdiv (2 ^ n)).fmod 2 + (b.fdiv (2 ^ n)).fmod 2)
    have hp := kbt_pos n
    show 0 ≤ c.sum a b n + 2 ^ n * _ ∧ c.sum a b n + 2 ^ n * _ < 2 ^ (n + 1)
    rw [Int.pow_succ]
    have h3 : (2:Int) ^ n * c.bit ((a.fdiv (2 ^ n)).fmod 2 + (b.fdiv (2 ^ n)).fmod 2) = 0 ∨ (2:Int) ^ n * c.bit ((a.fdiv (2 ^ n)).fmod 2 + (b.fdiv (2 ^ n)).fmod 2) = 2 ^ n := by
      have : c.bit ((a.fdiv (2 ^ n)).fmod 2 + (b.fdiv (2 ^ n)).fmod 2) = 0 ∨ c.bit ((a.fdiv (2 ^ n)).fmod 2 + (b.fdiv (2 ^ n)).fmod 2) = 1 := by omega
      rcases this with e | e <;> rw [e] <;> simp
    omega

theorem fd01 {a p : Int} (hp : 0 < p) (h0 : -p ≤ a) (h1 : a < p) : (0 ≤ a ∧ a.fdiv p = 0) ∨ (a < 0 ∧ a.fdiv p = -1) := by
  rw [Int.fdiv_eq_ediv_of_nonneg _ (Int.le_of_lt hp)]
  by_cases ha : 0 ≤ a
  · exact .inl ⟨ha, (kbt_unique (q := 0) (r := a) hp (by simp) ha h1).1⟩
  · exact .inr ⟨by omega, (kbt_unique (q := -1) (r := a + p) hp (by rw [Int.mul_neg, Int.mul_one]; omega) (by omega) (by omega)).1⟩
theorem Bt.val_01 (c : Bt) {u v : Int} (hu : u = 0 ∨ u = -1) (hv : v = 0 ∨ v = -1) : c.val u v = 0 ∨ c.val u v = -1 := by
  rcases hu with rfl | rfl <;> rcases hv with rfl | rfl <;> cases c <;> decide
theorem Bt.val_00 (c : Bt) : c.val 0 0 = 0 := by cases c <;> decide
theorem Kd.pw_nat (k : Kd) : (2 : Int) ^ k.bits.toNat = k.pw := k.pw_eq
theorem Bt.led (c : Bt) (k : Kd) {a b : Int} (a0 : k.lo ≤ a) (a1 : a ≤ k.hi) (b0 : k.lo ≤ b) (b1 : b ≤ k.hi) : k.wrap (c.sum a b k.bits.toNat) = c.val a b := by
  have S := c.sum_is a b k.bits.toNat
  rw [k.pw_eq] at S
  refine k.wrap_one (q := -(c.val (a.fdiv k.pw) (b.fdiv k.pw))) (by rw [Int.mul_neg]; omega) ?_ ?_
  all_goals
    have hph := k.pw_hf; have hh := k.hf_lo
    cases hs : k.sgn
  · have l := k.lo_u hs; have h := k.hi_u hs
    have sb := c.sum_b a b k.bits.toNat
    have ea : a.fdiv k.pw = 0 := by rcases fd01 (a := a) k.pw_pos (by omega) (by omega) with h | h <;> omega
    have eb : b.fdiv k.pw = 0 := by rcases fd01 (a := b) k.pw_pos (by omega) (by omega) with h | h <;> omega
    rw [k.pw_eq] at sb
    rw [ea, eb, c.val_00] at S
    omega
  · have l := k.lo_s hs; have h := k.hi_s hs
    have S' := c.sum_is a b (k.bits - 1).toNat
    have sb := c.sum_b a b (k.bits - 1).toNat
    rw [k.hf_eq] at S' sb
    have ea : a.fdiv k.hf = 0 ∨ a.fdiv k.hf = -1 := by rcases fd01 (a := a) (p := k.hf) (by omega) (by omega) (by omega) with h | h <;> omega
    have eb : b.fdiv k.hf = 0 ∨ b.fdiv k.hf = -1 := by rcases fd01 (a := b) (p := k.hf) (by omega) (by omega) (by omega) with h | h <;> omega
    rcases c.val_01 ea eb with e | e <;> rw [e] at S' <;> omega
  · have l := k.lo_u hs; have h := k.hi_u hs
    have sb := c.sum_b a b k.bits.toNat
    have ea : a.fdiv k.pw = 0 := by rcases fd01 (a := a) k.pw_pos (by omega) (by omega) with h | h <;> omega
    have eb : b.fdiv k.pw = 0 := by rcases fd01 (a := b) k.pw_pos (by omega) (by omega) with h | h <;> omega
    rw [k.pw_eq] at sb
    rw [ea, eb, c.val_00] at S
    omega
  · have l := k.lo_s hs; have h := k.hi_s hs
    have S' := c.sum_is a b (k.bits - 1).toNat
    have sb := c.sum_b a b (k.bits - 1).toNat
    rw [k.hf_eq] at S' sb
    have ea : a.fdiv k.hf = 0 ∨ a.fdiv k.hf = -1 := by rcases fd01 (a := a) (p := k.hf) (by omega) (by omega) (by omega) with h | h <;> omega
    have eb : b.fdiv k.hf = 0 ∨ b.fdiv k.hf = -1 := by rcases fd01 (a := b) (p := k.hf) (by omega) (by omega) (by omega) with h | h <;> omega
    rcases c.val_01 ea eb with e | e <;> rw [e] at S' <;> omega

theorem fdiv_sign {a b : Int} (hb : b ≠ 0) (hd : ¬ b ∣ a) : a.fdiv b < 0 ↔ ((0 ≤ a ∧ b < 0) ∨ (a < 0 ∧ 0 < b)) := by
  have ne : a % b ≠ 0 := fun e => hd (Int.dvd_of_emod_eq_zero e)
  have e := Int.emod_add_mul_ediv a b
  have h0 := Int.emod_nonneg a hb
  have F : a.fdiv b = a / b - if 0 ≤ b ∨ b ∣ a then 0 else 1 := Int.fdiv_eq_ediv
  by_cases hp : 0 ≤ b
  · rw [if_pos (.inl hp)] at F
    have hp' : 0 < b := by omega
    by_cases ha : 0 ≤ a
    · have := Int.ediv_nonneg ha hp
      have G : ¬ a.fdiv b < 0 := by omega
      exact ⟨fun h => absurd h G, fun h => by omega⟩
    · have := Int.ediv_neg_of_neg_of_pos (show a < 0 by omega) hp'
      have G : a.fdiv b < 0 := by omega
      exact ⟨fun _ => .inr ⟨by omega, hp'⟩, fun _ => G⟩
  · have hn : ¬ (0 ≤ b ∨ b ∣ a) := fun h => h.elim hp hd
    rw [if_neg hn] at F
    by_cases ha : 0 ≤ a
    · have : a / b ≤ 0 := Int.ediv_nonpos_of_nonneg_of_nonpos ha (by omega)
      have G : a.fdiv b < 0 := by omega
      exact ⟨fun _ => .inl ⟨ha, by omega⟩, fun _ => G⟩
    · have : 0 < a / b := by
        refine Int.not_le.mp fun h => ?_
        have := Int.mul_nonneg_of_nonpos_of_nonpos (show b ≤ 0 by omega) h
        omega
      have G : ¬ a.fdiv b < 0 := by omega
      exact ⟨fun h => absurd h G, fun h => by omega⟩
theorem many_1 {a b : Int} (hb : b ≠ 0) (h : a.fdiv b < 0) (h' : a.fdiv b * b ≠ a) : a.fdiv b + 1 = a.tdiv b := by
  have hd : ¬ b ∣ a := fun d => h' (Int.fdiv_mul_cancel d)
  have := (fdiv_sign hb hd).mp h
  rw [Int.tdiv_eq_fdiv, if_neg hd]
  by_cases hp : 0 ≤ b
  · have s : b.sign = 1 := Int.sign_eq_one_of_pos (by omega)
    rw [if_neg (by omega), if_pos hp, s]
  · rw [if_pos (by omega), if_neg hp]
theorem many_2 {a b : Int} (hb : b ≠ 0) (h : ¬ a.fdiv b < 0) : a.fdiv b = a.tdiv b := by
  by_cases hd : b ∣ a
  · rw [Int.tdiv_eq_fdiv, if_pos hd, Int.add_zero]
  · have hn : ¬ ((0 ≤ a ∧ b < 0) ∨ (a < 0 ∧ 0 < b)) := fun x => h ((fdiv_sign hb hd).mpr x)
    rw [Int.tdiv_eq_fdiv, if_neg hd]
    by_cases hp : 0 ≤ b
    · rw [if_pos (by omega), if_pos hp, Int.add_zero]
    · have s : b.sign = -1 := Int.sign_eq_neg_one_of_neg (by omega)
      rw [if_neg (by omega), if_neg hp, s]; omega
theorem many_3 {a b : Int} (h' : a.fdiv b * b = a) : a.fdiv b = a.tdiv b := by
  have hd : b ∣ a := ⟨a.fdiv b, by rw [Int.mul_comm]; exact h'.symm⟩
  rw [Int.tdiv_eq_fdiv, if_pos hd, Int.add_zero]
theorem rem_range (k : Kd) {a b : Int} (a0 : k.lo ≤ a) (a1 : a ≤ k.hi) : k.lo ≤ a - b * a.tdiv b ∧ a - b * a.tdiv b ≤ k.hi := by
  rw [← Int.tmod_def]
  have hl := k.lo_le; have hh := k.hi_ge
  have s := Int.sign_tmod a b
  have n := Int.natAbs_tmod a b
  have m := Nat.mod_le a.natAbs b.natAbs
  by_cases ha : 0 ≤ a
  · have := Int.tmod_nonneg b ha; omega
  · have : a.tmod b ≤ 0 := by
      have := Int.tmod_nonneg b (show 0 ≤ -a by omega)
      rw [Int.neg_tmod] at this; omega
    omega
theorem quo_fits (k : Kd) {a b : Int} (a0 : k.lo ≤ a) (a1 : a ≤ k.hi) (b0 : k.lo ≤ b) (hb : b ≠ 0) (h : ¬ (b = -1 ∧ k.sgn = true)) : k.lo ≤ a.tdiv b ∧ a.tdiv b ≤ k.hi := by
  have n := Int.natAbs_tdiv_le_natAbs a b
  have n2 := Int.natAbs_tdiv a b
  have hh := k.hf_lo; have hp := k.pw_hf
  cases hs : k.sgn
  · have l := k.lo_u hs; have h := k.hi_u hs
    have := Int.tdiv_nonneg (show 0 ≤ a by omega) (show 0 ≤ b by omega)
    omega
  · have l := k.lo_s hs; have hi := k.hi_s hs
    have hb1 : b ≠ -1 := fun e => h ⟨e, hs⟩
    by_cases h1 : b = 1
    · subst h1; rw [Int.tdiv_one]; omega
    · have h2 : a.natAbs.div b.natAbs ≤ a.natAbs / 2 := Nat.div_le_div_left (show 2 ≤ b.natAbs by omega) (by decide)
      omega
theorem chk_as (k : Kd) {o : Ar} {a b x : Int} (ho : o.sh = false) (hm : o.isMod = false) (h : o.ex a b = some x) : chkV k o a b = some (k.wrap x, k.wrap x != x) := by
  rw [chk_x ho h (.inl hm), k.wrap_ne]
theorem chk_mod (k : Kd) {a b : Int} (a0 : k.lo ≤ a) (a1 : a ≤ k.hi) (b0 : k.lo ≤ b) (hb : b ≠ 0) : chkV k .mod a b = some (a - a.tdiv b * b, k.wrap (a.tdiv b) != a.tdiv b) := by
  have hx : Ar.ex .mod a b = some (a - b * a.tdiv b) := if_neg hb
  by_cases h : b = -1 ∧ k.sgn = true
  · rw [chk_m rfl hx h.1 h.2, k.wrap_ne]
    obtain ⟨rfl, hs⟩ := h
    have e : a.tdiv (-1) = -a := by rw [Int.tdiv_neg, Int.tdiv_one]
    rw [e]
    have l := k.lo_s hs; have hi := k.hi_s hs
    have e1 : a - -a * -1 = 0 := by omega
    rw [e1]
    congr 2
    unfold Kd.fits
    by_cases q : a = k.lo
    · have : ¬ (k.lo ≤ -a ∧ -a ≤ k.hi) := by omega
      simp [q]; omega
    · have h1 : k.lo ≤ -a ∧ -a ≤ k.hi := by omega
      simp [q, h1]
  · have r := rem_range k (b := b) a0 a1
    have f := quo_fits k a0 a1 b0 hb h
    have hn : Ar.isMod .mod = false ∨ b ≠ -1 ∨ k.sgn = false := by
      by_cases hb1 : b = -1
      · exact .inr (.inr (by cases hs : k.sgn <;> first | rfl | exact absurd ⟨hb1, hs⟩ h))
      · exact .inr (.inl hb1)
    rw [chk_x rfl hx hn, k.wrap_fix r.1 r.2, k.wrap_fix f.1 f.2, Int.mul_comm (a.tdiv b) b]
    simp [Kd.fits, r.1, r.2]

def Ar.three (o : Ar) (x y z : Int) : Int := match o with
  | .add => x | .sub => y | _ => z
theorem Ar.three_at {o : Ar} (ho : o.sh = false) (hn : ([Str.ofString "/", Str.ofString "%"].any fun x => x == o.str) = false) (t1 t2 t3 : Tok) (x y z : Int) :
    ∃ t, valueAt (strPairs [(.str (Str.ofString "+") t1, .int x t1), (.str (Str.ofString "-") t2, .int y t2), (.str (Str.ofString "*") t3, .int z t3)]) o.str = some (.int (o.three x y z) t) := by
  revert ho hn; cases o <;> first | (intro _ _; exact ⟨_, rfl⟩) | (intro h _; exact absurd h (by decide)) | (intro _ h; exact absurd h (by decide))
theorem Ar.three_at' {o : Ar} (ho : o.sh = false) (hn : ([Str.ofString "/", Str.ofString "%"].any fun x => x == o.str) = false) (t1 t2 t3 u1 u2 u3 : Tok) (x y z : Int) :
    ∃ t, valueAt (strPairs [(.str (Str.ofString "+") t1, .int x u1), (.str (Str.ofString "-") t2, .int y u2), (.str (Str.ofString "*") t3, .int z u3)]) o.str = some (.int (o.three x y z) t) := by
  revert ho hn; cases o <;> first | (intro _ _; exact ⟨_, rfl⟩) | (intro h _; exact absurd h (by decide)) | (intro _ h; exact absurd h (by decide))
theorem Ar.three_ex {o : Ar} (ho : o.sh = false) (hn : ([Str.ofString "/", Str.ofString "%"].any fun x => x == o.str) = false) (a b : Int) : o.isMod = false ∧ o.ex a b = some (o.three (a + b) (a - b) (a * b)) := by
  revert ho hn; cases o <;> first | (intro _ _; exact ⟨rfl, rfl⟩) | (intro h _; exact absurd h (by decide)) | (intro _ h; exact absurd h (by decide))
theorem Ar.div_of {o : Ar} (h4 : ([Str.ofString "/", Str.ofString "%"].any fun x => x == o.str) = true) (h : (o.str == Str.ofString "%") = false) : o = .div := by
  revert h h4; cases o <;> first | (intro _ _; rfl) | (intro h _; exact absurd h (by decide)) | (intro _ h; exact absurd h (by decide))
theorem lr_none (k : Kd) {o : Ar} {a b : Int} (ho : o.sh = false) (h4 : ([Str.ofString "/", Str.ofString "%"].any fun x => x == o.str) = true) (hb : b = 0) : chkV k o a b = none :=
  chk_n ho (by rcases Ar.dm_of h4 with rfl | rfl <;> exact if_pos hb)
theorem lr_mod (k : Kd) {o : Ar} {a b many : Int} (hm : many = a.tdiv b) (ho : o = .mod) (a0 : k.lo ≤ a) (a1 : a ≤ k.hi) (b0 : k.lo ≤ b) (hb : b ≠ 0) : chkV k o a b = some (a - many * b, k.wrap many != many) := by
  subst hm ho; exact chk_mod k a0 a1 b0 hb
theorem lr_div (k : Kd) {o : Ar} {a b many : Int} (hm : many = a.tdiv b) (ho : o = .div) (hb : b ≠ 0) : chkV k o a b = some (k.wrap many, k.wrap many != many) := by
  subst hm ho; exact chk_as k rfl rfl (if_neg hb)
section
variable {prog : Program} {w : World} {A : Around} {s : Shared} {Q E : Value → Shared → Prop} {h₀ : Heap} {L d : Addr} {news : List (Addr × Obj)} {o : Obj}
theorem item_pickI {value slice : Expr} {x : Str} {t : Tok} {kvs : List (Str × Value)} {v : Int} (N : News h₀ L s.heap news) (hp : (d, o) ∈ news) (hd : o.IsDictOf (PySem.strKind prog w) kvs) (hl : ∃ t, valueAt kvs x = some (.int v t)) (h : ∀ t, Q (.int v t) { s with toks := s.toks + 1 })
    (hs : subscripted slice false (.ref d) (.str x t) = operate [.ref d, .str x t] (getItem (.ref d) (.str x t))) :
    wpAny (model prog w) A (subscriptTail value slice (.ref d) (.str x t)) Q E s :=
  let ⟨t', hl'⟩ := hl
  item_pick N hp hd hl' (h t') hs
end
theorem words_p16_lreck_0 : True := by
  k_with "subscriptTail Dict cons cons Name ref str" => (k_here; (with_reducible show wpAny _ _ (subscriptTail _ _ (Value.ref _) (Value.str (Ar.str _) _)) _ _ _); k_dflt (refine' item_pickI ?zqN ?zqp ?zqd (Ar.three_at' ?zqa ?zqb _ _ _ _ _ _ _ _ _) ?_ ?zqhs; (case zqN => k_asm); (case zqp => k_mem); (case zqd => with_reducible assumption); (case zqa => with_reducible assumption); (case zqb => with_reducible assumption); (case zqhs => with_unfolding_all rfl); k_whole); intro t9)
  k_with "binaryOp FloorDiv int int" => refine floordiv_int (by with_reducible assumption) ?_ (Or.inl (Bd.noPy (by with_reducible assumption)))
  trivial
section
variable {w : World} {dp un : Nat} {gd : Option (List Code)} {base : Heap} {envs : List Env} {p : Program} {loose : List Str} {mean : ExcName → Option Value} {mg mb : Str → Option Value} {s : Shared} {Q E : Value → Shared → Prop}
set_option maxHeartbeats 4000000 in
theorem lreck_ok (G : Gd w base envs p loose mean mg mb s.heap) {k : Kd} {o : Ar} {a b : Int} {t0 t1 t u : Tok} (ho : o.sh = false) (ba : Bd a) (bb : Bd b) (a0 : k.lo ≤ a) (a1 : a ≤ k.hi) (b0 : k.lo ≤ b) (hdp : dp + 15 < recursionLimit) (hu : un + 150 < cLine)
    (hQ1 : chkV k o a b = none → Post s Q fun t => .str (Str.ofString "division") t) (hQ2 : ∀ v ov, chkV k o a b = some (v, ov) → PostT s Q (chkO (some (v, ov)))) : wpAny (model PG w) (Au dp un gd envs) (call (.ref 724) [.str k.str t0, .str o.str t1, .int a t, .int b u]) Q E s := by
  have H0 : PySem.Challenge.rw_xm0611_01 = PySem.Challenge.rw_xm0611_01 ∧ Mine.hd.heap_39 = Mine.hd.heap_39 := ⟨rfl, rfl⟩
  revert H0; k_fill; intro _
  (k_dflt (refine' enter0 (binds := [(Str.ofString "kind", Value.str k.str t0), (Str.ofString "op", Value.str o.str t1), (Str.ofString "a", Value.int a t), (Str.ofString "b", Value.int b u)]) ?G ?k6 ?k7 ?k8 ?k9 ?kB ?_ ?c2 ?c3 ?c4 ?c5; (case G => assumption); (case k6 => k_is); (case k7 => k_is); (case k8 => ktr_room); (case k9 => first | exact BindsTo.of_eq rfl | exact binds_K (Gd.kin (by assumption)) rfl (by k_is) rfl rfl rfl); (case c5 => decide); (case kB => exact locs rfl); (case c2 => exact rfl); (case c3 => exact rfl); (case c4 => exact rfl); k_whole; intro L' h' F' N' B' X' T'; (try dsimp only); (try k_fold)))
  k_steps
  · exact post_str (s := s) (Q := Q) (hQ1 (lr_none k ho (by assumption) (by assumption))) (Fr.keep (by assumption)) rfl
  · exact post_tup (s := s) (Q := Q) (hQ2 _ _ (lr_mod k (many_1 (by assumption) (by assumption) (by assumption)) (Ar.of_eq (o' := .mod) (by assumption)) a0 a1 b0 (by assumption))) (by assumption) (by assumption) (.head _) rfl
  · exact post_tup (s := s) (Q := Q) (hQ2 _ _ (lr_div k (many_1 (by assumption) (by assumption) (by assumption)) (Ar.div_of (by assumption) (by assumption)) (by assumption))) (by assumption) (by assumption) (.head _) rfl
  · exact post_tup (s := s) (Q := Q) (hQ2 _ _ (lr_mod k (many_3 (by assumption)) (Ar.of_eq (o' := .mod) (by assumption)) a0 a1 b0 (by assumption))) (by assumption) (by assumption) (.head _) rfl
  · exact post_tup (s := s) (Q := Q) (hQ2 _ _ (lr_div k (many_3 (by assumption)) (Ar.div_of (by assumption) (by assumption)) (by assumption))) (by assumption) (by assumption) (.head _) rfl
  · exact post_tup (s := s) (Q := Q) (hQ2 _ _ (lr_mod k (many_2 (by assumption) (by assumption)) (Ar.of_eq (o' := .mod) (by assumption)) a0 a1 b0 (by assumption))) (by assumption) (by assumption) (.head _) rfl
  · exact post_tup (s := s) (Q := Q) (hQ2 _ _ (lr_div k (many_2 (by assumption) (by assumption)) (Ar.div_of (by assumption) (by assumption)) (by assumption))) (by assumption) (by assumption) (.head _) rfl
  · exact post_tup (s := s) (Q := Q) (hQ2 _ _ (chk_as k ho (Ar.three_ex ho (by assumption) a b).1 (Ar.three_ex ho (by assumption) a b).2)) (by assumption) (by assumption) (.head _) rfl
end

theorem words_p17_lshift_0 : True := by
  k_with "call ref" => (k_here; (with_reducible show wpAny _ _ (call (Value.ref 710) _) _ _ _); k_dflt (refine' led_ok (gd_of ?zqF ?zqB ?zqX ?zqT ?zqhf ?zqhk)  ?zqhdp ?zqhu ?_; (case zqF => k_asm); (case zqX => k_asm); (case zqT => k_asm); (case zqB => k_asm); (case zqhf => exact rfl); (case zqhk => exact rfl); (case zqhdp => ktr_room); (case zqhu => ktr_units);  k_whole; refine post_use (by assumption) (by assumption) ?_; intro t9 h9 tk9 F9 N9; (try dsimp only); (try k_sweep); (try k_fold)))
  trivial
theorem shlN_in (k : Kd) (a : Int) : ∀ n, shlN k (k.wrap (a + a)) n = shlN k a (n + 1)
  | 0 => rfl
  | n + 1 => by show k.wrap (shlN k (k.wrap (a + a)) n + shlN k (k.wrap (a + a)) n) = _; rw [shlN_in k a n]; rfl
theorem shrN_in (a : Int) : ∀ n, shrN (a.fdiv 2) n = shrN a (n + 1)
  | 0 => rfl
  | n + 1 => by show (shrN (a.fdiv 2) n).fdiv 2 = _; rw [shrN_in a n]; rfl
theorem fold_shl (k : Kd) {o : Ar} (ho : o = .shl) : ∀ (l : List Int) (a : Int), List.foldl (fun a' (_ : Int) => if o.str = Str.ofString "<<" then k.wrap (a' + a') else a'.fdiv 2) a l = shlN k a l.length
  | [], _ => rfl
  | x :: l, a => by
    subst ho
    rw [List.foldl_cons, if_pos (by decide), fold_shl k rfl l, shlN_in]; rfl
theorem fold_shr (k : Kd) {o : Ar} (ho : o = .shr) : ∀ (l : List Int) (a : Int), List.foldl (fun a' (_ : Int) => if o.str = Str.ofString "<<" then k.wrap (a' + a') else a'.fdiv 2) a l = shrN a l.length
  | [], _ => rfl
  | x :: l, a => by
    subst ho
    rw [List.foldl_cons, if_neg (by decide), fold_shr k rfl l, shrN_in]; rfl
theorem ls_is (k : Kd) {o : Ar} {a b : Int} {f : Bool} (ho : o.sh = true) (a0 : k.lo ≤ a) (a1 : a ≤ k.hi) (hf : (!decide (0 ≤ b ∧ b < k.bits)) = f) :
    chkV k o a b = some (List.foldl (fun a' (_ : Int) => if o.str = Str.ofString "<<" then k.wrap (a' + a') else a'.fdiv 2) a (rangeKs 0 (b.fmod k.bits - 0).toNat), f) := by
  subst hf
  rcases (show o = .shl ∨ o = .shr by revert ho; cases o <;> first | (intro _; exact .inl rfl) | (intro _; exact .inr rfl) | (intro h; exact absurd h (by decide))) with h | h
  · rw [fold_shl k h, rangeKs_length, Int.sub_zero]; subst h; exact chk_shl k a0 a1
  · rw [fold_shr k h, rangeKs_length, Int.sub_zero]; subst h; exact chk_shr k a0 a1
section
variable {w : World} {dp un : Nat} {gd : Option (List Code)} {base : Heap} {envs : List Env} {p : Program} {loose : List Str} {mean : ExcName → Option Value} {mg mb : Str → Option Value} {s : Shared} {Q E : Value → Shared → Prop}
set_option maxHeartbeats 4000000 in
theorem lshift_ok (G : Gd w base envs p loose mean mg mb s.heap) {k : Kd} {o : Ar} {a b : Int} {t0 t1 t u : Tok} (ho : o.sh = true) (a0 : k.lo ≤ a) (a1 : a ≤ k.hi) (hdp : dp + 15 < recursionLimit) (hu : un + 150 < cLine)
    (hQ : ∀ v ov, chkV k o a b = some (v, ov) → PostT s Q (chkO (some (v, ov)))) : wpAny (model PG w) (Au dp un gd envs) (call (.ref 731) [.str k.str t0, .str o.str t1, .int a t, .int b u]) Q E s := by
  obtain ⟨r0, r1⟩ := k.sh_lt b
  have r2 := k.bits_hi
  have H0 : PySem.Challenge.rw_xm0611_01 = PySem.Challenge.rw_xm0611_01 ∧ Mine.hd.heap_39 = Mine.hd.heap_39 := ⟨rfl, rfl⟩
  revert H0; k_fill; intro _
  (k_dflt (refine' enter0 (binds := [(Str.ofString "kind", Value.str k.str t0), (Str.ofString "op", Value.str o.str t1), (Str.ofString "a", Value.int a t), (Str.ofString "many", Value.int b u)]) ?G ?k6 ?k7 ?k8 ?k9 ?kB ?_ ?c2 ?c3 ?c4 ?c5; (case G => assumption); (case k6 => k_is); (case k7 => k_is); (case k8 => ktr_room); (case k9 => first | exact BindsTo.of_eq rfl | exact binds_K (Gd.kin (by assumption)) rfl (by k_is) rfl rfl rfl); (case c5 => decide); (case kB => exact locs rfl); (case c2 => exact rfl); (case c3 => exact rfl); (case c4 => exact rfl); k_whole; intro L' h' F' N' B' X' T'; (try dsimp only); (try k_fold)))
  k_steps
  · exact post_tup (s := s) (Q := Q) (hQ _ _ (ls_is k ho a0 a1 (f := decide (b < 0)) (by rw [Bool.eq_iff_iff]; simp; omega))) (by assumption) (by assumption) (.head _) rfl
  · exact post_tup (s := s) (Q := Q) (hQ _ _ (ls_is k ho a0 a1 (f := decide (k.bits ≤ b)) (by rw [Bool.eq_iff_iff]; simp; omega))) (by assumption) (by assumption) (.head _) rfl
end

theorem words_p18_lbits_0 : True := by
  k_with "pyIter ref" => k_dflt (k_extra "pyIter ref")
  k_with "InvEndN" => k_dflt kst_close
  trivial
theorem bits_next (c : Bt) (a b : Int) {n l : Nat} {x kN v : Int} (hk : kN = 0 + (n : Int)) (hx : x = c.sum a b n) (hv : v = c.bit ((a.fdiv (2 ^ kN.toNat)).fmod 2 + (b.fdiv (2 ^ kN.toNat)).fmod 2)) (hl : l = n + 1) : x + 2 ^ kN.toNat * v = c.sum a b l := by
  have e : kN.toNat = n := by omega
  rw [e] at hv ⊢
  subst hx hv hl
  rfl
theorem bit_a (c : Bt) {o : Int} (h : o = 2) : (if (c.str != Str.ofString "^") = true then (1 : Int) else 0) = c.bit o := by subst h; cases c <;> decide
theorem bit_b (c : Bt) {o : Int} (h : o = 2) (h' : (c.str != Str.ofString "^") = false) : (if (o == 1) = true then (1 : Int) else 0) = c.bit o := by subst h; revert h'; cases c <;> decide
theorem bit_c (c : Bt) {o : Int} (h : o = 1) : (if (c.str != Str.ofString "&") = true then (1 : Int) else 0) = c.bit o := by subst h; cases c <;> decide
theorem bit_d (c : Bt) {o : Int} (h : o ≠ 2) (h' : o ≠ 1) : (if (o == 1) = true then (1 : Int) else 0) = c.bit o := by cases c <;> simp [Bt.bit, h, h']
section
variable {w : World} {dp un : Nat} {gd : Option (List Code)} {base : Heap} {envs : List Env} {p : Program} {loose : List Str} {mean : ExcName → Option Value} {mg mb : Str → Option Value} {s : Shared} {Q E : Value → Shared → Prop}
set_option maxHeartbeats 4000000 in
theorem lbits_ok (G : Gd w base envs p loose mean mg mb s.heap) {k : Kd} {c : Bt} {a b : Int} {t0 t1 t u : Tok} (a0 : k.lo ≤ a) (a1 : a ≤ k.hi) (b0 : k.lo ≤ b) (b1 : b ≤ k.hi) (hdp : dp + 15 < recursionLimit) (hu : un + 150 < cLine)
    (hQ : Post s Q fun t => .int (c.val a b) t) : wpAny (model PG w) (Au dp un gd envs) (call (.ref 738) [.str k.str t0, .str c.str t1, .int a t, .int b u]) Q E s := by
  have r1 := k.bits_lo
  have r2 := k.bits_hi
  k_with "state" => (first | (exact (rfl : (0 : Int) = c.sum a b 0)) | (refine bits_next c a b (by assumption) (by assumption) ?_ (by simp); first | exact bit_b c (by assumption) (by assumption) | exact bit_a c (by assumption) | exact bit_d c (by assumption) (by assumption) | exact bit_c c (by assumption) | (exfalso; omega)))
  k_with "pyIter ref" => k_state (fun pre x => x = c.sum a b pre.length) "found"
  have H0 : PySem.Challenge.rw_xm0611_01 = PySem.Challenge.rw_xm0611_01 ∧ Mine.hd.heap_39 = Mine.hd.heap_39 := ⟨rfl, rfl⟩
  revert H0; k_fill; intro _
  (k_dflt (refine' enter0 (binds := [(Str.ofString "kind", Value.str k.str t0), (Str.ofString "op", Value.str c.str t1), (Str.ofString "a", Value.int a t), (Str.ofString "b", Value.int b u)]) ?G ?k6 ?k7 ?k8 ?k9 ?kB ?_ ?c2 ?c3 ?c4 ?c5; (case G => assumption); (case k6 => k_is); (case k7 => k_is); (case k8 => ktr_room); (case k9 => first | exact BindsTo.of_eq rfl | exact binds_K (Gd.kin (by assumption)) rfl (by k_is) rfl rfl rfl); (case c5 => decide); (case kB => exact locs rfl); (case c2 => exact rfl); (case c3 => exact rfl); (case c4 => exact rfl); k_whole; intro L' h' F' N' B' X' T'; (try dsimp only); (try k_fold)))
  k_steps
  rename _ = Bt.sum _ _ _ _ => hx9
  refine post_int (s := s) (Q := Q) hQ (Fr.keep (by assumption)) ?_
  rw [hx9, rangeKs_length, Int.sub_zero]
  k_with_none
  exact c.led k a0 a1 b0 b1
end

theorem words_p18_lbits_again : True := by
  k_with "ne" => (((repeat (rename (∀ p ∈ (_ : List (Addr × Obj)), Prod.fst p < (_ : Nat)) => hq8; replace hq8 := allLt_of hq8; simp only [AllLt, and_true] at hq8)); (repeat (rename (∀ p ∈ (_ : List (Addr × Obj)), @Ne Nat (Prod.fst p) _) => hq8; replace hq8 := allNe_of' hq8; simp only [AllNe', and_true] at hq8)); (try dsimp only); omega))
  k_with "ne" => (first | with_reducible assumption | exact Ne.symm (by with_reducible assumption) | exact Nat.ne_of_lt (by with_reducible assumption) | exact Nat.ne_of_gt (by with_reducible assumption) | (refine' neLt ?zqh ?zqm; (case zqh => with_reducible assumption); (case zqm => k_mem)) | (refine' neGt ?zqh ?zqm; (case zqh => with_reducible assumption); (case zqm => k_mem)) | (refine' neNe ?zqh ?zqm; (case zqh => with_reducible assumption); (case zqm => k_mem)) | (refine' neEn ?zqh ?zqm; (case zqh => with_reducible assumption); (case zqm => k_mem)) | (refine' neLt2 ?zqe ?zqh ?zqm; (case zqe => with_reducible assumption); (case zqh => with_reducible assumption); (case zqm => k_mem)) | (refine' neGt2 ?zqe ?zqh ?zqm; (case zqe => with_reducible assumption); (case zqh => with_reducible assumption); (case zqm => k_mem)) | (refine' neLtK ?zqh ?zqm; (case zqh => with_reducible assumption); (case zqm => k_mem)) | (refine' neGtK ?zqh ?zqm; (case zqh => with_reducible assumption); (case zqm => k_mem)) | (walk_say "NE by omega"; fail))
  k_with "all ne" => (first | exact allLtNe (by with_reducible assumption) | with_reducible assumption)
  k_with "size" => (first | exact sizeAt rfl | exact (Nat.le_of_ble_eq_true rfl))
  k_with "room" => (first | exact room2 (by with_reducible assumption) rfl | exact room1 (by with_reducible assumption) rfl | exact room0 (by with_reducible assumption))
  k_with "subscriptTail Name Slice str ref" => ((with_reducible show wpAny _ _ (subscriptTail _ (Expr.Slice (some _) none none _) (Value.str (Kd.str _) _) _) _ _ _); (with_reducible rename Fr _ _ _ _ => F'); (with_reducible rename News _ _ _ _ => N'); (refine slice_strN_sn (hsz := Kd.len _) (s := ⟨_, _, _, _, _⟩) F' N' ?_); intro h' t' tk' F' N'; k_sweep)
  k_with "call type:int" => ((with_reducible show wpAny _ _ (call (Value.type "int") [Value.str (Txt.slice (Kd.str _) _ _) _]) _ _ _); refine KIN.call_text (Kd.tail_int _ (by assumption)) (Kd.tail_len _) ?_)
  k_with "subscriptTail Name Constant str int" => ((with_reducible show wpAny _ _ (subscriptTail _ _ (Value.str (Kd.str _) _) (Value.int 0 _)) _ _ _); with_unfolding_all refine item_hd ?_; intro _)
  k_with "compareOp Eq str str" => ((with_reducible show wpAny _ _ (compareOp _ (Value.str (Kd.hd _) _) _) _ _ _); refine eq_hd ?_)
  k_with "binaryOp Pow int int" => first | with_reducible refine pow_bits ?_ | with_reducible refine pow_bits1 ?_
  k_with "binaryOp Mod int int" => ((with_reducible show wpAny _ _ (binaryOp _ _ (Value.int (Kd.pw _) _)) _ _ _); refine mod_int' (Kd.pw_ne _) ?_)
  k_with "subscriptTail Name Name ref str" => ((with_reducible show wpAny _ _ (subscriptTail _ _ (Value.ref 423) (Value.str (Kd.str _) _)) _ _ _); k_dflt (refine' item_bits ?zqF ?zqX ?_ ?zqa ?zqb; (case zqF => k_asm); (case zqX => k_asm); (case zqa => with_unfolding_all rfl); (case zqb => (intro _; with_unfolding_all rfl)); k_whole); intro _)
  k_with "call ref" => (k_here; (with_reducible show wpAny _ _ (call (Value.ref 703) _) _ _ _); k_dflt (refine' wide_ok (gd_of ?zqF ?zqB ?zqX ?zqT ?zqhf ?zqhk)  ?zqhdp ?zqhu ?_; (case zqF => k_asm); (case zqX => k_asm); (case zqT => k_asm); (case zqB => k_asm); (case zqhf => exact rfl); (case zqhk => exact rfl); (case zqhdp => ktr_room); (case zqhu => ktr_units);  k_whole; refine post_use (by assumption) (by assumption) ?_; intro t9 h9 tk9 F9 N9; (try dsimp only); (try k_sweep); (try k_fold)))
  k_with "call ref" => (k_here; (with_reducible show wpAny _ _ (call (Value.ref 430) _) _ _ _); k_dflt (refine' signed_ok (gd_of ?zqF ?zqB ?zqX ?zqT ?zqhf ?zqhk)  ?zqhdp ?zqhu ?_; (case zqF => k_asm); (case zqX => k_asm); (case zqT => k_asm); (case zqB => k_asm); (case zqhf => exact rfl); (case zqhk => exact rfl); (case zqhdp => ktr_room); (case zqhu => ktr_units);  k_whole; refine post_use (by assumption) (by assumption) ?_; intro t9 h9 tk9 F9 N9; (try dsimp only); (try k_sweep); (try k_fold)))
  k_with "call ref" => (k_here; (with_reducible show wpAny _ _ (call (Value.ref 437) _) _ _ _); k_dflt (refine' least_ok (gd_of ?zqF ?zqB ?zqX ?zqT ?zqhf ?zqhk)  ?zqhdp ?zqhu ?_; (case zqF => k_asm); (case zqX => k_asm); (case zqT => k_asm); (case zqB => k_asm); (case zqhf => exact rfl); (case zqhk => exact rfl); (case zqhdp => ktr_room); (case zqhu => ktr_units);  k_whole; refine post_use (by assumption) (by assumption) ?_; intro t9 h9 tk9 F9 N9; (try dsimp only); (try k_sweep); (try k_fold)))
  k_with "call ref" => (k_here; (with_reducible show wpAny _ _ (call (Value.ref 444) _) _ _ _); k_dflt (refine' greatest_ok (gd_of ?zqF ?zqB ?zqX ?zqT ?zqhf ?zqhk)  ?zqhdp ?zqhu ?_; (case zqF => k_asm); (case zqX => k_asm); (case zqT => k_asm); (case zqB => k_asm); (case zqhf => exact rfl); (case zqhk => exact rfl); (case zqhdp => ktr_room); (case zqhu => ktr_units);  k_whole; refine post_use (by assumption) (by assumption) ?_; intro t9 h9 tk9 F9 N9; (try dsimp only); (try k_sweep); (try k_fold)))
  k_with "binaryOp Mult int int" => ((with_reducible show wpAny _ _ (binaryOp _ _ (Value.int (Int.fmod _ (Kd.pw _)) _)) _ _ _); refine PyProof.Rows.mul_int ?_ (IntMulOk.of_right (Kd.fmod_bits _ _)))
  k_with "call ref" => (k_here; (with_reducible show wpAny _ _ (call (Value.ref 451) _) _ _ _); k_dflt (refine' fits_ok (gd_of ?zqF ?zqB ?zqX ?zqT ?zqhf ?zqhk)  ?zqhdp ?zqhu ?_; (case zqF => k_asm); (case zqX => k_asm); (case zqT => k_asm); (case zqB => k_asm); (case zqhf => exact rfl); (case zqhk => exact rfl); (case zqhdp => ktr_room); (case zqhu => ktr_units);  k_whole; refine post_use (by assumption) (by assumption) ?_; intro t9 h9 tk9 F9 N9; (try dsimp only); (try k_sweep); (try k_fold)))
  k_with "call ref" => (k_here; (with_reducible show wpAny _ _ (call (Value.ref 458) _) _ _ _); k_dflt (refine' wrapped_ok (gd_of ?zqF ?zqB ?zqX ?zqT ?zqhf ?zqhk)  ?zqhdp ?zqhu ?_; (case zqF => k_asm); (case zqX => k_asm); (case zqT => k_asm); (case zqB => k_asm); (case zqhf => exact rfl); (case zqhk => exact rfl); (case zqhdp => ktr_room); (case zqhu => ktr_units);  k_whole; refine post_use (by assumption) (by assumption) ?_; intro t9 h9 tk9 F9 N9; (try dsimp only); (try k_sweep); (try k_fold)))
  k_with "call ref" => (k_here; (with_reducible show wpAny _ _ (call (Value.ref 710) _) _ _ _); k_dflt (refine' led_ok (gd_of ?zqF ?zqB ?zqX ?zqT ?zqhf ?zqhk)  ?zqhdp ?zqhu ?_; (case zqF => k_asm); (case zqX => k_asm); (case zqT => k_asm); (case zqB => k_asm); (case zqhf => exact rfl); (case zqhk => exact rfl); (case zqhdp => ktr_room); (case zqhu => ktr_units);  k_whole; refine post_use (by assumption) (by assumption) ?_; intro t9 h9 tk9 F9 N9; (try dsimp only); (try k_sweep); (try k_fold)))
  k_with "call ref" => (k_here; (with_reducible show wpAny _ _ (call (Value.ref 465) _) _ _ _); k_dflt (refine' cast_ok (gd_of ?zqF ?zqB ?zqX ?zqT ?zqhf ?zqhk)  ?zqhdp ?zqhu ?_; (case zqF => k_asm); (case zqX => k_asm); (case zqT => k_asm); (case zqB => k_asm); (case zqhf => exact rfl); (case zqhk => exact rfl); (case zqhdp => ktr_room); (case zqhu => ktr_units);  k_whole; refine post_use (by assumption) (by assumption) ?_; intro t9 h9 tk9 F9 N9; (try dsimp only); (try k_sweep); (try k_fold)))
  k_with "call ref" => (k_here; (with_reducible show wpAny _ _ (call (Value.ref 500) _) _ _ _); k_dflt (refine' inverted_ok (gd_of ?zqF ?zqB ?zqX ?zqT ?zqhf ?zqhk)  ?zqhdp ?zqhu ?_; (case zqF => k_asm); (case zqX => k_asm); (case zqT => k_asm); (case zqB => k_asm); (case zqhf => exact rfl); (case zqhk => exact rfl); (case zqhdp => ktr_room); (case zqhu => ktr_units);  k_whole; refine post_use (by assumption) (by assumption) ?_; intro t9 h9 tk9 F9 N9; (try dsimp only); (try k_sweep); (try k_fold)))
  k_with "binaryOp FloorDiv int int" => ((with_reducible show wpAny _ _ (binaryOp _ _ (Value.int (ite _ _ _) _)) _ _ _); refine floordiv_int (abs_ne (by assumption)) ?_ (Or.inl (Bd.noPyAbs (by assumption))))
  k_with "call ref" => (k_here; (with_reducible show wpAny _ _ (call (Value.ref 472) _) _ _ _); k_dflt (refine' cutq_ok (gd_of ?zqF ?zqB ?zqX ?zqT ?zqhf ?zqhk) (by assumption) (by assumption) ?zqhdp ?zqhu ?_; (case zqF => k_asm); (case zqX => k_asm); (case zqT => k_asm); (case zqB => k_asm); (case zqhf => exact rfl); (case zqhk => exact rfl); (case zqhdp => ktr_room); (case zqhu => ktr_units);  k_whole; refine post_use (by assumption) (by assumption) ?_; intro t9 h9 tk9 F9 N9; (try dsimp only); (try k_sweep); (try k_fold)))
  k_with "binaryOp Mult int int" => ((with_reducible show wpAny _ _ (binaryOp _ (Value.int _ _) (Value.int _ _)) _ _ _); first | refine PyProof.Rows.mul_int ?_ (IntMulOk.of_right (Bd.bits (by with_reducible assumption))) | refine PyProof.Rows.mul_int ?_ (IntMulOk.of_left (Bd.bits (by with_reducible assumption))))
  k_with "exec Raise some none" => (exfalso; exact Ar.no_other (by assumption) (by assumption) (by assumption) (by assumption) (by assumption))
  k_with "binaryOp Mod int int" => ((with_reducible show wpAny _ _ (binaryOp _ _ (Value.int (Kd.bits _) _)) _ _ _); refine mod_int' (Kd.bits_ne _) ?_)
  k_with "binaryOp Pow int int" => with_reducible refine pow_sh ?_
  k_with "binaryOp FloorDiv int int" => ((with_reducible show wpAny _ _ (binaryOp _ _ (Value.int (_ ^ Kd.sh _ _) _)) _ _ _); refine floordiv_int (Int.ne_of_gt (Kd.sh_pw _ _).1) ?_ (Or.inl (Bd.noPy (Kd.sh_pw _ _).2)))
  k_with "binaryOp Mult int int" => ((with_reducible show wpAny _ _ (binaryOp _ _ (Value.int (_ ^ Kd.sh _ _) _)) _ _ _); refine PyProof.Rows.mul_int ?_ (IntMulOk.of_right (Bd.bits (Kd.sh_pw _ _).2)))
  k_with "call ref" => (k_here; (with_reducible show wpAny _ _ (call (Value.ref 493) _) _ _ _); k_dflt (refine' shifted_ok (gd_of ?zqF ?zqB ?zqX ?zqT ?zqhf ?zqhk) (Ar.sh_of (by assumption)) ?zqhdp ?zqhu ?_; (case zqF => k_asm); (case zqX => k_asm); (case zqT => k_asm); (case zqB => k_asm); (case zqhf => exact rfl); (case zqhk => exact rfl); (case zqhdp => ktr_room); (case zqhu => ktr_units);  k_whole; refine postT_use (by assumption) (by assumption) ?_; intro D9 t9 h9 tk9 F9 N9 l9; (try dsimp only at N9); (try dsimp only); (try k_sweep); (try k_fold)))
  k_with "call ref" => (k_here; (with_reducible show wpAny _ _ (call (Value.ref 479) _) _ _ _); k_dflt (refine' exact_ok (gd_of ?zqF ?zqB ?zqX ?zqT ?zqhf ?zqhk) (Ar.sh_no (by assumption)) (by assumption) ?zqhdp ?zqhu ?_; (case zqF => k_asm); (case zqX => k_asm); (case zqT => k_asm); (case zqB => k_asm); (case zqhf => exact rfl); (case zqhk => exact rfl); (case zqhdp => ktr_room); (case zqhu => ktr_units);  k_whole; refine post_use (by assumption) (by assumption) ?_; intro t9 h9 tk9 F9 N9; (generalize hex9 : Ar.ex _ _ _ = x9); (cases x9 <;> ((try dsimp only [optV]); (try k_sweep); (try k_fold)))))
  k_with "subscriptTail Name Constant ref int" => (k_here; (with_reducible show wpAny _ _ (subscriptTail _ _ (Value.ref _) (Value.int _ _)) _ _ _); k_dflt (refine' tup_at ?zqT ?zqa ?zqb ?zqx ?_ ?zqhs; (case zqT => first | exact Fr.tup (by k_asm) (by with_reducible assumption) | exact News.isTup (by k_asm) (by k_mem)); (case zqa => decide); (case zqb => decide); (case zqx => exact rfl); (case zqhs => with_unfolding_all rfl); k_whole))
  k_with "subscriptTail Name Constant ref int" => (k_here; (with_reducible show wpAny _ _ (subscriptTail _ _ (Value.ref _) (Value.int _ _)) _ _ _); k_dflt (refine' lst_at ?zqT ?zqa ?zqb ?zqx ?_ ?zqhs; (case zqT => is_list); (case zqa => decide); (case zqb => decide); (case zqx => exact rfl); (case zqhs => with_unfolding_all rfl); k_whole))
  k_with "call ref" => (k_here; (with_reducible show wpAny _ _ (call (Value.ref 486) _) _ _ _); k_dflt (refine' checked_ok (gd_of ?zqF ?zqB ?zqX ?zqT ?zqhf ?zqhk) (by assumption) ?zqhdp ?zqhu ?_; (case zqF => k_asm); (case zqX => k_asm); (case zqT => k_asm); (case zqB => k_asm); (case zqhf => exact rfl); (case zqhk => exact rfl); (case zqhdp => ktr_room); (case zqhu => ktr_units);  k_whole; refine postT_use (by assumption) (by assumption) ?_; intro D9 t9 h9 tk9 F9 N9 l9; (try dsimp only at N9); (first | (rename chkV _ _ _ _ = some _ => hv9) | (rename chkV _ _ _ _ = none => hv9)); rw [hv9] at N9; dsimp only [chkO, tupO] at N9; (try dsimp only); (try k_sweep); (try k_fold)))
  k_with "compareOp NotEq ref ref" => (k_here; (with_reducible show wpAny _ _ (compareOp CmpOp.NotEq (Value.ref _) (Value.ref _)) _ _ _); k_dflt (first | (refine' ne_nil2 ?zqa ?zqb ?zqu ?_; (case zqa => is_list); (case zqb => is_list); (case zqu => ktr_units)) | (refine' ne_len ?zqa ?zqb ?zqz ?zqu ?_; (case zqa => is_list); (case zqb => is_list); (case zqz => exact rfl); (case zqu => ktr_units))))
  k_with "compareOp Eq str str" => ((with_reducible show wpAny _ _ (compareOp _ (Value.str (Ty.str _) _) _) _ _ _); with_reducible refine eq_ty_box ?_)
  k_with "call ref" => (k_here; (with_reducible show wpAny _ _ (call (Value.ref 388) _) _ _ _); k_dflt (refine' parts_ok (gd_of ?zqF ?zqB ?zqX ?zqT ?zqhf ?zqhk) (Fr.tup (by k_asm) (by with_reducible assumption)) ?zqhdp ?zqhu ?_; (case zqF => k_asm); (case zqX => k_asm); (case zqT => k_asm); (case zqB => k_asm); (case zqhf => exact rfl); (case zqhk => exact rfl); (case zqhdp => ktr_room); (case zqhu => ktr_units);  k_whole; refine post_use (by assumption) (by assumption) ?_; intro t9 h9 tk9 F9 N9; (try dsimp only); (try k_sweep); (try k_fold)))
  k_with "call ref" => (k_here; (with_reducible show wpAny _ _ (call (Value.ref 408) _) _ _ _); k_dflt (refine' cells_ok (gd_of ?zqF ?zqB ?zqX ?zqT ?zqhf ?zqhk) (Fr.tup (by k_asm) (by with_reducible assumption)) ?zqhdp ?zqhu ?_; (case zqF => k_asm); (case zqX => k_asm); (case zqT => k_asm); (case zqB => k_asm); (case zqhf => exact rfl); (case zqhk => exact rfl); (case zqhdp => ktr_room); (case zqhu => ktr_units);  k_whole; refine postT_use (by assumption) (by assumption) ?_; intro D9 t9 h9 tk9 F9 N9 l9; (try dsimp only at N9); (try dsimp only); (try k_sweep); (try k_fold)))
  k_with "exec Raise some none" => (exfalso; exact Cm.no_other (by assumption) (by assumption) (by assumption) (by assumption) (by assumption) (by assumption))
  k_with "compareOp Eq str str" => ((with_reducible show wpAny _ _ (compareOp _ (Value.str (Wd _) _) _) _ _ _); with_reducible refine eq_wd ?_)
  k_with "compareOp In str ref" => (k_here; (first | (with_reducible show wpAny _ _ (compareOp _ (Value.str (Ar.str _) _) (Value.ref 509)) _ _ _) | (with_reducible show wpAny _ _ (compareOp _ (Value.str (Cm.str _) _) (Value.ref 509)) _ _ _) | (with_reducible show wpAny _ _ (compareOp _ (Value.str (Bt.str _) _) (Value.ref 509)) _ _ _)); k_dflt (refine' in_b (ys := cmps) (isTup_K ?zqF ?zqX ?zqk) ?zqS ?zqe ?_; (case zqF => k_asm); (case zqX => k_asm); (case zqk => k_is); (case zqS => kde_strs); (case zqe => first | exact Ar.not_cm _ | exact Cm.in_cm _ | exact Bt.not_cm _); k_whole))
  k_with "compareOp In str ref" => (k_here; k_dflt (refine' in_b (ys := bts) ?zqT ?zqS ?zqe ?_; (case zqe => first | exact Ar.not_bt _ | exact Bt.in_bt _); (case zqT => exact News.isTup (by k_asm) (by k_mem)); (case zqS => kde_strs); k_whole))
  k_with "call ref" => (k_here; (with_reducible show wpAny _ _ (call (Value.ref 507) _) _ _ _); k_dflt (refine' compared_ok (gd_of ?zqF ?zqB ?zqX ?zqT ?zqhf ?zqhk)  ?zqhdp ?zqhu ?_; (case zqF => k_asm); (case zqX => k_asm); (case zqT => k_asm); (case zqB => k_asm); (case zqhf => exact rfl); (case zqhk => exact rfl); (case zqhdp => ktr_room); (case zqhu => ktr_units);  k_whole; refine post_use (by assumption) (by assumption) ?_; intro t9 h9 tk9 F9 N9; (try dsimp only); (try k_sweep); (try k_fold)))
  k_with "call ref" => (k_here; (with_reducible show wpAny _ _ (call (Value.ref 507) _) _ _ _); k_dflt (refine' comparedB_ok (gd_of ?zqF ?zqB ?zqX ?zqT ?zqhf ?zqhk)  ?zqhdp ?zqhu ?_; (case zqF => k_asm); (case zqX => k_asm); (case zqT => k_asm); (case zqB => k_asm); (case zqhf => exact rfl); (case zqhk => exact rfl); (case zqhdp => ktr_room); (case zqhu => ktr_units);  k_whole; refine post_use (by assumption) (by assumption) ?_; intro t9 h9 tk9 F9 N9; (try dsimp only); (try k_sweep); (try k_fold)))
  k_with "call ref" => (k_here; (with_reducible show wpAny _ _ (call (Value.ref 523) _) _ _ _); k_dflt (refine' bits_ok (gd_of ?zqF ?zqB ?zqX ?zqT ?zqhf ?zqhk)  ?zqhdp ?zqhu ?_; (case zqF => k_asm); (case zqX => k_asm); (case zqT => k_asm); (case zqB => k_asm); (case zqhf => exact rfl); (case zqhk => exact rfl); (case zqhdp => ktr_room); (case zqhu => ktr_units);  k_whole; refine post_use (by assumption) (by assumption) ?_; intro t9 h9 tk9 F9 N9; (try dsimp only); (try k_sweep); (try k_fold)))
  k_with "call ref" => (k_here; (with_reducible show wpAny _ _ (call (Value.ref 523) _) _ _ _); k_dflt (refine' bitsB_ok (gd_of ?zqF ?zqB ?zqX ?zqT ?zqhf ?zqhk)  ?zqhdp ?zqhu ?_; (case zqF => k_asm); (case zqX => k_asm); (case zqT => k_asm); (case zqB => k_asm); (case zqhf => exact rfl); (case zqhk => exact rfl); (case zqhdp => ktr_room); (case zqhu => ktr_units);  k_whole; refine post_use (by assumption) (by assumption) ?_; intro t9 h9 tk9 F9 N9; (try dsimp only); (try k_sweep); (try k_fold)))
  k_with "call ref" => (k_here; (with_reducible show wpAny _ _ (call (Value.ref 600) _) _ _ _); k_dflt (refine' taken_ok (gd_of ?zqF ?zqB ?zqX ?zqT ?zqhf ?zqhk) (RV.keeps (by with_reducible assumption) (Fr.keep (by k_asm))) (Fr.tup (by k_asm) (by with_reducible assumption)) (Fr.tup (by k_asm) (by with_reducible assumption)) ?zqhdp ?zqhu ?_; (case zqF => k_asm); (case zqX => k_asm); (case zqT => k_asm); (case zqB => k_asm); (case zqhf => exact rfl); (case zqhk => exact rfl); (case zqhdp => ktr_room); (case zqhu => ktr_units);  k_whole; refine post2_use (by assumption) (by assumption) ?_; intro D9 C9 h9 tk9 F9 N9 l9 l8 ne9; (try dsimp only); (try k_sweep); (try k_fold)))
  k_with "call ref" => (k_here; (with_reducible show wpAny _ _ (call (Value.ref 530) _) _ _ _); k_dflt (refine' reckoned_ok (gd_of ?zqF ?zqB ?zqX ?zqT ?zqhf ?zqhk) (by assumption) (Fr.tup (by k_asm) (by with_reducible assumption)) (by with_reducible assumption) ?zqhdp ?zqhu ?_; (case zqF => k_asm); (case zqX => k_asm); (case zqT => k_asm); (case zqB => k_asm); (case zqhf => exact rfl); (case zqhk => exact rfl); (case zqhdp => ktr_room); (case zqhu => ktr_units);  k_whole; refine postT_use (by assumption) (by assumption) ?_; intro D9 t9 h9 tk9 F9 N9 l9; (try dsimp only at N9); (try dsimp only); (try k_sweep); (try k_fold)))
  k_with "compareOp Eq str str" => first | with_reducible refine eq_lit ty_ii ?_ | with_reducible refine eq_lit ty_ib ?_ | with_reducible refine eq_lit ty_bi ?_ | with_reducible refine eq_lit ty_bb ?_
  k_with "subscriptTail Dict cons cons Name ref str" => (k_here; (with_reducible show wpAny _ _ (subscriptTail _ _ (Value.ref _) (Value.str (Cm.str _) _)) _ _ _); k_dflt (refine' item_pick ?zqN ?zqp ?zqd (Cm.pick_at _ _ _ _ _ _ _ _ _ _ _ _ _) ?_ ?zqhs; (case zqN => k_asm); (case zqp => k_mem); (case zqd => with_reducible assumption); (case zqhs => with_unfolding_all rfl); k_whole))
  k_with "call ref" => (k_here; (with_reducible show wpAny _ _ (call (Value.ref 745) _) _ _ _); k_dflt (refine' lcmp_ok (gd_of ?zqF ?zqB ?zqX ?zqT ?zqhf ?zqhk)  ?zqhdp ?zqhu ?_; (case zqF => k_asm); (case zqX => k_asm); (case zqT => k_asm); (case zqB => k_asm); (case zqhf => exact rfl); (case zqhk => exact rfl); (case zqhdp => ktr_room); (case zqhu => ktr_units);  k_whole; refine post_use (by assumption) (by assumption) ?_; intro t9 h9 tk9 F9 N9; (try dsimp only); (try k_sweep); (try k_fold)))
  k_with "call ref" => (k_here; (with_reducible show wpAny _ _ (call (Value.ref 689) _) _ _ _); k_dflt (refine' take_use ?zqF ?zqN ?zqU ?zqB ?zqX ?zqT ?zqhf ?zqhk ?zqmm ?zqso ?zqa ?zqb ?zqhdp ?zqhu ?_; (case zqF => k_asm); (case zqN => k_asm); (case zqmm => k_mem); (case zqU => k_updF); (case zqB => k_asm); (case zqX => k_asm); (case zqT => k_asm); (case zqhf => exact rfl); (case zqhk => exact rfl); (case zqso => with_reducible assumption); (case zqa => first | decide | omega); (case zqb => first | decide | omega); (case zqhdp => ktr_room); (case zqhu => ktr_units); k_whole; intro d9 t9 o9 h9 tk9 d0 d1 so9 F9 N9; (try dsimp only at N9); (try dsimp only); (try k_sweep); (try k_fold)))
  k_with "call builtin:len" => (k_here; (with_reducible show wpAny _ _ (call (Value.builtin "len") [Value.ref _]) _ _ _); k_dflt (refine' len_any ?zqT ?zqc ?_; (case zqT => exact Fr.lst (by k_asm) (by with_reducible assumption)); (case zqc => with_reducible assumption); k_whole))
  k_with "subscriptTail Name Call ref int" => (k_here; (with_reducible show wpAny _ _ (subscriptTail _ _ (Value.ref _) (Value.int _ _)) _ _ _); k_dflt (refine' lst_any ?zqT ?zqa ?zqb ?zqc ?_ ?zqhs; (case zqT => first | exact Fr.lst (by k_asm) (by with_reducible assumption) | is_list); (case zqa => assumption); (case zqb => assumption); (case zqc => assumption); (case zqhs => with_unfolding_all rfl); k_whole; intro v9 hv9))
  k_with "call ref" => (k_here; (with_reducible show wpAny _ _ (call (Value.ref 696) _) _ _ _); k_dflt (refine' one_use ?zqF ?zqN ?zqU ?zqB ?zqX ?zqT ?zqhf ?zqhk ?zqmm ?zqso ?zqT2 ?zqne ?zqa ?zqb ?zqhdp ?zqhu ?_; (case zqF => k_asm); (case zqN => k_asm); (case zqmm => k_mem); (case zqU => k_updF); (case zqB => k_asm); (case zqX => k_asm); (case zqT => k_asm); (case zqhf => exact rfl); (case zqhk => exact rfl); (case zqso => with_reducible assumption); (case zqT2 => is_list); (case zqne => k_ne); (case zqa => first | exact of_decide_eq_true rfl | (simp only [List.length_cons, List.length_nil]; omega)); (case zqb => first | exact Nat.le_of_ble_eq_true rfl | (simp only [List.length_cons, List.length_nil]; omega)); (case zqhdp => ktr_room); (case zqhu => ktr_units); k_whole; intro v9 o9 h9 tk9 hv9 so9 F9 N9; (try dsimp only at N9); (first | (obtain ⟨k9, t9, e9⟩ := pick_kd hv9; subst e9) | (obtain ⟨k9, t9, hk9, e9⟩ := pick_ar hv9; subst e9) | (obtain ⟨k9, t9, hk9, e9⟩ := pick_sh hv9; subst e9) | (obtain ⟨k9, t9, e9⟩ := pick_bt hv9; subst e9) | (obtain ⟨k9, t9, e9⟩ := pick_cm hv9; subst e9) | (obtain ⟨k9, t9, hk9, e9⟩ := pick_many hv9; subst e9) | (obtain ⟨k9, t9, hk9, e9⟩ := pick_ns (by assumption) hv9; subst e9) | (obtain ⟨k9, t9, hk9, e9⟩ := pick_nu (by assumption) hv9; subst e9)); (try dsimp only); (try k_sweep); (try k_fold)))
  k_with "call ref" => (k_here; (with_reducible show wpAny _ _ (call (Value.ref 696) _) _ _ _); k_dflt (refine' one_use ?zqF ?zqN ?zqU ?zqB ?zqX ?zqT ?zqhf ?zqhk ?zqmm ?zqso ?zqT2 ?zqne ?zqa ?zqb ?zqhdp ?zqhu ?_; (case zqF => k_asm); (case zqN => exact newsTail (by k_asm)); (case zqmm => k_mem); (case zqU => k_updF); (case zqB => k_asm); (case zqX => k_asm); (case zqT => k_asm); (case zqhf => exact rfl); (case zqhk => exact rfl); (case zqso => with_reducible assumption); (case zqT2 => exact News.isList (by k_asm) (List.Mem.head _)); (case zqne => k_ne); (case zqa => first | exact of_decide_eq_true rfl | (simp only [List.length_cons, List.length_nil]; omega)); (case zqb => first | exact Nat.le_of_ble_eq_true rfl | (simp only [List.length_cons, List.length_nil]; omega)); (case zqhdp => ktr_room); (case zqhu => ktr_units); k_whole; intro v9 o9 h9 tk9 hv9 so9 F9 N9; (try dsimp only at N9); (first | (obtain ⟨k9, t9, hk9, e9⟩ := pick_ar hv9; subst e9) | (obtain ⟨k9, t9, hk9, e9⟩ := pick_sh hv9; subst e9) | (obtain ⟨k9, t9, e9⟩ := pick_bt hv9; subst e9) | (obtain ⟨k9, t9, e9⟩ := pick_cm hv9; subst e9) | (obtain ⟨k9, t9, hk9, e9⟩ := pick_many hv9; subst e9) | (obtain ⟨k9, t9, hk9, e9⟩ := pick_ns (by assumption) hv9; subst e9) | (obtain ⟨k9, t9, hk9, e9⟩ := pick_nu (by assumption) hv9; subst e9)); (try dsimp only); (try k_sweep); (try k_fold)))
  k_with "call ref" => (k_here; (with_reducible show wpAny _ _ (call (Value.ref 717) _) _ _ _); k_dflt (refine' num_use ?zqF ?zqN ?zqU ?zqB ?zqX ?zqT ?zqhf ?zqhk ?zqmm ?zqso ?zqhdp ?zqhu ?_; (case zqF => k_asm); (case zqN => k_asm); (case zqmm => k_mem); (case zqU => k_updF); (case zqB => k_asm); (case zqX => k_asm); (case zqT => k_asm); (case zqhf => exact rfl); (case zqhk => exact rfl); (case zqso => with_reducible assumption); (case zqhdp => ktr_room); (case zqhu => ktr_units); k_whole; intro a9 t9 o9 h9 tk9 d0 d1 so9 F9 N9; (try dsimp only at N9); (try dsimp only); (try k_sweep); (try k_fold)))
  k_with "subscriptTail Dict cons cons Name ref str" => (k_here; (with_reducible show wpAny _ _ (subscriptTail _ _ (Value.ref _) (Value.str (Ar.str _) _)) _ _ _); k_dflt (refine' item_pickI ?zqN ?zqp ?zqd (Ar.three_at' ?zqa ?zqb _ _ _ _ _ _ _ _ _) ?_ ?zqhs; (case zqN => k_asm); (case zqp => k_mem); (case zqd => with_reducible assumption); (case zqa => with_reducible assumption); (case zqb => with_reducible assumption); (case zqhs => with_unfolding_all rfl); k_whole); intro t9)
  k_with "binaryOp FloorDiv int int" => refine floordiv_int (by with_reducible assumption) ?_ (Or.inl (Bd.noPy (by with_reducible assumption)))
  k_with "call ref" => (k_here; (with_reducible show wpAny _ _ (call (Value.ref 710) _) _ _ _); k_dflt (refine' led_ok (gd_of ?zqF ?zqB ?zqX ?zqT ?zqhf ?zqhk)  ?zqhdp ?zqhu ?_; (case zqF => k_asm); (case zqX => k_asm); (case zqT => k_asm); (case zqB => k_asm); (case zqhf => exact rfl); (case zqhk => exact rfl); (case zqhdp => ktr_room); (case zqhu => ktr_units);  k_whole; refine post_use (by assumption) (by assumption) ?_; intro t9 h9 tk9 F9 N9; (try dsimp only); (try k_sweep); (try k_fold)))
  k_with "pyIter ref" => k_dflt (k_extra "pyIter ref")
  k_with "InvEndN" => k_dflt kst_close
  trivial
abbrev PostS (s : Shared) (Q : Value → Shared → Prop) : Prop :=
  ∀ D o h' tk', s.heap.StaysIn h' → s.heap.get? D = none → h'.get? D = some o → SrcO o → Q (.ref D) { s with heap := h', toks := tk' }
theorem pool_src (v z : Int) {c : Prop} [Decidable c] (t1 t2 : Tok) : SrcO (W.listOf [Value.int ((if -1 - v > v then -1 - v else v) * (if c then 1 else 0)) t1, Value.int (z.fmod 2147483647) t2].toArray 0) := by
  obtain ⟨_, _, b0, b1⟩ := fmod_has z (p := 2147483647) (by omega)
  refine ⟨_, _, _, _, _, ?_, b0, b1, rfl⟩
  have h : 0 ≤ (if -1 - v > v then -1 - v else v) := by split <;> omega
  generalize (if -1 - v > v then -1 - v else v) = m at h
  by_cases hc : c
  · rw [if_pos hc, Int.mul_one]; exact h
  · rw [if_neg hc, Int.mul_zero]; omega
section
variable {w : World} {dp un : Nat} {gd : Option (List Code)} {base : Heap} {envs : List Env} {p : Program} {loose : List Str} {mean : ExcName → Option Value} {mg mb : Str → Option Value} {s : Shared} {Q E : Value → Shared → Prop}
set_option maxHeartbeats 4000000 in
theorem pool_ok (G : Gd w base envs p loose mean mg mb s.heap) {ls : Addr} {vs : List Value} {ns : List Int} {i : Int} {t : Tok} (hl : s.heap.IsList ls vs.toArray) (hi : IntsAre vs ns) (hn : (ns.length : Int) ≤ 63) (i0 : 0 ≤ i) (i1 : i ≤ 1) (hdp : dp + 2 < recursionLimit) (hu : un + 20 < cLine)
    (hQ : PostS s Q) : wpAny (model PG w) (Au dp un gd envs) (call (.ref 682) [.ref ls, .int i t]) Q E s := by
  have H0 : PySem.Challenge.rw_xm0611_01 = PySem.Challenge.rw_xm0611_01 ∧ Mine.hd.heap_39 = Mine.hd.heap_39 := ⟨rfl, rfl⟩
  revert H0; k_fill; intro _
  (k_dflt (refine' enter0 (binds := [(Str.ofString "script", Value.ref ls), (Str.ofString "k", Value.int i t)]) ?G ?k6 ?k7 ?k8 ?k9 ?kB ?_ ?c2 ?c3 ?c4 ?c5; (case G => assumption); (case k6 => k_is); (case k7 => k_is); (case k8 => ktr_room); (case k9 => first | exact BindsTo.of_eq rfl | exact binds_K (Gd.kin (by assumption)) rfl (by k_is) rfl rfl rfl); (case c5 => decide); (case kB => exact locs rfl); (case c2 => exact rfl); (case c3 => exact rfl); (case c4 => exact rfl); k_whole; intro L' h' F' N' B' X' T'; (try dsimp only); (try k_fold)))
  k_steps
  all_goals exact hQ _ _ _ _ (Fr.keep (by assumption)) (News.fresh (by assumption) (.head _)) (News.get (by assumption) (.head _)) (pool_src _ _ _ _)
end

def Sm : PyData → Prop
  | .int x => Bd x
  | .bool _ => True
  | _ => False
theorem Bd.log {x : Int} (h : Bd x) : x.natAbs.log2 < 64 := by
  obtain ⟨h1, h2⟩ := h
  by_cases h0 : x.natAbs = 0
  · rw [h0]; decide +kernel
  · exact (Nat.log2_lt h0).mpr (by omega)
theorem Sm.len : ∀ {d : PyData}, Sm d → d.shown.length ≤ 70
  | .int x, h => by
    show (Str.ofString (toString x)).length ≤ 70
    have := int_text_length_le (k := 64) (by decide) (Bd.log h)
    rw [PySem.ofString_length]; omega
  | .bool true, _ => by decide
  | .bool false, _ => by decide
  | .none, h => h.elim
  | .str _, h => h.elim
  | .list _, h => h.elim
  | .tuple _, h => h.elim
  | .dict _, h => h.elim
theorem Sm.show : ∀ {d : PyData}, Sm d → d.showable = true ∧ d.hasDict = false ∧ d.depth = 0
  | .int x, h => ⟨by have := Bd.log h; simp [PyData.showable]; omega, rfl, rfl⟩
  | .bool _, _ => ⟨rfl, rfl, rfl⟩
  | .none, h => h.elim
  | .str _, h => h.elim
  | .list _, h => h.elim
  | .tuple _, h => h.elim
  | .dict _, h => h.elim
theorem Sm.all : ∀ {ds : List PyData}, (∀ d ∈ ds, Sm d) → PyData.showableAll ds = true ∧ PyData.hasDictAll ds = false ∧ PyData.depthAll ds = 0
  | [], _ => ⟨rfl, rfl, rfl⟩
  | d :: r, h => by
    have a := Sm.show (h d (.head _))
    have b := Sm.all (ds := r) fun e he => h e (.tail _ he)
    refine ⟨?_, ?_, ?_⟩
    · show (PyData.showable d && PyData.showableAll r) = true; rw [a.1, b.1]; rfl
    · show (PyData.hasDict d || PyData.hasDictAll r) = false; rw [a.2.1, b.2.1]; rfl
    · show max (PyData.depth d) (PyData.depthAll r) = 0; rw [a.2.2, b.2.2]; rfl
theorem text_len : ∀ (ts : List Str) (k : Nat) (acc : Str), (∀ t ∈ ts, t.length ≤ 70) → (PySem.textFrom k acc ts).length ≤ acc.length + 72 * ts.length
  | [], _, _, _ => Nat.le_refl _
  | t :: r, k, acc, h => by
    have a := h t (.head _)
    have b := text_len r (k + 1) (acc ++ ((if k > 0 then ", " else "" : String) : Str) ++ t) fun e he => h e (.tail _ he)
    have c : (((if k > 0 then ", " else "" : String) : Str)).length ≤ 2 := by split <;> decide
    rw [Str.length_append, Str.length_append] at b
    show (PySem.textFrom (k + 1) _ r).length ≤ _
    simp only [List.length_cons]
    omega
theorem shownAll_len : ∀ {ds : List PyData}, (∀ d ∈ ds, Sm d) → (∀ t ∈ PyData.shownAll ds, t.length ≤ 70) ∧ (PyData.shownAll ds).length = ds.length
  | [], _ => ⟨fun _ h => (nomatch h), rfl⟩
  | d :: r, h => by
    have b := shownAll_len (ds := r) fun e he => h e (.tail _ he)
    refine ⟨fun t ht => ?_, by show (PyData.shownAll r).length + 1 = _; rw [b.2]; rfl⟩
    rcases List.mem_cons.mp ht with rfl | ht
    · exact Sm.len (h d (.head _))
    · exact b.1 t ht
section
variable {prog : Program} {w : World} {A : Around} {s : Shared} {Q E : Value → Shared → Prop}
theorem repr_sm {D : Addr} {vs : List Value} {ds : List PyData} {n : Nat} (hD : s.heap.get? D = some (W.listOf vs.toArray n)) (hr : ReadsAll s.heap vs ds []) (hs : ∀ d ∈ ds, Sm d) (hn : ds.length ≤ 8) (hu : A.units + 10 < cLine) (hg : A.guards = some [])
    (hQ : ∀ h' u tk, s.heap.StaysIn h' → Q (.str (PyData.list ds).shown u) { s with heap := h', toks := tk }) : wpAny (model prog w) A (call (.builtin "repr") [.ref D]) Q E s := by
  have a := Sm.all hs
  have l := shownAll_len hs
  have t := text_len (PyData.shownAll ds) 0 "[" l.1
  refine repr_of_reads' (h₀ := s.heap) (d := .list ds) (reads_list_at hD rfl rfl hr) a.1 (fun h => ?_) hg ?_ (fun _ _ e => e) hQ ?_
  · have : PyData.hasDictAll ds = true := h
    rw [a.2.1] at this; cases this
  · show A.units + (PyData.depthAll ds + 1 + 1) < cLine
    rw [a.2.2]; omega
  · show (PySem.textFrom 0 "[" (PyData.shownAll ds) ++ "]").length ≤ sizeLine
    rw [Str.length_append, sizeLine_eq]
    have h1 : (("[" : String) : Str).length = 1 := by decide
    have h2 : (("]" : String) : Str).length = 1 := by decide
    omega
theorem eq_same {x y : Str} {t u : Tok} (e : x = y) (h : Q (.bool true) s) : wpAny (model prog w) A (compareOp .Eq (.str x t) (.str y u)) Q E s := by
  subst e
  refine PyProof.Rows.eq_str ?_
  rw [beq_self_eq_true]; exact h
end

theorem words_p21_same_0 : True := by
  k_with "call ref" => (k_here; (with_reducible show wpAny _ _ (call (Value.ref 642) _) _ _ _); k_dflt (refine' twoCm_ok (gd_of ?zqF ?zqB ?zqX ?zqT ?zqhf ?zqhk) (RV.keeps (by with_reducible assumption) (Fr.keep (by k_asm))) (News.isTup (by k_asm) (by k_mem)) (Fr.tup (by k_asm) (by with_reducible assumption)) (Fr.tup (by k_asm) (by with_reducible assumption)) (Fr.tup (by k_asm) (by with_reducible assumption)) (Fr.tup (by k_asm) (by with_reducible assumption)) ?zqhdp ?zqhu ?_; (case zqF => k_asm); (case zqX => k_asm); (case zqT => k_asm); (case zqB => k_asm); (case zqhf => exact rfl); (case zqhk => exact rfl); (case zqhdp => ktr_room); (case zqhu => ktr_units);  k_whole; refine postT_use (by assumption) (by assumption) ?_; intro D9 t9 h9 tk9 F9 N9 l9; (try dsimp only at N9); (try dsimp only); (try k_sweep); (try k_fold)))
  k_with "call ref" => (k_here; (with_reducible show wpAny _ _ (call (Value.ref 642) _) _ _ _); k_dflt (refine' twoCmB_ok (gd_of ?zqF ?zqB ?zqX ?zqT ?zqhf ?zqhk) (RV.keeps (by with_reducible assumption) (Fr.keep (by k_asm))) (News.isTup (by k_asm) (by k_mem)) (Fr.tup (by k_asm) (by with_reducible assumption)) (Fr.tup (by k_asm) (by with_reducible assumption)) (Fr.tup (by k_asm) (by with_reducible assumption)) (Fr.tup (by k_asm) (by with_reducible assumption)) ?zqhdp ?zqhu ?_; (case zqF => k_asm); (case zqX => k_asm); (case zqT => k_asm); (case zqB => k_asm); (case zqhf => exact rfl); (case zqhk => exact rfl); (case zqhdp => ktr_room); (case zqhu => ktr_units);  k_whole; refine postT_use (by assumption) (by assumption) ?_; intro D9 t9 h9 tk9 F9 N9 l9; (try dsimp only at N9); (try dsimp only); (try k_sweep); (try k_fold)))
  k_with "call ref" => (k_here; (with_reducible show wpAny _ _ (call (Value.ref 642) _) _ _ _); k_dflt (refine' twoBt_ok (gd_of ?zqF ?zqB ?zqX ?zqT ?zqhf ?zqhk) (RV.keeps (by with_reducible assumption) (Fr.keep (by k_asm))) (News.isTup (by k_asm) (by k_mem)) (Fr.tup (by k_asm) (by with_reducible assumption)) (Fr.tup (by k_asm) (by with_reducible assumption)) (Fr.tup (by k_asm) (by with_reducible assumption)) (Fr.tup (by k_asm) (by with_reducible assumption)) ?zqhdp ?zqhu ?_; (case zqF => k_asm); (case zqX => k_asm); (case zqT => k_asm); (case zqB => k_asm); (case zqhf => exact rfl); (case zqhk => exact rfl); (case zqhdp => ktr_room); (case zqhu => ktr_units);  k_whole; refine postT_use (by assumption) (by assumption) ?_; intro D9 t9 h9 tk9 F9 N9 l9; (try dsimp only at N9); (try dsimp only); (try k_sweep); (try k_fold)))
  k_with "call ref" => (k_here; (with_reducible show wpAny _ _ (call (Value.ref 642) _) _ _ _); k_dflt (refine' twoBtB_ok (gd_of ?zqF ?zqB ?zqX ?zqT ?zqhf ?zqhk) (RV.keeps (by with_reducible assumption) (Fr.keep (by k_asm))) (News.isTup (by k_asm) (by k_mem)) (Fr.tup (by k_asm) (by with_reducible assumption)) (Fr.tup (by k_asm) (by with_reducible assumption)) (Fr.tup (by k_asm) (by with_reducible assumption)) (Fr.tup (by k_asm) (by with_reducible assumption)) ?zqhdp ?zqhu ?_; (case zqF => k_asm); (case zqX => k_asm); (case zqT => k_asm); (case zqB => k_asm); (case zqhf => exact rfl); (case zqhk => exact rfl); (case zqhdp => ktr_room); (case zqhu => ktr_units);  k_whole; refine postT_use (by assumption) (by assumption) ?_; intro D9 t9 h9 tk9 F9 N9 l9; (try dsimp only at N9); (try dsimp only); (try k_sweep); (try k_fold)))
  trivial
theorem Kd.wrap_bd (k : Kd) (n : Int) : Bd (k.wrap n) := by
  obtain ⟨q, _, h0, h1⟩ := k.wrap_has n
  exact k.bd h0 h1
theorem eq_wdb {t u : Tok} {prog : Program} {w : World} {A : Around} {s : Shared} {Q E : Value → Shared → Prop} {x y : Str} (e : x = y) (h : Q (.bool true) s) : wpAny (model prog w) A (compareOp .Eq (.str x t) (.str y u)) Q E s := eq_same e h
theorem words_p21_same_1 : True := by
  k_with "call builtin:repr" => (k_here; (with_reducible show wpAny _ _ (call (Value.builtin "repr") [Value.ref _]) _ _ _); k_dflt (refine' repr_sm ?zqD ?zqr ?zqs ?zqn ?zqu ?zqg ?_; (case zqD => exact News.get (by k_asm) (by k_mem)); (case zqr => first | exact readsAll_cons_val (.int _ _) .nil | exact readsAll_cons_val (.bool _) .nil | exact readsAll_cons_val (.int _ _) (readsAll_cons_val (.int _ _) (readsAll_cons_val (.int _ _) .nil)) | exact readsAll_cons_val (.bool _) (readsAll_cons_val (.bool _) (readsAll_cons_val (.int _ _) .nil))); (case zqs => (repeat' first | exact List.forall_mem_nil _ | refine List.forall_mem_cons.mpr ⟨?_, ?_⟩ | exact (True.intro : Sm (PyData.bool _)) | exact (Kd.wrap_bd _ _ : Sm (PyData.int _)) | exact ((by with_reducible assumption : Bd _) : Sm (PyData.int _)))); (case zqn => (simp only [List.length_cons, List.length_nil]; omega)); (case zqu => ktr_units); (case zqg => exact rfl); k_whole; intro h9 u9 tk9 st9; (have F9 := Fr.keeps (by assumption) st9); (have N9 := News.keeps (by assumption) st9); clear st9; (try dsimp only); (try k_sweep); (try k_fold)))
  k_with "compareOp Eq str str" => ((with_reducible show wpAny _ _ (compareOp _ (Value.str (PyData.shown _) _) (Value.str (PyData.shown _) _)) _ _ _); refine eq_same ?zqe ?_; (case zqe => first | exact rfl | (simp only [Kd.neg_led, Kd.inv_led]; done)))
  trivial
section
variable {w : World} {dp un : Nat} {base : Heap} {envs : List Env} {p : Program} {loose : List Str} {mean : ExcName → Option Value} {mg mb : Str → Option Value} {s : Shared} {Q E : Value → Shared → Prop}
set_option maxHeartbeats 4000000 in
theorem sameCm_ok (G : Gd w base envs p loose mean mg mb s.heap) {rv pl one other lt lt2 : Addr} {o : Cm} {rest rest2 : List Value} {a b : Int} {t4 t6 : Tok} {t2 t3 t5 t7 t9 : Tok} (R : RV s.heap rv pl)
    (h1 : IsTup s.heap one [Value.str (Str.ofString "const") t3, .ref lt, .int a t4].toArray) (h2 : IsTup s.heap other [Value.str (Str.ofString "const") t5, .ref lt2, .int b t6].toArray)
    (hl : IsTup s.heap lt (Value.str (Ty.str .int) t7 :: rest).toArray) (hl2 : IsTup s.heap lt2 (Value.str (Ty.str .int) t9 :: rest2).toArray) (hdp : dp + 40 < recursionLimit) (hu : un + 400 < cLine)
    (hQ : Post s Q fun _ => .bool true) : wpAny (model PG w) (Au dp un (some []) envs) (call (.ref 764) [.ref rv, .str o.str t2, .ref one, .ref other, .bool (o.val a b)]) Q E s := by
  obtain ⟨ox, ox', mm, h1', t1', h2', t2', n, h3', t3', h4', t4', n', R1, R2⟩ := R.ex
  have H0 : PySem.Challenge.rw_xm0611_01 = PySem.Challenge.rw_xm0611_01 ∧ Mine.hd.heap_39 = Mine.hd.heap_39 := ⟨rfl, rfl⟩
  revert H0; k_fill; intro _
  (k_dflt (refine' enter0 (binds := [(Str.ofString "rvalues", Value.ref rv), (Str.ofString "op", Value.str o.str t2), (Str.ofString "one", Value.ref one), (Str.ofString "other", Value.ref other), (Str.ofString "due", Value.bool (o.val a b))]) ?G ?k6 ?k7 ?k8 ?k9 ?kB ?_ ?c2 ?c3 ?c4 ?c5; (case G => assumption); (case k6 => k_is); (case k7 => k_is); (case k8 => ktr_room); (case k9 => first | exact BindsTo.of_eq rfl | exact binds_K (Gd.kin (by assumption)) rfl (by k_is) rfl rfl rfl); (case c5 => decide); (case kB => exact locs rfl); (case c2 => exact rfl); (case c3 => exact rfl); (case c4 => exact rfl); k_whole; intro L' h' F' N' B' X' T'; (try dsimp only); (try k_fold)))
  k_steps
  exact post_bool (s := s) (Q := Q) hQ (Fr.keep (by assumption)) (by first | rfl | exact beq_self_eq_true _)
set_option maxHeartbeats 4000000 in
theorem sameCmB_ok (G : Gd w base envs p loose mean mg mb s.heap) {rv pl one other lt lt2 : Addr} {o : Cm} {rest rest2 : List Value} {a b : Bool} {t2 t3 t5 t7 t9 : Tok} (R : RV s.heap rv pl)
    (h1 : IsTup s.heap one [Value.str (Str.ofString "const") t3, .ref lt, .bool a].toArray) (h2 : IsTup s.heap other [Value.str (Str.ofString "const") t5, .ref lt2, .bool b].toArray)
    (hl : IsTup s.heap lt (Value.str (Ty.str .bool) t7 :: rest).toArray) (hl2 : IsTup s.heap lt2 (Value.str (Ty.str .bool) t9 :: rest2).toArray) (hdp : dp + 40 < recursionLimit) (hu : un + 400 < cLine)
    (hQ : Post s Q fun _ => .bool true) : wpAny (model PG w) (Au dp un (some []) envs) (call (.ref 764) [.ref rv, .str o.str t2, .ref one, .ref other, .bool (o.val (b2i a) (b2i b))]) Q E s := by
  obtain ⟨ox, ox', mm, h1', t1', h2', t2', n, h3', t3', h4', t4', n', R1, R2⟩ := R.ex
  have H0 : PySem.Challenge.rw_xm0611_01 = PySem.Challenge.rw_xm0611_01 ∧ Mine.hd.heap_39 = Mine.hd.heap_39 := ⟨rfl, rfl⟩
  revert H0; k_fill; intro _
  (k_dflt (refine' enter0 (binds := [(Str.ofString "rvalues", Value.ref rv), (Str.ofString "op", Value.str o.str t2), (Str.ofString "one", Value.ref one), (Str.ofString "other", Value.ref other), (Str.ofString "due", Value.bool (o.val (b2i a) (b2i b)))]) ?G ?k6 ?k7 ?k8 ?k9 ?kB ?_ ?c2 ?c3 ?c4 ?c5; (case G => assumption); (case k6 => k_is); (case k7 => k_is); (case k8 => ktr_room); (case k9 => first | exact BindsTo.of_eq rfl | exact binds_K (Gd.kin (by assumption)) rfl (by k_is) rfl rfl rfl); (case c5 => decide); (case kB => exact locs rfl); (case c2 => exact rfl); (case c3 => exact rfl); (case c4 => exact rfl); k_whole; intro L' h' F' N' B' X' T'; (try dsimp only); (try k_fold)))
  k_steps
  exact post_bool (s := s) (Q := Q) hQ (Fr.keep (by assumption)) (by first | rfl | exact beq_self_eq_true _)
set_option maxHeartbeats 4000000 in
theorem sameBt_ok (G : Gd w base envs p loose mean mg mb s.heap) {rv pl one other lt lt2 : Addr} {o : Bt} {rest rest2 : List Value} {a b : Int} {t4 t6 : Tok} {t0 : Tok} {t2 t3 t5 t7 t9 : Tok} (R : RV s.heap rv pl)
    (h1 : IsTup s.heap one [Value.str (Str.ofString "const") t3, .ref lt, .int a t4].toArray) (h2 : IsTup s.heap other [Value.str (Str.ofString "const") t5, .ref lt2, .int b t6].toArray)
    (hl : IsTup s.heap lt (Value.str (Ty.str .int) t7 :: rest).toArray) (hl2 : IsTup s.heap lt2 (Value.str (Ty.str .int) t9 :: rest2).toArray) (hbd : Bd (o.val a b)) (hdp : dp + 40 < recursionLimit) (hu : un + 400 < cLine)
    (hQ : Post s Q fun _ => .bool true) : wpAny (model PG w) (Au dp un (some []) envs) (call (.ref 764) [.ref rv, .str o.str t2, .ref one, .ref other, .int (o.val a b) t0]) Q E s := by
  obtain ⟨ox, ox', mm, h1', t1', h2', t2', n, h3', t3', h4', t4', n', R1, R2⟩ := R.ex
  have H0 : PySem.Challenge.rw_xm0611_01 = PySem.Challenge.rw_xm0611_01 ∧ Mine.hd.heap_39 = Mine.hd.heap_39 := ⟨rfl, rfl⟩
  revert H0; k_fill; intro _
  (k_dflt (refine' enter0 (binds := [(Str.ofString "rvalues", Value.ref rv), (Str.ofString "op", Value.str o.str t2), (Str.ofString "one", Value.ref one), (Str.ofString "other", Value.ref other), (Str.ofString "due", Value.int (o.val a b) t0)]) ?G ?k6 ?k7 ?k8 ?k9 ?kB ?_ ?c2 ?c3 ?c4 ?c5; (case G => assumption); (case k6 => k_is); (case k7 => k_is); (case k8 => ktr_room); (case k9 => first | exact BindsTo.of_eq rfl | exact binds_K (Gd.kin (by assumption)) rfl (by k_is) rfl rfl rfl); (case c5 => decide); (case kB => exact locs rfl); (case c2 => exact rfl); (case c3 => exact rfl); (case c4 => exact rfl); k_whole; intro L' h' F' N' B' X' T'; (try dsimp only); (try k_fold)))
  k_steps
  exact post_bool (s := s) (Q := Q) hQ (Fr.keep (by assumption)) (by first | rfl | exact beq_self_eq_true _)
set_option maxHeartbeats 4000000 in
theorem sameBtB_ok (G : Gd w base envs p loose mean mg mb s.heap) {rv pl one other lt lt2 : Addr} {o : Bt} {rest rest2 : List Value} {a b : Bool} {t2 t3 t5 t7 t9 : Tok} (R : RV s.heap rv pl)
    (h1 : IsTup s.heap one [Value.str (Str.ofString "const") t3, .ref lt, .bool a].toArray) (h2 : IsTup s.heap other [Value.str (Str.ofString "const") t5, .ref lt2, .bool b].toArray)
    (hl : IsTup s.heap lt (Value.str (Ty.str .bool) t7 :: rest).toArray) (hl2 : IsTup s.heap lt2 (Value.str (Ty.str .bool) t9 :: rest2).toArray) (hdp : dp + 40 < recursionLimit) (hu : un + 400 < cLine)
    (hQ : Post s Q fun _ => .bool true) : wpAny (model PG w) (Au dp un (some []) envs) (call (.ref 764) [.ref rv, .str o.str t2, .ref one, .ref other, .bool (o.valB a b)]) Q E s := by
  obtain ⟨ox, ox', mm, h1', t1', h2', t2', n, h3', t3', h4', t4', n', R1, R2⟩ := R.ex
  have H0 : PySem.Challenge.rw_xm0611_01 = PySem.Challenge.rw_xm0611_01 ∧ Mine.hd.heap_39 = Mine.hd.heap_39 := ⟨rfl, rfl⟩
  revert H0; k_fill; intro _
  (k_dflt (refine' enter0 (binds := [(Str.ofString "rvalues", Value.ref rv), (Str.ofString "op", Value.str o.str t2), (Str.ofString "one", Value.ref one), (Str.ofString "other", Value.ref other), (Str.ofString "due", Value.bool (o.valB a b))]) ?G ?k6 ?k7 ?k8 ?k9 ?kB ?_ ?c2 ?c3 ?c4 ?c5; (case G => assumption); (case k6 => k_is); (case k7 => k_is); (case k8 => ktr_room); (case k9 => first | exact BindsTo.of_eq rfl | exact binds_K (Gd.kin (by assumption)) rfl (by k_is) rfl rfl rfl); (case c5 => decide); (case kB => exact locs rfl); (case c2 => exact rfl); (case c3 => exact rfl); (case c4 => exact rfl); k_whole; intro L' h' F' N' B' X' T'; (try dsimp only); (try k_fold)))
  k_steps
  exact post_bool (s := s) (Q := Q) hQ (Fr.keep (by assumption)) (by first | rfl | exact beq_self_eq_true _)
end

section
variable {w : World} {dp un : Nat} {gd : Option (List Code)} {base : Heap} {envs : List Env} {p : Program} {loose : List Str} {mean : ExcName → Option Value} {mg mb : Str → Option Value} {s : Shared} {Q E : Value → Shared → Prop}
theorem oneCastB1_ok (G : Gd w base envs p loose mean mg mb s.heap) {rv pl rt one lt lt2 : Addr} {a : Bool} {t1 t3 t7 t9 : Tok} (R : RV s.heap rv pl)
    (hr : IsTup s.heap rt [Value.str (Str.ofString "cast") t1, .ref one, .ref lt2].toArray) (h1 : IsTup s.heap one [Value.str (Str.ofString "const") t3, .ref lt, .bool a].toArray)
    (hl : IsTup s.heap lt [Value.str (Ty.str .bool) t7].toArray)
    (hl2 : IsTup s.heap lt2 [Value.str (Ty.str .bool) t9].toArray) (hdp : dp + 30 < recursionLimit) (hu : un + 300 < cLine)
    (hQ : Post s Q fun t => .bool a) : wpAny (model PG w) (Au dp un gd envs) (call (.ref 649) [.ref rv, .none, .ref rt]) Q E s := oneCastB_ok (t2 := t1) G R hr h1 hl hl2 hdp hu hQ
theorem oneCastU16_ok (G : Gd w base envs p loose mean mg mb s.heap) {rv pl rt one lt lt2 : Addr} {a : Bool} {t1 t2 t3 t7 t9 : Tok} (R : RV s.heap rv pl)
    (hr : IsTup s.heap rt [Value.str (Str.ofString "cast") t1, .ref one, .ref lt2].toArray) (h1 : IsTup s.heap one [Value.str (Str.ofString "const") t3, .ref lt, .bool a].toArray)
    (hl : IsTup s.heap lt [Value.str (Ty.str .bool) t7].toArray)
    (hl2 : IsTup s.heap lt2 [Value.str (Ty.str .int) t9, .str (Str.ofString "u16") t2].toArray) (hdp : dp + 30 < recursionLimit) (hu : un + 300 < cLine)
    (hQ : Post s Q fun t => .int (b2i a) t) : wpAny (model PG w) (Au dp un gd envs) (call (.ref 649) [.ref rv, .none, .ref rt]) Q E s := by
  refine oneCastI_ok (k2 := .u16) G R hr h1 hl hl2 hdp hu ?_
  rw [show Kd.wrap .u16 (b2i a) = b2i a by cases a <;> decide]
  exact hQ
end
theorem words_p22_truths_0 : True := by
  k_with "call ref" => (k_here; (with_reducible show wpAny _ _ (call (Value.ref 764) _) _ _ _); k_dflt (refine' sameCm_ok (gd_of ?zqF ?zqB ?zqX ?zqT ?zqhf ?zqhk) (RV.keeps (by with_reducible assumption) (Fr.keep (by k_asm))) (by first | exact Fr.tup (by k_asm) (by with_reducible assumption) | exact News.isTup (by k_asm) (by k_mem)) (by first | exact Fr.tup (by k_asm) (by with_reducible assumption) | exact News.isTup (by k_asm) (by k_mem)) (by first | exact Fr.tup (by k_asm) (by with_reducible assumption) | exact News.isTup (by k_asm) (by k_mem)) (by first | exact Fr.tup (by k_asm) (by with_reducible assumption) | exact News.isTup (by k_asm) (by k_mem)) ?zqhdp ?zqhu ?_; (case zqF => k_asm); (case zqX => k_asm); (case zqT => k_asm); (case zqB => k_asm); (case zqhf => exact rfl); (case zqhk => exact rfl); (case zqhdp => ktr_room); (case zqhu => ktr_units);  k_whole; refine post_use (by assumption) (by assumption) ?_; intro t9 h9 tk9 F9 N9; (try dsimp only); (try k_sweep); (try k_fold)))
  k_with "call ref" => (k_here; (with_reducible show wpAny _ _ (call (Value.ref 764) _) _ _ _); k_dflt (refine' sameCmB_ok (gd_of ?zqF ?zqB ?zqX ?zqT ?zqhf ?zqhk) (RV.keeps (by with_reducible assumption) (Fr.keep (by k_asm))) (by first | exact Fr.tup (by k_asm) (by with_reducible assumption) | exact News.isTup (by k_asm) (by k_mem)) (by first | exact Fr.tup (by k_asm) (by with_reducible assumption) | exact News.isTup (by k_asm) (by k_mem)) (by first | exact Fr.tup (by k_asm) (by with_reducible assumption) | exact News.isTup (by k_asm) (by k_mem)) (by first | exact Fr.tup (by k_asm) (by with_reducible assumption) | exact News.isTup (by k_asm) (by k_mem)) ?zqhdp ?zqhu ?_; (case zqF => k_asm); (case zqX => k_asm); (case zqT => k_asm); (case zqB => k_asm); (case zqhf => exact rfl); (case zqhk => exact rfl); (case zqhdp => ktr_room); (case zqhu => ktr_units);  k_whole; refine post_use (by assumption) (by assumption) ?_; intro t9 h9 tk9 F9 N9; (try dsimp only); (try k_sweep); (try k_fold)))
  k_with "call ref" => (k_here; (with_reducible show wpAny _ _ (call (Value.ref 764) _) _ _ _); k_dflt (refine' sameBtB_ok (gd_of ?zqF ?zqB ?zqX ?zqT ?zqhf ?zqhk) (RV.keeps (by with_reducible assumption) (Fr.keep (by k_asm))) (by first | exact Fr.tup (by k_asm) (by with_reducible assumption) | exact News.isTup (by k_asm) (by k_mem)) (by first | exact Fr.tup (by k_asm) (by with_reducible assumption) | exact News.isTup (by k_asm) (by k_mem)) (by first | exact Fr.tup (by k_asm) (by with_reducible assumption) | exact News.isTup (by k_asm) (by k_mem)) (by first | exact Fr.tup (by k_asm) (by with_reducible assumption) | exact News.isTup (by k_asm) (by k_mem)) ?zqhdp ?zqhu ?_; (case zqF => k_asm); (case zqX => k_asm); (case zqT => k_asm); (case zqB => k_asm); (case zqhf => exact rfl); (case zqhk => exact rfl); (case zqhdp => ktr_room); (case zqhu => ktr_units);  k_whole; refine post_use (by assumption) (by assumption) ?_; intro t9 h9 tk9 F9 N9; (try dsimp only); (try k_sweep); (try k_fold)))
  k_with "call ref" => (k_here; (with_reducible show wpAny _ _ (call (Value.ref 764) _) _ _ _); k_dflt (refine' sameBt_ok (gd_of ?zqF ?zqB ?zqX ?zqT ?zqhf ?zqhk) (RV.keeps (by with_reducible assumption) (Fr.keep (by k_asm))) (by first | exact Fr.tup (by k_asm) (by with_reducible assumption) | exact News.isTup (by k_asm) (by k_mem)) (by first | exact Fr.tup (by k_asm) (by with_reducible assumption) | exact News.isTup (by k_asm) (by k_mem)) (by first | exact Fr.tup (by k_asm) (by with_reducible assumption) | exact News.isTup (by k_asm) (by k_mem)) (by first | exact Fr.tup (by k_asm) (by with_reducible assumption) | exact News.isTup (by k_asm) (by k_mem)) (by with_reducible assumption) ?zqhdp ?zqhu ?_; (case zqF => k_asm); (case zqX => k_asm); (case zqT => k_asm); (case zqB => k_asm); (case zqhf => exact rfl); (case zqhk => exact rfl); (case zqhdp => ktr_room); (case zqhu => ktr_units);  k_whole; refine post_use (by assumption) (by assumption) ?_; intro t9 h9 tk9 F9 N9; (try dsimp only); (try k_sweep); (try k_fold)))
  k_with "call ref" => (k_here; (with_reducible show wpAny _ _ (call (Value.ref 649) _) _ _ _); k_dflt (refine' oneNeg_ok (gd_of ?zqF ?zqB ?zqX ?zqT ?zqhf ?zqhk) (RV.keeps (by with_reducible assumption) (Fr.keep (by k_asm))) (by first | exact Fr.tup (by k_asm) (by with_reducible assumption) | exact News.isTup (by k_asm) (by k_mem)) (by first | exact Fr.tup (by k_asm) (by with_reducible assumption) | exact News.isTup (by k_asm) (by k_mem)) (by first | exact Fr.tup (by k_asm) (by with_reducible assumption) | exact News.isTup (by k_asm) (by k_mem)) ?zqhdp ?zqhu ?_; (case zqF => k_asm); (case zqX => k_asm); (case zqT => k_asm); (case zqB => k_asm); (case zqhf => exact rfl); (case zqhk => exact rfl); (case zqhdp => ktr_room); (case zqhu => ktr_units);  k_whole; refine post_use (by assumption) (by assumption) ?_; intro t9 h9 tk9 F9 N9; (try dsimp only); (try k_sweep); (try k_fold)))
  k_with "call ref" => (k_here; (with_reducible show wpAny _ _ (call (Value.ref 649) _) _ _ _); k_dflt (refine' oneInv_ok (gd_of ?zqF ?zqB ?zqX ?zqT ?zqhf ?zqhk) (RV.keeps (by with_reducible assumption) (Fr.keep (by k_asm))) (by first | exact Fr.tup (by k_asm) (by with_reducible assumption) | exact News.isTup (by k_asm) (by k_mem)) (by first | exact Fr.tup (by k_asm) (by with_reducible assumption) | exact News.isTup (by k_asm) (by k_mem)) (by first | exact Fr.tup (by k_asm) (by with_reducible assumption) | exact News.isTup (by k_asm) (by k_mem)) ?zqhdp ?zqhu ?_; (case zqF => k_asm); (case zqX => k_asm); (case zqT => k_asm); (case zqB => k_asm); (case zqhf => exact rfl); (case zqhk => exact rfl); (case zqhdp => ktr_room); (case zqhu => ktr_units);  k_whole; refine post_use (by assumption) (by assumption) ?_; intro t9 h9 tk9 F9 N9; (try dsimp only); (try k_sweep); (try k_fold)))
  k_with "call ref" => (k_here; (with_reducible show wpAny _ _ (call (Value.ref 649) _) _ _ _); k_dflt (refine' oneNot_ok (gd_of ?zqF ?zqB ?zqX ?zqT ?zqhf ?zqhk) (RV.keeps (by with_reducible assumption) (Fr.keep (by k_asm))) (by first | exact Fr.tup (by k_asm) (by with_reducible assumption) | exact News.isTup (by k_asm) (by k_mem)) (by first | exact Fr.tup (by k_asm) (by with_reducible assumption) | exact News.isTup (by k_asm) (by k_mem)) (by first | exact Fr.tup (by k_asm) (by with_reducible assumption) | exact News.isTup (by k_asm) (by k_mem)) ?zqhdp ?zqhu ?_; (case zqF => k_asm); (case zqX => k_asm); (case zqT => k_asm); (case zqB => k_asm); (case zqhf => exact rfl); (case zqhk => exact rfl); (case zqhdp => ktr_room); (case zqhu => ktr_units);  k_whole; refine post_use (by assumption) (by assumption) ?_; intro t9 h9 tk9 F9 N9; (try dsimp only); (try k_sweep); (try k_fold)))
  k_with "call ref" => (k_here; (with_reducible show wpAny _ _ (call (Value.ref 649) _) _ _ _); k_dflt (refine' oneCast_ok (gd_of ?zqF ?zqB ?zqX ?zqT ?zqhf ?zqhk) (RV.keeps (by with_reducible assumption) (Fr.keep (by k_asm))) (by first | exact Fr.tup (by k_asm) (by with_reducible assumption) | exact News.isTup (by k_asm) (by k_mem)) (by first | exact Fr.tup (by k_asm) (by with_reducible assumption) | exact News.isTup (by k_asm) (by k_mem)) (by first | exact Fr.tup (by k_asm) (by with_reducible assumption) | exact News.isTup (by k_asm) (by k_mem)) (by first | exact Fr.tup (by k_asm) (by with_reducible assumption) | exact News.isTup (by k_asm) (by k_mem)) ?zqhdp ?zqhu ?_; (case zqF => k_asm); (case zqX => k_asm); (case zqT => k_asm); (case zqB => k_asm); (case zqhf => exact rfl); (case zqhk => exact rfl); (case zqhdp => ktr_room); (case zqhu => ktr_units);  k_whole; refine post_use (by assumption) (by assumption) ?_; intro t9 h9 tk9 F9 N9; (try dsimp only); (try k_sweep); (try k_fold)))
  k_with "call ref" => (k_here; (with_reducible show wpAny _ _ (call (Value.ref 649) _) _ _ _); k_dflt (refine' oneCastB1_ok (gd_of ?zqF ?zqB ?zqX ?zqT ?zqhf ?zqhk) (RV.keeps (by with_reducible assumption) (Fr.keep (by k_asm))) (by first | exact Fr.tup (by k_asm) (by with_reducible assumption) | exact News.isTup (by k_asm) (by k_mem)) (by first | exact Fr.tup (by k_asm) (by with_reducible assumption) | exact News.isTup (by k_asm) (by k_mem)) (by first | exact Fr.tup (by k_asm) (by with_reducible assumption) | exact News.isTup (by k_asm) (by k_mem)) (by first | exact Fr.tup (by k_asm) (by with_reducible assumption) | exact News.isTup (by k_asm) (by k_mem)) ?zqhdp ?zqhu ?_; (case zqF => k_asm); (case zqX => k_asm); (case zqT => k_asm); (case zqB => k_asm); (case zqhf => exact rfl); (case zqhk => exact rfl); (case zqhdp => ktr_room); (case zqhu => ktr_units);  k_whole; refine post_use (by assumption) (by assumption) ?_; intro t9 h9 tk9 F9 N9; (try dsimp only); (try k_sweep); (try k_fold)))
  k_with "call ref" => (k_here; (with_reducible show wpAny _ _ (call (Value.ref 649) _) _ _ _); k_dflt (refine' oneCastU16_ok (gd_of ?zqF ?zqB ?zqX ?zqT ?zqhf ?zqhk) (RV.keeps (by with_reducible assumption) (Fr.keep (by k_asm))) (by first | exact Fr.tup (by k_asm) (by with_reducible assumption) | exact News.isTup (by k_asm) (by k_mem)) (by first | exact Fr.tup (by k_asm) (by with_reducible assumption) | exact News.isTup (by k_asm) (by k_mem)) (by first | exact Fr.tup (by k_asm) (by with_reducible assumption) | exact News.isTup (by k_asm) (by k_mem)) (by first | exact Fr.tup (by k_asm) (by with_reducible assumption) | exact News.isTup (by k_asm) (by k_mem)) ?zqhdp ?zqhu ?_; (case zqF => k_asm); (case zqX => k_asm); (case zqT => k_asm); (case zqB => k_asm); (case zqhf => exact rfl); (case zqhk => exact rfl); (case zqhdp => ktr_room); (case zqhu => ktr_units);  k_whole; refine post_use (by assumption) (by assumption) ?_; intro t9 h9 tk9 F9 N9; (try dsimp only); (try k_sweep); (try k_fold)))
  k_with "call ref" => (k_here; (with_reducible show wpAny _ _ (call (Value.ref 649) _) _ _ _); k_dflt (refine' oneCastI_ok (gd_of ?zqF ?zqB ?zqX ?zqT ?zqhf ?zqhk) (RV.keeps (by with_reducible assumption) (Fr.keep (by k_asm))) (by first | exact Fr.tup (by k_asm) (by with_reducible assumption) | exact News.isTup (by k_asm) (by k_mem)) (by first | exact Fr.tup (by k_asm) (by with_reducible assumption) | exact News.isTup (by k_asm) (by k_mem)) (by first | exact Fr.tup (by k_asm) (by with_reducible assumption) | exact News.isTup (by k_asm) (by k_mem)) (by first | exact Fr.tup (by k_asm) (by with_reducible assumption) | exact News.isTup (by k_asm) (by k_mem)) ?zqhdp ?zqhu ?_; (case zqF => k_asm); (case zqX => k_asm); (case zqT => k_asm); (case zqB => k_asm); (case zqhf => exact rfl); (case zqhk => exact rfl); (case zqhdp => ktr_room); (case zqhu => ktr_units);  k_whole; refine post_use (by assumption) (by assumption) ?_; intro t9 h9 tk9 F9 N9; (try dsimp only); (try k_sweep); (try k_fold)))
  trivial
theorem Bt.pick_eq (c : Bt) (t1 t2 t3 : Tok) {b1 b2 b3 a b : Bool} (h1 : b1 = (a && b)) (h2 : b2 = (a || b)) (h3 : b3 = (a != b)) : valueAt (strPairs [(.str (Str.ofString "&") t1, .bool b1), (.str (Str.ofString "|") t2, .bool b2), (.str (Str.ofString "^") t3, .bool b3)]) c.str = some (.bool (c.valB a b)) := by
  subst h1 h2 h3; cases c <;> rfl
theorem and_t {a b : Bool} (h : a = true) : b = (a && b) := by subst h; rfl
theorem and_f {a b : Bool} (h : a = false) : a = (a && b) := by subst h; rfl
theorem and_f' {a b : Bool} (h : a = false) : false = (a && b) := by subst h; rfl
theorem or_t {a b : Bool} (h : a = true) : a = (a || b) := by subst h; rfl
theorem or_t' {a b : Bool} (h : a = true) : true = (a || b) := by subst h; rfl
theorem or_f {a b : Bool} (h : a = false) : b = (a || b) := by subst h; rfl
section
variable {prog : Program} {w : World} {A : Around} {s : Shared} {Q E : Value → Shared → Prop}
theorem eq_any {a : Int} {t u : Tok} (h : ∀ b : Bool, Q (.bool b) s) : wpAny (model prog w) A (compareOp .Eq (.int a t) (.int 1 u)) Q E s := eq_int (h _)
theorem repr_b {b : Bool} (h : Q (.str (PyData.shown (.bool b)) s.toks) { s with toks := s.toks + 1 }) : wpAny (model prog w) A (call (.builtin "repr") [.bool b]) Q E s := PySem.P.repr_of_bool h
theorem repr_i {a : Int} {t : Tok} (ba : Bd a) (h : Q (.str (PyData.shown (.int a)) s.toks) { s with toks := s.toks + 1 }) : wpAny (model prog w) A (call (.builtin "repr") [.int a t]) Q E s := PySem.P.repr_of_int (Nat.lt_trans (Bd.log ba) (by decide)) h
theorem ne_same {x y : Str} {t u : Tok} (e : x = y) (h : Q (.bool false) s) : wpAny (model prog w) A (compareOp .NotEq (.str x t) (.str y u)) Q E s := by
  subst e
  refine PyProof.Rows.ne_str ?_
  rw [show (x != x) = false by simp]; exact h
end
theorem words_p22_truths_1 : True := by
  k_with "call builtin:repr" => first | with_reducible refine repr_b ?_ | refine repr_i (by with_reducible assumption) ?_
  k_with "compareOp NotEq str str" => ((with_reducible show wpAny _ _ (compareOp _ (Value.str (PyData.shown _) _) (Value.str (PyData.shown _) _)) _ _ _); refine ne_same ?zqe ?_; (case zqe => exact rfl))
  k_with "compareOp Eq int int" => (with_reducible refine eq_any ?_; intro b9)
  k_with "subscriptTail Dict cons cons Name ref str" => (k_here; (with_reducible show wpAny _ _ (subscriptTail _ _ (Value.ref _) (Value.str (Bt.str _) _)) _ _ _); k_dflt (refine' item_pick ?zqN ?zqp ?zqd (Bt.pick_eq _ _ _ _ ?zqx ?zqy rfl) ?_ ?zqhs; (case zqN => k_asm); (case zqp => k_mem); (case zqd => with_reducible assumption); (case zqx => first | exact rfl | exact and_t (by with_reducible assumption) | exact and_f (by with_reducible assumption) | exact and_f' (by with_reducible assumption)); (case zqy => first | exact rfl | exact or_t (by with_reducible assumption) | exact or_f (by with_reducible assumption) | exact or_t' (by with_reducible assumption)); (case zqhs => with_unfolding_all rfl); k_whole))
  trivial
theorem b2i_bd (b : Bool) : Bd (b2i b) := by cases b <;> (unfold Bd; decide)
theorem one_bd : Bd 1 := by unfold Bd; decide
theorem zero_bd : Bd 0 := by unfold Bd; decide
theorem trip_t {b : Bool} (h : b = true) : PyData.list [.bool !b, .bool b, .int (b2i b)] = PyData.list [.bool false, .bool b, .int 1] := by subst h; rfl
theorem trip_f {b : Bool} (h : b = false) : PyData.list [.bool !b, .bool b, .int (b2i b)] = PyData.list [.bool true, .bool b, .int 0] := by subst h; rfl
theorem words_p22_truths_2 : True := by
  k_with "call builtin:repr" => (k_here; (with_reducible show wpAny _ _ (call (Value.builtin "repr") [Value.ref _]) _ _ _); k_dflt (refine' repr_sm ?zqD ?zqr ?zqs ?zqn ?zqu ?zqg ?_; (case zqD => exact News.get (by k_asm) (by k_mem)); (case zqr => exact readsAll_cons_val (.bool _) (readsAll_cons_val (.bool _) (readsAll_cons_val (.int _ _) .nil))); (case zqs => (repeat' first | exact List.forall_mem_nil _ | refine List.forall_mem_cons.mpr ⟨?_, ?_⟩ | exact (True.intro : Sm (PyData.bool _)) | exact (b2i_bd _ : Sm (PyData.int _)) | exact (one_bd : Sm (PyData.int _)) | exact (zero_bd : Sm (PyData.int _)))); (case zqn => (simp only [List.length_cons, List.length_nil]; omega)); (case zqu => ktr_units); (case zqg => exact rfl); k_whole; intro h9 u9 tk9 st9; (have F9 := Fr.keeps (by assumption) st9); (have N9 := News.keeps (by assumption) st9); clear st9; (try dsimp only); (try k_sweep); (try k_fold)))
  k_with "compareOp Eq str str" => ((with_reducible show wpAny _ _ (compareOp _ (Value.str (PyData.shown _) _) (Value.str (PyData.shown _) _)) _ _ _); refine eq_same ?zqe ?_; (case zqe => first | exact congrArg PyData.shown (trip_t (by with_reducible assumption)) | exact congrArg PyData.shown (trip_f (by with_reducible assumption))))
  trivial
section
variable {M : Model} {A : Around} {E : Value → Shared → Prop} {s : Shared} {h₀ : Heap} {L ad : Addr} {m : Str → Option Value} {nm : Str} {scope : Scope} {cd : Value} {Q : Value → Shared → Prop} {x y : Str} {px py pos : Pos} {a b : Bool}
theorem and_names (F : Fr h₀ L s.heap m) (ha : m x = some (.bool a)) (hb : m y = some (.bool b)) (h : Q (.bool (a && b)) s) (hk : scope.kind = .function) (h1 : (envOf nm scope L ad cd).kindOf x = some .local) (d1 : (x == ("__debug__" : Str)) = false) (h2 : (envOf nm scope L ad cd).kindOf y = some .local) (d2 : (y == ("__debug__" : Str)) = false) :
    wpAny M A (eval (.BoolOp .And [.Name x px, .Name y py] pos) (envOf nm scope L ad cd)) Q E s := by
  refine PyProof.Rows.BoolOp_and (ld F ha (wpAny_truthy_bool ?_) hk h1 d1)
  cases a
  · exact h
  · exact PyProof.Rows.BoolOp_one (ld F hb h hk h2 d2)
theorem or_names (F : Fr h₀ L s.heap m) (ha : m x = some (.bool a)) (hb : m y = some (.bool b)) (h : Q (.bool (a || b)) s) (hk : scope.kind = .function) (h1 : (envOf nm scope L ad cd).kindOf x = some .local) (d1 : (x == ("__debug__" : Str)) = false) (h2 : (envOf nm scope L ad cd).kindOf y = some .local) (d2 : (y == ("__debug__" : Str)) = false) :
    wpAny M A (eval (.BoolOp .Or [.Name x px, .Name y py] pos) (envOf nm scope L ad cd)) Q E s := by
  refine PyProof.Rows.BoolOp_or (ld F ha (wpAny_truthy_bool ?_) hk h1 d1)
  cases a
  · exact PyProof.Rows.BoolOp_one (ld F hb h hk h2 d2)
  · exact h
end
theorem words_p22_truths_3 : True := by
  k_with "eval BoolOp" => (k_here; k_dflt (refine' and_names ?zqF ?zqha ?zqhb ?_ ?zqhk ?zqh1 ?zqd1 ?zqh2 ?zqd2; (case zqF => k_asm); (case zqha => exact rfl); (case zqhb => exact rfl); (case zqhk => exact rfl); (case zqh1 => exact rfl); (case zqh2 => exact rfl); (case zqd1 => decide); (case zqd2 => decide); k_whole))
  k_with "eval BoolOp" => (k_here; k_dflt (refine' or_names ?zqF ?zqha ?zqhb ?_ ?zqhk ?zqh1 ?zqd1 ?zqh2 ?zqd2; (case zqF => k_asm); (case zqha => exact rfl); (case zqhb => exact rfl); (case zqhk => exact rfl); (case zqh1 => exact rfl); (case zqh2 => exact rfl); (case zqd1 => decide); (case zqd2 => decide); k_whole))
  trivial
section
variable {w : World} {dp un : Nat} {base g : Heap} {envs : List Env} {p : Program} {loose : List Str} {mean : ExcName → Option Value} {mg mb : Str → Option Value} {s : Shared} {Q E : Value → Shared → Prop} {l : Addr}
set_option maxHeartbeats 600000 in
theorem truths_ok (G : Gd w base envs p loose mean mg mb g) {o : Obj} {rv pl : Addr} (O : Own g s.heap l o) (so : SrcO o) (R : RV g rv pl) (hdp : dp + 50 < recursionLimit) (hu : un + 500 < cLine)
    (hQ : ∀ o' h' tk', SrcO o' → Own g h' l o' → Q (.bool true) { s with heap := h', toks := tk' }) : wpAny (model PG w) (Au dp un (some []) envs) (call (.ref 771) [.ref l, .ref rv]) Q E s := by
  obtain ⟨ox, ox', mm, h1', t1', h2', t2', n, h3', t3', h4', t4', n', R1, R2⟩ := R.ex
  have H0 : PySem.Challenge.rw_xm0611_01 = PySem.Challenge.rw_xm0611_01 ∧ Mine.hd.heap_39 = Mine.hd.heap_39 := ⟨rfl, rfl⟩
  revert H0; k_fill; intro _
  (k_dflt (refine' enterH (binds := [(Str.ofString "source", Value.ref l), (Str.ofString "rvalues", Value.ref rv)]) ?G ?O ?k6 ?k7 ?k8 ?k9 ?kB ?_ ?c2 ?c3 ?c4 ?c5; (case G => assumption); (case O => assumption); (case k6 => k_is); (case k7 => k_is); (case k8 => ktr_room); (case k9 => first | exact BindsTo.of_eq rfl | exact binds_K ((Gd.kin (by assumption)).keeps (Own.sub (by assumption))) rfl (by k_is) rfl rfl rfl); (case c5 => decide); (case kB => exact locs rfl); (case c2 => exact rfl); (case c3 => exact rfl); (case c4 => exact rfl); k_whole; intro L' h' F' N' B' X' T'; (try dsimp only); (try k_fold)))
  k_steps
  all_goals exact hQ _ _ _ (by assumption) (own_end O (by assumption) (by assumption) (by k_mem))
theorem truths_use (F : Fr h₀ L s.heap m) (N : News h₀ L s.heap news) (U : UpdF l o news gf) (B : Below A₀ base outer h₀) (X : (Mine.hd.heap_39 w.params).In h₀) (T : Top p loose mean mg mb h₀) (hf : env.frame = some L) (hk : env.scope.kind = .function)
    {rv pl : Addr} (hm : (l, o) ∈ news) (so : SrcO o) (R : RV (s.heap.hide l) rv pl) (hdp : dp + 60 < recursionLimit) (hu : un + 600 < cLine)
    (hQ : ∀ o' h' tk', SrcO o' → Fr h₀ L h' m → News h₀ L h' (gf o') → Q (.bool true) { s with heap := h', toks := tk' }) : wpAny (model PG w) (Au dp un (some []) (env :: outer)) (call (.ref 771) [.ref l, .ref rv]) Q E s :=
  truths_ok (gd_hide F N hm B X T hf hk) (own_of N hm) so R (by omega) (by omega) fun o' h' tk' a O =>
    have q := own_back F N U O
    hQ o' h' tk' a q.1 q.2
end

def KD {α : Type} : Sem α → Prop
  | .pure _ => True
  | .raise _ => True
  | .unsupported _ => True
  | .finish _ => True
  | .rule _ k => KD (k ())
  | .at _ k => KD (k ())
  | .load _ _ k => ∀ o, KD (k o)
  | .update _ _ f k => (∀ o : Obj, (f o).dict = o.dict ∧ (o.isFreed = false → (f o).isFreed = false)) ∧ KD (k ())
  | .alloc _ k => ∀ a, KD (k a)
  | .loadIfAlive _ k => ∀ o, KD (k o)
  | .point _ k => KD (k ())
  | .register _ _ => True
  | .fresh k => ∀ t, KD (k t)
  | .ask k => ∀ t, KD (k t)
  | .choose _ _ k => ∀ n, KD (k n)
  | .os _ _ k => ∀ r, KD (k r)
  | .call .. => False
  | .handled _ k => ∀ x, KD (k x)
  | .newGen _ k => ∀ n, KD (k n)
  | .genState _ k => ∀ x, KD (k x)
  | .resume .. => False
  | .yield .. => True
  | .stack k => ∀ l, KD (k l)
  | .fork .. => True
  | .thread k => ∀ n, KD (k n)
  | .await .. => True
def DK (h h' : Heap) : Prop := ∀ a o, h.get? a = some o → ∃ o', h'.get? a = some o' ∧ o'.dict = o.dict
theorem DK.refl (h : Heap) : DK h h := fun _ o e => ⟨o, e, rfl⟩
theorem DK.trans {a b c : Heap} (x : DK a b) (y : DK b c) : DK a c := fun q o e =>
  let ⟨o1, e1, d1⟩ := x q o e; let ⟨o2, e2, d2⟩ := y q o1 e1; ⟨o2, e2, d2.trans d1⟩
theorem DK.push (h : Heap) (o : Obj) : DK h (h.push o) := fun _ o' e => ⟨o', Heap.get?_push_of_some o e, rfl⟩
theorem heap_live {h : Heap} {a : Addr} {o : Obj} (e : h.get? a = some o) : o.isFreed = false := (PySem.Heap.get?_some_iff.mp e).2
theorem DK.update {h : Heap} {a : Addr} {f : Obj → Obj} (hf : ∀ o : Obj, (f o).dict = o.dict ∧ (o.isFreed = false → (f o).isFreed = false)) : DK h (h.update a f) := fun b o e => by
  by_cases q : a = b
  · subst q
    exact ⟨f o, Heap.get?_update_self f e ((hf o).2 (heap_live e)), (hf o).1⟩
  · exact ⟨o, (Heap.get?_update_other h f q).trans e, rfl⟩
theorem wp_KD {α : Type} (M : Model) (Γ : PySem.Ctx) : ∀ (t : Sem α) (Q : α → Pos → Shared → Prop) (E : Value → Pos → Shared → Prop) (p : Pos) (s : Shared), KD t → Sem.wp M Γ t Q E p s →
    Sem.wp M Γ t (fun a p s' => Q a p s' ∧ DK s.heap s'.heap) (fun a p s' => E a p s' ∧ DK s.heap s'.heap) p s := by
  intro t
  induction t with
  | pure a => intro Q E p s _ h; rw [Sem.wp] at h ⊢; exact ⟨h, DK.refl _⟩
  | raise a => intro Q E p s _ h; rw [Sem.wp] at h ⊢; exact ⟨h, DK.refl _⟩
  | unsupported a => intro Q E p s _ h; rw [Sem.wp] at h; exact h.elim
  | finish a => intro Q E p s _ h; rw [Sem.wp] at h; exact h.elim
  | rule _ k ih => intro Q E p s d h; rw [Sem.wp] at h ⊢; exact ih () Q E p s d h
  | «at» _ k ih => intro Q E p s d h; rw [Sem.wp] at h ⊢; exact ih () Q E _ s d h
  | load a part k ih => intro Q E p s d h; rw [Sem.wp] at h ⊢; obtain ⟨o, e, h⟩ := h; exact ⟨o, e, ih o Q E p s (d o) h⟩
  | update a part f k ih =>
    intro Q E p s d h; rw [Sem.wp] at h ⊢; obtain ⟨e, h⟩ := h
    refine ⟨e, Sem.wp_mono M Γ _ ?_ ?_ p _ (ih () Q E p _ d.2 h)⟩
    · intro a p s' q; exact ⟨q.1, (DK.update d.1).trans q.2⟩
    · intro a p s' q; exact ⟨q.1, (DK.update d.1).trans q.2⟩
  | alloc o k ih =>
    intro Q E p s d h; rw [Sem.wp] at h ⊢
    refine Sem.wp_mono M Γ _ ?_ ?_ p _ (ih _ Q E p _ (d _) h)
    · intro a p s' q; exact ⟨q.1, (DK.push _ _).trans q.2⟩
    · intro a p s' q; exact ⟨q.1, (DK.push _ _).trans q.2⟩
  | loadIfAlive a k ih => intro Q E p s d h; rw [Sem.wp] at h ⊢; exact ih _ Q E p s (d _) h
  | point _ k ih => intro Q E p s d h; rw [Sem.wp] at h ⊢; exact ih () Q E p s d h
  | register a k ih => intro Q E p s _ h; rw [Sem.wp] at h; exact h.elim
  | fresh k ih => intro Q E p s d h; rw [Sem.wp] at h ⊢; exact ih _ Q E p { s with toks := s.toks + 1 } (d _) h
  | ask k ih => intro Q E p s d h; rw [Sem.wp] at h ⊢; exact ih _ Q E p s (d _) h
  | choose src n k ih => intro Q E p s d h; rw [Sem.wp] at h ⊢; exact ⟨h.1, ih _ Q E p { s with drawn := s.drawn.bump src } (d _) h.2⟩
  | os q l k ih => intro Q E p s d h; rw [Sem.wp] at h ⊢; exact ih _ Q E p { s with os := (Os.step s.os q).1 } (d _) h
  | call => intro Q E p s d h; exact d.elim
  | handled own k ih => intro Q E p s d h; rw [Sem.wp] at h ⊢; exact ih _ Q E p s (d _) h
  | newGen c k ih => intro Q E p s d h; rw [Sem.wp] at h ⊢; exact ih _ Q E p { s with gens := s.gens.push (.fresh c) } (d _) h
  | genState g k ih => intro Q E p s d h; rw [Sem.wp] at h ⊢; obtain ⟨st, e, h⟩ := h; exact ⟨st, e, ih _ Q E p s (d _) h⟩
  | resume => intro Q E p s d h; exact d.elim
  | yield => intro Q E p s _ h; rw [Sem.wp] at h; exact h.elim
  | stack k ih => intro Q E p s d h; rw [Sem.wp] at h ⊢; exact ih _ Q E p s (d _) h
  | fork => intro Q E p s _ h; rw [Sem.wp] at h; exact h.elim
  | thread k ih => intro Q E p s d h; rw [Sem.wp] at h ⊢; exact ih _ Q E p s (d _) h
  | await => intro Q E p s _ h; rw [Sem.wp] at h; exact h.elim
theorem wpAny_KD {α : Type} {M : Model} {A : Around} {t : Sem α} {Q : α → Shared → Prop} {E : Value → Shared → Prop} {s : Shared} (d : KD t) (h : wpAny M A t (fun a s' => DK s.heap s'.heap → Q a s') (fun a s' => DK s.heap s'.heap → E a s') s) : wpAny M A t Q E s :=
  fun Γ p hΓ => Sem.wp_mono M Γ t (fun _ _ _ q => q.1 q.2) (fun _ _ _ q => q.1 q.2) p s (wp_KD M Γ t _ _ p s d (h Γ p hΓ))
theorem KD.bind {α β : Type} {t : Sem α} {f : α → Sem β} (d : KD t) (df : ∀ a, KD (f a)) : KD (t >>= f) := by
  show KD (Sem.bind t f)
  induction t with
  | pure a => exact df a
  | raise a => exact True.intro
  | unsupported a => exact True.intro
  | finish a => exact True.intro
  | rule _ k ih => exact ih () d
  | «at» _ k ih => exact ih () d
  | load a part k ih => exact fun o => ih o (d o)
  | update a part f k ih => exact ⟨d.1, ih () d.2⟩
  | alloc o k ih => exact fun o => ih o (d o)
  | loadIfAlive a k ih => exact fun o => ih o (d o)
  | point _ k ih => exact ih () d
  | register a k ih => exact True.intro
  | fresh k ih => exact fun o => ih o (d o)
  | ask k ih => exact fun o => ih o (d o)
  | choose src n k ih => exact fun o => ih o (d o)
  | os q l k ih => exact fun o => ih o (d o)
  | call => exact d.elim
  | handled own k ih => exact fun o => ih o (d o)
  | newGen c k ih => exact fun o => ih o (d o)
  | genState g k ih => exact fun o => ih o (d o)
  | resume => exact d.elim
  | yield => exact True.intro
  | stack k ih => exact fun o => ih o (d o)
  | fork => exact True.intro
  | thread k ih => exact fun o => ih o (d o)
  | await => exact True.intro
theorem KD.ite {α : Type} {c : Prop} [Decidable c] {t u : Sem α} (x : KD t) (y : KD u) : KD (if c then t else u) := by split <;> assumption
theorem KD.pure {α : Type} (a : α) : KD (pure a : Sem α) := True.intro
theorem KD.uns {α : Type} (x : String) : KD (unsupported x : Sem α) := True.intro
theorem KD.load (a : Addr) : KD (PySem.load a) := fun _ => True.intro
theorem mapFields_live (f : Array Value → Array Value) (o : Obj) : (Obj.mapFields f o).dict = o.dict ∧ (o.isFreed = false → (Obj.mapFields f o).isFreed = false) := by
  obtain ⟨c, d, dt, sl⟩ := o
  cases dt <;> exact ⟨rfl, fun h => h⟩
theorem KD.fieldsOf (v : Value) : KD (fieldsOf v) := by
  unfold PySem.fieldsOf
  split
  · refine KD.bind (KD.load _) fun o => ?_
    split <;> exact True.intro
  · exact True.intro
theorem KD.field (v : Value) (i : Nat) : KD (field v i) := by
  unfold PySem.field
  refine KD.bind (KD.fieldsOf v) fun o => ?_
  split <;> exact True.intro
theorem KD.setField (v : Value) (i : Nat) (x : Value) : KD (setField v i x) := by
  unfold PySem.setField
  split
  · unfold PySem.updateField
    refine KD.bind (KD.load _) fun o => ?_
    split
    · refine KD.ite ?_ (KD.uns _)
      exact ⟨mapFields_live _, True.intro⟩
    · exact True.intro
  · exact True.intro
theorem KD.setFlight (e : Value) (f : Option Addr) : KD (setFlight e f) := by
  unfold PySem.setFlight
  refine KD.bind (KD.field _ _) fun o => ?_
  exact KD.ite (KD.setField _ _ _) (KD.pure _)
theorem KD.newEntry (a b c d e : Value) (l : List Value) : KD (EntryCells.newEntry a b c d e l) := by
  unfold EntryCells.newEntry PySem.newFields PySem.newObj
  dsimp only
  refine KD.ite (KD.bind (KD.uns _) fun _ => ?_) ?_
  · exact fun _ => True.intro
  · exact fun _ => True.intro
theorem KD.entryPlaceOf (f : Addr) (b : Bool) : KD (entryPlaceOf f b) := by
  unfold PySem.entryPlaceOf
  refine KD.bind (fun _ => True.intro) fun a => ?_
  split <;> exact True.intro
theorem KD.frameEnvs : KD frameEnvs := by
  unfold PySem.frameEnvs
  exact KD.bind (fun _ => True.intro) fun a => True.intro
theorem KD.readyFrames : ∀ l, KD (readyFrames l)
  | [] => True.intro
  | env :: outer => by
    unfold PySem.readyFrames
    split
    · refine KD.bind (KD.load _) fun o => ?_
      refine KD.ite (KD.pure _) ?_
      refine KD.bind ?_ fun i => ?_
      · unfold behindIsImport
        refine KD.ite (KD.pure _) (KD.ite (KD.pure _) ?_)
        exact KD.bind (KD.field _ _) fun _ => True.intro
      · refine KD.bind ?_ fun b => ?_
        · unfold keptBack
          split
          · refine KD.ite (KD.pure _) ?_
            unfold underTheClaimsCaller
            exact KD.bind (KD.bind (fun _ => True.intro) fun _ => True.intro) fun _ => True.intro
          · exact True.intro
        · refine KD.bind ⟨fun o => ?_, True.intro⟩ fun _ => KD.readyFrames outer
          obtain ⟨c, d, dt, sl⟩ := o
          cases dt <;> exact ⟨rfl, fun h => h⟩
    · exact True.intro
theorem KD.frameOf (env : Env) : KD (frameOf env) := by
  unfold PySem.frameOf frameObject
  refine KD.bind KD.frameEnvs fun l => ?_
  refine KD.bind ?_ fun x => ?_
  · split
    · exact True.intro
    · exact KD.bind (KD.readyFrames _) fun _ => True.intro
  · split <;> exact True.intro
theorem KD.noteFrame (e : Value) (env : Env) : KD (noteFrame e env) := by
  unfold PySem.noteFrame
  split
  · refine KD.bind (KD.field _ _) fun hd => ?_
    have fin : ∀ b : Bool, KD (do let fr ← PySem.frameOf env; let pl ← PySem.entryPlaceOf (‹Addr›) b; let q ← EntryCells.newEntry hd fr .none (rawInt (‹Addr›)) .none pl; PySem.setField e 1 q : Sem Unit) := fun b =>
      KD.bind (KD.frameOf env) fun _ => KD.bind (KD.entryPlaceOf _ _) fun _ => KD.bind (KD.newEntry _ _ _ _ _ _) fun _ => KD.setField _ _ _
    refine KD.ite ?_ (fin _)
    refine KD.bind (KD.field _ _) fun x => KD.ite (KD.pure _) (KD.bind (KD.setField _ _ _) fun _ => fin _)
  · exact True.intro
theorem KD.leaving (env : Env) (e : Value) : KD (leaving env e) := KD.bind (KD.noteFrame _ _) fun _ => KD.setFlight _ _

/-- what an own class above Exception needs of its row -/
structure ExcRow (C : Addr) (bm : List Value) : Prop where
  exc : (Value.ref C :: bm).contains (.type "Exception") = true
  noA : (Value.ref C :: bm).contains (.type "AttributeError") = false
  noN : (Value.ref C :: bm).contains (.type "NameError") = false
  base : (Value.ref C :: bm).contains (.type "BaseException") = true
section
variable {prog : Program} {w : World} {A : Around} {E : Value → Shared → Prop} {h : Heap} {g : Array GenState} {d : Drawn} {t : Nat} {os : OsState} {M : Model} {R : Result → Shared → Prop}
variable {nm q : Str} {C N : Addr} {bs bm bmB : List Value} {hdct : Bool} {sn : List Str} {sub : List Value} {ab : Bool} {col : Option Bool} {dd : Option Addr} {k0 k1 k2 k3 k5 : Option Value} {newId initId : String}
theorem xr_check_new (F : ExcBaseFacts "Exception" newId initId bmB) (T : ExcRow C bm) {rest : List Value} {Q : Unit → Shared → Prop} (hC : h.get? C = some (excClassObj nm q C N bs bm hdct sn sub ab col dd k0 k1 k2 k3 k5 newId))
    (hq : Q () ⟨h, g, d, t, os⟩) : wpAny M A (checkBuiltinCall newId ⟨.ref C :: rest, []⟩) Q E ⟨h, g, d, t, os⟩ := by
  have hcont := T.exc
  have hstar := F.noStar
  simp only [checkBuiltinCall, F.newKind, F.newSplit, F.newRow]
  repeat (first | refine wpAny_loadPart_at hC ?_ | (refine wpAny_isSubtype_exc hC ?_; rw [hcont]) | refine wpAny_staticBase_exc hC ?_ | refine wpAny_madeBy_exc hC ?_ | simp only [bne_self_eq_false, Bool.false_eq_true, if_false] | wp_step)
  exact hq
theorem xr_new (F : ExcBaseFacts "Exception" newId initId bmB) (T : ExcRow C bm) {rest : List Value} (hC : h.get? C = some (excClassObj nm q C N bs bm hdct sn sub ab col dd k0 k1 k2 k3 k5 newId))
    (hq : R (.ok (.ret (.ref (h.objs.size + 1)))) ⟨(h.push { cls := .type "tuple", data := .seq rest.toArray }).push
      { cls := .ref C, data := .fields #[.ref h.objs.size, .none, .none, .none, .bool false, .none] }, g, d, t, os⟩) (hrest : rest.length ≤ sizeLine) :
    codeAny (model prog w) A (.builtin newId ⟨.ref C :: rest, []⟩) R ⟨h, g, d, t, os⟩ := by
  have hends := F.ends
  have hcB := T.exc
  have hcA := T.noA
  have hcN := T.noN
  refine codeAny_builtinAt F.entry ?_
  unfold Builtin.«BaseException.__new__»
  refine PySem.wpAt_bind ?_
  show PySem.wpAt _ _ _ (stack >>= _) _ _ _
  refine PySem.wpAt_bind (PySem.wpAt_stack fun p below => PySem.wpAt_of_wpAny ?_)
  wp_walk
  refine PySem.wpAt_of_wpAny ?_
  rw [F.owner]
  repeat (first | with_reducible refine wpAny_madeHere_exc F.canon hC ?_ | with_reducible refine wpAny_loadPart_at hC ?_ | (with_reducible refine wpAny_isSubtype_exc hC ?_; first | rw [hcB] | rw [hcA] | rw [hcN]) | wp_step)
  show R _ _
  rw [Heap.size_push]
  exact hq
theorem xr_check_init (F : ExcBaseFacts "Exception" newId initId bmB) (T : ExcRow C bm) {e : Addr} {oe : Obj} {rest : List Value} {Q : Unit → Shared → Prop}
    (hC : h.get? C = some (excClassObj nm q C N bs bm hdct sn sub ab col dd k0 k1 k2 k3 k5 newId)) (he : h.get? e = some oe) (hcls : oe.cls = .ref C) (hq : Q () ⟨h, g, d, t, os⟩) :
    wpAny M A (checkBuiltinCall initId ⟨.ref e :: rest, []⟩) Q E ⟨h, g, d, t, os⟩ := by
  have hcB := T.exc
  have hshort := F.noStar
  simp only [checkBuiltinCall, F.initKind, F.initSplit, F.initRow]
  repeat (first | (with_reducible refine wpAny_loadPart_at he ?_; rw [hcls]) | with_reducible refine wpAny_loadPart_at hC ?_ | (with_reducible refine wpAny_isSubtype_exc hC ?_; rw [hcB]) | wp_step)
  refine wpAny_onRaise ?_
  rw [show ∀ (a b : String) (n : Nat), Bind.check ⟨.positional, "*", "Exception", .self, [⟨"args", .varPos, false⟩]⟩ a b n (List.map (fun x => x.fst) ({ pos := Value.ref e :: rest } : Args).kw) = pure () from
    fun a b n => check_star_args _ _ _ _ _ _]
  exact wpAny_pure hq
theorem xr_type_call (F : ExcBaseFacts "Exception" newId initId bmB) (T : ExcRow C bm) {K : Frag} {rest : List Value} {fI : Addr} {oI : Obj} {Q : Fin → Shared → Prop}
    (hC : h.get? C = some (excClassObj nm q C N bs bm hdct sn sub ab col dd k0 k1 k2 k3 k5 newId)) (X : K.In h) (hi : findIn K (.ref C) "__init__" = some (some (.ref fI)))
    (hfI : h.get? fI = some oI) (hfc : oI.cls = .type "function")
    (hq : ∀ h' e, Heap.MadeExcOf h h' e (.ref C) rest → h.objs.size ≤ h'.objs.size →
      wpAny (model prog w) A (call (.ref fI) (.ref e :: rest)) (fun r s' => r = .none ∧ Q (.done (.ret (.ref e))) s') E ⟨h', g, d, t, os⟩) (hrest : rest.length ≤ sizeLine) :
    wpAny (model prog w) A (Builtin.«type.__call__» ⟨.ref C :: rest, []⟩) Q E ⟨h, g, d, t, os⟩ := by
  repeat (first | with_reducible refine wpAny_loadPart_at hC ?_ | with_reducible refine wpAny_madeBy_exc hC ?_ | wp_step)
  refine codeAny_call_builtin_code (Code.quiet_builtin _ F.quiet) (xr_check_new F T hC ?_)
  refine xr_new F T hC ?_ hrest
  show wpAny _ _ _ _ _ _
  have up : ∀ b o, h.get? b = some o → ((h.push { cls := .type "tuple", data := .seq rest.toArray }).push { cls := .ref C, data := .fields #[.ref h.objs.size, .none, .none, .none, .bool false, .none] }).get? b = some o :=
    fun b o e => Heap.get?_push_of_some _ (Heap.get?_push_of_some _ e)
  have hC₁ := up _ _ hC
  have hn₁ := X.keeps up
  have hget : ((h.push { cls := .type "tuple", data := .seq rest.toArray }).push
      { cls := .ref C, data := .fields #[.ref h.objs.size, .none, .none, .none, .bool false, .none] }).get? (h.objs.size + 1) = some
      { cls := .ref C, data := .fields #[.ref h.objs.size, .none, .none, .none, .bool false, .none] } := by heap_get
  have hcC : (Value.ref C :: bm).contains (.ref C) = true := by simp
  unfold isInstance
  repeat (first | with_reducible refine wpAny_loadPart_at hget ?_ | (with_reducible refine wpAny_isSubtype_exc hC₁ ?_; rw [hcC]) | wp_step)
  show wpAny _ _ (typeLookup (.ref C) _) _ _ _
  refine (looks_findIn hn₁ hi).here ?_
  refine wpAny_holding (wpAny_bind ?_)
  unfold bindSpecial
  refine wpAny_bind (wpAny_typeOf (T := "function") ⟨_, up _ _ hfI, hfc⟩ ?_)
  rw [if_pos (by decide)]
  refine wpAny_pure (wpAny_bind (wpAny_mono (hq _ (h.objs.size + 1) ⟨up, Heap.get?_none_of_le (Nat.le_succ _), h.objs.size, hget, Heap.get?_none_of_le (Nat.le_refl _), Heap.get?_push_of_some _ (Heap.get?_push_at rfl rfl)⟩ (by rw [Heap.size_push, Heap.size_push]; omega)) (fun r s' hr => ?_) fun _ _ x => x))
  obtain ⟨rfl, hQ⟩ := hr
  wp_walk
  exact hQ
theorem xr_call (F : ExcBaseFacts "Exception" newId initId bmB) (T : ExcRow C bm) {K : Frag} {rest : List Value} {fI : Addr} {oI : Obj} {Q : Value → Shared → Prop}
    (hC : h.get? C = some (excClassObj nm q C N bs bm hdct sn sub ab col dd k0 k1 k2 k3 k5 newId)) (X : K.In h) (hi : findIn K (.ref C) "__init__" = some (some (.ref fI)))
    (hfI : h.get? fI = some oI) (hfc : oI.cls = .type "function")
    (hq : ∀ h' e, Heap.MadeExcOf h h' e (.ref C) rest → h.objs.size ≤ h'.objs.size →
      wpAny (model prog w) (A.under (.builtin "type.__call__" ⟨.ref C :: rest, []⟩)) (call (.ref fI) (.ref e :: rest)) (fun r s' => r = .none ∧ Q (.ref e) s') E ⟨h', g, d, t, os⟩) (hrest : rest.length ≤ sizeLine) :
    wpAny (model prog w) A (call (.ref C) rest) Q E ⟨h, g, d, t, os⟩ := by
  have f1 := tc_lookup
  have f2 := tc_bind (.ref C)
  have hT : (⟨h, g, d, t, os⟩ : Shared).TypeIs (.ref C) "type" := ⟨_, hC, rfl⟩
  refine wpAny_call (codeAny_of_tree ?_)
  show wpAny _ _ (callAny (.ref C) _) _ _ _
  repeat (any_goals (first | assumption | with_reducible refine wpAny_loadPart_at hC ?_ | wp_step))
  refine ⟨rfl, ?_⟩
  refine codeAny_call_builtin_at (Code.quiet_builtin _ (by decide +kernel)) entry_typeCall (wpAny_check_type_call_sub hC (xr_type_call F T hC X hi hfI hfc (fun h' e hm hz => ?_) hrest))
  exact hq h' e hm hz
end
section
variable {w : World} {dp un : Nat} {gd : Option (List Code)} {A : Around} {h₀ : Heap} {L e : Addr} {m : Str → Option Value} {news : List (Addr × Obj)} {s : Shared} {Q E : Value → Shared → Prop}
abbrev excO (C : Addr) (d : Option Addr) (t : Addr) : Obj := { cls := .ref C, dict := d, data := .fields #[.ref t, .none, .none, .none, .bool false, .none] }
def mfO (C : Addr) (o : Obj) : Bool := match o with
  | ⟨.type "type", _, .cls cd, sl⟩ => (match cd.mro, sl.toList with
    | .ref C' :: bm, [_, _, _, _, some (.builtin n), _] => C' == C && n == "Exception.__new__" && !cd.hasDel && (Value.ref C :: bm).contains (.type "Exception") && !(Value.ref C :: bm).contains (.type "AttributeError") && !(Value.ref C :: bm).contains (.type "NameError") && (Value.ref C :: bm).contains (.type "BaseException")
    | _, _ => false)
  | _ => false
theorem mf_cls {K : Frag} {h : Heap} {C : Addr} {o : Obj} (X : K.In h) (ho : K.lookup C = some o) (q : mfO C o = true) : ∃ nm qn N bs bm hdct sn sub ab col dd k0 k1 k2 k3 k5,
    h.get? C = some (excClassObj nm qn C N bs bm hdct sn sub ab col dd k0 k1 k2 k3 k5 "Exception.__new__") ∧ ExcRow C bm := by
  unfold mfO at q
  split at q
  · rename_i dd cd sl
    split at q
    · rename_i C' bm k0 k1 k2 k3 n k5 hm hs
      simp only [Bool.and_eq_true, beq_iff_eq, Bool.not_eq_true'] at q
      obtain ⟨⟨⟨⟨⟨⟨rfl, rfl⟩, hdel⟩, x1⟩, x2⟩, x3⟩, x4⟩ := q
      obtain ⟨nm, bs, mro, ns, qn, hd, sn, sub, ab, col, del⟩ := cd
      dsimp only at hm hdel
      subst hm hdel
      have hsl : sl = #[k0, k1, k2, k3, some (.builtin "Exception.__new__"), k5] := by
        obtain ⟨l⟩ := sl
        simp only at hs
        rw [hs]
      subst hsl
      exact ⟨nm, qn, ns, bs, bm, hd, sn, sub, ab, col, dd, k0, k1, k2, k3, k5, X _ _ ho, x1, x2, x3, x4⟩
    · cases q
  · cases q
theorem exc_init_use {C t : Addr} {x : Str} {t0 : Tok} {K : Frag} {gf : Obj → List (Addr × Obj)} {prog : Program} (F : Fr h₀ L s.heap m) (N : News h₀ L s.heap news) (U : UpdF e (excO C none t) news gf) (hm : (e, excO C none t) ∈ news) {oC : Obj} (X₀ : K.In h₀) (hl : K.lookup C = some oC) (q : mfO C oC = true)
    (h : ∀ D h', Fr h₀ L h' m → News h₀ L h' (gf (excO C none D)) → h'.get? D = some (tupO [.str x t0]) → Q .none { s with heap := h' }) :
    wpAny (model prog w) A (call (.builtin "Exception.__init__") [.ref e, .str x t0]) Q E s := by
  obtain ⟨nm, qn, Nn, bs, bm, hdct, sn, sub, ab, col, dd, k0, k1, k2, k3, k5, hC, T⟩ := mf_cls (X₀.keeps F.keep) hl q
  have he := N.get hm
  have FF := PySem.F.excBase_Exception
  refine wpAny_call (codeAny_call_builtin FF.init.plain FF.initEntry (xr_check_init FF T hC he rfl ?_))
  unfold Builtin.«BaseException.__init__»
  dsimp only
  rw [if_neg (by simp)]
  unfold newTuple Builtin.BaseException.bexcPut
  have he₁ := Heap.get?_push_of_some (h := s.heap) { cls := .type "tuple", data := .seq [Value.str x t0].toArray } he
  refine wpAny_bind (wpAny_newObj_type (wpAny_bind (wpAny_bind (wpAny_field he₁ rfl (x := .ref t) rfl (wpAny_bind (wpAny_setField he₁ rfl (by show 0 < 6; decide) ?_))))) (by show 1 ≤ sizeLine; decide))
  refine wpAny_letGo (wpAny_pure ?_)
  have hne : s.heap.objs.size ≠ e := Nat.ne_of_gt (Heap.lt_size he)
  have O : Own (s.heap.hide e) ((s.heap.push { cls := .type "tuple", data := .seq [Value.str x t0].toArray }).update e (Obj.mapFields (·.setIfInBounds 0 (.ref s.heap.objs.size)))) e (excO C none s.heap.objs.size) := by
    refine ⟨fun b o q => ?_, ?_, Heap.hide_self _ _, ?_⟩
    · have hb : b ≠ e := fun z => by rw [z, Heap.hide_self] at q; cases q
      rw [Heap.get?_update_other _ _ (Ne.symm hb)]
      exact Heap.get?_push_of_some _ (Heap.of_hide q)
    · rw [Heap.hide_size]; simp
    · exact Heap.get?_update_self _ he₁ rfl
  obtain ⟨F', N'⟩ := own_back F N U O
  exact h s.heap.objs.size _ F' N' (by rw [Heap.get?_update_other _ _ (Ne.symm hne)]; exact Heap.get?_push_at rfl rfl)
end

theorem words_p25_init_0 : True := by
  k_with "getMethod type:Exception" => (k_here; k_dflt (refine' method_type (v := Value.builtin "Exception.__init__") ?zqF ?zqX ?zqt ?zqs ?zqe ?zqh ?_; (case zqF => k_asm); (case zqX => k_asm); (case zqt => first | exact rfl | kernel_rfl); (case zqs => decide +kernel); (case zqe => with_unfolding_all rfl); (case zqh => exact rfl); k_whole; (try k_fold)))
  k_with "call builtin:Exception.__init__" => (k_here; k_dflt (refine' exc_init_use ?zqF ?zqN ?zqU ?zqmm ?zqX ?zqhl ?zqq ?_; (case zqF => k_asm); (case zqN => k_asm); (case zqmm => k_mem); (case zqU => k_updF); (case zqX => k_asm); (case zqhl => k_is); (case zqq => first | exact rfl | decide +kernel); k_whole; intro D9 h9 F9 N9 d9; (try dsimp only at N9); (try k_sweep); (try k_fold)))
  trivial
section
variable {prog : Program} {w : World} {A : Around} {h₀ : Heap} {L x C P : Addr} {m : Str → Option Value} {news : List (Addr × Obj)} {s : Shared} {K : Frag} {R : Result → Shared → Prop}
theorem xosa_open {ox : Obj} {od : Option Obj} {name : Str} {tk : Tok} {v : Value} {cd : ClassData} (X : K.In s.heap) (I : InstAt s.heap x ox C od) (hc : clsIn K C = some cd)
    (hm : cd.mro = [.ref C, .ref P, .type "Exception", .type "BaseException", .type "object"]) (ht : findIn K (.ref C) name = some none)
    (h : ∀ b, wpAny (model prog w) A.in1 (PySem.Builtin.ObjectAttr.storeInOwnDict (.ref x) (.ref C) (.str name tk) name v b)
      (fun fin s' => match fin with | .done f => R (.ok f) s' | .again c' => c'.quiet = true ∧ codeAny (model prog w) A c' R s') (fun e s' => R (.error e) s') s) :
    codeAny (model prog w) A (.call (.builtin "object.__setattr__") ⟨[.ref x, .str name tk, v], []⟩) R s := by
  have SF := PySem.F.store_object
  have ne : cd.mro.isEmpty = false := by rw [hm]; rfl
  have has : cd.mro.contains (.type "object") = true := by rw [hm]; simp
  have sub : Looks (model prog w) s.heap (isInstance (.ref x) (.type "object")) true := I.type.andThen (looks_mroIn X (by unfold mroIn; rw [hc, Option.bind_some, if_neg (by rw [ne]; decide), has]))
  refine codeAny_call_builtin SF.slot.plain SF.entry (@check_slot (model prog w) _ _ s "object.__setattr__" "object" "__setattr__" (.ref x) [.str name tk, v] [] _ SF.kind SF.split sub (SF.args (.ref x) (.str name tk) v) ?_)
  have hm' : Looks (model prog w) s.heap (mroOf (.ref C)) cd.mro := (looks_clsIn X hc).andThen .now
  have L3 : Looks (model prog w) s.heap (PySem.Builtin.ObjectAttr.storeTaker? none) none := .now
  rw [osa_eq, refuse_eq]
  refine wpAny_bind (wpAny_bind (I.type.here (wpAny_bind (hm'.here ?_))))
  rw [hm, refuseLoop_ref, refuseLoop_ref, PySem.F.store_Exception.passes]
  refine wpAny_pure (wpAny_bind (I.type.here (wpAny_bind ((looks_findIn X ht).here (wpAny_bind (L3.here ?_))))))
  exact h _
end
section
open PySem.Builtin.ObjectAttr
variable {prog : Program} {w : World} {A : Around} {h₀ : Heap} {L e C P dx : Addr} {m : Str → Option Value} {news : List (Addr × Obj)} {s : Shared} {K : Frag} {E : Value → Shared → Prop}
theorem store_in {Q : Fin → Shared → Prop} {name : Str} {tk : Tok} {v : Value} {pre post : List (Addr × Obj)} {es es' : List DictEntry} {n n' : Nat} (F : Fr h₀ L s.heap m) (N : News h₀ L s.heap (pre ++ (dx, dictOf es n) :: post))
    (hl : (lookIn name (dictOf es n)).isSome = true) (h1 : ∀ p ∈ pre, p.1 ≠ dx) (h2 : ∀ p ∈ post, p.1 ≠ dx)
    (eq : (putL name (PyData.keyHash w.params name) (.str name s.toks) v es, putN name es n) = (es', n')) (hz : es'.length ≤ 1000)
    (h : ∀ h', Fr h₀ L h' m → News h₀ L h' (pre ++ (dx, dictOf es' n') :: post) → Q (.done (.ret .none)) { s with heap := h', toks := s.toks + 1 }) :
    wpAny (model prog w) A (storeInDict dx (.str name tk) name v) Q E s := by
  obtain ⟨e1, e2⟩ := Prod.mk.inj eq
  have e3 : Obj.putName name (PyData.keyHash w.params name) (.str name s.toks) v (dictOf es n) = dictOf es' n' := by rw [putName_dict, e1, e2]
  obtain ⟨U1, U2⟩ := news_upd (f := Obj.putName name (PyData.keyHash w.params name) (.str name s.toks) v) F N h1 h2 e3 rfl
  have D := (N (dx, dictOf es n) (by simp)).1
  have D' := (U2 (dx, dictOf es' n') (by simp)).1
  unfold storeInDict newKeyGuard
  refine wpAny_bind (wpAny_pure (wpAny_bind ?_))
  unfold nsSet
  refine wpAny_bind (wpAny_bind (wpAny_askSetting (wpAny_pure (wpAny_bind (wpAny_mkText (wpAny_bind (wpAny_loadPart D ?_)))))))
  have c : (!es.toArray.any (·.key.isStr name) && es.toArray.any (·.refKey)) = false := by
    unfold lookIn dictOf at hl
    dsimp only at hl
    rw [← Array.any_toList, ← Array.any_toList]
    split at hl
    · rename_i en he
      rw [List.any_eq_true.mpr ⟨en, List.mem_of_find?_eq_some he, List.find?_some he⟩]; rfl
    · split at hl
      · cases hl
      · rename_i z; rw [Bool.not_eq_true] at z; rw [z, Bool.and_false]
  show wpAny _ _ (if aRefKeyMayBeTheName name es.toArray = true then _ else _) _ _ _
  rw [aRefKeyMayBeTheName_at, c]
  refine wpAny_updatePart D ?_
  refine wpAny_bind (wpAny_lookBehind D' (by show _ = _; exact pastItsLine_dict (by rw [List.size_toArray, sizeLine_eq]; omega)) ?_)
  exact wpAny_pure (h _ U1 U2)
theorem eset_dict {Q : Unit → Shared → Prop} {t : Addr} {name : Str} {v : Value} {es es' : List DictEntry} {n n' : Nat} {cd : ClassData} {news' : List (Addr × Obj)} (F : Fr h₀ L s.heap m) (X₀ : K.In h₀) (N : News h₀ L s.heap news) (hm : (e, excO C (some dx) t) ∈ news) (_hD : (dx, dictOf es n) ∈ news) (U : Upd dx (dictOf es n) (dictOf es' n') news news')
    (hs : findIn K (.ref C) "__setattr__" = some (some (.builtin "object.__setattr__"))) (hc : clsIn K C = some cd) (hmro : cd.mro = [.ref C, .ref P, .type "Exception", .type "BaseException", .type "object"]) (hh : cd.hasDict = true) (ht : findIn K (.ref C) name = some none)
    (hl : (lookIn name (dictOf es n)).isSome = true) (eq : (putL name (PyData.keyHash w.params name) (.str name (s.toks + 1)) v es, putN name es n) = (es', n')) (hz : es'.length ≤ 1000)
    (h : ∀ h', Fr h₀ L h' m → News h₀ L h' news' → Q () { s with heap := h', toks := s.toks + 2 }) : wpAny (model prog w) A (setAttr (.ref e) name v) Q E s := by
  obtain ⟨pre, post, rfl, rfl, a, b⟩ := U.split
  have X := X₀.keeps F.keep
  have hx := N.get hm
  have I : InstAt s.heap e (excO C (some dx) t) C (some (dictOf es n)) := ⟨hx, rfl, rfl, N.get (by simp)⟩
  refine set_plain X I hs (xosa_open (s := { s with toks := s.toks + 1 }) X I hc hmro ht fun bb => ?_)
  refine wpAny_bind (wpAny_pure (wpAny_bind (wpAny_bind (wpAny_loadPart hx (wpAny_bind ((looks_clsIn X hc).here (s := { s with toks := s.toks + 1 }) ?_))))))
  rw [hh]
  refine wpAny_pure (a := some dx) ?_
  exact store_in (s := { s with toks := s.toks + 1 }) F N hl a b eq hz fun h' F' N' => h h' F' N'
theorem eset_first {Q : Unit → Shared → Prop} {t : Addr} {name : Str} {v : Value} {es' : List DictEntry} {n' : Nat} {cd : ClassData} {gf : Obj → List (Addr × Obj)} (F : Fr h₀ L s.heap m) (X₀ : K.In h₀) (N : News h₀ L s.heap news) (U : UpdF e (excO C none t) news gf) (hm : (e, excO C none t) ∈ news)
    (hs : findIn K (.ref C) "__setattr__" = some (some (.builtin "object.__setattr__"))) (hc : clsIn K C = some cd) (hmro : cd.mro = [.ref C, .ref P, .type "Exception", .type "BaseException", .type "object"]) (hh : cd.hasDict = true) (ht : findIn K (.ref C) name = some none)
    (eq : (putL name (PyData.keyHash w.params name) (.str name (s.toks + 1)) v [], putN name [] 0) = (es', n')) (hz : es'.length ≤ 1000)
    (h : ∀ D h', Fr h₀ L h' m → News h₀ L h' ((D, dictOf es' n') :: gf (excO C (some D) t)) → (∀ q ∈ news, q.1 < D) → Q () { s with heap := h', toks := s.toks + 2 }) : wpAny (model prog w) A (setAttr (.ref e) name v) Q E s := by
  have X := X₀.keeps F.keep
  have hx := N.get hm
  have I : InstAt s.heap e (excO C none t) C none := ⟨hx, rfl, rfl, trivial⟩
  refine set_plain X I hs (xosa_open (s := { s with toks := s.toks + 1 }) X I hc hmro ht fun bb => ?_)
  refine wpAny_bind (wpAny_pure (wpAny_bind (wpAny_bind (wpAny_loadPart hx (wpAny_bind ((looks_clsIn X hc).here (s := { s with toks := s.toks + 1 }) ?_))))))
  rw [hh]
  have hxs : s.heap.objs.size ≠ e := Nat.ne_of_gt (Heap.lt_size hx)
  have hx₁ : (s.heap.push (dictOf [] 0)).get? e = some (excO C none t) := Heap.get?_push_of_some _ hx
  refine wpAny_bind (wpAny_alloc ?_)
  refine wpAny_bind (wpAny_update hx₁ ?_)
  refine wpAny_pure (a := some s.heap.objs.size) ?_
  have O : Own (s.heap.hide e) ((s.heap.push (dictOf [] 0)).update e fun o => { o with dict := some s.heap.objs.size }) e (excO C (some s.heap.objs.size) t) := by
    refine ⟨fun b o q => ?_, ?_, Heap.hide_self _ _, ?_⟩
    · have hb : b ≠ e := fun z => by rw [z, Heap.hide_self] at q; cases q
      rw [Heap.get?_update_other _ _ (Ne.symm hb)]
      exact Heap.get?_push_of_some _ (Heap.of_hide q)
    · rw [Heap.hide_size]; simp
    · exact Heap.get?_update_self _ hx₁ rfl
  obtain ⟨F', N'⟩ := own_back F N U O
  have N2 : News h₀ L ((s.heap.push (dictOf [] 0)).update e fun o => { o with dict := some s.heap.objs.size }) ([] ++ (s.heap.objs.size, dictOf [] 0) :: gf (excO C (some s.heap.objs.size) t)) := fun q hq => by
    rcases List.mem_cons.mp hq with rfl | hq
    · exact ⟨by rw [Heap.get?_update_other _ _ (Ne.symm hxs)]; exact Heap.get?_push_at rfl rfl, Nat.ne_of_gt F.ns.lt, none_at_size F⟩
    · exact N' q hq
  refine store_in (s := { s with heap := _, toks := s.toks + 1 }) F' N2 rfl (fun _ z => nomatch z) (fun p hp q => ?_) eq hz fun h' F'' N'' => h _ h' F'' N'' fun q hq => Heap.lt_size (N q hq).1
  have there : ∃ o, s.heap.get? p.1 = some o := by
    obtain ⟨pre, post, e1, hg, _, _⟩ := U.split
    rw [hg] at hp
    rcases List.mem_append.mp hp with hp | hp
    · exact ⟨_, (N p (by rw [e1]; exact List.mem_append_left _ hp)).1⟩
    · rcases List.mem_cons.mp hp with rfl | hp
      · exact ⟨_, hx⟩
      · exact ⟨_, (N p (by rw [e1]; exact List.mem_append_right _ (.tail _ hp))).1⟩
  obtain ⟨o, ho⟩ := there
  exact absurd q (Nat.ne_of_lt (Heap.lt_size ho))
end
theorem words_p25_init_1 : True := by
  k_with "setAttr ref" => (k_here; k_dflt (refine' eset_first ?zqF ?zqX ?zqN ?zqU ?zqmm ?zqhs ?zqhc ?zqhmro ?zqhh ?zqht ?zqeq ?zqhz ?_; (case zqF => k_asm); (case zqX => k_asm); (case zqN => k_asm); (case zqmm => k_mem); (case zqU => k_updF); (case zqhs => k_is); (case zqhc => k_is); (case zqhmro => exact rfl); (case zqhh => exact rfl); (case zqht => k_is); (case zqeq => k_put); (case zqhz => exact Nat.le_of_ble_eq_true rfl); k_whole; intro D9 h9 F9 N9 l9; (try k_lt l9); (try dsimp only at N9); (try k_sweep); (try k_fold)))
  k_with "setAttr ref" => (k_here; k_dflt (refine' eset_dict ?zqF ?zqX ?zqN ?zqmm ?zqhD ?zqU ?zqhs ?zqhc ?zqhmro ?zqhh ?zqht ?zqhl ?zqeq ?zqhz ?_; (case zqF => k_asm); (case zqX => k_asm); (case zqN => k_asm); (case zqmm => k_mem); (case zqhD => k_mem); (case zqhs => k_is); (case zqhc => k_is); (case zqhmro => exact rfl); (case zqhh => exact rfl); (case zqht => k_is); (case zqeq => k_put); (case zqU => k_upd); (case zqhl => first | exact rfl | decide +kernel); (case zqhz => exact Nat.le_of_ble_eq_true rfl); k_whole; intro h9 F9 N9; (try dsimp only at N9); (try k_sweep); (try k_fold)))
  trivial
section
variable {w : World} {dp un : Nat} {gd : Option (List Code)} {base g : Heap} {envs : List Env} {p : Program} {loose : List Str} {mean : ExcName → Option Value} {mg mb : Str → Option Value} {s : Shared} {Q E : Value → Shared → Prop} {l : Addr}
abbrev lendD (w : World) (x : Str) (t0 t1 t2 : Tok) : Obj := dictOf [⟨PyData.keyHash w.params (Str.ofString "message"), .str (Str.ofString "message") t1, .str x t0⟩, ⟨PyData.keyHash w.params (Str.ofString "spot"), .str (Str.ofString "spot") t2, .int 0 208⟩] 2
set_option maxHeartbeats 600000 in
theorem lendInit_ok (G : Gd w base envs p loose mean mg mb g) {t : Addr} {x : Str} {t0 : Tok} (O : Own g s.heap l (excO 71 none t)) (hdp : dp + 10 < recursionLimit) (hu : un + 100 < cLine)
    (hQ : ∀ D T t1 t2 h' tk', Own g h' l (excO 71 (some D) T) → h'.get? D = some (lendD w x t0 t1 t2) → g.get? D = none → D ≠ l → Q .none { s with heap := h', toks := tk' }) : wpAny (model PG w) (Au dp un gd envs) (call (.ref 36) [.ref l, .str x t0]) Q E s := by
  have H0 : PySem.Challenge.rw_xm0611_01 = PySem.Challenge.rw_xm0611_01 ∧ Mine.hd.heap_39 = Mine.hd.heap_39 := ⟨rfl, rfl⟩
  revert H0; k_fill; intro _
  (k_dflt (refine' enterH (binds := [(Str.ofString "self", Value.ref l), (Str.ofString "message", Value.str x t0), (Str.ofString "spot", Value.int 0 208)]) ?G ?O ?k6 ?k7 ?k8 ?k9 ?kB ?_ ?c2 ?c3 ?c4 ?c5; (case G => assumption); (case O => assumption); (case k6 => k_is); (case k7 => k_is); (case k8 => ktr_room); (case k9 => first | exact BindsTo.of_eq rfl | exact binds_K ((Gd.kin (by assumption)).keeps (Own.sub (by assumption))) rfl (by k_is) rfl rfl rfl); (case c5 => decide); (case kB => exact locs rfl); (case c2 => exact rfl); (case c3 => exact rfl); (case c4 => exact rfl); k_whole; intro L' h' F' N' B' X' T'; (try dsimp only); (try k_fold)))
  k_steps
  rename News _ _ _ _ => NN
  rename Fr _ _ _ _ => FF
  exact hQ _ _ _ _ _ _ (own_end O FF NN (by k_mem)) (NN.get (.head _)) (NN _ (.head _)).2.2 (by k_ne)
end

section
variable {w : World} {A₀ : Around} {dp un : Nat} {gd : Option (List Code)} {base h₀ : Heap} {L l : Addr} {m : Str → Option Value} {outer : List Env} {env : Env} {p : Program} {loose : List Str} {mean : ExcName → Option Value} {mg mb : Str → Option Value} {s : Shared} {Q E : Value → Shared → Prop} {news : List (Addr × Obj)} {gf : Obj → List (Addr × Obj)}
theorem lendInit_use {t : Addr} {x : Str} {t0 : Tok} (F : Fr h₀ L s.heap m) (N : News h₀ L s.heap news) (U : UpdF l (excO 71 none t) news gf) (B : Below A₀ base outer h₀) (X : (Mine.hd.heap_39 w.params).In h₀) (T : Top p loose mean mg mb h₀) (hf : env.frame = some L) (hk : env.scope.kind = .function)
    (hm : (l, excO 71 none t) ∈ news) (hdp : dp + 10 < recursionLimit) (hu : un + 100 < cLine)
    (hQ : ∀ D T t1 t2 h' tk', Fr h₀ L h' m → News h₀ L h' ((D, lendD w x t0 t1 t2) :: gf (excO 71 (some D) T)) → (∀ q ∈ news, @Ne Nat q.1 D) → Q .none { s with heap := h', toks := tk' }) : wpAny (model PG w) (Au dp un gd (env :: outer)) (call (.ref 36) [.ref l, .str x t0]) Q E s :=
  lendInit_ok (gd_hide F N hm B X T hf hk) (own_of N hm) hdp hu fun D T t1 t2 h' tk' O gD nD ne => by
    have q := own_back F N U O
    have nD' : s.heap.get? D = none := by rw [Heap.hide_ne _ ne] at nD; exact nD
    refine hQ D T t1 t2 h' tk' q.1 (fun z hz => ?_) (freshN N nD')
    rcases List.mem_cons.mp hz with rfl | hz
    · refine ⟨gD, fun y => ?_, ?_⟩
      · obtain ⟨oL, es, ep, hL, _⟩ := F.ns
        dsimp only at y
        rw [← y, nD'] at hL; cases hL
      · cases z : h₀.get? D with
        | none => rfl
        | some o => rw [F.keep _ _ z] at nD'; cases nD'
    · exact q.2 z hz
end
theorem words_p26_mach_0 : True := by
  k_with "call ref" => (k_here; (with_reducible show wpAny _ _ (call (Value.ref 36) _) _ _ _); k_dflt (refine' lendInit_use ?zqF ?zqN ?zqU ?zqB ?zqX ?zqT ?zqhf ?zqhk ?zqmm ?zqhdp ?zqhu ?_; (case zqF => k_asm); (case zqN => k_asm); (case zqmm => k_mem); (case zqU => k_updF); (case zqB => k_asm); (case zqX => k_asm); (case zqT => k_asm); (case zqhf => exact rfl); (case zqhk => exact rfl); (case zqhdp => ktr_room); (case zqhu => ktr_units); k_whole; intro D9 T9 t9 t8 h9 tk9 F9 N9 l9; (try dsimp only at N9); (try k_sweep); (try k_fold)))
  trivial
section
variable {w : World} {dp un : Nat} {gd : Option (List Code)} {base g : Heap} {envs : List Env} {p : Program} {loose : List Str} {mean : ExcName → Option Value} {mg mb : Str → Option Value} {s : Shared} {Q E : Value → Shared → Prop} {l : Addr}
abbrev machD (w : World) (x : Str) (t0 t1 t2 t3 t4 : Tok) : Obj := dictOf [⟨PyData.keyHash w.params (Str.ofString "message"), .str (Str.ofString "message") t1, .str x t0⟩, ⟨PyData.keyHash w.params (Str.ofString "spot"), .str (Str.ofString "spot") t2, .int 0 208⟩,
  ⟨PyData.keyHash w.params (Str.ofString "kind"), .str (Str.ofString "kind") t3, .str (Str.ofString "division") t4⟩] 3
set_option maxHeartbeats 600000 in
theorem machInit_ok (G : Gd w base envs p loose mean mg mb g) {t : Addr} {t0 t3 : Tok} (O : Own g s.heap l (excO 71 none t)) (hdp : dp + 20 < recursionLimit) (hu : un + 200 < cLine)
    (hQ : ∀ D T x u0 u1 u2 u3 h' tk', Own g h' l (excO 71 (some D) T) → h'.get? D = some (machD w x u0 u1 u2 u3 t0) → g.get? D = none → D ≠ l → Q .none { s with heap := h', toks := tk' }) : wpAny (model PG w) (Au dp un gd envs) (call (.ref 68) [.ref l, .str (Str.ofString "division") t0, .str (Str.ofString "a division by nought that nothing noticed") t3]) Q E s := by
  have H0 : PySem.Challenge.rw_xm0611_01 = PySem.Challenge.rw_xm0611_01 ∧ Mine.hd.heap_39 = Mine.hd.heap_39 := ⟨rfl, rfl⟩
  revert H0; k_fill; intro _
  (k_dflt (refine' enterH (binds := [(Str.ofString "self", Value.ref l), (Str.ofString "kind", Value.str (Str.ofString "division") t0), (Str.ofString "message", Value.str (Str.ofString "a division by nought that nothing noticed") t3)]) ?G ?O ?k6 ?k7 ?k8 ?k9 ?kB ?_ ?c2 ?c3 ?c4 ?c5; (case G => assumption); (case O => assumption); (case k6 => k_is); (case k7 => k_is); (case k8 => ktr_room); (case k9 => first | exact BindsTo.of_eq rfl | exact binds_K ((Gd.kin (by assumption)).keeps (Own.sub (by assumption))) rfl (by k_is) rfl rfl rfl); (case c5 => decide); (case kB => exact locs rfl); (case c2 => exact rfl); (case c3 => exact rfl); (case c4 => exact rfl); k_whole; intro L' h' F' N' B' X' T'; (try dsimp only); (try k_fold)))
  k_steps
  rename News _ _ _ _ => NN
  rename Fr _ _ _ _ => FF
  exact hQ _ _ _ _ _ _ _ _ _ (own_end O FF NN (by k_mem)) (NN.get (.head _)) (NN _ (.head _)).2.2 (by first | k_ne | exact Ne.symm (by assumption))
end

section
variable {w : World} {dp un : Nat} {gd : Option (List Code)} {base : Heap} {envs : List Env} {p : Program} {loose : List Str} {mean : ExcName → Option Value} {mg mb : Str → Option Value} {s : Shared} {Q E : Value → Shared → Prop} {l : Addr}
theorem machCall_ok (G : Gd w base envs p loose mean mg mb s.heap) {t0 t3 : Tok} {oC oI : Obj} (hl : (Mine.hd.heap_39 w.params).lookup 71 = some oC) (q : mfO 71 oC = true) (hi : findIn (Mine.hd.heap_39 w.params) (.ref 71) "__init__" = some (some (.ref 68)))
    (hfI : (Mine.hd.heap_39 w.params).lookup 68 = some oI) (hfc : oI.cls = .type "function") (hdp : dp + 30 < recursionLimit) (hu : un + 300 < cLine)
    (hQ : ∀ e D T x u0 u1 u2 u3 h' tk', Own s.heap h' e (excO 71 (some D) T) → h'.get? D = some (machD w x u0 u1 u2 u3 t0) → s.heap.get? D = none → D ≠ e → Q (.ref e) { s with heap := h', toks := tk' }) :
    wpAny (model PG w) (Au dp un gd envs) (call (.ref 71) [.str (Str.ofString "division") t0, .str (Str.ofString "a division by nought that nothing noticed") t3]) Q E s := by
  obtain ⟨nm, qn, Nn, bs, bm, hdct, sn, sub, ab, col, dd, k0, k1, k2, k3, k5, hC, T⟩ := mf_cls G.kin hl q
  refine xr_call (h := s.heap) PySem.F.excBase_Exception T hC G.kin hi (G.kin _ _ hfI) hfc (fun h' e hm hz => ?_) (by show 2 ≤ sizeLine; decide)
  obtain ⟨t, he, ht, ht2⟩ := hm.there
  have G' : Gd w base envs p loose mean mg mb s.heap := G
  have O : Own s.heap h' e (excO 71 none t) := ⟨hm.keeps, hz, hm.new, he⟩
  have eA : (Au dp un gd envs).under (Code.builtin "type.__call__" ⟨[Value.ref 71, .str (Str.ofString "division") t0, .str (Str.ofString "a division by nought that nothing noticed") t3], []⟩) = Au (dp + 1) (un + 1) gd envs := by
    first | rfl | kernel_rfl
  rw [eA]
  refine machInit_ok (s := ⟨h', s.gens, s.drawn, s.toks, s.os⟩) (dp := dp + 1) (un := un + 1) (gd := gd) (envs := envs) G O (by omega) (by omega) fun D T x u0 u1 u2 u3 h2 tk2 O2 gD nD ne => ?_
  exact ⟨rfl, hQ e D T x u0 u1 u2 u3 h2 tk2 O2 gD nD ne⟩
end

/-- the frames of a stack -/
abbrev frs (l : List Env) : List Addr := l.filterMap (·.frame)
/-- all stays, but the slots of the frames -/
structure TS (fs : List Addr) (g h : Heap) : Prop where
  other : ∀ b o, g.get? b = some o → b ∉ fs → h.get? b = some o
  any : ∀ b o, g.get? b = some o → ∃ sl, h.get? b = some { o with slots := sl }
theorem TS.of_stays {fs : List Addr} {g h : Heap} (k : g.StaysIn h) : TS fs g h := ⟨fun b o e _ => k b o e, fun b o e => ⟨o.slots, k b o e⟩⟩
theorem TS.then_ {fs : List Addr} {g h h' : Heap} (x : TS fs g h) (k : h.StaysIn h') : TS fs g h' := ⟨fun b o e n => k _ _ (x.other b o e n), fun b o e => let ⟨sl, q⟩ := x.any b o e; ⟨sl, k _ _ q⟩⟩
theorem TS.after {fs : List Addr} {g h h' : Heap} (k : g.StaysIn h) (x : TS fs h h') : TS fs g h' := ⟨fun b o e n => x.other b o (k _ _ e) n, fun b o e => x.any b o (k _ _ e)⟩
theorem TS.trans {fs : List Addr} {g h h' : Heap} (x : TS fs g h) (y : TS fs h h') : TS fs g h' :=
  ⟨fun b o e n => y.other b o (x.other b o e n) n, fun b o e => let ⟨_, q⟩ := x.any b o e; let ⟨sl, q'⟩ := y.any b _ q; ⟨sl, q'⟩⟩
theorem TS.all {g h : Heap} (x : TS [] g h) : g.StaysIn h := fun b o e => x.other b o e (by simp)
theorem TS.tup {fs : List Addr} {g h : Heap} (x : TS fs g h) {a : Addr} {v : Array Value} (T : IsTup g a v) : IsTup h a v := by
  obtain ⟨o, ho, hc, n, hd⟩ := T
  obtain ⟨sl, q⟩ := x.any _ _ ho
  exact ⟨_, q, hc, n, hd⟩
theorem TS.lst {fs : List Addr} {g h : Heap} (x : TS fs g h) {a : Addr} {v : Array Value} (T : g.IsList a v) : h.IsList a v := by
  obtain ⟨o, ho, hc, n, hd⟩ := T
  obtain ⟨sl, q⟩ := x.any _ _ ho
  exact ⟨_, q, hc, n, hd⟩
theorem frame_ne {g base : Heap} {l : List Env} (K : g.FunFrames base l) {b : Addr} (h : g.get? b = none) : b ∉ frs l := fun m => by
  obtain ⟨_, o, ho, _⟩ := K.mem m
  rw [h] at ho; cases ho

/-- the own exception e flies: the frames of outer lie below; g is the heap that is kept -/
structure Fly (w : World) (g : Heap) (outer : List Env) (e : Addr) (h : Heap) : Prop where
  ex : ∃ B a0 D x u0 u1 u2 u3 t0, (∀ b o, g.get? b = some o → b ∉ frs outer → B.get? b = some o) ∧ Heap.FlyingW B outer e (.ref 71) a0 h ∧ (∃ oe, h.get? e = some oe ∧ oe.dict = some D) ∧
    B.get? D = some (machD w x u0 u1 u2 u3 t0) ∧ g.get? D = none ∧ D ≠ e
  up : g.UpToSlots h
  new : g.get? e = none
theorem Fly.ts {w : World} {g h base : Heap} {outer : List Env} {e : Addr} (R : Fly w g outer e h) (K : g.FunFrames base outer) : TS (frs outer) g h := by
  obtain ⟨B, a0, D, x, u0, u1, u2, u3, t0, hB, hfl, _, _⟩ := R.ex
  refine ⟨fun b o q n => hfl.1 _ _ (hB b o q n), fun b o q => ?_⟩
  by_cases m : b ∈ frs outer
  · obtain ⟨_, o', ho', hd⟩ := K.mem m
    rw [q] at ho'; cases ho'
    exact R.up b o q hd
  · exact ⟨o.slots, hfl.1 _ _ (hB b o q m)⟩
theorem Fly.sub {w : World} {g g' h : Heap} {outer : List Env} {e : Addr} (R : Fly w g outer e h) (k : g'.StaysIn g) : Fly w g' outer e h := by
  obtain ⟨B, a0, D, x, u0, u1, u2, u3, t0, hB, hfl, hd, hD, nD, ne⟩ := R.ex
  exact ⟨⟨B, a0, D, x, u0, u1, u2, u3, t0, fun b o q n => hB b o (k _ _ q) n, hfl, hd, hD, kts_none k nD, ne⟩, fun b o q n => R.up b o (k _ _ q) n, kts_none k R.new⟩
section
variable {M : Model} {A : Around} {w : World} {E : Value → Shared → Prop} {s' : Shared} {base g g₂ : Heap} {outer : List Env} {env : Env} {L e D T : Addr} {m : Str → Option Value} {Q : Unit → Shared → Prop}
theorem dict_stays {h h' : Heap} {e D : Addr} (x : ∃ oe, h.get? e = some oe ∧ oe.dict = some D) (k : DK h h') : ∃ oe, h'.get? e = some oe ∧ oe.dict = some D := by
  obtain ⟨oe, he, hd⟩ := x
  obtain ⟨o', h1, h2⟩ := k _ _ he
  exact ⟨o', h1, h2.trans hd⟩
theorem leave_first {x : Str} {u0 u1 u2 u3 t0 : Tok} (K : Below A base outer g) (F : Fr g L s'.heap m) (hf : env.frame = some L) (hk : env.scope.kind = .function)
    (he : s'.heap.get? e = some (excO 71 (some D) T)) (fe : g.get? e = none) (hD : s'.heap.get? D = some (machD w x u0 u1 u2 u3 t0)) (fD : g.get? D = none) (nL : D ≠ L) (ne : D ≠ e)
    (hQ : ∀ h', Fly w g outer e h' → Q () { s' with heap := h' }) : wpAny M (A.deeper env) (leaving env (.ref e)) Q E s' := by
  have K' := pushX K F hf hk
  have hin : ∀ env' ∈ (env :: outer), ∀ b, env'.frame = some b → b ∈ e :: frs (env :: outer) := fun env' he b hb => .tail _ (List.mem_filterMap.mpr ⟨env', he, hb⟩)
  have hfs : ∀ b, b ∈ frs (env :: outer) → b = L ∨ b ∈ frs outer := fun b hb => by
    obtain ⟨env', h1, h2⟩ := List.mem_filterMap.mp hb
    rcases List.mem_cons.mp h1 with rfl | h1
    · exact .inl (Option.some.inj (h2.symm.trans hf))
    · exact .inr (List.mem_filterMap.mpr ⟨env', h1, h2⟩)
  refine wpAny_KD (KD.leaving _ _) (wpAny_leaving_firstW (base := hideAll s'.heap (e :: frs (env :: outer))) K'.stack (funFrames_hide K'.frames hin) hf he (fun b o q => of_hideAll _ q) (hideAll_none _ (.head _)) rfl rfl rfl fun h' hL dk => ?_)
  obtain ⟨k1, ⟨_, _, k2⟩, k3, k4⟩ := hL
  refine hQ h' ⟨⟨_, _, D, x, u0, u1, u2, u3, t0, fun b o q n => hideAll_get _ (F.keep b o q) fun hm => ?_, ⟨k1, hideAll_none _ (.head _), k2, k3⟩, dict_stays ⟨_, he, rfl⟩ dk, hideAll_get _ hD fun hm => ?_, fD, ne⟩, (Heap.UpToSlots.of_keeps F.keep).trans k4, fe⟩
  · rcases List.mem_cons.mp hm with rfl | hm
    · rw [fe] at q; cases q
    · rcases hfs b hm with rfl | hm
      · rw [kts_self F] at q; cases q
      · exact n hm
  · rcases List.mem_cons.mp hm with z | hm
    · exact ne z
    · rcases hfs D hm with z | hm
      · exact nL z
      · exact frame_ne K.frames fD hm
theorem leave_next (K : A.frames = some outer) (hf : env.frame = some L) (nL : g.get? L = none) (st : g.StaysIn g₂) (R : Fly w g₂ (env :: outer) e s'.heap)
    (hQ : ∀ h', Fly w g outer e h' → Q () { s' with heap := h' }) : wpAny M (A.deeper env) (leaving env (.ref e)) Q E s' := by
  obtain ⟨B, a0, D, x, u0, u1, u2, u3, t0, hB, hfl, hd, hD, nD, ne⟩ := R.ex
  refine wpAny_KD (KD.leaving _ _) (wpAny_leaves_onW (Around.frames_deeper K) hf hfl fun h' x1 x2 dk => ?_)
  refine hQ h' ⟨⟨B, a0, D, x, u0, u1, u2, u3, t0, fun b o q n => hB b o (st _ _ q) fun hm => ?_, x1, dict_stays hd dk, hD, kts_none st nD, ne⟩, (Heap.UpToSlots.of_keeps st).trans (R.up.trans x2), kts_none st R.new⟩
  obtain ⟨env', h1, h2⟩ := List.mem_filterMap.mp hm
  rcases List.mem_cons.mp h1 with rfl | h1
  · obtain rfl : b = L := Option.some.inj (h2.symm.trans hf)
    rw [nL] at q; cases q
  · exact n (List.mem_filterMap.mpr ⟨env', h1, h2⟩)
end

def RaisX (w : World) (E : Value → Shared → Prop) (v : Value) (s₁ : Shared) : Prop :=
  ∃ e d t, v = .ref e ∧ (Mine.hd.heap_39 w.params).In s₁.heap ∧ s₁.heap.get? e = some (excO 71 d t) ∧ E (.ref e) s₁
section
variable {prog : Program} {w : World} {A : Around} {s : Shared} {Q : Flow → Shared → Prop} {E : Value → Shared → Prop}
theorem raise_X {x : Expr} {pos : Pos} {env : Env} {oC : Obj} (hl : (Mine.hd.heap_39 w.params).lookup 71 = some oC) (q : mfO 71 oC = true) (hh : A.handled = none)
    (h : wpAny (model prog w) A (eval x env) (fun v s₁ => RaisX w E v s₁) E s) : wpAny (model prog w) A (exec (.Raise (some x) none pos) env) Q E s := by
  rw [arm_exec_Raise]
  refine wpAny_bind (wpAny_standAt ?_)
  show wpAny _ _ (raiseStmt env (some (do let v ← eval x env; standAt pos; pure v)) none) _ _ _
  unfold raiseStmt
  refine wpAny_bind (wpAny_bind (wpAny_mono h (fun v s₁ h₁ => wpAny_bind (wpAny_standAt (wpAny_pure ?_))) fun _ _ x => x))
  obtain ⟨e, d, t, rfl, X, he, hE⟩ := h₁
  obtain ⟨nm, qn, Nn, bs, bm, hdct, sn, sub, ab, col, dd, k0, k1, k2, k3, k5, hC, T⟩ := mf_cls X hl q
  have hcB := T.base
  obtain ⟨hp, g, dr, tk, os⟩ := s₁
  repeat (first | with_reducible refine wpAny_loadPart_at he ?_ | with_reducible refine wpAny_loadPart_at hC ?_ | (with_reducible refine wpAny_isSubtype_exc hC ?_; rw [hcB]) | wp_step)
  exact wpAny_raiseNew_none hh hE
end
section
variable {M : Model} {A : Around} {w : World} {E : Value → Shared → Prop} {s' : Shared} {base g h₇ : Heap} {outer : List Env} {env : Env} {L e D T : Addr} {m : Str → Option Value} {Q : Unit → Shared → Prop}
theorem leave_firstO {x : Str} {u0 u1 u2 u3 t0 : Tok} (O : Own h₇ s'.heap e (excO 71 (some D) T)) (F₇ : Fr g L h₇ m) (K : Below A base outer g) (hf : env.frame = some L) (hk : env.scope.kind = .function)
    (hD : s'.heap.get? D = some (machD w x u0 u1 u2 u3 t0)) (fD : h₇.get? D = none) (ne : D ≠ e)
    (hQ : ∀ h', Fly w g outer e h' → Q () { s' with heap := h' }) : wpAny M (A.deeper env) (leaving env (.ref e)) Q E s' :=
  leave_first K (Fr.keeps F₇ O.sub) hf hk O.at_ (kts_none F₇.keep O.fresh) hD (kts_none F₇.keep fD) (fun z => by obtain ⟨oL, es, ep, hL, _⟩ := F₇.ns; rw [z, hL] at fD; cases fD) ne hQ
end
theorem words_p29_raise_0 : True := by
  k_with "call ref" => (k_here; (with_reducible show wpAny _ _ (call (Value.ref 71) _) _ _ _); k_dflt (refine' machCall_ok (gd_of ?zqF ?zqB ?zqX ?zqT ?zqhf ?zqhk) ?zqhl ?zqq ?zqhi ?zqhI ?zqhc ?zqhdp ?zqhu ?_; (case zqF => k_asm); (case zqX => k_asm); (case zqT => k_asm); (case zqB => k_asm); (case zqhf => exact rfl); (case zqhk => exact rfl); (case zqhl => k_is); (case zqq => first | exact rfl | decide +kernel); (case zqhi => k_is); (case zqhI => k_is); (case zqhc => exact rfl); (case zqhdp => ktr_room); (case zqhu => ktr_units); k_whole; intro e9 D9 T9 x9 u0 u1 u2 u3 h9 tk9 O9 d9 n9 ne9; (try dsimp only); (try k_sweep); (try k_fold)))
  k_with "exec Raise some none" => (k_here; k_dflt (refine' raise_X ?zqhl ?zqq ?zqhh ?_; (case zqhl => k_is); (case zqq => first | exact rfl | decide +kernel); (case zqhh => exact rfl); k_whole; (try dsimp only)))
  k_with "RaisX" => (k_dflt (refine' ⟨_, _, _, rfl, ?zqX, Own.at_ ?zqO, ?_⟩; (case zqO => assumption); (case zqX => exact Frag.In.keeps (by k_asm) (Fr.keeps (by k_asm) (Own.sub (by assumption))).keep); k_whole; (try dsimp only)))
  k_with "leaving ref" => (k_here; k_dflt (refine' leave_firstO ?zqO ?zqF ?zqK ?zqhf ?zqhk ?zqhD ?zqfD ?zqne ?_; (case zqO => assumption); (case zqF => assumption); (case zqK => k_asm); (case zqhf => exact rfl); (case zqhk => exact rfl); (case zqhD => assumption); (case zqfD => assumption); (case zqne => assumption); k_whole; intro h9 R9; (try dsimp only)))
  trivial
section
variable {w : World} {dp un : Nat} {gd : Option (List Code)} {base : Heap} {envs : List Env} {p : Program} {loose : List Str} {mean : ExcName → Option Value} {mg mb : Str → Option Value} {s : Shared} {Q E : Value → Shared → Prop}
set_option maxHeartbeats 600000 in
theorem reckDiv_ok (G : Gd w base envs p loose mean mg mb s.heap) {k : Kd} {o : Ar} {a b : Int} {lt : Addr} {x0 : Value} {t1 t t2 u : Tok} (bb : Bd b) (hl : IsTup s.heap lt [x0, Value.str k.str t1].toArray) (hv : chkV k o a b = none) (hdp : dp + 60 < recursionLimit) (hu : un + 600 < cLine)
    (hE : ∀ e h' tk', Fly w s.heap envs e h' → E (.ref e) { s with heap := h', toks := tk' }) : wpAny (model PG w) (Au dp un gd envs) (call (.ref 530) [.ref lt, .str o.str t2, .int a t, .int b u]) Q E s := by
  have H0 : PySem.Challenge.rw_xm0611_01 = PySem.Challenge.rw_xm0611_01 ∧ Mine.hd.heap_39 = Mine.hd.heap_39 := ⟨rfl, rfl⟩
  revert H0; k_fill; intro _
  (k_dflt (refine' enter0 (binds := [(Str.ofString "t", Value.ref lt), (Str.ofString "op", Value.str o.str t2), (Str.ofString "a", Value.int a t), (Str.ofString "b", Value.int b u)]) ?G ?k6 ?k7 ?k8 ?k9 ?kB ?_ ?c2 ?c3 ?c4 ?c5; (case G => assumption); (case k6 => k_is); (case k7 => k_is); (case k8 => ktr_room); (case k9 => first | exact BindsTo.of_eq rfl | exact binds_K (Gd.kin (by assumption)) rfl (by k_is) rfl rfl rfl); (case c5 => decide); (case kB => exact locs rfl); (case c2 => exact rfl); (case c3 => exact rfl); (case c4 => exact rfl); k_whole; intro L' h' F' N' B' X' T'; (try dsimp only); (try k_fold)))
  k_steps
  exact hE _ _ _ (by assumption)
end

section
variable {prog : Program} {w : World} {A : Around} {E : Value → Shared → Prop} {s : Shared} {K : Frag} {x C : Addr} {ox : Obj} {od : Option Obj} {name : Str} {expr : Bool} {Q : Value → Shared → Prop}
theorem xget_value {v : Value} (X : K.In s.heap) (I : InstAt s.heap x ox C od) (hga : findIn K (.ref C) "__getattribute__" = some (some (.builtin "BaseException.__getattribute__"))) (hk : findIn K (.ref C) "__getattr__" = some none)
    (hb : mroIn K C (.type "BaseException") = some true) (hf : findObj K C od name = some (.value v)) (hh : handedIn v = true) (h : Q v { s with toks := s.toks + 1 }) : wpAny (model prog w) A (getAttr (.ref x) name expr) Q E s := by
  obtain ⟨hp, g, d, t, os⟩ := s
  have L0 := I.type (M := model prog w)
  have L1 := looks_findIn (M := model prog w) X hga
  have L2 := looks_findIn (M := model prog w) X hk
  have L3 := looks_mroIn (M := model prog w) X hb
  have L4 := looks_find (M := model prog w) X I hf
  have f3 := PySem.F.attr_Exception.ga.bind (.ref x)
  have hx0 : (expr && onTheHeap (Value.builtin "BaseException.__getattribute__")) = false := by cases expr <;> rfl
  have hx2 : (Value.builtin "BaseException.__getattribute__" == Value.builtin "object.__getattribute__") = false := by decide +kernel
  have hx1 : (onTheHeap (Value.ref C) && Value.builtin "BaseException.__getattribute__" == Value.builtin "object.__getattribute__") = false := by rw [hx2, Bool.and_false]
  unfold getAttr getAttrBy
  refine wpAny_bind (wpAny_mkText (wpAny_holding (wpAny_bind (L0.at (wpAny_bind (L1.at ?_))))))
  dsimp only
  rw [hx1]
  rw [if_neg (by decide)]
  unfold getAttrByItsOwn hookBefore
  rw [show onTheHeap (Value.ref C) = true from rfl, if_pos rfl]
  refine wpAny_bind (L2.at ?_)
  unfold callGetattribute
  rw [hx0, if_neg (by decide)]
  unfold boundAndCalled
  repeat (any_goals (first | assumption | wp_step))
  have sub : Looks (model prog w) hp (isInstance (.ref x) (.type "BaseException")) true := I.type.andThen L3
  refine codeAny_call_builtin PySem.F.attr_Exception.ga.plain PySem.F.entry_bexc_ga (@check_slot (model prog w) _ _ ⟨hp, g, d, t + 1, os⟩ "BaseException.__getattribute__" "BaseException" "__getattribute__" (.ref x) [.str name t] [] _ (by decide +kernel) (by decide +kernel) sub (PySem.F.args_bexc_ga (.ref x) (.str name t)) ?_)
  unfold Builtin.«object.__getattribute__»
  refine wpAny_bind (wpAny_pure (wpAny_bind (wpAny_pure (wpAny_bind (L0.at (wpAny_bind (L4.at ?_)))))))
  refine wpAny_pure ?_
  show wpAny _ _ (handedOut v) _ _ _
  rw [handedOut_of hh]; exact wpAny_pure h
end
section
variable {prog : Program} {w : World} {A₀ : Around} {E : Value → Shared → Prop} {s' : Shared} {base g G : Heap} {outer : List Env} {L a e : Addr} {m : Str → Option Value} {name : Str} {scope : Scope} {cd : Value}
  {n x : Str} {b₀ : Stmt} {suite : List Stmt} {pos np : Pos} {rest : List ExceptHandler} {Q : Flow → Shared → Prop} {led : List (Addr × Obj)} {p : Program} {loose : List Str} {mean : ExcName → Option Value} {mg mb : Str → Option Value}
theorem caught_X (R : Fly w G (envOf name scope L a cd :: outer) e s'.heap) (F : Fr g L G m) (N : News g L G led) (K : Below A₀ base outer g) (XB : (Mine.hd.heap_39 w.params).In base) (TB : Top p loose mean mg mb base)
    (ex : nsIn (Mine.hd.heap_39 w.params) mainGlobals x = some (some (.ref 71))) (q : ktsIn (Mine.hd.heap_39 w.params) 71 "BaseException" = true)
    (k : ∀ h' g' tk D oe ws tx u0 u1 u2 u3 t0, KtsTurn (frs outer) g g' → Fr g' L h' (fun y => if y = n then some (.ref e) else m y) → News g' L h' ((e, oe) :: (D, machD w tx u0 u1 u2 u3 t0) :: led) → oe.cls = .ref 71 → oe.dict = some D → oe.data = .fields ws →
      Below A₀ base outer g' → (Mine.hd.heap_39 w.params).In g' → Top p loose mean mg mb g' →
      wpAny (model prog w) ((A₀.deeper (envOf name scope L a cd)).mark (some (.ref e))) (execs (b₀ :: suite) (envOf name scope L a cd))
        (fun f s₄ => wpAny (model prog w) (A₀.deeper (envOf name scope L a cd)) (do bindName (envOf name scope L a cd) n .none; unbindBehindTheSuite (envOf name scope L a cd) n pos) (fun _ s₅ => Q f s₅) E s₄)
        (AsSuiteRaised (model prog w) ((A₀.deeper (envOf name scope L a cd)).mark (some (.ref e))) (envOf name scope L a cd) n pos (notedBy (model prog w) ((A₀.deeper (envOf name scope L a cd)).mark (some (.ref e))) (envOf name scope L a cd) (cameBackBy (model prog w) (A₀.deeper (envOf name scope L a cd)) (envOf name scope L a cd) E)))
        { s' with heap := h', toks := tk })
    (hk : scope.kind = .function := by rfl) (hlo : (envOf name scope L a cd).kindOf n = some .local := by rfl) (hx : (envOf name scope L a cd).kindOf x = some .globalImplicit := by rfl) (hd : (x == ("__debug__" : Str)) = false := by decide) :
    wpAny (model prog w) (A₀.deeper (envOf name scope L a cd)) (noteFrame (.ref e) (envOf name scope L a cd))
      (fun _ s₂ => wpAny (model prog w) (A₀.deeper (envOf name scope L a cd)) (setFlight (.ref e) none) (fun _ s₃ =>
        wpAny (model prog w) (A₀.deeper (envOf name scope L a cd)) (handleBy (.ref e) (envOf name scope L a cd) (.ExceptHandler (some (.Name x np)) (some n) (b₀ :: suite) pos :: rest)) Q E s₃) E s₂) E s' := by
  obtain ⟨B, a0, D, tx, u0, u1, u2, u3, t0, hBG, hfl, hdd, hD, nD, neD⟩ := R.ex
  have hsm := R.up
  have hL : B.get? L = none := by
    obtain ⟨_, ⟨L', _, hf, hn', _⟩, _⟩ := hfl.2.2.1
    obtain rfl : L = L' := Option.some.inj hf
    exact hn'
  refine wpAny_KD (KD.noteFrame _ _) (wpAny_looks_onW (Around.frames_deeper K.stack) rfl hfl fun h₄ hheld₄ hsm₄ dk₄ => ?_)
  refine wpAny_KD (KD.setFlight _ _) (wpAny_landsW hheld₄ fun h₅ hheld hsm₅' dk₅ => ?_)
  have hsm₅ := hsm₄.trans hsm₅'
  obtain ⟨g₅, T₅, F₅, K₅⟩ := kts_ground K F hBG hheld.1 (hsm.trans hsm₅)
  have X₅ := XB.keeps K₅.stays
  have P₅ : TopRead p loose mg mb g₅ := topRead_of (TB.keeps K₅.stays)
  obtain ⟨ob, hob, hobc⟩ := hheld.there
  obtain ⟨nm, q', Nn, bs, bm, hdct, sn, sub, ab, col, dd, k0, k1, k2, k3, k5, newId, hC, hbase, hbT⟩ := kts_cls X₅ q
  have hC₅ := F₅.keep _ _ hC
  refine wpAny_handleBy_cons (codeAny_handlers_test (name_K F₅ X₅ P₅ ex ?_ hk hx hd)) (by intro q; cases q)
  refine wpAny_excMatches_sub_self hC₅ hob hobc hbase (codeAny_handlers_suite_as ?_)
  refine wpAny_KD (KD.setFlight _ _) (lands_againW hheld fun h₆ hfl₆ hsm₆ dk₆ => ?_)
  obtain ⟨g₆, T₆, F₆, K₆⟩ := kts_ground K F hBG hfl₆.1 ((hsm.trans hsm₅).trans hsm₆)
  obtain ⟨oe, ws, hoe, hoec, hoed, hoe0⟩ := hfl₆.first
  obtain ⟨oe', hoe', hdict⟩ := dict_stays (dict_stays (dict_stays hdd dk₄) dk₅) dk₆
  obtain rfl : oe = oe' := Option.some.inj (hoe.symm.trans hoe')
  have hD₆ := hfl₆.1 _ _ hD
  have hBL : ∀ b o, B.get? b = some o → b ≠ L := fun b o q z => by rw [z, hL] at q; cases q
  have nG : ∀ b, G.get? b = none → g₆.get? b = none := fun b q => T₆.none_ _ (kts_none F.keep q)
  have neL : e ≠ L := fun z => by
    obtain ⟨oL, es, ep, hL', hLd, _⟩ := F₆.ns
    rw [← z, hoe] at hL'; cases hL'
    rw [hoed] at hLd; cases hLd
  have N₆ : News g₆ L h₆ ((e, oe) :: (D, machD w tx u0 u1 u2 u3 t0) :: led) := fun z hz => by
    rcases List.mem_cons.mp hz with rfl | hz
    · exact ⟨hoe, neL, nG _ R.new⟩
    · rcases List.mem_cons.mp hz with rfl | hz
      · exact ⟨hD₆, hBL _ _ hD, nG _ nD⟩
      · obtain ⟨n1, n2, n3⟩ := N z hz
        refine ⟨hfl₆.1 _ _ (hBG _ _ n1 fun hm => ?_), n2, T₆.none_ _ n3⟩
        rcases kts_mem hm with y | y
        · exact n2 y
        · exact frame_ne K.frames n3 y
  refine stN F₆ N₆ (fun h₇ F₇ N₇ => ?_) hk hlo
  exact k h₇ g₆ _ D oe ws tx u0 u1 u2 u3 t0 T₆ F₇ N₇ hoec hdict hoed K₆ (XB.keeps K₆.stays) (TB.keeps K₆.stays)
end

def LtC (d : Nat) : List (Addr × Obj) → Prop
  | [] => True
  | [p] => @LT.lt Nat _ p.1 d
  | p :: q :: r => @LT.lt Nat _ p.1 d ∧ LtC d (q :: r)
theorem ltC_of {d : Nat} : ∀ {l : List (Addr × Obj)}, (∀ p ∈ l, p.1 < d) → LtC d l
  | [], _ => trivial
  | [p], h => h p (.head _)
  | p :: q :: r, h => ⟨h p (.head _), ltC_of fun x hx => h x (.tail _ hx)⟩
local macro_rules | `(tactic| k_lt $h:ident) => `(tactic| (have hq7 := ltC_of $h; dsimp only [LtC] at hq7))
structure OwnL (g h : Heap) (led : List (Addr × Obj)) : Prop where
  sub : g.StaysIn h
  size : g.objs.size ≤ h.objs.size
  all : ∀ q ∈ led, h.get? q.1 = some q.2 ∧ g.get? q.1 = none
section
variable {w : World} {dp un : Nat} {gd : Option (List Code)} {base g : Heap} {envs : List Env} {p : Program} {loose : List Str} {mean : ExcName → Option Value} {mg mb : Str → Option Value} {s : Shared} {Q E : Value → Shared → Prop} {led : List (Addr × Obj)}
theorem enterL {name qual : Str} {params : Arguments} {body : List Stmt} {scope : Scope} {dV kV doc pm cdv ct oc : Value} {an od : Option Addr} {osl : Array (Option Value)} {f : Addr} {vs : List Value} {binds : List (Str × Value)}
    (G : Gd w base envs p loose mean mg mb g) (O : OwnL g s.heap led)
    (ho : (Mine.hd.heap_39 w.params).lookup f = some ⟨oc, od, .func (fnOf name qual params body scope dV kV doc pm an cdv ct), osl⟩) (hcd : codeIn (Mine.hd.heap_39 w.params) cdv qual = true) (hroom : dp < recursionLimit)
    (hbind : BindsTo s (fnOf name qual params body scope dV kV doc pm an cdv ct) ⟨vs, []⟩ binds) (hloc : ∀ y ∈ binds, scope.names.lookup y.1 = some .local)
    (h : ∀ L' h₁, Fr g L' h₁ (fun y => binds.reverse.lookup y) → News g L' h₁ led → Below (Au dp un gd envs) base envs g → (Mine.hd.heap_39 w.params).In g → Top p loose mean mg mb g →
      wpAny (model PG w) ((Au dp un gd envs).deeper (envOf qual scope L' f cdv)) (execs body (envOf qual scope L' f cdv))
        (fun fl s' => Q (match fl with | .ret v => v | _ => .none) s')
        (fun e s' => wpAny (model PG w) ((Au dp un gd envs).deeper (envOf qual scope L' f cdv)) (leaving (envOf qual scope L' f cdv) e) (fun _ s'' => E e s'') (fun e' s'' => E e' s'') s')
        { s with heap := h₁, toks := s.toks + binds.length })
    (hco : scope.isCoroutine = false) (hgen : scope.isGenerator = false) (hk : scope.kind = .function)
    (hcell : ∀ x ∈ scope.names, x.2 ≠ .cell) : wpAny (model PG w) (Au dp un gd envs) (call (.ref f) vs) Q E s := by
  refine wpAny_call (codeAny_call_def (fd := fnOf name qual params body scope dV kV doc pm an cdv ct) (body := body) (binds := binds) hroom (O.sub _ _ (G.kin _ _ ho)) rfl (G.top.nolimit.keeps O.sub) (codeRec_of (G.kin.keeps O.sub) hcd) rfl hbind hcell hloc (fun h₁ hns hk₁ => ?_) hco hgen hk)
  refine h s.heap.objs.size h₁ ⟨hns, fun b x e => hk₁ b x (O.sub b x e), O.size⟩ (fun q hq => ?_) ⟨rfl, G.stays, G.frames⟩ G.kin G.top
  exact ⟨hk₁ _ _ (O.all q hq).1, Nat.ne_of_lt (Heap.lt_size (O.all q hq).1), (O.all q hq).2⟩
end
section
variable {prog : Program} {w : World} {A : Around} {E : Value → Shared → Prop} {s : Shared} {h₀ : Heap} {L : Addr} {K : Frag} {e C D : Addr} {oe : Obj} {name : Str} {expr : Bool} {Q : Value → Shared → Prop} {m : Str → Option Value} {led : List (Addr × Obj)} {es : List DictEntry} {n : Nat} {attr : Option Value} {ws : Array Value}
theorem xget_own {v : Value} (F : Fr h₀ L s.heap m) (N : News h₀ L s.heap ((e, oe) :: (D, dictOf es n) :: led)) (X₀ : K.In h₀) (c1 : oe.cls = .ref C) (c2 : oe.dict = some D) (c3 : oe.data = .fields ws)
    (hga : findIn K (.ref C) "__getattribute__" = some (some (.builtin "BaseException.__getattribute__"))) (hk : findIn K (.ref C) "__getattr__" = some none) (hb : mroIn K C (.type "BaseException") = some true)
    (hh : hasDictIn K C = true) (ha : findIn K (.ref C) name = some attr) (hn : noGet K attr = true) (hl : getL name es = some (some v)) (hv : handedIn v = true) (h : Q v { s with toks := s.toks + 1 }) : wpAny (model prog w) A (getAttr (.ref e) name expr) Q E s :=
  xget_value (ox := oe) (od := some (dictOf es n)) (X₀.keeps F.keep) ⟨N.get (.head _), c1, by unfold notCls; rw [c3], by rw [c2]; exact N.get (.tail _ (.head _))⟩ hga hk hb (findObj_own hh ha hn hl) hv h
end
theorem words_p31_told_0 : True := by
  k_with "getAttr ref" => (k_here; k_dflt (refine' xget_own ?zqF ?zqN ?zqX ?zqc1 ?zqc2 ?zqc3 ?zqhga ?zqhk ?zqhb ?zqhh ?zqha ?zqhn ?zqhl ?zqhv ?_; (case zqc2 => with_reducible assumption); (case zqc1 => with_reducible assumption); (case zqc3 => with_reducible assumption); (case zqN => k_asm); (case zqF => k_asm); (case zqX => k_asm); (case zqhga => k_is); (case zqhk => k_is); (case zqhb => k_is); (case zqhh => k_is); (case zqha => k_is); (case zqhn => k_is); (case zqhl => k_get); (case zqhv => k_handed); k_whole))
  trivial
def RaiseQ (w : World) (g : Heap) (L : Addr) (m : Str → Option Value) (led : List (Addr × Obj)) (envs : List Env) (E : Value → Shared → Prop) (s' : Shared) : Prop :=
  ∀ e h' tk' G, Fr g L G m → News g L G led → Fly w G envs e h' → E (.ref e) { s' with heap := h', toks := tk' }
def RetQ (g : Heap) (L : Addr) (m : Str → Option Value) (led : List (Addr × Obj)) (ob : Tok → Obj) (Q : Value → Shared → Prop) (s' : Shared) : Prop :=
  ∀ D t h' tk', Fr g L h' m → News g L h' ((D, ob t) :: led) → Q (.ref D) { s' with heap := h', toks := tk' }
/-- a call of f, under told, that raises -/
def RaiseC (w : World) (dp un : Nat) (gd : Option (List Code)) (base : Heap) (envs : List Env) (p : Program) (loose : List Str) (mean : ExcName → Option Value) (mg mb : Str → Option Value) (g : Heap) (led : List (Addr × Obj)) (f : Addr) : Prop :=
  ∀ env L s' m dp' un' A Q E, dp' ≤ dp + 5 → un' ≤ un + 50 → env.frame = some L → env.scope.kind = .function → Fr g L s'.heap m → News g L s'.heap led → Below A base envs g → (Mine.hd.heap_39 w.params).In g → Top p loose mean mg mb g →
    RaiseQ w g L m led (env :: envs) E s' → wpAny (model PG w) (Au dp' un' gd (env :: envs)) (call (.ref f) []) Q E s'
section
variable {w : World} {dp un dp' un' : Nat} {gd : Option (List Code)} {base g : Heap} {envs : List Env} {p : Program} {loose : List Str} {mean : ExcName → Option Value} {mg mb : Str → Option Value} {s : Shared} {Q E : Value → Shared → Prop} {led : List (Addr × Obj)} {f L : Addr} {env : Env} {m : Str → Option Value} {A : Around}
theorem raiseC_use (H : RaiseC w dp un gd base envs p loose mean mg mb g led f) (h1 : dp' ≤ dp + 5) (h2 : un' ≤ un + 50) (hf : env.frame = some L) (hk : env.scope.kind = .function) (F : Fr g L s.heap m) (N : News g L s.heap led) (B : Below A base envs g) (X : (Mine.hd.heap_39 w.params).In g) (T : Top p loose mean mg mb g)
    (hE : ∀ e h' tk' G, Fr g L G m → News g L G led → Fly w G (env :: envs) e h' → E (.ref e) { s with heap := h', toks := tk' }) : wpAny (model PG w) (Au dp' un' gd (env :: envs)) (call (.ref f) []) Q E s :=
  H env L s m dp' un' A Q E h1 h2 hf hk F N B X T hE
end
section
variable {prog : Program} {w : World} {A : Around} {E : Value → Shared → Prop} {s : Shared} {h₀ : Heap} {L f : Addr} {led : List (Addr × Obj)} {fo : Obj} {fd : FuncData} {Q : Value → Shared → Prop} {pos : Pos} {env : Env}
theorem callF0 (hm : (f, fo) ∈ led) (hd : fo.data = .func fd) (N : News h₀ L s.heap led) (h : wpAny (model prog w) A (call (.ref f) []) Q E s) : wpAny (model prog w) A (callWith pos (.ref f) [] (backTo pos (starEach [] env)) []) Q E s := by
  refine callWith_F0 ?_ h
  obtain ⟨c, d, dt, sl⟩ := fo
  dsimp only at hd
  subst hd
  exact FnAt.of N hm
end
theorem words_p31_told_1 : True := by
  k_with "callWith ref" => (k_here; (with_reducible show wpAny _ _ (callWith _ (Value.ref _) [] (backTo _ (starEach [] _)) []) _ _ _); k_dflt (refine' callF0 ?zqhm ?zqhd ?zqN ?_; (case zqhm => with_reducible assumption); (case zqhd => with_reducible assumption); (case zqN => k_asm); k_whole))
  k_with "call ref" => (k_here; (with_reducible show wpAny _ _ (call (Value.ref _) []) _ _ _); k_dflt (refine' raiseC_use ?zqH ?zqh1 ?zqh2 ?zqhf ?zqhk ?zqF ?zqN ?zqB ?zqX ?zqT ?_; (case zqH => with_reducible assumption); (case zqh1 => ktr_room); (case zqh2 => ktr_units); (case zqhf => exact rfl); (case zqhk => exact rfl); (case zqF => k_asm); (case zqN => k_asm); (case zqB => k_asm); (case zqX => k_asm); (case zqT => k_asm); k_whole; intro e9 h9 tk9 G9 F9 N9 R9; (try dsimp only)))
  k_with "noteFrame ref" => (k_here; k_dflt (refine' caught_X ?zqR ?zqF ?zqN ?zqK ?zqXB ?zqTB ?zqex ?zqq ?_; (case zqR => with_reducible assumption); (case zqF => with_reducible assumption); (case zqN => with_reducible assumption); (case zqK => k_asm); (case zqXB => with_reducible assumption); (case zqTB => with_reducible assumption); (case zqex => k_is); (case zqq => first | exact rfl | decide +kernel); k_whole; intro h9 g9 tk9 D9 oe9 ws9 tx9 u0 u1 u2 u3 t0 T9 F9 N9 c1 c2 c3 K9 X9 P9; (try dsimp only); (try k_sweep); (try k_fold)))
  trivial
section
variable {w : World} {dp un : Nat} {gd : Option (List Code)} {base g : Heap} {envs : List Env} {p : Program} {loose : List Str} {mean : ExcName → Option Value} {mg mb : Str → Option Value} {s : Shared} {Q E : Value → Shared → Prop} {led : List (Addr × Obj)} {f : Addr}
theorem kts_ts {fs : List Addr} {g g' h : Heap} (T : KtsTurn fs g g') (k : g'.StaysIn h) : TS fs g h :=
  ⟨fun b o e n => k b o (T.other b o e n), fun b o e => let ⟨sl, q⟩ := T.up (b := b) (o := o) e; ⟨sl, k _ _ q⟩⟩
set_option maxHeartbeats 600000 in
theorem toldDiv_ok (G : Gd w base envs p loose mean mg mb g) (XB : (Mine.hd.heap_39 w.params).In base) (TB : Top p loose mean mg mb base) (O : OwnL g s.heap led) (H : RaiseC w dp un gd base envs p loose mean mg mb g led f) {fo : Obj} {fd : FuncData} (hm : (f, fo) ∈ led) (hd : fo.data = .func fd) (hdp : dp + 10 < recursionLimit) (hu : un + 100 < cLine)
    (hQ : ∀ t h' tk', TS (frs envs) g h' → (∀ q ∈ led, h'.get? q.1 = some q.2) → Q (.str (Str.ofString "division") t) { s with heap := h', toks := tk' }) : wpAny (model PG w) (Au dp un gd envs) (call (.ref 752) [.ref f]) Q E s := by
  have H0 : PySem.Challenge.rw_xm0611_01 = PySem.Challenge.rw_xm0611_01 ∧ Mine.hd.heap_39 = Mine.hd.heap_39 := ⟨rfl, rfl⟩
  revert H0; k_fill; intro _
  (k_dflt (refine' enterL (binds := [(Str.ofString "call", Value.ref f)]) ?G ?O ?k6 ?k7 ?k8 ?k9 ?kB ?_ ?c2 ?c3 ?c4 ?c5; (case G => assumption); (case O => assumption); (case k6 => k_is); (case k7 => k_is); (case k8 => ktr_room); (case k9 => first | exact BindsTo.of_eq rfl | exact binds_K ((Gd.kin (by assumption)).keeps (OwnL.sub (by assumption))) rfl (by k_is) rfl rfl rfl); (case c5 => decide); (case kB => exact locs rfl); (case c2 => exact rfl); (case c3 => exact rfl); (case c4 => exact rfl); k_whole; intro L' h' F' N' B' X' T'; (try dsimp only); (try k_fold)))
  k_steps
  rename News _ _ _ _ => NN
  rename KtsTurn _ _ _ => TT
  exact hQ _ _ _ (kts_ts TT (Fr.keep (by assumption))) (fun q hq => (NN q (.tail _ (.tail _ hq))).1)
end
/-- a call of f, under told, that gives a new object -/
def RetC (w : World) (dp un : Nat) (gd : Option (List Code)) (base : Heap) (envs : List Env) (p : Program) (loose : List Str) (mean : ExcName → Option Value) (mg mb : Str → Option Value) (g : Heap) (led : List (Addr × Obj)) (f : Addr) (ob : Tok → Obj) : Prop :=
  ∀ env L s' m dp' un' A Q E, dp' ≤ dp + 5 → un' ≤ un + 50 → env.frame = some L → env.scope.kind = .function → Fr g L s'.heap m → News g L s'.heap led → Below A base envs g → (Mine.hd.heap_39 w.params).In g → Top p loose mean mg mb g →
    RetQ g L m led ob Q s' → wpAny (model PG w) (Au dp' un' gd (env :: envs)) (call (.ref f) []) Q E s'
section
variable {w : World} {dp un dp' un' : Nat} {gd : Option (List Code)} {base g : Heap} {envs : List Env} {p : Program} {loose : List Str} {mean : ExcName → Option Value} {mg mb : Str → Option Value} {s : Shared} {Q E : Value → Shared → Prop} {led : List (Addr × Obj)} {f L : Addr} {env : Env} {m : Str → Option Value} {A : Around} {ob : Tok → Obj}
theorem retC_use (H : RetC w dp un gd base envs p loose mean mg mb g led f ob) (h1 : dp' ≤ dp + 5) (h2 : un' ≤ un + 50) (hf : env.frame = some L) (hk : env.scope.kind = .function) (F : Fr g L s.heap m) (N : News g L s.heap led) (B : Below A base envs g) (X : (Mine.hd.heap_39 w.params).In g) (T : Top p loose mean mg mb g)
    (hQ : ∀ D t h' tk', Fr g L h' m → News g L h' ((D, ob t) :: led) → Q (.ref D) { s with heap := h', toks := tk' }) : wpAny (model PG w) (Au dp' un' gd (env :: envs)) (call (.ref f) []) Q E s :=
  H env L s m dp' un' A Q E h1 h2 hf hk F N B X T hQ
end
theorem words_p31_told_2 : True := by
  k_with "call ref" => (k_here; (with_reducible show wpAny _ _ (call (Value.ref _) []) _ _ _); k_dflt (refine' retC_use ?zqH ?zqh1 ?zqh2 ?zqhf ?zqhk ?zqF ?zqN ?zqB ?zqX ?zqT ?_; (case zqH => with_reducible assumption); (case zqh1 => ktr_room); (case zqh2 => ktr_units); (case zqhf => exact rfl); (case zqhk => exact rfl); (case zqF => k_asm); (case zqN => k_asm); (case zqB => k_asm); (case zqX => k_asm); (case zqT => k_asm); k_whole; intro D9 t9 h9 tk9 F9 N9; (try dsimp only)))
  trivial
section
variable {w : World} {dp un : Nat} {gd : Option (List Code)} {base g : Heap} {envs : List Env} {p : Program} {loose : List Str} {mean : ExcName → Option Value} {mg mb : Str → Option Value} {s : Shared} {Q E : Value → Shared → Prop} {led : List (Addr × Obj)} {f : Addr} {ob : Tok → Obj}
set_option maxHeartbeats 600000 in
theorem toldOk_ok (G : Gd w base envs p loose mean mg mb g) (O : OwnL g s.heap led) (H : RetC w dp un gd base envs p loose mean mg mb g led f ob) {fo : Obj} {fd : FuncData} (hm : (f, fo) ∈ led) (hd : fo.data = .func fd) (hdp : dp + 10 < recursionLimit) (hu : un + 100 < cLine)
    (hQ : ∀ D t h' tk', g.StaysIn h' → (∀ q ∈ led, h'.get? q.1 = some q.2) → g.get? D = none → h'.get? D = some (ob t) → Q (.ref D) { s with heap := h', toks := tk' }) : wpAny (model PG w) (Au dp un gd envs) (call (.ref 752) [.ref f]) Q E s := by
  have H0 : PySem.Challenge.rw_xm0611_01 = PySem.Challenge.rw_xm0611_01 ∧ Mine.hd.heap_39 = Mine.hd.heap_39 := ⟨rfl, rfl⟩
  revert H0; k_fill; intro _
  (k_dflt (refine' enterL (binds := [(Str.ofString "call", Value.ref f)]) ?G ?O ?k6 ?k7 ?k8 ?k9 ?kB ?_ ?c2 ?c3 ?c4 ?c5; (case G => assumption); (case O => assumption); (case k6 => k_is); (case k7 => k_is); (case k8 => ktr_room); (case k9 => first | exact BindsTo.of_eq rfl | exact binds_K ((Gd.kin (by assumption)).keeps (OwnL.sub (by assumption))) rfl (by k_is) rfl rfl rfl); (case c5 => decide); (case kB => exact locs rfl); (case c2 => exact rfl); (case c3 => exact rfl); (case c4 => exact rfl); k_whole; intro L' h' F' N' B' X' T'; (try dsimp only); (try k_fold)))
  k_steps
  rename News _ _ _ _ => NN
  exact hQ _ _ _ _ (Fr.keep (by assumption)) (fun q hq => (NN q (.tail _ hq)).1) (NN _ (.head _)).2.2 (NN _ (.head _)).1
end

section
variable {M : Model} {A : Around} {w : World} {E : Value → Shared → Prop} {s' : Shared} {g₂ : Heap} {outer : List Env} {env : Env} {L e : Addr} {Q : Unit → Shared → Prop}
theorem leave_nextH (R : Fly w g₂ (env :: outer) e s'.heap) (K : A.frames = some outer) (hf : env.frame = some L)
    (hQ : ∀ h', Fly w (hideAll g₂ [L]) outer e h' → Q () { s' with heap := h' }) : wpAny M (A.deeper env) (leaving env (.ref e)) Q E s' :=
  leave_next K hf (hideAll_none _ (.head _)) (fun _ _ q => of_hideAll _ q) R hQ
theorem stay_hide {g h : Heap} {L : Addr} {m : Str → Option Value} (F : Fr g L h m) : g.StaysIn (hideAll h [L]) := fun b o q => hideAll_get _ (F.keep b o q) fun hm => by
  rcases List.mem_singleton.mp hm with rfl
  rw [kts_self F] at q; cases q
end
theorem words_p32_twodiv_0 : True := by
  k_with "leaving ref" => (k_here; k_dflt (refine' leave_nextH ?zqR ?zqK ?zqhf ?_; (case zqR => with_reducible assumption); (case zqK => exact Below.stack (by k_asm)); (case zqhf => exact rfl); k_whole; intro h9 R9; (try dsimp only)))
  k_with "call ref" => (k_here; (with_reducible show wpAny _ _ (call (Value.ref 530) _) _ _ _); k_dflt (refine' reckDiv_ok (gd_of ?zqF ?zqB ?zqX ?zqT ?zqhf ?zqhk) ?zqbb ?zqhl ?zqhv ?zqhdp ?zqhu ?_; (case zqhv => with_reducible assumption); (case zqF => k_asm); (case zqX => k_asm); (case zqT => k_asm); (case zqB => k_asm); (case zqhf => exact rfl); (case zqhk => exact rfl); (case zqbb => with_reducible assumption); (case zqhl => first | exact Fr.tup (by k_asm) (by with_reducible assumption) | exact News.isTup (by k_asm) (by k_mem)); (case zqhdp => ktr_room); (case zqhu => ktr_units); k_whole; intro e9 h9 tk9 R9; (try dsimp only)))
  trivial
section
variable {w : World} {dp un : Nat} {gd : Option (List Code)} {base : Heap} {envs : List Env} {p : Program} {loose : List Str} {mean : ExcName → Option Value} {mg mb : Str → Option Value} {s : Shared} {Q E : Value → Shared → Prop}
set_option maxHeartbeats 600000 in
theorem twoDiv_ok (G : Gd w base envs p loose mean mg mb s.heap) {rv pl rt one other lt lt2 : Addr} {k k2 : Kd} {c : Bool} {o : Ar} {a b : Int} {t1 t2 t3 t4 t5 t6 t7 t8 t9 u : Tok} (bb : Bd b) (R : RV s.heap rv pl)
    (hr : IsTup s.heap rt [Value.str (Wd c) t1, .str o.str t2, .ref one, .ref other].toArray) (h1 : IsTup s.heap one [Value.str (Str.ofString "const") t3, .ref lt, .int a t4].toArray) (h2 : IsTup s.heap other [Value.str (Str.ofString "const") t5, .ref lt2, .int b t6].toArray)
    (hl : IsTup s.heap lt [Value.str (Ty.str .int) t7, .str k.str t8].toArray) (hl2 : IsTup s.heap lt2 [Value.str (Ty.str .int) t9, .str k2.str u].toArray) (hv : chkV k o a b = none) (hdp : dp + 80 < recursionLimit) (hu : un + 800 < cLine)
    (hE : ∀ e h' tk', Fly w s.heap envs e h' → E (.ref e) { s with heap := h', toks := tk' }) : wpAny (model PG w) (Au dp un gd envs) (call (.ref 642) [.ref rv, .none, .ref rt]) Q E s := by
  obtain ⟨ox, ox', mm, h1', t1', h2', t2', n, h3', t3', h4', t4', n', R1, R2⟩ := R.ex
  have H0 : PySem.Challenge.rw_xm0611_01 = PySem.Challenge.rw_xm0611_01 ∧ Mine.hd.heap_39 = Mine.hd.heap_39 := ⟨rfl, rfl⟩
  revert H0; k_fill; intro _
  (k_dflt (refine' enter0 (binds := [(Str.ofString "self", Value.ref rv), (Str.ofString "frame", Value.none), (Str.ofString "rvalue", Value.ref rt)]) ?G ?k6 ?k7 ?k8 ?k9 ?kB ?_ ?c2 ?c3 ?c4 ?c5; (case G => assumption); (case k6 => k_is); (case k7 => k_is); (case k8 => ktr_room); (case k9 => first | exact BindsTo.of_eq rfl | exact binds_K (Gd.kin (by assumption)) rfl (by k_is) rfl rfl rfl); (case c5 => decide); (case kB => exact locs rfl); (case c2 => exact rfl); (case c3 => exact rfl); (case c4 => exact rfl); k_whole; intro L' h' F' N' B' X' T'; (try dsimp only); (try k_fold)))
  k_steps
  rename Fly _ _ _ _ _ => RR
  exact hE _ _ _ (RR.sub (stay_hide (by assumption)))
end

def SameV (x y : Value) : Prop := ∀ (A : Around) (s : Shared), PySem.SeqAt.EqAt A s x y true
theorem sameV_int {n : Int} {t u : Tok} : SameV (.int n t) (.int n u) := fun A s => by have := PySem.SeqAt.EqAt.int_int (A := A) (s := s) n t n u; rwa [beq_self_eq_true] at this
theorem sameV_bool {b : Bool} : SameV (.bool b) (.bool b) := fun A s => by have := PySem.SeqAt.EqAt.bool_bool (A := A) (s := s) b b; rwa [beq_self_eq_true] at this
theorem sameV_str {x : Str} {t u : Tok} : SameV (.str x t) (.str x u) := fun A s => by have := PySem.SeqAt.EqAt.str_str (A := A) (s := s) x t x u; rwa [beq_self_eq_true] at this
def AllSame : List Value → List Value → Prop
  | [], [] => True
  | x :: l, y :: r => SameV x y ∧ AllSame l r
  | _, _ => False
theorem allSame_len : ∀ {l r : List Value}, AllSame l r → l.length = r.length
  | [], [], _ => rfl
  | _ :: _, _ :: _, h => congrArg Nat.succ (allSame_len h.2)
  | [], _ :: _, h => h.elim
  | _ :: _, [], h => h.elim
theorem allSame_at : ∀ {l r : List Value}, AllSame l r → ∀ j (h1 : j < l.length) (h2 : j < r.length), SameV l[j] r[j]
  | _ :: _, _ :: _, h, 0, _, _ => h.1
  | _ :: l, _ :: r, h, j + 1, h1, h2 => allSame_at (l := l) (r := r) h.2 j (Nat.lt_of_succ_lt_succ h1) (Nat.lt_of_succ_lt_succ h2)
  | [], _, _, _, h1, _ => absurd h1 (Nat.not_lt_zero _)
  | _ :: _, [], _, _, _, h2 => absurd h2 (Nat.not_lt_zero _)
theorem all_t {α : Type} (l : List α) : (l.all fun _ => true) = true := List.all_eq_true.mpr fun _ _ => rfl
section
variable {prog : Program} {w : World} {A : Around} {s : Shared} {Q E : Value → Shared → Prop} {l b : Addr} {vs ws : List Value}
theorem ne_listS (hl : s.heap.IsList l vs.toArray) (hb : s.heap.IsList b ws.toArray) (S : AllSame vs ws) (hu : A.units < cLine) (h : Q (.bool false) s) : wpAny (model prog w) A (compareOp .NotEq (.ref l) (.ref b)) Q E s :=
  cmp_ofNotEq (PySem.SeqAt.RcNeAt.lists (e := fun _ => true) hl hb (by simpa using allSame_len S) hu (fun j h1 h2 => by simpa using allSame_at S j (by simpa using h1) (by simpa using h2) A.in1 s) prog w E Q (by simpa [all_t] using h))
theorem eq_listS (hl : s.heap.IsList l vs.toArray) (hb : s.heap.IsList b ws.toArray) (S : AllSame vs ws) (hu : A.units < cLine) (h : Q (.bool true) s) : wpAny (model prog w) A (compareOp .Eq (.ref l) (.ref b)) Q E s :=
  PySem.SeqAt.RcAt.lists (e := fun _ => true) hl hb (by simpa using allSame_len S) hu (fun j h1 h2 => by simpa using allSame_at S j (by simpa using h1) (by simpa using h2) A.in1 s) prog w E Q (by simpa [all_t] using h)
theorem ne_tupS (hl : IsTup s.heap l vs.toArray) (hb : IsTup s.heap b ws.toArray) (S : AllSame vs ws) (hu : A.units < cLine) (h : Q (.bool false) s) : wpAny (model prog w) A (compareOp .NotEq (.ref l) (.ref b)) Q E s :=
  cmp_ofNotEq (PySem.SeqAt.RcNeAt.tuples (e := fun _ => true) hl hb hu (fun j h1 h2 => by simpa using allSame_at S j (by simpa using h1) (by simpa using h2) A.in1 s) prog w E Q (by simpa [allSame_len S, all_t] using h))
theorem eq_tup_str {x : Str} {u : Tok} (hl : IsTup s.heap l vs.toArray) (hu : A.units < cLine) (h : Q (.bool false) s) : wpAny (model prog w) A (compareOp .Eq (.ref l) (.str x u)) Q E s :=
  PySem.SeqAt.RcAt.tuple_str x u hl hu prog w E Q h
end

theorem words_p32b_eqs_0 : True := by
  k_with "compareOp NotEq ref ref" => (k_here; (with_reducible show wpAny _ _ (compareOp CmpOp.NotEq (Value.ref _) (Value.ref _)) _ _ _); k_dflt (refine' ne_tupS ?zqa ?zqb ?zqS ?zqu ?_; (case zqa => first | exact News.isTup (by k_asm) (by k_mem) | exact Fr.tup (by k_asm) (by with_reducible assumption)); (case zqb => first | exact News.isTup (by k_asm) (by k_mem) | exact Fr.tup (by k_asm) (by with_reducible assumption)); (case zqS => exact ⟨sameV_int, sameV_bool, trivial⟩); (case zqu => ktr_units); k_whole))
  k_with "compareOp NotEq ref ref" => (k_here; (with_reducible show wpAny _ _ (compareOp CmpOp.NotEq (Value.ref _) (Value.ref _)) _ _ _); k_dflt (refine' ne_listS ?zqa ?zqb ?zqS ?zqu ?_; (case zqa => is_list); (case zqb => is_list); (case zqS => first | exact ⟨sameV_int, trivial⟩ | exact ⟨sameV_int, sameV_bool, trivial⟩); (case zqu => ktr_units); k_whole))
  k_with "compareOp Eq ref ref" => (k_here; (with_reducible show wpAny _ _ (compareOp CmpOp.Eq (Value.ref _) (Value.ref _)) _ _ _); k_dflt (refine' eq_listS ?zqa ?zqb ?zqS ?zqu ?_; (case zqa => is_list); (case zqb => is_list); (case zqS => first | exact ⟨sameV_int, trivial⟩ | exact ⟨sameV_int, sameV_bool, trivial⟩ | exact ⟨sameV_str, sameV_str, trivial⟩); (case zqu => ktr_units); k_whole))
  k_with "compareOp Eq ref str" => (k_here; (with_reducible show wpAny _ _ (compareOp CmpOp.Eq (Value.ref _) (Value.str _ _)) _ _ _); k_dflt (refine' eq_tup_str ?zqa ?zqu ?_; (case zqa => first | exact News.isTup (by k_asm) (by k_mem) | exact Fr.tup (by k_asm) (by with_reducible assumption)); (case zqu => ktr_units); k_whole))
  trivial
theorem cells_five {cm : Str → Option Value} {n₁ n₂ n₃ n₄ n₅ : Str} {c₁ c₂ c₃ c₄ c₅ : Addr} {cells : List (Addr × Obj)} (x : CellsAre cm [(n₁, c₁), (n₂, c₂), (n₃, c₃), (n₄, c₄), (n₅, c₅)] cells) :
    ∃ o₁ o₂ o₃ o₄ o₅, cells = [(c₁, o₁), (c₂, o₂), (c₃, o₃), (c₄, o₄), (c₅, o₅)] ∧ o₁.data = .cell (cm n₁) ∧ o₂.data = .cell (cm n₂) ∧ o₃.data = .cell (cm n₃) ∧ o₄.data = .cell (cm n₄) ∧ o₅.data = .cell (cm n₅) := by
  cases x with | cons h r => obtain ⟨o₂, o₃, o₄, o₅, rfl, h₂, h₃, h₄, h₅⟩ := r.four; exact ⟨_, o₂, o₃, o₄, o₅, rfl, h, h₂, h₃, h₄, h₅⟩
section
variable {w : World} {A : Around} {dp un : Nat} {gd : Option (List Code)} {base g h₀ : Heap} {L : Addr} {m : Str → Option Value} {envs outer : List Env} {p : Program} {loose : List Str} {mean : ExcName → Option Value} {mg mb : Str → Option Value} {s : Shared} {Q E : Value → Shared → Prop} {led : List (Addr × Obj)}
theorem enterLC {name qual : Str} {params : Arguments} {body : List Stmt} {scope : Scope} {dV kV doc pm cdv ct oc : Value} {an od : Option Addr} {osl : Array (Option Value)} {f : Addr} {vs : List Value} {binds : List (Str × Value)}
    (G : Gd w base envs p loose mean mg mb g) (O : OwnL g s.heap led)
    (ho : (Mine.hd.heap_39 w.params).lookup f = some ⟨oc, od, .func (fnOf name qual params body scope dV kV doc pm an cdv ct), osl⟩) (hcd : codeIn (Mine.hd.heap_39 w.params) cdv qual = true) (hroom : dp < recursionLimit)
    (hbind : BindsTo s (fnOf name qual params body scope dV kV doc pm an cdv ct) ⟨vs, []⟩ binds) (hkind : (binds.all fun y => scope.names.lookup y.1 == some .local || scope.names.lookup y.1 == some .cell) = true)
    (hnd : ((cellsFrom 0 scope.names []).map (·.1)).Nodup)
    (h : ∀ L' h₁ tk cells, Fr g L' h₁ (bindL (envOfC qual scope L' f cdv).kindOf binds fun _ => none) → News g L' h₁ (cells ++ led) →
      CellsAre (bindC (envOfC qual scope L' f cdv).kindOf binds fun _ => none) (cellsFrom (L' + 1) scope.names []) cells → (∀ q ∈ led, q.1 < L') → Below (Au dp un gd envs) base envs g → (Mine.hd.heap_39 w.params).In g → Top p loose mean mg mb g →
      wpAny (model PG w) ((Au dp un gd envs).deeper (envOfC qual scope L' f cdv)) (execs body (envOfC qual scope L' f cdv))
        (fun fl s' => Q (match fl with | .ret v => v | _ => .none) s')
        (fun e s' => wpAny (model PG w) ((Au dp un gd envs).deeper (envOfC qual scope L' f cdv)) (leaving (envOfC qual scope L' f cdv) e) (fun _ s'' => E e s'') (fun e' s'' => E e' s'') s')
        { s with heap := h₁, toks := tk })
    (hco : scope.isCoroutine = false) (hgen : scope.isGenerator = false) (hk : scope.kind = .function) : wpAny (model PG w) (Au dp un gd envs) (call (.ref f) vs) Q E s := by
  refine wpAny_call (codeAny_call_function (fd := fnOf name qual params body scope dV kV doc pm an cdv ct) hroom (O.sub _ _ (G.kin _ _ ho)) rfl hco hgen rfl (codeRec_of (G.kin.keeps O.sub) hcd) (hbind _ _ _ _ ?_))
  refine wpAny_newFunctionEnv_cells hk (kindsX hkind _) fun env' he s' x => ?_
  subst he
  refine ⟨(G.top.nolimit.keeps O.sub).keeps x.toInCall.keep, codeAny_func ?_⟩
  obtain ⟨h₁, tk, rfl, _⟩ := x.done
  obtain ⟨cells, NC, Y⟩ := Cl.news (h₀ := g) O.size fun n c hm => ⟨x.cell n c (lookup_of_mem_nodup (cellsFrom_names scope.names 0 (s.heap.objs.size + 1) [] [] rfl ▸ hnd) hm), x.above n c hm⟩
  refine h s.heap.objs.size h₁ tk cells ⟨x.toInCall.ns, fun b o e => x.toInCall.keep b o (O.sub b o e), O.size⟩ (fun q hq => ?_) Y (fun q hq => Heap.lt_size (O.all q hq).1) ⟨rfl, G.stays, G.frames⟩ G.kin G.top
  rcases List.mem_append.mp hq with hq | hq
  · exact NC q hq
  · exact ⟨x.toInCall.keep _ _ (O.all q hq).1, Nat.ne_of_lt (Heap.lt_size (O.all q hq).1), (O.all q hq).2⟩
theorem inst_base {h : Heap} {x C : Addr} {ox : Obj} {od : Option Obj} (F : Fr h₀ L h m) (B : Below A base outer h₀) (I : InstAt base x ox C od) : InstAt h x ox C od := inst_keeps I (fun b o e => F.keep b o (B.stays b o e))
theorem rv_base {h : Heap} {rv pl : Addr} (F : Fr h₀ L h m) (B : Below A base outer h₀) (R : RV base rv pl) : RV h rv pl := R.keeps (fun b o e => F.keep b o (B.stays b o e))
theorem tup_base {h : Heap} {a : Addr} {v : Array Value} (F : Fr h₀ L h m) (B : Below A base outer h₀) (R : IsTup base a v) : IsTup h a v := let ⟨o, ho, r⟩ := R; ⟨o, F.keep _ _ (B.stays _ _ ho), r⟩
end
/-- a code object of that name -/
def CodeO (q : Str) (o : Obj) : Prop := ∃ vs t, o.data = .fields vs ∧ vs[1]? = some (.str q t)
section
variable {w : World} {g g' g₂ h' : Heap} {L L' e D : Addr} {m m' : Str → Option Value} {led news : List (Addr × Obj)} {envs : List Env} {E Q : Value → Shared → Prop} {s' : Shared} {ob : Tok → Obj} {t tk' : Tok}
theorem raiseQ_end (H : RaiseQ w g L m led envs E s') (R : Fly w (hideAll g₂ [L']) envs e h') (FG : Fr g L g' m) (F : Fr g' L' g₂ m') (N : News g' L' g₂ news) (hs : ∀ q ∈ led, q ∈ news) : E (.ref e) { s' with heap := h', toks := tk' } := by
  refine H e h' tk' _ (FG.keeps (stay_hide F)) (fun q hq => ?_) R
  obtain ⟨n1, n2, n3⟩ := N q (hs q hq)
  refine ⟨hideAll_get _ n1 (fun hm => n2 (List.mem_singleton.mp hm)), fun z => ?_, kts_none FG.keep n3⟩
  obtain ⟨oL, es, ep, hL, _⟩ := FG.ns
  rw [← z, n3] at hL; cases hL
theorem retQ_end (H : RetQ g L m led ob Q s') (F : Fr g L h' m) (N : News g L h' news) (hm : (D, ob t) ∈ news) (hs : ∀ q ∈ led, q ∈ news) : Q (.ref D) { s' with heap := h', toks := tk' } :=
  H D t h' tk' F fun q hq => by
    rcases List.mem_cons.mp hq with rfl | hq
    · exact N _ hm
    · exact N _ (hs _ hq)
end
section
variable {w : World} {A₀ : Around} {dp un : Nat} {gd : Option (List Code)} {base g₀ h₀ : Heap} {L f : Addr} {m : Str → Option Value} {env : Env} {outer : List Env} {p : Program} {loose : List Str} {mean : ExcName → Option Value} {mg mb : Str → Option Value} {s : Shared} {Q E : Value → Shared → Prop} {news : List (Addr × Obj)} {ob : Tok → Obj} {fo : Obj} {fd : FuncData}
theorem told_ground (F : Fr h₀ L s.heap m) (N : News h₀ L s.heap news) (B : Below A₀ base outer h₀) (XB : (Mine.hd.heap_39 w.params).In base) (TB : Top p loose mean mg mb base) (hf : env.frame = some L) (hk : env.scope.kind = .function) :
    ∃ g, Fr h₀ L g m ∧ h₀.StaysIn g ∧ Gd w base (env :: outer) p loose mean mg mb g ∧ OwnL g s.heap news := by
  obtain ⟨FG, BG, st, _⟩ := groundX (R := fun _ _ => True) (A := Au 0 0 none (env :: outer)) B F N rfl hf hk
  exact ⟨_, FG, st, ⟨BG.stays, BG.frames, XB.keeps BG.stays, TB.keeps BG.stays⟩, ⟨fun b o q => of_hideAll _ q, Nat.le_of_eq (hideAll_size _ _), fun q hq => ⟨(N q hq).1, hideAll_none _ (List.mem_map_of_mem hq)⟩⟩⟩
theorem toldOk_use (F : Fr h₀ L s.heap m) (N : News h₀ L s.heap news) (B : Below A₀ base outer h₀) (XB : (Mine.hd.heap_39 w.params).In base) (TB : Top p loose mean mg mb base) (hf : env.frame = some L) (hk : env.scope.kind = .function) (hm : (f, fo) ∈ news) (hd : fo.data = .func fd) (hdp : dp + 20 < recursionLimit) (hu : un + 200 < cLine)
    (H : ∀ g, Fr h₀ L g m → Gd w base (env :: outer) p loose mean mg mb g → RetC w dp un gd base (env :: outer) p loose mean mg mb g news f ob)
    (hQ : ∀ D t h' tk', Fr h₀ L h' m → News h₀ L h' ((D, ob t) :: news) → Q (.ref D) { s with heap := h', toks := tk' }) : wpAny (model PG w) (Au dp un gd (env :: outer)) (call (.ref 752) [.ref f]) Q E s := by
  obtain ⟨g, FG, st, G, O⟩ := told_ground F N B XB TB hf hk
  refine toldOk_ok G O (H g FG G) hm hd (by omega) (by omega) fun D t h' tk' k1 k2 k3 k4 => hQ D t h' tk' ⟨FG.ns.keeps k1, fun b o e => k1 _ _ (st _ _ e), F.above⟩ fun q hq => ?_
  rcases List.mem_cons.mp hq with rfl | hq
  · refine ⟨k4, fun z => ?_, kts_none st k3⟩
    obtain ⟨oL, es, ep, hL, _⟩ := FG.ns
    dsimp only at z
    rw [← z, k3] at hL; cases hL
  · exact ⟨k2 q hq, (N q hq).2⟩
theorem reground {g h' : Heap} (FG : Fr h₀ L g m) (st : h₀.StaysIn g) (N : News h₀ L s.heap news) (B : Below A₀ base outer h₀) (hf : env.frame = some L) (T9 : TS (frs (env :: outer)) g h') (k2 : ∀ q ∈ news, h'.get? q.1 = some q.2) :
    ∃ h₀', KtsTurn (frs outer) h₀ h₀' ∧ Fr h₀' L h' m ∧ News h₀' L h' news ∧ Below A₀ base outer h₀' := by
  have hfs : ∀ b, b ∈ frs (env :: outer) → b = L ∨ b ∈ frs outer := fun b hb => by
    obtain ⟨env', h1, h2⟩ := List.mem_filterMap.mp hb
    rcases List.mem_cons.mp h1 with rfl | h1
    · exact .inl (Option.some.inj (h2.symm.trans hf))
    · exact .inr (List.mem_filterMap.mpr ⟨env', h1, h2⟩)
  obtain ⟨T, S⟩ := kts_turn_at (h := h') (fs := frs outer) (g := h₀)
    (fun b hb => by
      obtain ⟨_, o, ho', _⟩ := B.frames.mem hb
      exact ⟨o, ho'⟩)
    (fun b o e nm => T9.other b o (st _ _ e) (fun q => by
      rcases hfs b q with z | z
      · rw [z, kts_self FG] at e; cases e
      · exact nm z))
    (fun b o e _ => T9.any b o (st _ _ e))
  refine ⟨_, T, ⟨?_, S, by rw [T.size]; exact FG.above⟩, fun q hq => ⟨k2 q hq, (N q hq).2.1, T.none_ _ (N q hq).2.2⟩, ⟨B.stack, fun b o e => T.other b o (B.stays b o e) (fun hm => by rw [(B.frames.mem hm).1] at e; cases e), B.frames.of_keeps fun b o e _ => ?_⟩⟩
  · obtain ⟨oL, es, ep, hL, r⟩ := FG.ns
    obtain ⟨sl, hs⟩ := T9.any _ _ hL
    exact ⟨_, es, ep, hs, r⟩
  · obtain ⟨sl, hs⟩ := T.up e
    exact ⟨_, hs, rfl⟩
theorem toldDiv_use (T0 : KtsTurn (frs outer) g₀ h₀) (F : Fr h₀ L s.heap m) (N : News h₀ L s.heap news) (B : Below A₀ base outer h₀) (XB : (Mine.hd.heap_39 w.params).In base) (TB : Top p loose mean mg mb base) (hf : env.frame = some L) (hk : env.scope.kind = .function) (hm : (f, fo) ∈ news) (hd : fo.data = .func fd) (hdp : dp + 20 < recursionLimit) (hu : un + 200 < cLine)
    (H : ∀ g, Fr h₀ L g m → Gd w base (env :: outer) p loose mean mg mb g → RaiseC w dp un gd base (env :: outer) p loose mean mg mb g news f)
    (hQ : ∀ t h' tk' h₀', KtsTurn (frs outer) g₀ h₀' → Fr h₀' L h' m → News h₀' L h' news → Below A₀ base outer h₀' → (Mine.hd.heap_39 w.params).In h₀' → Top p loose mean mg mb h₀' → Q (.str (Str.ofString "division") t) { s with heap := h', toks := tk' }) : wpAny (model PG w) (Au dp un gd (env :: outer)) (call (.ref 752) [.ref f]) Q E s := by
  obtain ⟨g, FG, st, G, O⟩ := told_ground F N B XB TB hf hk
  refine toldDiv_ok G XB TB O (H g FG G) hm hd (by omega) (by omega) fun t h' tk' T9 k2 => ?_
  obtain ⟨h₀', T, F', N', B'⟩ := reground FG st N B hf T9 k2
  exact hQ t h' tk' h₀' (T0.trans T) F' N' B' (XB.keeps B'.stays) (TB.keeps B'.stays)
end
section
variable {w : World} {A₀ : Around} {dp un : Nat} {gd : Option (List Code)} {base g₀ h₀ : Heap} {L f : Addr} {m : Str → Option Value} {env : Env} {outer : List Env} {p : Program} {loose : List Str} {mean : ExcName → Option Value} {mg mb : Str → Option Value} {s : Shared} {Q E : Value → Shared → Prop} {news : List (Addr × Obj)} {fo : Obj} {fd : FuncData}
theorem toldChk_use {k : Kd} {o : Ar} {a b v : Int} {ov : Bool} (hv : chkV k o a b = some (v, ov)) (F : Fr h₀ L s.heap m) (N : News h₀ L s.heap news) (B : Below A₀ base outer h₀) (XB : (Mine.hd.heap_39 w.params).In base) (TB : Top p loose mean mg mb base) (hf : env.frame = some L) (hk : env.scope.kind = .function) (hm : (f, fo) ∈ news) (hd : fo.data = .func fd) (hdp : dp + 20 < recursionLimit) (hu : un + 200 < cLine)
    (H : (∀ g, Fr h₀ L g m → Gd w base (env :: outer) p loose mean mg mb g → RetC w dp un gd base (env :: outer) p loose mean mg mb g news f (chkO (some (v, ov)))) ∧
      ∀ D t h' tk', Fr h₀ L h' m → News h₀ L h' ((D, chkO (some (v, ov)) t) :: news) → Q (.ref D) { s with heap := h', toks := tk' }) : wpAny (model PG w) (Au dp un gd (env :: outer)) (call (.ref 752) [.ref f]) Q E s :=
  toldOk_use F N B XB TB hf hk hm hd hdp hu H.1 H.2
theorem toldNo_use {k : Kd} {o : Ar} {a b : Int} (hv : chkV k o a b = none) (T0 : KtsTurn (frs outer) g₀ h₀) (F : Fr h₀ L s.heap m) (N : News h₀ L s.heap news) (B : Below A₀ base outer h₀) (XB : (Mine.hd.heap_39 w.params).In base) (TB : Top p loose mean mg mb base) (hf : env.frame = some L) (hk : env.scope.kind = .function) (hm : (f, fo) ∈ news) (hd : fo.data = .func fd) (hdp : dp + 20 < recursionLimit) (hu : un + 200 < cLine)
    (H : (∀ g, Fr h₀ L g m → Gd w base (env :: outer) p loose mean mg mb g → RaiseC w dp un gd base (env :: outer) p loose mean mg mb g news f) ∧
      ∀ t h' tk' h₀', KtsTurn (frs outer) g₀ h₀' → Fr h₀' L h' m → News h₀' L h' news → Below A₀ base outer h₀' → (Mine.hd.heap_39 w.params).In h₀' → Top p loose mean mg mb h₀' → Q (.str (Str.ofString "division") t) { s with heap := h', toks := tk' }) : wpAny (model PG w) (Au dp un gd (env :: outer)) (call (.ref 752) [.ref f]) Q E s :=
  toldDiv_use T0 F N B XB TB hf hk hm hd hdp hu H.1 H.2
end
theorem words_p33_pair_0 : True := by
  k_with "call ref" => (k_here; (with_reducible show wpAny _ _ (call (Value.ref 530) _) _ _ _); k_dflt (refine' reckoned_ok (gd_of ?zqF ?zqB ?zqX ?zqT ?zqhf ?zqhk) (by assumption) (News.isTup (by k_asm) (by k_mem)) (by with_reducible assumption) ?zqhdp ?zqhu ?_; (case zqF => k_asm); (case zqX => k_asm); (case zqT => k_asm); (case zqB => k_asm); (case zqhf => exact rfl); (case zqhk => exact rfl); (case zqhdp => ktr_room); (case zqhu => ktr_units);  k_whole; refine postT_use (by assumption) (by assumption) ?_; intro D9 t9 h9 tk9 F9 N9 l9; (try dsimp only at N9); (try dsimp only); (try k_sweep); (try k_fold)))
  trivial
local macro_rules | `(tactic| k_inst) => `(tactic| (refine' inst_base ?F ?B ?I; (case F => k_asm); (case B => k_asm); (case I => with_reducible assumption)))
theorem words_p33_pair_1 : True := by
  k_with "call ref" => (k_here; (with_reducible show wpAny _ _ (call (Value.ref _) []) _ _ _); k_dflt (refine wpAny_call ?_; refine' kla_code ?zqk1 ?zqk2 ?zqk3 ?zqk4 ?zqk5 ?zqkA ?zqkF ?zqkK ?zqk6 ?zqk7 ?zqk8 ?zqk9 ?zqkB ?_ ?zqc2 ?zqc3 ?zqc4 ?zqc5; (case zqkA => exact rfl); (case zqkF => assumption); (case zqkK => assumption); (case zqk1 => k_asm); (case zqk2 => k_asm); (case zqk3 => k_asm); (case zqk4 => k_asm); (case zqk5 => k_asm); (case zqk6 => k_mem); (case zqk7 => exact codeRec_news (by k_asm) (by k_mem) (by assumption) (by assumption)); (case zqk8 => ktr_room); (case zqk9 => exact rfl); (case zqc5 => decide); (case zqkB => exact locs rfl); (case zqc2 => exact rfl); (case zqc3 => exact rfl); (case zqc4 => exact rfl); k_whole; intro g' L' h' FG' F' N' B' X' T'; (try dsimp only); (try k_lift B'); (try k_fold)))
  k_with "call ref" => (k_here; (with_reducible show wpAny _ _ (call (Value.ref 752) [Value.ref _]) _ _ _); k_dflt (refine' toldChk_use ?zqhv ?zqF ?zqN ?zqB ?zqXB ?zqTB ?zqhf ?zqhk ?zqmm ?zqhd ?zqhdp ?zqhu ?_; (case zqhv => with_reducible assumption); (case zqF => k_asm); (case zqN => k_asm); (case zqB => k_asm); (case zqXB => with_reducible assumption); (case zqTB => with_reducible assumption); (case zqhf => exact rfl); (case zqhk => exact rfl); (case zqmm => k_mem); (case zqhd => exact rfl); (case zqhdp => ktr_room); (case zqhu => ktr_units); k_whole; refine And.intro ?_ ?_ <;> first | (intro g9 FG9 G9; unfold RetC; intro env9 L9 s9 m9 dp9 un9 A9 Q9 E9 a9 b9 hf9 hk9 F9 N9 B9 X9 T9 H9; (obtain ⟨h9, gs9, dr9, tk9, os9⟩ := s9); (try dsimp only at F9 N9)) | (intro D9 t9 h9 tk9 F9 N9; (try dsimp only at N9); (try dsimp only); (try k_sweep); (try k_fold))))
  k_with "call ref" => (k_here; (with_reducible show wpAny _ _ (call (Value.ref 752) [Value.ref _]) _ _ _); k_dflt (refine' toldNo_use ?zqhv ?zqT0 ?zqF ?zqN ?zqB ?zqXB ?zqTB ?zqhf ?zqhk ?zqmm ?zqhd ?zqhdp ?zqhu ?_; (case zqhv => with_reducible assumption); (case zqF => k_asm); (case zqT0 => assumption); (case zqN => k_asm); (case zqB => k_asm); (case zqXB => with_reducible assumption); (case zqTB => with_reducible assumption); (case zqhf => exact rfl); (case zqhk => exact rfl); (case zqmm => k_mem); (case zqhd => exact rfl); (case zqhdp => ktr_room); (case zqhu => ktr_units); k_whole; refine And.intro ?_ ?_ <;> first | (intro g9 FG9 G9; unfold RaiseC; intro env9 L9 s9 m9 dp9 un9 A9 Q9 E9 a9 b9 hf9 hk9 F9 N9 B9 X9 T9 H9; (obtain ⟨h9, gs9, dr9, tk9, os9⟩ := s9); (try dsimp only at F9 N9)) | (intro t9 h9 tk9 g9 K9 F9 N9 B9 X9 T9; (k_lift B9); (try dsimp only); (try k_sweep); (try k_fold))))
  trivial
section
variable {w : World} {dp un : Nat} {gd : Option (List Code)} {base : Heap} {envs : List Env} {p : Program} {loose : List Str} {mean : ExcName → Option Value} {mg mb : Str → Option Value} {s : Shared} {Q E : Value → Shared → Prop}
theorem twoArC_ok (G : Gd w base envs p loose mean mg mb s.heap) {rv pl rt one other lt lt2 : Addr} {k k2 : Kd} {o : Ar} {a b v : Int} {ov : Bool} {t1 t2 t3 t4 t5 t6 t7 t8 t9 u : Tok} (bb : Bd b) (R : RV s.heap rv pl)
    (hr : IsTup s.heap rt [Value.str (Str.ofString "checked") t1, .str o.str t2, .ref one, .ref other].toArray) (h1 : IsTup s.heap one [Value.str (Str.ofString "const") t3, .ref lt, .int a t4].toArray) (h2 : IsTup s.heap other [Value.str (Str.ofString "const") t5, .ref lt2, .int b t6].toArray)
    (hl : IsTup s.heap lt [Value.str (Ty.str .int) t7, .str k.str t8].toArray) (hl2 : IsTup s.heap lt2 [Value.str (Ty.str .int) t9, .str k2.str u].toArray) (hv : chkV k o a b = some (v, ov)) (hdp : dp + 30 < recursionLimit) (hu : un + 300 < cLine)
    (hQ : PostT s Q fun t => W.listOf [Value.int v t, Value.bool ov].toArray 0) : wpAny (model PG w) (Au dp un gd envs) (call (.ref 642) [.ref rv, .none, .ref rt]) Q E s :=
  twoAr_ok (c := true) G bb R hr h1 h2 hl hl2 hv hdp hu hQ
theorem twoArB_ok (G : Gd w base envs p loose mean mg mb s.heap) {rv pl rt one other lt lt2 : Addr} {k k2 : Kd} {o : Ar} {a b v : Int} {ov : Bool} {t1 t2 t3 t4 t5 t6 t7 t8 t9 u : Tok} (bb : Bd b) (R : RV s.heap rv pl)
    (hr : IsTup s.heap rt [Value.str (Str.ofString "binary") t1, .str o.str t2, .ref one, .ref other].toArray) (h1 : IsTup s.heap one [Value.str (Str.ofString "const") t3, .ref lt, .int a t4].toArray) (h2 : IsTup s.heap other [Value.str (Str.ofString "const") t5, .ref lt2, .int b t6].toArray)
    (hl : IsTup s.heap lt [Value.str (Ty.str .int) t7, .str k.str t8].toArray) (hl2 : IsTup s.heap lt2 [Value.str (Ty.str .int) t9, .str k2.str u].toArray) (hv : chkV k o a b = some (v, ov)) (hdp : dp + 30 < recursionLimit) (hu : un + 300 < cLine)
    (hQ : PostT s Q fun t => W.listOf [Value.int v t].toArray 0) : wpAny (model PG w) (Au dp un gd envs) (call (.ref 642) [.ref rv, .none, .ref rt]) Q E s :=
  twoAr_ok (c := false) G bb R hr h1 h2 hl hl2 hv hdp hu hQ
theorem twoDivC_ok (G : Gd w base envs p loose mean mg mb s.heap) {rv pl rt one other lt lt2 : Addr} {k k2 : Kd} {o : Ar} {a b : Int} {t1 t2 t3 t4 t5 t6 t7 t8 t9 u : Tok} (bb : Bd b) (R : RV s.heap rv pl)
    (hr : IsTup s.heap rt [Value.str (Str.ofString "checked") t1, .str o.str t2, .ref one, .ref other].toArray) (h1 : IsTup s.heap one [Value.str (Str.ofString "const") t3, .ref lt, .int a t4].toArray) (h2 : IsTup s.heap other [Value.str (Str.ofString "const") t5, .ref lt2, .int b t6].toArray)
    (hl : IsTup s.heap lt [Value.str (Ty.str .int) t7, .str k.str t8].toArray) (hl2 : IsTup s.heap lt2 [Value.str (Ty.str .int) t9, .str k2.str u].toArray) (hv : chkV k o a b = none) (hdp : dp + 80 < recursionLimit) (hu : un + 800 < cLine)
    (hE : ∀ e h' tk', Fly w s.heap envs e h' → E (.ref e) { s with heap := h', toks := tk' }) : wpAny (model PG w) (Au dp un gd envs) (call (.ref 642) [.ref rv, .none, .ref rt]) Q E s :=
  twoDiv_ok (c := true) G bb R hr h1 h2 hl hl2 hv hdp hu hE
theorem twoDivB_ok (G : Gd w base envs p loose mean mg mb s.heap) {rv pl rt one other lt lt2 : Addr} {k k2 : Kd} {o : Ar} {a b : Int} {t1 t2 t3 t4 t5 t6 t7 t8 t9 u : Tok} (bb : Bd b) (R : RV s.heap rv pl)
    (hr : IsTup s.heap rt [Value.str (Str.ofString "binary") t1, .str o.str t2, .ref one, .ref other].toArray) (h1 : IsTup s.heap one [Value.str (Str.ofString "const") t3, .ref lt, .int a t4].toArray) (h2 : IsTup s.heap other [Value.str (Str.ofString "const") t5, .ref lt2, .int b t6].toArray)
    (hl : IsTup s.heap lt [Value.str (Ty.str .int) t7, .str k.str t8].toArray) (hl2 : IsTup s.heap lt2 [Value.str (Ty.str .int) t9, .str k2.str u].toArray) (hv : chkV k o a b = none) (hdp : dp + 80 < recursionLimit) (hu : un + 800 < cLine)
    (hE : ∀ e h' tk', Fly w s.heap envs e h' → E (.ref e) { s with heap := h', toks := tk' }) : wpAny (model PG w) (Au dp un gd envs) (call (.ref 642) [.ref rv, .none, .ref rt]) Q E s :=
  twoDiv_ok (c := false) G bb R hr h1 h2 hl hl2 hv hdp hu hE
end

theorem words_p33_pair_2 : True := by
  k_with "call ref" => (k_here; (with_reducible show wpAny _ _ (call (Value.ref 642) _) _ _ _); k_dflt (refine' twoArC_ok (gd_of ?zqF ?zqB ?zqX ?zqT ?zqhf ?zqhk) (by with_reducible assumption) (rv_base (by k_asm) (by k_asm) (by with_reducible assumption)) (News.isTup (by k_asm) (by k_mem)) (Fr.tup (by k_asm) (by with_reducible assumption)) (Fr.tup (by k_asm) (by with_reducible assumption)) (Fr.tup (by k_asm) (by with_reducible assumption)) (Fr.tup (by k_asm) (by with_reducible assumption)) (by with_reducible assumption) ?zqhdp ?zqhu ?_; (case zqF => k_asm); (case zqX => k_asm); (case zqT => k_asm); (case zqB => k_asm); (case zqhf => exact rfl); (case zqhk => exact rfl); (case zqhdp => ktr_room); (case zqhu => ktr_units);  k_whole; refine postT_use (by assumption) (by assumption) ?_; intro D9 t9 h9 tk9 F9 N9 l9; (try dsimp only at N9); (try dsimp only); (try k_sweep); (try k_fold)))
  k_with "call ref" => (k_here; (with_reducible show wpAny _ _ (call (Value.ref 642) _) _ _ _); k_dflt (refine' twoArB_ok (gd_of ?zqF ?zqB ?zqX ?zqT ?zqhf ?zqhk) (by with_reducible assumption) (rv_base (by k_asm) (by k_asm) (by with_reducible assumption)) (News.isTup (by k_asm) (by k_mem)) (Fr.tup (by k_asm) (by with_reducible assumption)) (Fr.tup (by k_asm) (by with_reducible assumption)) (Fr.tup (by k_asm) (by with_reducible assumption)) (Fr.tup (by k_asm) (by with_reducible assumption)) (by with_reducible assumption) ?zqhdp ?zqhu ?_; (case zqF => k_asm); (case zqX => k_asm); (case zqT => k_asm); (case zqB => k_asm); (case zqhf => exact rfl); (case zqhk => exact rfl); (case zqhdp => ktr_room); (case zqhu => ktr_units);  k_whole; refine postT_use (by assumption) (by assumption) ?_; intro D9 t9 h9 tk9 F9 N9 l9; (try dsimp only at N9); (try dsimp only); (try k_sweep); (try k_fold)))
  k_with "call ref" => (k_here; (with_reducible show wpAny _ _ (call (Value.ref 642) _) _ _ _); k_dflt (refine' twoDivC_ok (gd_of ?zqF ?zqB ?zqX ?zqT ?zqhf ?zqhk) ?zqbb ?zqR ?zqhr ?zqa1 ?zqa2 ?zqa3 ?zqa4 ?zqhv ?zqhdp ?zqhu ?_; (case zqhv => with_reducible assumption); (case zqF => k_asm); (case zqX => k_asm); (case zqT => k_asm); (case zqB => k_asm); (case zqhf => exact rfl); (case zqhk => exact rfl); (case zqbb => with_reducible assumption); (case zqR => exact rv_base (by k_asm) (by k_asm) (by with_reducible assumption)); (case zqhr => exact News.isTup (by k_asm) (by k_mem)); (case zqa1 => exact Fr.tup (by k_asm) (by with_reducible assumption)); (case zqa2 => exact Fr.tup (by k_asm) (by with_reducible assumption)); (case zqa3 => exact Fr.tup (by k_asm) (by with_reducible assumption)); (case zqa4 => exact Fr.tup (by k_asm) (by with_reducible assumption)); (case zqhdp => ktr_room); (case zqhu => ktr_units); k_whole; intro e9 h9 tk9 R9; (try dsimp only)))
  k_with "call ref" => (k_here; (with_reducible show wpAny _ _ (call (Value.ref 642) _) _ _ _); k_dflt (refine' twoDivB_ok (gd_of ?zqF ?zqB ?zqX ?zqT ?zqhf ?zqhk) ?zqbb ?zqR ?zqhr ?zqa1 ?zqa2 ?zqa3 ?zqa4 ?zqhv ?zqhdp ?zqhu ?_; (case zqhv => with_reducible assumption); (case zqF => k_asm); (case zqX => k_asm); (case zqT => k_asm); (case zqB => k_asm); (case zqhf => exact rfl); (case zqhk => exact rfl); (case zqbb => with_reducible assumption); (case zqR => exact rv_base (by k_asm) (by k_asm) (by with_reducible assumption)); (case zqhr => exact News.isTup (by k_asm) (by k_mem)); (case zqa1 => exact Fr.tup (by k_asm) (by with_reducible assumption)); (case zqa2 => exact Fr.tup (by k_asm) (by with_reducible assumption)); (case zqa3 => exact Fr.tup (by k_asm) (by with_reducible assumption)); (case zqa4 => exact Fr.tup (by k_asm) (by with_reducible assumption)); (case zqhdp => ktr_room); (case zqhu => ktr_units); k_whole; intro e9 h9 tk9 R9; (try dsimp only)))
  trivial
def TurnW (prog : Program) (w : World) (A : Around) (R : Result → Shared → Prop) (target elt : Expr) (it acc : Value) (env : Env) : Nat → Shared → Prop
  | 0, s => wpAny (model prog w) A (pyNext it) (fun r s₁ => match r with
      | none => R (.ok .next) s₁
      | some _ => False) (fun _ _ => False) s
  | n + 1, s => wpAny (model prog w) A (pyNext it) (fun r s₁ => match r with
      | none => False
      | some v => wpAny (model prog w) A (assign target env v) (fun _ s₂ => wpAny (model prog w) A (eval elt env) (fun x s₃ =>
          wpAny (model prog w) A (call (.builtin "list.append") [acc, x]) (fun _ s₄ => TurnW prog w A R target elt it acc env n s₄) (fun _ _ => False) s₃) (fun _ _ => False) s₂) (fun _ _ => False) s₁) (fun _ _ => False) s
theorem comp_loop {prog : Program} {w : World} {A : Around} {R : Result → Shared → Prop} {target elt iter : Expr} {it acc : Value} {env : Env} {scope : Scope} {pos : Pos} (n : Nat) {s : Shared} (h : TurnW prog w A R target elt it acc env n s) (ht : ∀ v, letOwnedTupleGo target it v = pure () := by intro _; rfl) :
    codeAny (model prog w) A (.compLoop (.ListComp elt [⟨target, iter, [], 0⟩] scope pos) 0 it acc env) R s := by
  refine codeAny_compLoop_list (TurnW prog w A R target elt it acc env) (fun n s hI => ?_) n h ht
  cases n with
  | zero => exact wpAny_mono hI (fun r s₁ x => by cases r with | none => exact x | some _ => exact x.elim) fun _ _ x => x.elim
  | succ n =>
    refine wpAny_mono hI (fun r s₁ x => ?_) fun _ _ x => x.elim
    cases r with
    | none => exact x.elim
    | some v => exact wpAny_mono x (fun _ s₂ y => wpAny_mono y (fun _ s₃ z => wpAny_mono z (fun _ s₄ q => ⟨n, Nat.lt_succ_self n, q⟩) fun _ _ x => x.elim) fun _ _ x => x.elim) fun _ _ x => x.elim
abbrev iterO (ax : Addr) (i : Nat) : Obj := { cls := .type "list_iterator", data := .fields #[.ref ax, .int i 0] }
def IterO (ax : Addr) (i : Nat) (o : Obj) : Prop := o.cls = .type "list_iterator" ∧ o.data = .fields #[.ref ax, .int i 0]
def CompS (prog : Program) (w : World) (A : Around) (env : Env) (elt : Expr) (x : Str) (px : Pos) (scope : Scope) (cl : List (Str × Addr)) (y : Str) (py : Pos) (Q : Flow → Shared → Prop) (E : Value → Shared → Prop) (xv : Value) (s₁ : Shared) : Prop :=
  ∃ ax its n, xv = .ref ax ∧ s₁.heap.IsList ax its ∧ ∀ h₁ tk, s₁.heap.StaysIn h₁ → h₁.get? s₁.heap.objs.size = some (iterO ax 0) → h₁.get? (s₁.heap.objs.size + 1) = some (W.listOf #[] 0) →
    h₁.get? (s₁.heap.objs.size + 2) = some { cls := .type "dict", data := .dict #[] } → h₁.get? (s₁.heap.objs.size + 3) = some { cls := .type "cell", data := .cell none } →
    TurnW prog w A (compPost (model prog w) A E (some (assign (.Name y py) env)) (fun _ s' => Q .next s') (.ref (s₁.heap.objs.size + 1)) (s₁.heap.objs.size + 2)) (.Name x px) elt (.ref s₁.heap.objs.size) (.ref (s₁.heap.objs.size + 1))
      (compEnvC scope ((x, s₁.heap.objs.size + 3) :: cl) (s₁.heap.objs.size + 2) env) n { s₁ with heap := h₁, toks := tk }
section
variable {prog : Program} {w : World} {A : Around} {E : Value → Shared → Prop} {s : Shared} {env : Env}
theorem newEnv_comp {scope : Scope} {cl : List (Str × Addr)} {x : Str} {Q : Env → Shared → Prop} (hcf : ∀ n, cellsFrom n scope.names cl = (x, n) :: cl) (hpc : ∀ h, pushCells h scope.names = h.push { cls := .type "cell", data := .cell none })
    (hQ : Q { scope := scope, locals := s.heap.objs.size, globals := env.globals, cells := (x, s.heap.objs.size + 1) :: cl, qual := env.qual, func := none, code := env.code, frame := env.frame, builtins := env.builtins }
      { s with heap := (s.heap.push { cls := .type "dict", data := .dict #[] }).push { cls := .type "cell", data := .cell none } }) :
    wpAny (model prog w) A (newFunctionEnv scope env.globals cl [] env.qual none .none (some env)) Q E s := by
  simp only [newFunctionEnv, Option.isSome_some, if_true]
  refine wpAny_bind (wpAny_alloc ?_)
  refine wpAny_bind (wpAny_layCells _ (fun name kind cells => by cases hkc : kind == NameKind.cell <;> simp [hkc]) _ _ _ _ ?_)
  dsimp only
  rw [hcf, hpc, Heap.size_push]
  exact wpAny_bind (wpAny_pure (wpAny_pure hQ))
theorem assign_comp {elt iter : Expr} {x y : Str} {px py : Pos} {scope : Scope} {cl : List (Str × Addr)} {pos spos : Pos} {Q : Flow → Shared → Prop}
    (hsw : swapsWith (.ListComp elt [⟨.Name x px, iter, [], 0⟩] scope pos) (some (.Name y py)) spos.line env = pure true)
    (hclos : closureFor scope env = pure cl) (hkind : scope.kind = .function) (hnames : ∀ z ∈ scope.names, z.2 = .local → scope.names.lookup z.1 = some .local)
    (hcf : ∀ n, cellsFrom n scope.names cl = (x, n) :: cl) (hpc : ∀ h, pushCells h scope.names = h.push { cls := .type "cell", data := .cell none })
    (h : wpAny (model prog w) A (eval iter env) (CompS prog w A env elt x px scope cl y py Q E) E s)
    (hs : ∀ x, foldedSetIterable iter env x = pure x := by intro _; rfl) :
    wpAny (model prog w) A (exec (.Assign [.Name y py] (.ListComp elt [⟨.Name x px, iter, [], 0⟩] scope pos) spos) env) Q E s := by
  rw [exec_Assign_Name_used _ _ _ _ hsw]
  refine wpAny_bind (wpAny_standAt (wpAny_bind ?_))
  show wpAny _ A (do let _ ← comprehension (.ListComp elt [⟨.Name x px, iter, [], 0⟩] scope pos) scope env _ (newList []) false (eval iter env) (some (assign (.Name y py) env))) _ _ s
  refine wpAny_bind (wpAny_mono (wpAny_comprehension_free (use := some (assign (.Name y py) env)) (Q := fun _ s' => Q .next s') rfl hs hclos hkind hnames
    (wpAny_mono h (fun xv s₁ h₁ => ?_) fun _ _ e => e)) (fun _ s' hq => wpAny_pure (wpAny_pure hq)) fun _ _ e => e)
  obtain ⟨ax, its, n, rfl, hl, K⟩ := h₁
  refine wpAny_pyIter_list hl ?_
  refine wpAny_newObj_type ?_
  refine newEnv_comp hcf hpc ?_
  dsimp only
  simp only [Heap.size_push]
  have g0 : ∀ o : Obj, ∀ h : Heap, o.isFreed = false → (h.push o).get? h.objs.size = some o := fun o h q => Heap.get?_push_size h q
  have st1 : ∀ o : Obj, ∀ h : Heap, ∀ b x, h.get? b = some x → (h.push o).get? b = some x := fun o h b x e => Heap.get?_push_of_some _ e
  have T := K ((((s₁.heap.push (iterO ax 0)).push (W.listOf #[] 0)).push { cls := .type "dict", data := .dict #[] }).push { cls := .type "cell", data := .cell none }) s₁.toks
    (fun b o e => st1 _ _ _ _ (st1 _ _ _ _ (st1 _ _ _ _ (st1 _ _ _ _ e)))) (st1 _ _ _ _ (st1 _ _ _ _ (st1 _ _ _ _ (g0 _ _ rfl))))
    (st1 _ _ _ _ (st1 _ _ _ _ (by have := g0 (W.listOf #[] 0) (s₁.heap.push (iterO ax 0)) rfl; rwa [Heap.size_push] at this)))
    (st1 _ _ _ _ (by have := g0 { cls := .type "dict", data := .dict #[] } ((s₁.heap.push (iterO ax 0)).push (W.listOf #[] 0)) rfl; rwa [Heap.size_push, Heap.size_push] at this))
    (by have := g0 { cls := .type "cell", data := .cell none } (((s₁.heap.push (iterO ax 0)).push (W.listOf #[] 0)).push { cls := .type "dict", data := .dict #[] }) rfl; rwa [Heap.size_push, Heap.size_push, Heap.size_push] at this)
  exact codeAny_compStart_list (comp_loop _ T) (wpAny_pyIter_listiter ⟨_, st1 _ _ _ _ (st1 _ _ _ _ (st1 _ _ _ _ (g0 _ _ rfl))), rfl, rfl⟩ (comp_loop _ T))
end
inductive Drop2 (I C : Addr) : List (Addr × Obj) → List (Addr × Obj) → Prop
  | nil : Drop2 I C [] []
  | dropI {o r k} : Drop2 I C r k → Drop2 I C ((I, o) :: r) k
  | dropC {o r k} : Drop2 I C r k → Drop2 I C ((C, o) :: r) k
  | keep {p r k} : p.1 ≠ I → p.1 ≠ C → Drop2 I C r k → Drop2 I C (p :: r) (p :: k)
theorem Drop2.of {I C : Addr} {news keep : List (Addr × Obj)} (d : Drop2 I C news keep) : ∀ p ∈ keep, p ∈ news ∧ p.1 ≠ I ∧ p.1 ≠ C := by
  induction d with
  | nil => intro p hp; cases hp
  | dropI _ ih => intro p hp; exact ⟨.tail _ (ih p hp).1, (ih p hp).2⟩
  | dropC _ ih => intro p hp; exact ⟨.tail _ (ih p hp).1, (ih p hp).2⟩
  | keep a b _ ih =>
    intro p hp
    rcases List.mem_cons.mp hp with rfl | hp
    · exact ⟨.head _, a, b⟩
    · exact ⟨.tail _ (ih p hp).1, (ih p hp).2⟩
section
variable {prog : Program} {w : World} {A : Around} {E : Value → Shared → Prop} {s : Shared} {env : Env} {h₀ : Heap} {L ax I C D c P : Addr} {m mg mb : Str → Option Value} {news keep : List (Addr × Obj)} {gf : Obj → List (Addr × Obj)} {x y : Str} {px py : Pos} {elt : Expr} {scope : Scope} {cl : List (Str × Addr)} {p : Program} {loose : List Str} {mean : ExcName → Option Value}
theorem comp_start {Q : Flow → Shared → Prop} {its : Array Value} {oax : Obj} (n : Nat) (F : Fr h₀ L s.heap m) (N : News h₀ L s.heap news) (hax : (ax, oax) ∈ news) (h1 : oax.cls = .type "list") (h2 : ∃ k, oax.data = .seq its k)
    (h : ∀ I h' tk', Fr h₀ L h' m → News h₀ L h' ((I + 3, { cls := .type "cell", data := .cell none }) :: (I + 2, { cls := .type "dict", data := .dict #[] }) :: (I + 1, W.listOf #[] 0) :: (I, iterO ax 0) :: news) → (∀ q ∈ news, q.1 < I) →
      TurnW prog w A (compPost (model prog w) A E (some (assign (.Name y py) env)) (fun _ s' => Q .next s') (.ref (I + 1)) (I + 2)) (.Name x px) elt (.ref I) (.ref (I + 1)) (compEnvC scope ((x, I + 3) :: cl) (I + 2) env) n { s with heap := h', toks := tk' }) :
    CompS prog w A env elt x px scope cl y py Q E (.ref ax) s := by
  obtain ⟨k, hd⟩ := h2
  refine ⟨ax, its, n, rfl, ⟨oax, N.get hax, h1, k, hd⟩, fun h₁ tk st e1 e2 e3 e4 => h _ h₁ tk (F.keeps st) (fun q hq => ?_) fun q hq => Heap.lt_size (N q hq).1⟩
  have fr : ∀ j, L ≠ s.heap.objs.size + j ∧ h₀.get? (s.heap.objs.size + j) = none := fun j =>
    ⟨Nat.ne_of_lt (Nat.lt_of_lt_of_le F.ns.lt (Nat.le_add_right _ _)), Heap.get?_none_of_le (Nat.le_trans F.above (Nat.le_trans (Nat.le_of_lt F.ns.lt) (Nat.le_add_right _ _)))⟩
  rcases List.mem_cons.mp hq with rfl | hq
  · exact ⟨e4, (fr 3).1.symm, (fr 3).2⟩
  rcases List.mem_cons.mp hq with rfl | hq
  · exact ⟨e3, (fr 2).1.symm, (fr 2).2⟩
  rcases List.mem_cons.mp hq with rfl | hq
  · exact ⟨e2, (fr 1).1.symm, (fr 1).2⟩
  rcases List.mem_cons.mp hq with rfl | hq
  · exact ⟨e1, (fr 0).1.symm, (fr 0).2⟩
  · exact ⟨st _ _ (N q hq).1, (N q hq).2⟩
theorem turn_item {R : Result → Shared → Prop} {n i : Nat} {oI oax : Obj} {its : Array Value} {v acc : Value} {target : Expr} {cenv : Env} (F : Fr h₀ L s.heap m) (N : News h₀ L s.heap news) (U : UpdF I oI news gf) (hI : IterO ax i oI) (hax : (ax, oax) ∈ news) (h1 : oax.cls = .type "list") (h2 : ∃ k, oax.data = .seq its k) (hv : its[i]? = some v) (hne : ax ≠ I)
    (h : ∀ oI' h', IterO ax (i + 1) oI' → Fr h₀ L h' m → News h₀ L h' (gf oI') → wpAny (model prog w) A (assign target cenv v) (fun _ s₂ => wpAny (model prog w) A (eval elt cenv) (fun x s₃ =>
      wpAny (model prog w) A (call (.builtin "list.append") [acc, x]) (fun _ s₄ => TurnW prog w A R target elt (.ref I) acc cenv n s₄) (fun _ _ => False) s₃) (fun _ _ => False) s₂) (fun _ _ => False) { s with heap := h' }) :
    TurnW prog w A R target elt (.ref I) acc cenv (n + 1) s := by
  obtain ⟨pre, post, rfl, hg, a, b⟩ := U.split
  have z := N (I, oI) (List.mem_append.mpr (.inr (.head _)))
  obtain ⟨k, hd⟩ := h2
  refine wpAny_pyNext_list_item (l := ax) (i := i) ⟨oI, z.1, hI.1, hI.2⟩ ⟨oax, N.get hax, h1, k, hd⟩ hv fun h' hit hs => ?_
  obtain ⟨oI', ho, hc, hdt⟩ := hit
  exact h oI' h' ⟨hc, hdt⟩ (F.change hs z.2.1 z.2.2) (hg oI' ▸ N.setAt a b hs ho)
theorem cell_store {Q : Unit → Shared → Prop} {oc : Obj} {v₀ : Option Value} {v : Value} (F : Fr h₀ L s.heap m) (N : News h₀ L s.heap news) (U : UpdF c oc news gf) (hd : oc.data = .cell v₀)
    (hk : env.scope.kind = .function) (hx : env.kindOf x = some .cell) (hc : env.cells.lookup x = some c)
    (h : ∀ h' o', Fr h₀ L h' m → News h₀ L h' (gf o') → o'.data = .cell (some v) → Q () { s with heap := h' }) : wpAny (model prog w) A (storeName env x v) Q E s := by
  obtain ⟨own, rest, rfl, hg, h1, h2⟩ := U.split
  have hmem := N (c, oc) (List.mem_append_right _ (.head _))
  refine wpAny_storeName_cell hk hx hc ⟨oc, hmem.1, hd⟩ fun h' hv hs => ?_
  obtain ⟨o', ho', hd'⟩ := hv
  exact h h' o' (F.change hs hmem.2.1 hmem.2.2) (hg o' ▸ N.setAt h1 h2 hs ho') hd'
theorem turn_end {Q : Shared → Prop} {i : Nat} {oI oax oC : Obj} {its : Array Value} {target : Expr} {cenv : Env} {m₂ : Str → Option Value} (hh : A.handled = none) (F : Fr h₀ L s.heap m) (N : News h₀ L s.heap news) (hIm : (I, oI) ∈ news) (hI : IterO ax i oI) (hax : (ax, oax) ∈ news) (h1 : oax.cls = .type "list") (h2 : ∃ k, oax.data = .seq its k) (hv : its[i]? = none)
    (hCm : (C, oC) ∈ news) (hC : PyProof.Rows.LCg.NsObj oC m₂) (hCI : C ≠ I) (hLe : env.locals = L) (hy : env.kindOf y = some .local) (hp : (env.scope.kind == .class || (env.scope.kind == .module && env.locals != env.globals)) = false)
    (d : Drop2 I C news keep)
    (h : ∀ h' tk', Fr h₀ L h' (fun z => if z = y then some (.ref D) else m z) → News h₀ L h' keep → Q { s with heap := h', toks := tk' }) :
    TurnW prog w A (compPost (model prog w) A E (some (assign (.Name y py) env)) (fun _ s' => Q s') (.ref D) C) target elt (.ref I) (.ref D) cenv 0 s := by
  subst hLe
  obtain ⟨k, hd⟩ := h2
  have zI := N _ hIm
  have zC := N _ hCm
  refine wpAny_pyNext_list_end (l := ax) (i := i) (items := its) hh ⟨oI, zI.1, hI.1, hI.2⟩ ⟨oax, N.get hax, h1, k, hd⟩ hv fun h₁ he => ?_
  have F₁ : Fr h₀ env.locals h₁ m := ⟨F.ns.extBut he zI.2.1.symm, fun b o e => he b o (fun q => by rw [q, zI.2.2] at e; cases e) (F.keep b o e), F.above⟩
  show wpAny _ A (assign (.Name y py) env (.ref D)) _ _ _
  refine wpAny_assign_Name (wpAny_storeName_local hy F₁.ns (fun h₂ hn₂ hs₂ => ?_) hp)
  have hL₀ : h₀.get? env.locals = none := kts_self F
  have F₂ : Fr h₀ env.locals h₂ (fun z => if z = y then some (.ref D) else m z) := ⟨hn₂, fun b o e => hs₂.extBut b o (fun q => by rw [q, hL₀] at e; cases e) (F₁.keep b o e), F.above⟩
  have nC : h₂.Ns C m₂ := hC.ns (hs₂.extBut _ _ zC.2.1 (he _ _ hCI zC.1))
  refine ⟨m₂, nC, fun h'' hs'' => h h'' _ (F₂.change hs'' zC.2.1 zC.2.2) fun q hq => ?_⟩
  obtain ⟨q1, q2, q3⟩ := d.of q hq
  have n := N q q1
  exact ⟨hs''.extBut _ _ q3 (hs₂.extBut _ _ n.2.1 (he _ _ q2 n.1)), n.2⟩
theorem nestG {name qual : Str} {params : Arguments} {body : Expr} {scope : Scope} {ps : Array Value} {pos : Pos} {firstLine : Nat} {clos : List (Str × Addr)} {Q : Value → Shared → Prop} (hge : env.globals = mainGlobals) (hcd : env.code = .ref c) (F : Fr h₀ L s.heap m) (N : News h₀ L s.heap news) (T : Top p loose mean mg mb h₀) (CH : CodeHd h₀ c P) (U : UpdF P (tabObj ps) news gf) (ht : TriplesOk ps.toList) (hnf : codeAmong pos ps.toList = none)
    (hcl : closureFor scope env = pure clos)
    (h : ∀ f c' oc vs t ctv h' tk, Fr h₀ L h' m →
      News h₀ L h' ((f, kla_obj name qual params body scope clos ((mg "__name__").getD .none) c' ctv) :: (c', oc) :: gf (tabObj (ps ++ #[rawInt pos.line, rawInt pos.col, .ref c']))) →
      oc.data = .fields vs → vs[1]? = some (.str qual t) → (∀ q ∈ news, q.1 < c') → c' < f → Q (.ref f) { s with heap := h', toks := tk }) :
    wpAny (model prog w) A (makeFunction name qual params (.expr body) scope env [] [] [] pos firstLine) Q E s := by
  obtain ⟨own, rest, rfl, hgr, h1, h2⟩ := U.split
  have hm := N (P, tabObj ps) (List.mem_append_right _ (.head _))
  have hgs := T.g.keeps F.keep
  obtain ⟨bm, ob, b1, b2, b3, b4, b5, b6⟩ := T.bmain
  have hgP : mainGlobals ≠ P := fun q => by
    obtain ⟨o, es, ep, e, hd, _⟩ := hgs
    rw [q, hm.1] at e; cases e; cases hd
  have hbP : bm ≠ P := fun q => by
    have e := F.keep _ _ b3
    rw [q, hm.1] at e; cases e; cases b4
  have hbG : bm ≠ mainGlobals := fun q => by
    obtain ⟨o, es, ep, e, hd, _⟩ := T.g
    rw [q, e] at b3; cases b3; rw [hd] at b6; cases b6
  refine kla_makeFunction (mg := mg) hcl hge hgs hcd (CH.keeps F.keep) hm.1 ht hnf hgP ⟨bm, ob, b1, b2, hbG, hbP, F.keep _ _ b3, b4, b5, b6⟩ fun c' ctv h' tk hx hz hlt hrec htb => ?_
  obtain ⟨c₂, oc, vs, t, e2, hoc, hd, hv⟩ := hrec
  cases e2
  have hLc : L < c' := Nat.lt_of_lt_of_le F.ns.lt hz
  have fresh : ∀ b, L < b → h₀.get? b = none := fun b hb => Heap.get?_none_of_le (Nat.le_trans F.above (Nat.le_of_lt hb))
  refine h h'.objs.size c' oc vs t ctv _ tk ⟨(F.ns.extBut hx hm.2.1.symm).push _, fun b o e => Heap.get?_push_of_some _ (hx b o (fun q => by rw [q, hm.2.2] at e; cases e) (F.keep b o e)), F.above⟩ (fun q hq => ?_) hd hv
    (fun q hq => Nat.lt_of_lt_of_le (Heap.lt_size (N q hq).1) hz) hlt
  rcases List.mem_cons.mp hq with rfl | hq
  · exact ⟨Heap.get?_push_size _ rfl, Nat.ne_of_gt (Nat.lt_trans hLc hlt), fresh _ (Nat.lt_trans hLc hlt)⟩
  rcases List.mem_cons.mp hq with rfl | hq
  · exact ⟨Heap.get?_push_of_some _ hoc, Nat.ne_of_gt hLc, fresh _ hLc⟩
  rw [hgr] at hq
  rcases List.mem_append.mp hq with hq | hq
  · have n := N q (List.mem_append_left _ hq)
    exact ⟨Heap.get?_push_of_some _ (hx _ _ (h1 q hq) n.1), n.2⟩
  rcases List.mem_cons.mp hq with rfl | hq
  · exact ⟨Heap.get?_push_of_some _ htb, hm.2⟩
  · have n := N q (List.mem_append_right _ (.tail _ hq))
    exact ⟨Heap.get?_push_of_some _ (hx _ _ (h2 q hq) n.1), n.2⟩
theorem hitG {name qual : Str} {params : Arguments} {body : Expr} {scope : Scope} {ps : Array Value} {pos : Pos} {firstLine : Nat} {clos : List (Str × Addr)} {Q : Value → Shared → Prop} {c' : Addr} (hge : env.globals = mainGlobals) (hcd : env.code = .ref c) (F : Fr h₀ L s.heap m) (N : News h₀ L s.heap news) (T : Top p loose mean mg mb h₀) (CH : CodeHd h₀ c P) (hmem : (P, tabObj ps) ∈ news) (ht : TriplesOk ps.toList) (hf : codeAmong pos ps.toList = some (.ref c'))
    (hcl : closureFor scope env = pure clos)
    (h : ∀ f ctv h' tk, Fr h₀ L h' m → News h₀ L h' ((f, kla_obj name qual params body scope clos ((mg "__name__").getD .none) c' ctv) :: news) → (∀ q ∈ news, q.1 < f) → Q (.ref f) { s with heap := h', toks := tk }) :
    wpAny (model prog w) A (makeFunction name qual params (.expr body) scope env [] [] [] pos firstLine) Q E s := by
  have hm := N (P, tabObj ps) hmem
  have hgs := T.g.keeps F.keep
  obtain ⟨bm, ob, b1, b2, b3, b4, b5, b6⟩ := T.bmain
  have hbP : bm ≠ P := fun q => by
    have e := F.keep _ _ b3
    rw [q, hm.1] at e; cases e; cases b4
  have hbG : bm ≠ mainGlobals := fun q => by
    obtain ⟨o, es, ep, e, hd, _⟩ := T.g
    rw [q, e] at b3; cases b3; rw [hd] at b6; cases b6
  refine kla_makeFunctionHit (mg := mg) hcl hge hgs hcd (CH.keeps F.keep) hm.1 ht hf ⟨bm, ob, b1, b2, hbG, hbP, F.keep _ _ b3, b4, b5, b6⟩ fun ctv h' tk hk hsz => ?_
  have hLs : L < h'.objs.size := Nat.lt_of_lt_of_le F.ns.lt hsz
  refine h h'.objs.size ctv _ tk ⟨(F.ns.keeps hk).push _, fun b o e => Heap.get?_push_of_some _ (hk b o (F.keep b o e)), F.above⟩ (fun q hq => ?_) (fun q hq => Nat.lt_of_lt_of_le (Heap.lt_size (N q hq).1) hsz)
  rcases List.mem_cons.mp hq with rfl | hq
  · exact ⟨Heap.get?_push_size _ rfl, Nat.ne_of_gt hLs, Heap.get?_none_of_le (Nat.le_trans F.above (Nat.le_of_lt hLs))⟩
  · exact ⟨Heap.get?_push_of_some _ (hk _ _ (N q hq).1), (N q hq).2⟩
end
theorem nsObj_empty : PyProof.Rows.LCg.NsObj { cls := .type "dict", data := .dict #[] } (fun _ => none) := ⟨#[], _, rfl, by intro e he; simp at he, fun _ => rfl⟩

theorem words_p34_comp_0 : True := by
  k_with "exec Assign cons ListComp" => (k_here; kn_here; k_dflt (refine' assign_comp ?zqhsw ?zqhclos ?zqhkind ?zqhnames ?zqhcf ?zqhpc ?_; (case zqhsw => with_unfolding_all rfl); (case zqhclos => exact rfl); (case zqhkind => exact rfl); (case zqhnames => decide); (case zqhcf => exact fun _ => rfl); (case zqhpc => exact fun _ => rfl); k_whole))
  k_with "CompS" => (k_dflt (refine' comp_start 2 ?zqF ?zqN ?zqhax ?zqh1 ?zqh2 ?_; (case zqF => k_asm); (case zqN => k_asm); (case zqhax => k_mem); (case zqh1 => exact rfl); (case zqh2 => exact ⟨_, rfl⟩); intro I9 h9 tk9 F9 N9 l9; (k_lt l9); (try dsimp only)))
  k_with "TurnW" => ((with_reducible show TurnW _ _ _ _ _ _ _ _ _ 0 _); k_dflt (refine' turn_end ?zqhh ?zqF ?zqN ?zqhIm ?zqhI ?zqhax ?zqh1 ?zqh2 ?zqhv ?zqhCm ?zqhC ?zqhCI ?zqhLe ?zqhy ?zqhp ?zqd ?_; (case zqhh => exact rfl); (case zqF => k_asm); (case zqN => k_asm); (case zqhIm => k_mem); (case zqhI => assumption); (case zqhax => k_mem); (case zqh1 => exact rfl); (case zqh2 => exact ⟨_, rfl⟩); (case zqhv => exact rfl); (case zqhCm => k_mem); (case zqhC => exact nsObj_empty); (case zqhCI => k_ne); (case zqhLe => exact rfl); (case zqhy => exact rfl); (case zqhp => exact rfl); (case zqd => (repeat' first | with_reducible exact Drop2.nil | refine' Drop2.dropI ?_ | refine' Drop2.dropC ?_ | (refine' Drop2.keep ?zqn1 ?zqn2 ?_; (case zqn1 => k_ne); (case zqn2 => k_ne)))); k_whole; intro h9 tk9 F9 N9; (try dsimp only); (try k_sweep)))
  k_with "TurnW" => ((fail_if_success (with_reducible show TurnW _ _ _ _ _ _ _ _ _ 0 _)); k_dflt (refine' turn_item ?zqF ?zqN ?zqU ?zqhI ?zqhax ?zqh1 ?zqh2 ?zqhv ?zqhne ?_; (case zqF => k_asm); (case zqN => k_asm); (case zqU => k_updF); (case zqhI => first | assumption | exact ⟨rfl, rfl⟩); (case zqhax => k_mem); (case zqh1 => exact rfl); (case zqh2 => exact ⟨_, rfl⟩); (case zqhv => exact rfl); (case zqhne => k_ne); k_whole; intro oI9 h9 i9 F9 N9; (try dsimp only at N9); (try dsimp only); (try k_sweep)))
  k_with "storeName" => (k_here; (with_reducible show wpAny _ _ (storeName (compEnvC _ _ _ _) _ _) _ _ _); k_dflt (refine' cell_store ?zqF ?zqN ?zqU ?zqhd ?zqhk ?zqhx ?zqhc ?_; (case zqhc => exact rfl); (case zqF => k_asm); (case zqN => k_asm); (case zqU => k_updF); (case zqhd => first | exact rfl | assumption); (case zqhk => exact rfl); (case zqhx => exact rfl); k_whole; intro h9 o9 F9 N9 d9; (try dsimp only at N9); (try dsimp only); (try k_sweep)))
  trivial
abbrev lamQ : Str := Str.ofString "_law_pair_right" ++ ".<locals>." ++ Str.ofString "<lambda>"
abbrev lamT1 (c1 : Addr) : Array Value := #[rawInt ((567 : Nat) : Int), rawInt ((17 : Nat) : Int), .ref c1]
abbrev lamT2 (c1 c2 : Addr) : Array Value := #[rawInt ((567 : Nat) : Int), rawInt ((17 : Nat) : Int), .ref c1, rawInt ((570 : Nat) : Int), rawInt ((26 : Nat) : Int), .ref c2]
/-- the table of code: the first lambda's code is there, the second's may be -/
structure TabA (ps : Array Value) (c1 : Addr) (o1 : Obj) (c2 : Addr) (o2 : Obj) : Prop where
  k1 : CodeO lamQ o1
  n1 : @Ne Nat c1 754
  t : ps = lamT1 c1 ∨ ps = lamT2 c1 c2 ∧ CodeO lamQ o2
  n2 : @Ne Nat c2 754
def TabS (ps : Array Value) (c1 : Addr) (o1 : Obj) (c2 : Addr) (o2 : Obj) : Prop := (ps = #[] ∧ @Ne Nat c1 754 ∧ @Ne Nat c2 754) ∨ TabA ps c1 o1 c2 o2
theorem TabS.ok {ps : Array Value} {c1 c2 : Addr} {o1 o2 : Obj} (S : TabS ps c1 o1 c2 o2) : TriplesOk ps.toList := by
  rcases S with ⟨rfl, _⟩ | ⟨_, _, rfl | ⟨rfl, _⟩, _⟩ <;> simp [TriplesOk, rawInt]
theorem TabS.n2 {ps : Array Value} {c1 c2 : Addr} {o1 o2 : Obj} (S : TabS ps c1 o1 c2 o2) : @Ne Nat c2 754 := by
  rcases S with ⟨_, _, h⟩ | h
  · exact h
  · exact h.n2
section
variable {prog : Program} {w : World} {A : Around} {E : Value → Shared → Prop} {s : Shared} {env : Env} {h₀ : Heap} {L c1 c2 : Addr} {o1 o2 : Obj} {m mg mb : Str → Option Value} {news : List (Addr × Obj)} {gf : Obj → List (Addr × Obj)} {p : Program} {loose : List Str} {mean : ExcName → Option Value}
  {name qual : Str} {params : Arguments} {body : Expr} {scope : Scope} {ps : Array Value} {pos : Pos} {firstLine : Nat} {clos : List (Str × Addr)} {Q : Value → Shared → Prop}
theorem lamG {St' : Array Value → Addr → Obj → Prop} (hge : env.globals = mainGlobals) (hcd : env.code = .ref 756) (F : Fr h₀ L s.heap m) (N : News h₀ L s.heap news) (T : Top p loose mean mg mb h₀) (CH : CodeHd h₀ 756 754) (U : UpdF 754 (tabObj ps) news gf) (ht : TriplesOk ps.toList) (hcl : closureFor scope env = pure clos)
    (step : (codeAmong pos ps.toList = none ∧ ∀ c' oc, (∀ q ∈ news, q.1 < c') → @Ne Nat c' 754 → CodeO qual oc → St' (ps ++ #[rawInt pos.line, rawInt pos.col, .ref c']) c' oc) ∨ ∃ c' oc, codeAmong pos ps.toList = some (.ref c') ∧ (c', oc) ∈ news ∧ CodeO qual oc ∧ @Ne Nat c' 754 ∧ St' ps c' oc)
    (h : ∀ f c' oc vs t ps' ctv h' tk, Fr h₀ L h' m → News h₀ L h' ((f, kla_obj name qual params body scope clos ((mg "__name__").getD .none) c' ctv) :: (c', oc) :: gf (tabObj ps')) → oc.data = .fields vs → vs[1]? = some (.str qual t) → St' ps' c' oc → @Ne Nat c' 754 → (∀ q ∈ news, q.1 < f) → c' < f → Q (.ref f) { s with heap := h', toks := tk }) :
    wpAny (model prog w) A (makeFunction name qual params (.expr body) scope env [] [] [] pos firstLine) Q E s := by
  obtain ⟨own, rest, e, hg, _, _⟩ := U.split
  have hmem : (754, tabObj ps) ∈ news := by rw [e]; exact List.mem_append_right _ (.head _)
  rcases step with ⟨hn, k⟩ | ⟨c', oc, hf, hm, ⟨vs, t, d1, d2⟩, hne, k⟩
  · exact nestG hge hcd F N T CH U ht hn hcl fun f c' oc vs t ctv h' tk F' N' d1 d2 l1 l2 =>
      have ne : @Ne Nat c' 754 := Nat.ne_of_gt (l1 _ hmem)
      h f c' oc vs t _ ctv h' tk F' N' d1 d2 (k c' oc l1 ne ⟨vs, t, d1, d2⟩) ne (fun q hq => Nat.lt_trans (l1 q hq) l2) l2
  · refine hitG hge hcd F N T CH hmem ht hf hcl fun f ctv h' tk F' N' l1 => ?_
    refine h f c' oc vs t ps ctv h' tk F' (fun q hq => N' q ?_) d1 d2 k hne l1 (l1 _ hm)
    rw [hg (tabObj ps), ← e] at hq
    rcases List.mem_cons.mp hq with rfl | hq
    · exact .head _
    · rcases List.mem_cons.mp hq with rfl | hq
      · exact .tail _ hm
      · exact .tail _ hq
theorem lam1U (hge : env.globals = mainGlobals) (hcd : env.code = .ref 756) (F : Fr h₀ L s.heap m) (N : News h₀ L s.heap news) (T : Top p loose mean mg mb h₀) (CH : CodeHd h₀ 756 754) (U : UpdF 754 (tabObj ps) news gf) (S : TabS ps c1 o1 c2 o2) (hm : (c1, o1) ∈ news) (hcl : closureFor scope env = pure clos) (hl : pos.line = 567) (hc : pos.col = 17)
    (h : ∀ f c' oc vs t ps' ctv h' tk, Fr h₀ L h' m → News h₀ L h' ((f, kla_obj name lamQ params body scope clos ((mg "__name__").getD .none) c' ctv) :: (c', oc) :: gf (tabObj ps')) → oc.data = .fields vs → vs[1]? = some (.str lamQ t) → TabA ps' c' oc c2 o2 → @Ne Nat c' 754 → (∀ q ∈ news, q.1 < f) → c' < f → Q (.ref f) { s with heap := h', toks := tk }) :
    wpAny (model prog w) A (makeFunction name lamQ params (.expr body) scope env [] [] [] pos firstLine) Q E s := by
  refine lamG (St' := fun ps' c' oc => TabA ps' c' oc c2 o2) hge hcd F N T CH U S.ok hcl ?_ h
  have n2 := S.n2
  rcases S with ⟨rfl, _⟩ | ⟨k1, n1, rfl | ⟨rfl, k2⟩, _⟩
  · refine .inl ⟨rfl, fun c' oc _ ne k => ⟨k, ne, .inl ?_, n2⟩⟩
    rw [hl, hc]; rfl
  · exact .inr ⟨c1, o1, by simp [codeAmong, rawInt, hl, hc], hm, k1, n1, ⟨k1, n1, .inl rfl, n2⟩⟩
  · exact .inr ⟨c1, o1, by simp [codeAmong, rawInt, hl, hc], hm, k1, n1, ⟨k1, n1, .inr ⟨rfl, k2⟩, n2⟩⟩
theorem lam2U (hge : env.globals = mainGlobals) (hcd : env.code = .ref 756) (F : Fr h₀ L s.heap m) (N : News h₀ L s.heap news) (T : Top p loose mean mg mb h₀) (CH : CodeHd h₀ 756 754) (U : UpdF 754 (tabObj ps) news gf) (S : TabA ps c1 o1 c2 o2) (hm : (c2, o2) ∈ news) (hcl : closureFor scope env = pure clos) (hl : pos.line = 570) (hc : pos.col = 26)
    (h : ∀ f c' oc vs t ps' ctv h' tk, Fr h₀ L h' m → News h₀ L h' ((f, kla_obj name lamQ params body scope clos ((mg "__name__").getD .none) c' ctv) :: (c', oc) :: gf (tabObj ps')) → oc.data = .fields vs → vs[1]? = some (.str lamQ t) → (TabA ps' c1 o1 c' oc ∧ (@Eq Nat c' c2 ∨ AllLt c' news)) → @Ne Nat c' 754 → (∀ q ∈ news, q.1 < f) → c' < f → Q (.ref f) { s with heap := h', toks := tk }) :
    wpAny (model prog w) A (makeFunction name lamQ params (.expr body) scope env [] [] [] pos firstLine) Q E s := by
  refine lamG (St' := fun ps' c' oc => TabA ps' c1 o1 c' oc ∧ (@Eq Nat c' c2 ∨ AllLt c' news)) hge hcd F N T CH U (TabS.ok (.inr S)) hcl ?_ h
  obtain ⟨k1, n1, rfl | ⟨rfl, k2⟩, n2⟩ := S
  · refine .inl ⟨by simp [codeAmong, rawInt, hl, hc], fun c' oc l ne k => ⟨⟨k1, n1, .inr ⟨?_, k⟩, ne⟩, .inr (allLt_of l)⟩⟩
    rw [hl, hc]; rfl
  · exact .inr ⟨c2, o2, by simp [codeAmong, rawInt, hl, hc], hm, k2, n2, ⟨⟨k1, n1, .inr ⟨rfl, k2⟩, n2⟩, .inl rfl⟩⟩
end

theorem words_p34b_lam_0 : True := by
  k_with "eval Lambda" => (k_here; kn_here; k_dflt (refine' kla_eval ?zqd0 ?_; (case zqd0 => exact rfl)); (k_dflt (refine' lam1U ?zqge ?zqcd ?zqF ?zqN ?zqT ?zqC ?zqU ?zqS ?zqmm ?zqcl ?zqhl ?zqhc ?_; (case zqF => k_asm); (case zqN => k_asm); (case zqT => k_asm); (case zqge => exact rfl); (case zqcd => exact rfl); (case zqC => kn_code); (case zqU => k_updF); (case zqS => with_reducible assumption); (case zqmm => k_mem); (case zqcl => exact rfl); (case zqhl => exact rfl); (case zqhc => exact rfl); k_whole); intro f' c' oc' vs' t' ps' ct' h' tk' F' N' d1' d2' S' n1 l1 l2; (try dsimp only at N'); (try k_lt l1); (try k_lt2 l2)))
  k_with "eval Lambda" => (k_here; kn_here; (with_reducible show wpAny _ _ (eval (Expr.Lambda _ _ _ _) (compEnvC _ _ _ _)) _ _ _); k_dflt (refine' kla_eval ?zqd0 ?_; (case zqd0 => exact rfl)); (k_dflt (refine' lam2U ?zqge ?zqcd ?zqF ?zqN ?zqT ?zqC ?zqU ?zqS ?zqmm ?zqcl ?zqhl ?zqhc ?_; (case zqF => k_asm); (case zqN => k_asm); (case zqT => k_asm); (case zqge => exact rfl); (case zqcd => exact rfl); (case zqC => kn_code); (case zqU => k_updF); (case zqS => with_reducible assumption); (case zqmm => k_mem); (case zqcl => exact rfl); (case zqhl => exact rfl); (case zqhc => exact rfl); k_whole); intro f' c' oc' vs' t' ps' ct' h' tk' F' N' d1' d2' SS' n1 l1 l2; (obtain ⟨S', l3⟩ := SS'); (simp only [AllLt, and_true] at l3); (try dsimp only at N'); (try k_lt l1); (try k_lt2 l2)))
  k_with "callWith ref" => (k_here; (with_reducible show wpAny _ _ (callWith _ (Value.ref 752) _ _ _) _ _ _); k_dflt (refine' callWith_K ?zqk1 ?zqk2 ?_; (case zqk1 => k_asm); (case zqk2 => k_is); k_whole))
  k_with "callWith ref" => (k_here; (with_reducible show wpAny _ _ (callWith _ (Value.ref 530) _ _ _) _ _ _); k_dflt (refine' callWith_K ?zqk1 ?zqk2 ?_; (case zqk1 => k_asm); (case zqk2 => k_is); k_whole))
  k_with "callWith ref" => (k_here; (with_reducible show wpAny _ _ (callWith _ (Value.ref 642) _ _ _) _ _ _); k_dflt (refine' callWith_K ?zqk1 ?zqk2 ?_; (case zqk1 => k_asm); (case zqk2 => k_is); k_whole))
  trivial
section
variable {w : World} {dp un : Nat} {base g g' : Heap} {L c1 c2 c1' c2' : Addr} {m : Str → Option Value} {o1 o2 o1' o2' : Obj} {ps ps0 : Array Value} {news : List (Addr × Obj)} {envs : List Env} {p : Program} {loose : List Str} {mean : ExcName → Option Value} {mg mb : Str → Option Value} {s : Shared} {Q E : Value → Shared → Prop}
def PairQ (g : Heap) (s : Shared) (envs : List Env) (Q : Value → Shared → Prop) : Prop :=
  ∀ ps c1 o1 c2 o2 h' tk', TabS ps c1 o1 c2 o2 → CodeO lamQ o1 → CodeO lamQ o2 → (∀ b o, s.heap.get? b = some o → @Ne Nat b 754 → b ∉ frs envs → h'.get? b = some o) → TS (frs envs) g h' → (∀ q ∈ [((754 : Addr), tabObj ps), (c1, o1), (c2, o2)], h'.get? q.1 = some q.2 ∧ g.get? q.1 = none) → Q (.bool true) { s with heap := h', toks := tk' }
theorem pair_end {h' : Heap} {tk' : Tok} (H : PairQ g s envs Q) (O : OwnL g s.heap [(754, tabObj ps0), (c1, o1), (c2, o2)]) (hcov : ∀ b o, s.heap.get? b = some o → @Ne Nat b 754 → b ≠ c1 → b ≠ c2 → g.get? b = some o) (T0 : KtsTurn (frs envs) g g') (F : Fr g' L h' m) (N : News g' L h' news) (S : TabA ps c1' o1' c2' o2')
    (m0 : (754, tabObj ps) ∈ news) (m1 : (c1', o1') ∈ news) (m2 : (c2', o2') ∈ news) (m3 : (c1, o1) ∈ news) (m4 : (c2, o2) ∈ news) : Q (.bool true) { s with heap := h', toks := tk' } := by
  have fresh : ∀ b, g'.get? b = none → g.get? b = none := fun b e => by
    cases q : g.get? b with
    | none => rfl
    | some o => obtain ⟨sl, z⟩ := T0.up q; rw [e] at z; cases z
  have kb : ∀ b o, s.heap.get? b = some o → @Ne Nat b 754 → b ∉ frs envs → h'.get? b = some o := fun b o e n nf => by
    by_cases e1 : b = c1
    · subst e1
      have := (O.all (b, o1) (.tail _ (.head _))).1
      rw [this] at e; cases e
      exact (N _ m3).1
    · by_cases e2 : b = c2
      · subst e2
        have := (O.all (b, o2) (.tail _ (.tail _ (.head _)))).1
        rw [this] at e; cases e
        exact (N _ m4).1
      · exact F.keep _ _ (T0.other b o (hcov b o e n e1 e2) nf)
  have all : ∀ {b : Addr} {o : Obj}, (b, o) ∈ news → h'.get? b = some o ∧ g.get? b = none := fun hm => ⟨(N _ hm).1, fresh _ (N _ hm).2.2⟩
  have go : ∀ c2 o2, (c2, o2) ∈ news → TabA ps c1' o1' c2 o2 → CodeO lamQ o2 → Q (.bool true) { s with heap := h', toks := tk' } := fun c2 o2 hm S k2 => by
    refine H ps c1' o1' c2 o2 h' tk' (.inr S) S.k1 k2 kb (kts_ts T0 F.keep) fun q hq => ?_
    rcases List.mem_cons.mp hq with rfl | hq
    · exact all m0
    rcases List.mem_cons.mp hq with rfl | hq
    · exact all m1
    rcases List.mem_cons.mp hq with rfl | hq
    · exact all hm
    · cases hq
  rcases S.t with t | ⟨t, k2⟩
  · exact go c1' o1' m1 ⟨S.k1, S.n1, .inl t, S.n1⟩ S.k1
  · exact go c2' o2' m2 S k2
end
section
variable {w : World} {dp un : Nat} {base g : Heap} {envs : List Env} {p : Program} {loose : List Str} {mean : ExcName → Option Value} {mg mb : Str → Option Value} {s : Shared} {Q E : Value → Shared → Prop}
set_option maxHeartbeats 1000000 in
theorem pairDiv (G : Gd w base envs p loose mean mg mb g) (XB : (Mine.hd.heap_39 w.params).In base) (TB : Top p loose mean mg mb base) (CB : CodeHd base 756 754) {rv pl one other lt lt2 c1 c2 : Addr} {o1 o2 : Obj} {k k2 : Kd} {o : Ar} {a b : Int} {ps : Array Value} {t0 t1 t2 t3 t4 t5 t6 t7 t8 t9 u : Tok} (bb : Bd b) (R : RV base rv pl)
    (O : OwnL g s.heap [(754, tabObj ps), (c1, o1), (c2, o2)]) (hcov : ∀ b o, s.heap.get? b = some o → @Ne Nat b 754 → b ≠ c1 → b ≠ c2 → g.get? b = some o) (S : TabS ps c1 o1 c2 o2) (hc1 : @Ne Nat c1 754) (hc2 : @Ne Nat c2 754)
    (h1 : IsTup base one [Value.str (Str.ofString "const") t3, .ref lt, .int a t4].toArray) (h2 : IsTup base other [Value.str (Str.ofString "const") t5, .ref lt2, .int b t6].toArray)
    (hl : IsTup base lt [Value.str (Ty.str .int) t7, .str k.str t8].toArray) (hl2 : IsTup base lt2 [Value.str (Ty.str .int) t9, .str k2.str u].toArray) (hv : chkV k o a b = none) (hdp : dp + 200 < recursionLimit) (hu : un + 2000 < cLine)
    (hQ : PairQ g s envs Q) : wpAny (model PG w) (Au dp un (some []) envs) (call (.ref 757) [.ref rv, .str k.str t1, .str o.str t2, .ref one, .ref other, .str (Str.ofString "division") t0]) Q E s := by
  obtain ⟨ox, ox', mm, h1', t1', h2', t2', n, h3', t3', h4', t4', n', R1, R2⟩ := R.ex
  have h1g := stays_tup G.stays h1
  have h2g := stays_tup G.stays h2
  have hlg := stays_tup G.stays hl
  have hl2g := stays_tup G.stays hl2
  have T0 : KtsTurn (frs envs) g g := KtsTurn.refl
  have H0 : PySem.Challenge.rw_xm0611_01 = PySem.Challenge.rw_xm0611_01 ∧ Mine.hd.heap_39 = Mine.hd.heap_39 := ⟨rfl, rfl⟩
  revert H0; k_fill; intro _
  (k_dflt (refine' enterLC (binds := [(Str.ofString "rvalues", Value.ref rv), (Str.ofString "kind", Value.str k.str t1), (Str.ofString "op", Value.str o.str t2), (Str.ofString "one", Value.ref one), (Str.ofString "other", Value.ref other), (Str.ofString "due", Value.str (Str.ofString "division") t0)]) ?G ?O ?k6 ?k7 ?k8 ?k9 ?kB ?kD ?_ ?c2 ?c3 ?c4; (case G => assumption); (case O => assumption); (case k6 => k_is); (case k7 => k_is); (case k8 => ktr_room); (case k9 => first | exact BindsTo.of_eq rfl | exact binds_K ((Gd.kin (by assumption)).keeps (OwnL.sub (by assumption))) rfl (by k_is) rfl rfl rfl); (case kB => exact rfl); (case kD => decide +kernel); (case c2 => exact rfl); (case c3 => exact rfl); (case c4 => exact rfl); k_whole; intro L' h' tk' cells' F' N' Y' l' B' X' T'; (obtain ⟨o1', o2', o3', o4', o5', hE', d1', d2', d3', d4', d5'⟩ := cells_five Y'); subst hE'; clear Y'; (k_lt l'); (try dsimp only [List.cons_append, List.nil_append] at N'); (try dsimp only); (try k_fold)))
  k_steps
  iterate 3
    rename RaiseQ _ _ _ _ _ _ _ _ => H9
    rename Fly _ _ _ _ _ => R9
    refine' raiseQ_end H9 R9 ?FG ?F ?N ?hs
    (case F => assumption)
    (case FG => assumption)
    (case N => assumption)
    (case hs => lcg_sub)
  exact pair_end (s := s) hQ O hcov (by assumption) (by assumption) (by assumption) (by assumption) (by k_mem) (by k_mem) (by k_mem) (by k_mem) (by k_mem)
end

section
variable {w : World} {dp un : Nat} {base g : Heap} {envs : List Env} {p : Program} {loose : List Str} {mean : ExcName → Option Value} {mg mb : Str → Option Value} {s : Shared} {Q E : Value → Shared → Prop}
set_option maxHeartbeats 1000000 in
theorem pairOk (G : Gd w base envs p loose mean mg mb g) (XB : (Mine.hd.heap_39 w.params).In base) (TB : Top p loose mean mg mb base) (CB : CodeHd base 756 754) {rv pl one other lt lt2 c1 c2 D : Addr} {o1 o2 : Obj} {k k2 : Kd} {o : Ar} {a b v : Int} {ov : Bool} {ps : Array Value} {t0 t1 t2 t3 t4 t5 t6 t7 t8 t9 u : Tok} (bb : Bd b) (R : RV base rv pl)
    (O : OwnL g s.heap [(754, tabObj ps), (c1, o1), (c2, o2)]) (hcov : ∀ b o, s.heap.get? b = some o → @Ne Nat b 754 → b ≠ c1 → b ≠ c2 → g.get? b = some o) (S : TabS ps c1 o1 c2 o2) (hc1 : @Ne Nat c1 754) (hc2 : @Ne Nat c2 754)
    (h1 : IsTup base one [Value.str (Str.ofString "const") t3, .ref lt, .int a t4].toArray) (h2 : IsTup base other [Value.str (Str.ofString "const") t5, .ref lt2, .int b t6].toArray)
    (hl : IsTup base lt [Value.str (Ty.str .int) t7, .str k.str t8].toArray) (hl2 : IsTup base lt2 [Value.str (Ty.str .int) t9, .str k2.str u].toArray) (hD : IsTup base D [Value.int v t0, Value.bool ov].toArray) (hv : chkV k o a b = some (v, ov)) (hdp : dp + 200 < recursionLimit) (hu : un + 2000 < cLine)
    (hQ : PairQ g s envs Q) : wpAny (model PG w) (Au dp un (some []) envs) (call (.ref 757) [.ref rv, .str k.str t1, .str o.str t2, .ref one, .ref other, .ref D]) Q E s := by
  obtain ⟨ox, ox', mm, h1', t1', h2', t2', n, h3', t3', h4', t4', n', R1, R2⟩ := R.ex
  have h1g := stays_tup G.stays h1
  have h2g := stays_tup G.stays h2
  have hlg := stays_tup G.stays hl
  have hl2g := stays_tup G.stays hl2
  have hDg := stays_tup G.stays hD
  have T0 : KtsTurn (frs envs) g g := KtsTurn.refl
  have H0 : PySem.Challenge.rw_xm0611_01 = PySem.Challenge.rw_xm0611_01 ∧ Mine.hd.heap_39 = Mine.hd.heap_39 := ⟨rfl, rfl⟩
  revert H0; k_fill; intro _
  (k_dflt (refine' enterLC (binds := [(Str.ofString "rvalues", Value.ref rv), (Str.ofString "kind", Value.str k.str t1), (Str.ofString "op", Value.str o.str t2), (Str.ofString "one", Value.ref one), (Str.ofString "other", Value.ref other), (Str.ofString "due", Value.ref D)]) ?G ?O ?k6 ?k7 ?k8 ?k9 ?kB ?kD ?_ ?c2 ?c3 ?c4; (case G => assumption); (case O => assumption); (case k6 => k_is); (case k7 => k_is); (case k8 => ktr_room); (case k9 => first | exact BindsTo.of_eq rfl | exact binds_K ((Gd.kin (by assumption)).keeps (OwnL.sub (by assumption))) rfl (by k_is) rfl rfl rfl); (case kB => exact rfl); (case kD => decide +kernel); (case c2 => exact rfl); (case c3 => exact rfl); (case c4 => exact rfl); k_whole; intro L' h' tk' cells' F' N' Y' l' B' X' T'; (obtain ⟨o1', o2', o3', o4', o5', hE', d1', d2', d3', d4', d5'⟩ := cells_five Y'); subst hE'; clear Y'; (k_lt l'); (try dsimp only [List.cons_append, List.nil_append] at N'); (try dsimp only); (try k_fold)))
  k_steps
  · rename RetQ _ _ _ _ _ _ _ => H9
    exact retQ_end H9 (by assumption) (by assumption) (by k_mem) (by lcg_sub)
  exact pair_end (s := s) hQ O hcov (by assumption) (by assumption) (by assumption) (by assumption) (by k_mem) (by k_mem) (by k_mem) (by k_mem) (by k_mem)
end
/-- what is due of the pair -/
def DueB (base : Heap) (k : Kd) (o : Ar) (a b : Int) (due : Value) : Prop :=
  (chkV k o a b = none ∧ ∃ t, due = .str (Str.ofString "division") t) ∨ ∃ v ov D t, chkV k o a b = some (v, ov) ∧ due = .ref D ∧ IsTup base D [Value.int v t, Value.bool ov].toArray
section
variable {w : World} {dp un : Nat} {base g : Heap} {envs : List Env} {p : Program} {loose : List Str} {mean : ExcName → Option Value} {mg mb : Str → Option Value} {s : Shared} {Q E : Value → Shared → Prop}
theorem pair_ok (G : Gd w base envs p loose mean mg mb g) (XB : (Mine.hd.heap_39 w.params).In base) (TB : Top p loose mean mg mb base) (CB : CodeHd base 756 754) {rv pl one other lt lt2 c1 c2 : Addr} {o1 o2 : Obj} {k k2 : Kd} {o : Ar} {a b : Int} {due : Value} {ps : Array Value} {t1 t2 t3 t4 t5 t6 t7 t8 t9 u : Tok} (bb : Bd b) (R : RV base rv pl)
    (O : OwnL g s.heap [(754, tabObj ps), (c1, o1), (c2, o2)]) (hcov : ∀ b o, s.heap.get? b = some o → @Ne Nat b 754 → b ≠ c1 → b ≠ c2 → g.get? b = some o) (S : TabS ps c1 o1 c2 o2)
    (h1 : IsTup base one [Value.str (Str.ofString "const") t3, .ref lt, .int a t4].toArray) (h2 : IsTup base other [Value.str (Str.ofString "const") t5, .ref lt2, .int b t6].toArray)
    (hl : IsTup base lt [Value.str (Ty.str .int) t7, .str k.str t8].toArray) (hl2 : IsTup base lt2 [Value.str (Ty.str .int) t9, .str k2.str u].toArray) (hD : DueB base k o a b due) (hdp : dp + 200 < recursionLimit) (hu : un + 2000 < cLine)
    (hQ : PairQ g s envs Q) : wpAny (model PG w) (Au dp un (some []) envs) (call (.ref 757) [.ref rv, .str k.str t1, .str o.str t2, .ref one, .ref other, due]) Q E s := by
  have hc1 : @Ne Nat c1 754 := by
    rcases S with ⟨_, h, _⟩ | h
    · exact h
    · exact h.n1
  rcases hD with ⟨hv, t, rfl⟩ | ⟨v, ov, D, t, hv, rfl, hD⟩
  · exact pairDiv G XB TB CB bb R O hcov S hc1 S.n2 h1 h2 hl hl2 hv hdp hu hQ
  · exact pairOk G XB TB CB bb R O hcov S hc1 S.n2 h1 h2 hl hl2 hD hv hdp hu hQ
end

/-- an object with fields -/
def FldO (o : Obj) : Prop := ∃ vs, o.data = .fields vs
theorem CodeO.fld {q : Str} {o : Obj} (h : CodeO q o) : FldO o := let ⟨vs, _, d, _⟩ := h; ⟨vs, d⟩
theorem tab_fld (ps : Array Value) : FldO (tabObj ps) := ⟨ps, rfl⟩
section
variable {w : World} {A₀ : Around} {base h₀ : Heap} {L : Addr} {m : Str → Option Value} {env : Env} {outer : List Env} {p : Program} {loose : List Str} {mean : ExcName → Option Value} {mg mb : Str → Option Value} {s : Shared} {news led : List (Addr × Obj)}
theorem funFrames_two {base' h : Heap} {as : List Addr} : ∀ {l : List Env}, h.FunFrames base l → (∀ env ∈ l, ∀ a, env.frame = some a → base'.get? a = none ∧ a ∉ as) → (hideAll h as).FunFrames base' l
  | [], _, _ => trivial
  | env :: _, ⟨hk, ⟨L, o, hf, _, ho, hd⟩, hr⟩, hin => ⟨hk, ⟨L, o, hf, (hin env (.head _) L hf).1, hideAll_get _ ho (hin env (.head _) L hf).2, hd⟩, funFrames_two hr fun e he => hin e (.tail _ he)⟩
theorem not_frame (F : Fr h₀ L s.heap m) (B : Below A₀ base outer h₀) (hf : env.frame = some L) {b : Addr} (n1 : b ≠ L) (n2 : h₀.get? b = none) : b ∉ frs (env :: outer) := fun hb => by
  obtain ⟨env', h1, h2⟩ := List.mem_filterMap.mp hb
  rcases List.mem_cons.mp h1 with rfl | h1
  · exact n1 (Option.some.inj (h2.symm.trans hf))
  · exact frame_ne B.frames n2 (List.mem_filterMap.mpr ⟨env', h1, h2⟩)
theorem rebase (F : Fr h₀ L s.heap m) (N : News h₀ L s.heap news) (B : Below A₀ base outer h₀) (XB : (Mine.hd.heap_39 w.params).In base) (TB : Top p loose mean mg mb base) (hf : env.frame = some L) (hk : env.scope.kind = .function) (hled : ∀ q ∈ led, q ∈ news) :
    ∃ g base', Fr h₀ L g m ∧ h₀.StaysIn g ∧ Gd w base' (env :: outer) p loose mean mg mb g ∧ OwnL g s.heap led ∧ base.StaysIn base' ∧ (∀ b o, s.heap.get? b = some o → b ∉ led.map (·.1) → g.get? b = some o) ∧
      ∀ b o, s.heap.get? b = some o → b ∉ led.map (·.1) → b ≠ L → h₀.get? b = none → base'.get? b = some o := by
  have N3 : News h₀ L s.heap led := fun q hq => N q (hled q hq)
  obtain ⟨FG, BG, st, _⟩ := groundX (R := fun _ _ => True) (A := Au 0 0 none (env :: outer)) B F N3 rfl hf hk
  have B₁ := pushX (A := A₀) B F hf hk
  have inas : ∀ b ∈ led.map (·.1), h₀.get? b = none ∧ b ≠ L := fun b hb => by
    obtain ⟨q, hq, rfl⟩ := List.mem_map.mp hb
    exact ⟨(N3 q hq).2.2, (N3 q hq).2.1⟩
  have st' : base.StaysIn (hideAll s.heap (led.map (·.1) ++ frs (env :: outer))) := fun b o e => hideAll_get _ (F.keep _ _ (B.stays _ _ e)) fun hb => by
    have e0 := B.stays _ _ e
    rcases List.mem_append.mp hb with hb | hb
    · rw [(inas b hb).1] at e0; cases e0
    · rw [(B₁.frames.mem hb).1] at e; cases e
  refine ⟨_, hideAll s.heap (led.map (·.1) ++ frs (env :: outer)), FG, st, ⟨fun b o e => hideAll_get _ (of_hideAll _ e) fun hb => ?_, funFrames_two B₁.frames fun env' he a ha => ⟨hideAll_none _ (List.mem_append_right _ (List.mem_filterMap.mpr ⟨env', he, ha⟩)), fun hb => ?_⟩, XB.keeps BG.stays, TB.keeps BG.stays⟩,
    ⟨fun b o q => of_hideAll _ q, Nat.le_of_eq (hideAll_size _ _), fun q hq => ⟨(N3 q hq).1, hideAll_none _ (List.mem_map_of_mem hq)⟩⟩, st', fun b o e n => hideAll_get _ e n, fun b o e n n1 n2 => hideAll_get _ e fun hb => ?_⟩
  · rw [hideAll_none _ (List.mem_append_left _ hb)] at e; cases e
  · rcases List.mem_cons.mp he with rfl | he'
    · exact (inas a hb).2 (Option.some.inj (ha.symm.trans hf))
    · exact frame_ne B.frames (inas a hb).1 (List.mem_filterMap.mpr ⟨env', he', ha⟩)
  · rcases List.mem_append.mp hb with hb | hb
    · exact n hb
    · exact not_frame F B hf n1 n2 hb
end
/-- what is due, as the law's own function told it -/
def DueH (h₀ : Heap) (L : Addr) (h : Heap) (k : Kd) (o : Ar) (a b : Int) (due : Value) : Prop :=
  (chkV k o a b = none ∧ ∃ t, due = .str (Str.ofString "division") t) ∨ ∃ v ov D t, chkV k o a b = some (v, ov) ∧ due = .ref D ∧ h.get? D = some (tupO [.int v t, .bool ov]) ∧ D ≠ L ∧ h₀.get? D = none
inductive Tail3 : List (Addr × Obj) → List (Addr × Obj) → Array Value → Addr → Obj → Addr → Obj → Prop
  | here {ps c1 o1 c2 o2} : Tail3 [(754, tabObj ps), (c1, o1), (c2, o2)] [] ps c1 o1 c2 o2
  | tail {q n pre ps c1 o1 c2 o2} : Tail3 n pre ps c1 o1 c2 o2 → Tail3 (q :: n) (q :: pre) ps c1 o1 c2 o2
theorem Tail3.eq {n pre : List (Addr × Obj)} {ps : Array Value} {c1 c2 : Addr} {o1 o2 : Obj} (t : Tail3 n pre ps c1 o1 c2 o2) : n = pre ++ [(754, tabObj ps), (c1, o1), (c2, o2)] := by
  induction t with
  | here => rfl
  | tail _ ih => rw [ih]; rfl
section
variable {w : World} {A₀ : Around} {dp un : Nat} {base g₀ h₀ : Heap} {L l rv pl one other lt lt2 c1 c2 : Addr} {m : Str → Option Value} {env : Env} {outer : List Env} {p : Program} {loose : List Str} {mean : ExcName → Option Value} {mg mb : Str → Option Value} {s : Shared} {Q E : Value → Shared → Prop} {news pre : List (Addr × Obj)} {ol o1 o2 oo ot ow ow2 : Obj} {ps : Array Value}
theorem lreckM_use (F : Fr h₀ L s.heap m) (B : Below A₀ base outer h₀) (X : (Mine.hd.heap_39 w.params).In h₀) (T : Top p loose mean mg mb h₀) (hf : env.frame = some L) (hk : env.scope.kind = .function) {gd : Option (List Code)} {k : Kd} {o : Ar} {a b : Int} {t0 t1 t u : Tok} (ho : o.sh = false) (a0 : k.lo ≤ a) (a1 : a ≤ k.hi) (b0 : k.lo ≤ b) (b1 : b ≤ k.hi) (hdp : dp + 15 < recursionLimit) (hu : un + 150 < cLine)
    (hQ : ∀ due h' tk', s.heap.StaysIn h' → DueH h₀ L h' k o a b due → Q due { s with heap := h', toks := tk' }) : wpAny (model PG w) (Au dp un gd (env :: outer)) (call (.ref 724) [.str k.str t0, .str o.str t1, .int a t, .int b u]) Q E s := by
  refine lreck_ok (gd_of F B X T hf hk) ho (k.bd a0 a1) (k.bd b0 b1) a0 a1 b0 hdp hu (fun hv t h' tk' st => hQ _ h' tk' st (.inl ⟨hv, t, rfl⟩)) fun v ov hv D t h' tk' st nd gd => hQ _ h' tk' st (.inr ⟨v, ov, D, t, hv, rfl, gd, fun z => ?_, kts_none F.keep nd⟩)
  obtain ⟨oL, es, ep, hL, _⟩ := F.ns
  rw [z, hL] at nd; cases nd
theorem lshiftM_use (F : Fr h₀ L s.heap m) (B : Below A₀ base outer h₀) (X : (Mine.hd.heap_39 w.params).In h₀) (T : Top p loose mean mg mb h₀) (hf : env.frame = some L) (hk : env.scope.kind = .function) {gd : Option (List Code)} {k : Kd} {o : Ar} {a b : Int} {t0 t1 t u : Tok} (ho : o.sh = true) (a0 : k.lo ≤ a) (a1 : a ≤ k.hi) (hdp : dp + 15 < recursionLimit) (hu : un + 150 < cLine)
    (hQ : ∀ due h' tk', s.heap.StaysIn h' → DueH h₀ L h' k o a b due → Q due { s with heap := h', toks := tk' }) : wpAny (model PG w) (Au dp un gd (env :: outer)) (call (.ref 731) [.str k.str t0, .str o.str t1, .int a t, .int b u]) Q E s := by
  refine lshift_ok (gd_of F B X T hf hk) ho a0 a1 hdp hu fun v ov hv D t h' tk' st nd gd => hQ _ h' tk' st (.inr ⟨v, ov, D, t, hv, rfl, gd, fun z => ?_, kts_none F.keep nd⟩)
  obtain ⟨oL, es, ep, hL, _⟩ := F.ns
  rw [z, hL] at nd; cases nd
theorem tup_at_base {base' : Heap} {t : Addr} {vs : List Value} {o : Obj} (K : ∀ b o, s.heap.get? b = some o → b ∉ [((754 : Addr), tabObj ps), (c1, o1), (c2, o2)].map (·.1) → b ≠ L → h₀.get? b = none → base'.get? b = some o) (N : News h₀ L s.heap [((754 : Addr), tabObj ps), (c1, o1), (c2, o2)]) (f1 : FldO o1) (f2 : FldO o2)
    (e : s.heap.get? t = some o) (ho : o = tupO vs) (n1 : t ≠ L) (n2 : h₀.get? t = none) : IsTup base' t vs.toArray := by
  subst ho
  refine ⟨_, K t _ e (fun hm => ?_) n1 n2, rfl, _, rfl⟩
  have : ∀ q ∈ [((754 : Addr), tabObj ps), (c1, o1), (c2, o2)], FldO q.2 := fun q hq => by
    rcases List.mem_cons.mp hq with rfl | hq
    · exact tab_fld ps
    rcases List.mem_cons.mp hq with rfl | hq
    · exact f1
    rcases List.mem_cons.mp hq with rfl | hq
    · exact f2
    · cases hq
  obtain ⟨q, hq, rfl⟩ := List.mem_map.mp hm
  have e2 := (N q hq).1
  rw [e] at e2
  have e3 := Option.some.inj e2
  obtain ⟨ws, hd⟩ := this q hq
  rw [← e3] at hd
  cases hd
theorem pair_use (T0 : KtsTurn (frs outer) g₀ h₀) (F : Fr h₀ L s.heap m) (N : News h₀ L s.heap news) (B : Below A₀ base outer h₀) (XB : (Mine.hd.heap_39 w.params).In base) (TB : Top p loose mean mg mb base) (CB : CodeHd base 756 754) (R : RV base rv pl) (hf : env.frame = some L) (hk : env.scope.kind = .function)
    {k k2 : Kd} {o : Ar} {a b : Int} {due : Value} {t1 t2 t3 t4 t5 t6 t7 t8 t9 u : Tok} (T3 : Tail3 news pre ps c1 o1 c2 o2) (S : TabS ps c1 o1 c2 o2) (f1 : FldO o1) (f2 : FldO o2) (hpre : ∀ q ∈ pre, q.1 ≠ 754) (bb : Bd b)
    (m1 : (one, oo) ∈ news) (e1 : oo = tupO [Value.str (Str.ofString "const") t3, .ref lt, .int a t4]) (m2 : (other, ot) ∈ news) (e2 : ot = tupO [Value.str (Str.ofString "const") t5, .ref lt2, .int b t6])
    (m3 : (lt, ow) ∈ news) (e3 : ow = tupO [Value.str (Ty.str .int) t7, .str k.str t8]) (m4 : (lt2, ow2) ∈ news) (e4 : ow2 = tupO [Value.str (Ty.str .int) t9, .str k2.str u]) (hD : DueH h₀ L s.heap k o a b due) (ml : (l, ol) ∈ pre) (so : SrcO ol) (hdp : dp + 200 < recursionLimit) (hu : un + 2000 < cLine)
    (hQ : ∀ ps' c1' o1' c2' o2' h' tk' h₀', TabS ps' c1' o1' c2' o2' → FldO o1' → FldO o2' → CodeO lamQ o1' → CodeO lamQ o2' → @Ne Nat c1' l → @Ne Nat c2' l → KtsTurn (frs outer) g₀ h₀' → Fr h₀' L h' m → News h₀' L h' (pre ++ [(754, tabObj ps'), (c1', o1'), (c2', o2')]) → Below A₀ base outer h₀' → (Mine.hd.heap_39 w.params).In h₀' → Top p loose mean mg mb h₀' → RV h₀' rv pl →
      Q (.bool true) { s with heap := h', toks := tk' }) : wpAny (model PG w) (Au dp un (some []) (env :: outer)) (call (.ref 757) [.ref rv, .str k.str t1, .str o.str t2, .ref one, .ref other, due]) Q E s := by
  have en := T3.eq
  have sub3 : ∀ q ∈ [((754 : Addr), tabObj ps), (c1, o1), (c2, o2)], q ∈ news := fun q hq => by rw [en]; exact List.mem_append_right _ hq
  obtain ⟨g, base', FG, st, G, O, stb, hg, hb⟩ := rebase F N B XB TB hf hk sub3
  have N3 : News h₀ L s.heap [((754 : Addr), tabObj ps), (c1, o1), (c2, o2)] := fun q hq => N q (sub3 q hq)
  have tup : ∀ {t : Addr} {vs : List Value} {o : Obj}, (t, o) ∈ news → o = tupO vs → IsTup base' t vs.toArray := fun hm ho => tup_at_base hb N3 f1 f2 (N _ hm).1 ho (N _ hm).2.1 (N _ hm).2.2
  have hD' : DueB base' k o a b due := by
    rcases hD with h | ⟨v, ov, D, t, hv, rfl, e, n1, n2⟩
    · exact .inl h
    · exact .inr ⟨v, ov, D, t, hv, rfl, tup_at_base hb N3 f1 f2 e rfl n1 n2⟩
  refine pair_ok G (XB.keeps stb) (TB.keeps stb) (CB.keeps stb) bb (R.keeps stb) O (fun b o e n n1 n2 => hg b o e fun hm => ?_) S (tup m1 e1) (tup m2 e2) (tup m3 e3) (tup m4 e4) hD' hdp hu fun ps' c1' o1' c2' o2' h' tk' S' q1 q2 kb T9 k2 => ?_
  · obtain ⟨q, hq, rfl⟩ := List.mem_map.mp hm
    rcases List.mem_cons.mp hq with rfl | hq
    · exact n rfl
    rcases List.mem_cons.mp hq with rfl | hq
    · exact n1 rfl
    rcases List.mem_cons.mp hq with rfl | hq
    · exact n2 rfl
    · cases hq
  · have inpre : ∀ q ∈ pre, q ∈ news := fun q hq => by rw [en]; exact List.mem_append_left _ hq
    have nfr : ∀ q ∈ news, q.1 ∉ frs (env :: outer) := fun q hq => not_frame F B hf (N q hq).2.1 (N q hq).2.2
    have hl : h'.get? l = some ol := kb _ _ (N _ (inpre _ ml)).1 (hpre _ ml) (nfr _ (inpre _ ml))
    have N' : News h₀ L h' (pre ++ [(754, tabObj ps'), (c1', o1'), (c2', o2')]) := fun q hq => by
      rcases List.mem_append.mp hq with hq | hq
      · exact ⟨kb _ _ (N _ (inpre _ hq)).1 (hpre _ hq) (nfr _ (inpre _ hq)), (N _ (inpre _ hq)).2⟩
      · obtain ⟨z1, z2⟩ := k2 q hq
        refine ⟨z1, fun z => ?_, kts_none st z2⟩
        obtain ⟨oL, es, ep, hL, _⟩ := FG.ns
        rw [z, hL] at z2; cases z2
    have nl : ∀ {c : Addr} {o : Obj}, h'.get? c = some o → CodeO lamQ o → @Ne Nat c l := fun {c o} e k z => by
      obtain ⟨ws, hd⟩ := k.fld
      obtain ⟨_, _, _, _, _, _, _, _, rfl⟩ := so
      rw [show c = l from z, hl] at e
      rw [← Option.some.inj e] at hd; cases hd
    obtain ⟨h₀', T, F', N'', B'⟩ := reground (s := { s with heap := h' }) FG st N' B hf T9 (fun q hq => (N' q hq).1)
    exact hQ ps' c1' o1' c2' o2' h' tk' h₀' S' q1.fld q2.fld q1 q2 (nl (k2 _ (.tail _ (.head _))).1 q1) (nl (k2 _ (.tail _ (.tail _ (.head _)))).1 q2) (T0.trans T) F' N'' B' (XB.keeps B'.stays) (TB.keeps B'.stays) (R.keeps B'.stays)
end

theorem val_bd (c : Bt) {k : Kd} {a b : Int} (a0 : k.lo ≤ a) (a1 : a ≤ k.hi) (b0 : k.lo ≤ b) (b1 : b ≤ k.hi) : Bd (c.val a b) := by
  rw [← c.led k a0 a1 b0 b1]; exact k.wrap_bd _
theorem many_bd {n : Int} (h : -8 ≤ n ∧ n ≤ 65) : Bd n := by unfold Bd; omega
theorem words_p38_numbers_0 : True := by
  k_with "call ref" => (k_here; (with_reducible show wpAny _ _ (call (Value.ref 703) _) _ _ _); k_dflt (refine' wide_ok (gd_of ?zqF ?zqB ?zqX ?zqT ?zqhf ?zqhk)  ?zqhdp ?zqhu ?_; (case zqF => k_asm); (case zqX => k_asm); (case zqT => k_asm); (case zqB => k_asm); (case zqhf => exact rfl); (case zqhk => exact rfl); (case zqhdp => ktr_room); (case zqhu => ktr_units);  k_whole; refine post_use (by assumption) (by assumption) ?_; intro t9 h9 tk9 F9 N9; (try dsimp only); (try k_sweep); (try k_fold)))
  trivial
section
variable {w : World} {dp un : Nat} {gd : Option (List Code)} {base : Heap} {envs : List Env} {p : Program} {loose : List Str} {mean : ExcName → Option Value} {mg mb : Str → Option Value} {s : Shared} {Q E : Value → Shared → Prop}
theorem lbitsB_ok (G : Gd w base envs p loose mean mg mb s.heap) {k : Kd} {c : Bt} {a b : Int} {t0 t1 t u : Tok} (a0 : k.lo ≤ a) (a1 : a ≤ k.hi) (b0 : k.lo ≤ b) (b1 : b ≤ k.hi) (hdp : dp + 15 < recursionLimit) (hu : un + 150 < cLine)
    (hQ : Bd (c.val a b) → Post s Q fun t => .int (c.val a b) t) : wpAny (model PG w) (Au dp un gd envs) (call (.ref 738) [.str k.str t0, .str c.str t1, .int a t, .int b u]) Q E s :=
  lbits_ok G a0 a1 b0 b1 hdp hu (hQ (val_bd c a0 a1 b0 b1))
end
theorem words_p38_numbers_1 : True := by
  k_with "call ref" => (k_here; (with_reducible show wpAny _ _ (call (Value.ref 738) _) _ _ _); k_dflt (refine' lbitsB_ok (gd_of ?zqF ?zqB ?zqX ?zqT ?zqhf ?zqhk) ?zqa0 ?zqa1 ?zqb0 ?zqb1 ?zqhdp ?zqhu ?_; (case zqF => k_asm); (case zqX => k_asm); (case zqT => k_asm); (case zqB => k_asm); (case zqhf => exact rfl); (case zqhk => exact rfl); (case zqa0 => with_reducible assumption); (case zqa1 => with_reducible assumption); (case zqb0 => with_reducible assumption); (case zqb1 => with_reducible assumption); (case zqhdp => ktr_room); (case zqhu => ktr_units); k_whole; intro bd9; refine post_use (by assumption) (by assumption) ?_; intro t9 h9 tk9 F9 N9; (try dsimp only); (try k_sweep); (try k_fold)))
  k_with "call ref" => (k_here; (with_reducible show wpAny _ _ (call (Value.ref 724) _) _ _ _); k_dflt (refine' lreckM_use ?zqF ?zqB ?zqX ?zqT ?zqhf ?zqhk ?zqho ?zqa0 ?zqa1 ?zqb0 ?zqb1 ?zqhdp ?zqhu ?_; (case zqF => k_asm); (case zqB => k_asm); (case zqX => k_asm); (case zqT => k_asm); (case zqhf => exact rfl); (case zqhk => exact rfl); (case zqho => with_reducible assumption); (case zqa0 => with_reducible assumption); (case zqa1 => with_reducible assumption); (case zqb0 => with_reducible assumption); (case zqb1 => with_reducible assumption); (case zqhdp => ktr_room); (case zqhu => ktr_units); k_whole; intro due9 h9 tk9 st9 D9; (have F9 := Fr.keeps (by assumption) st9); (have N9 := News.keeps (by assumption) st9); clear st9; (try dsimp only); (try k_sweep); (try k_fold)))
  k_with "call ref" => (k_here; (with_reducible show wpAny _ _ (call (Value.ref 731) _) _ _ _); k_dflt (refine' lshiftM_use ?zqF ?zqB ?zqX ?zqT ?zqhf ?zqhk ?zqho ?zqa0 ?zqa1 ?zqhdp ?zqhu ?_; (case zqF => k_asm); (case zqB => k_asm); (case zqX => k_asm); (case zqT => k_asm); (case zqhf => exact rfl); (case zqhk => exact rfl); (case zqho => with_reducible assumption); (case zqa0 => with_reducible assumption); (case zqa1 => with_reducible assumption); (case zqhdp => ktr_room); (case zqhu => ktr_units); k_whole; intro due9 h9 tk9 st9 D9; (have F9 := Fr.keeps (by assumption) st9); (have N9 := News.keeps (by assumption) st9); clear st9; (try dsimp only); (try k_sweep); (try k_fold)))
  k_with "call ref" => (k_here; (with_reducible show wpAny _ _ (call (Value.ref 757) _) _ _ _); k_dflt (refine' pair_use ?zqT0 ?zqF ?zqN ?zqB ?zqXB ?zqTB ?zqCB ?zqR ?zqhf ?zqhk ?zqT3 ?zqS ?zqf1 ?zqf2 ?zqhpre ?zqbb ?zqm1 ?zqe1 ?zqm2 ?zqe2 ?zqm3 ?zqe3 ?zqm4 ?zqe4 ?zqhD ?zqml ?zqso ?zqhdp ?zqhu ?_; (case zqF => k_asm); (case zqN => k_asm); (case zqT3 => (repeat' first | exact Tail3.here | refine' Tail3.tail ?_)); (case zqB => k_asm); (case zqT0 => assumption); (case zqXB => with_reducible assumption); (case zqTB => with_reducible assumption); (case zqCB => with_reducible assumption); (case zqR => with_reducible assumption); (case zqhf => exact rfl); (case zqhk => exact rfl); (case zqS => with_reducible assumption); (case zqf1 => with_reducible assumption); (case zqf2 => with_reducible assumption); (case zqm1 => k_mem); (case zqe1 => exact rfl); (case zqm2 => k_mem); (case zqe2 => exact rfl); (case zqm3 => k_mem); (case zqe3 => exact rfl); (case zqm4 => k_mem); (case zqe4 => exact rfl); (case zqhD => with_reducible assumption); (case zqbb => first | exact Kd.bd _ (by with_reducible assumption) (by with_reducible assumption) | exact many_bd (by with_reducible assumption)); (case zqso => with_reducible assumption); (case zqml => k_mem); (case zqhpre => k_all); (case zqhdp => ktr_room); (case zqhu => ktr_units); k_whole; intro ps9 c9 o9 c8 o8 h9 tk9 g9 S9 f9 f8 k9 k8 n9 n8 T9 F9 N9 B9 X9 P9 R9; (dsimp only [List.cons_append, List.nil_append] at N9); (try dsimp only); (try k_sweep); (try k_fold)))
  k_with "call ref" => (k_here; (with_reducible show wpAny _ _ (call (Value.ref 757) _) _ _ _); k_dflt (refine' pair_use (k2 := .i8) ?zqT0 ?zqF ?zqN ?zqB ?zqXB ?zqTB ?zqCB ?zqR ?zqhf ?zqhk ?zqT3 ?zqS ?zqf1 ?zqf2 ?zqhpre ?zqbb ?zqm1 ?zqe1 ?zqm2 ?zqe2 ?zqm3 ?zqe3 ?zqm4 ?zqe4 ?zqhD ?zqml ?zqso ?zqhdp ?zqhu ?_; (case zqF => k_asm); (case zqN => k_asm); (case zqT3 => (repeat' first | exact Tail3.here | refine' Tail3.tail ?_)); (case zqB => k_asm); (case zqT0 => assumption); (case zqXB => with_reducible assumption); (case zqTB => with_reducible assumption); (case zqCB => with_reducible assumption); (case zqR => with_reducible assumption); (case zqhf => exact rfl); (case zqhk => exact rfl); (case zqS => with_reducible assumption); (case zqf1 => with_reducible assumption); (case zqf2 => with_reducible assumption); (case zqm1 => k_mem); (case zqe1 => exact rfl); (case zqm2 => k_mem); (case zqe2 => exact rfl); (case zqm3 => k_mem); (case zqe3 => exact rfl); (case zqm4 => k_mem); (case zqe4 => exact rfl); (case zqhD => with_reducible assumption); (case zqbb => first | exact Kd.bd _ (by with_reducible assumption) (by with_reducible assumption) | exact many_bd (by with_reducible assumption)); (case zqso => with_reducible assumption); (case zqml => k_mem); (case zqhpre => k_all); (case zqhdp => ktr_room); (case zqhu => ktr_units); k_whole; intro ps9 c9 o9 c8 o8 h9 tk9 g9 S9 f9 f8 k9 k8 n9 n8 T9 F9 N9 B9 X9 P9 R9; (dsimp only [List.cons_append, List.nil_append] at N9); (try dsimp only); (try k_sweep); (try k_fold)))
  k_with "callWith ref" => (k_here; (with_reducible show wpAny _ _ (callWith _ (Value.ref _) _ _ _) _ _ _); k_dflt (refine' callWith_K ?zqk1 ?zqk2 ?_; (case zqk1 => k_asm); (case zqk2 => k_is); k_whole))
  trivial
theorem enterL_lt {g h : Heap} {led : List (Addr × Obj)} (O : OwnL g h led) : ∀ q ∈ led, q.1 < h.objs.size := fun q hq => Heap.lt_size (O.all q hq).1
section
variable {w : World} {dp un : Nat} {base g : Heap} {envs : List Env} {p : Program} {loose : List Str} {mean : ExcName → Option Value} {mg mb : Str → Option Value} {s : Shared} {Q E : Value → Shared → Prop} {l : Addr}
def NumQ (g : Heap) (s : Shared) (envs : List Env) (l : Addr) (Q : Value → Shared → Prop) : Prop :=
  ∀ o ps c1 o1 c2 o2 h' tk', SrcO o → TabS ps c1 o1 c2 o2 → FldO o1 → FldO o2 → CodeO lamQ o1 → CodeO lamQ o2 → @Ne Nat c1 l → @Ne Nat c2 l → (∀ b o, s.heap.get? b = some o → @Ne Nat b l → @Ne Nat b 754 → b ∉ frs envs → h'.get? b = some o) → TS (frs envs) g h' → (∀ q ∈ [(l, o), ((754 : Addr), tabObj ps), (c1, o1), (c2, o2)], h'.get? q.1 = some q.2 ∧ g.get? q.1 = none) → Q (.bool true) { s with heap := h', toks := tk' }
theorem num_end {g' h' : Heap} {L c1 c2 d1 d2 : Addr} {m : Str → Option Value} {o o0 o1 o2 q1 q2 : Obj} {ps ps0 : Array Value} {news : List (Addr × Obj)} {tk' : Tok} (H : NumQ g s envs l Q) (O : OwnL g s.heap [(l, o0), (754, tabObj ps0), (d1, q1), (d2, q2)]) (hcov : ∀ b o, s.heap.get? b = some o → @Ne Nat b l → @Ne Nat b 754 → b ≠ d1 → b ≠ d2 → g.get? b = some o) (T0 : KtsTurn (frs envs) g g') (F : Fr g' L h' m) (N : News g' L h' news) (so : SrcO o) (S : TabS ps c1 o1 c2 o2) (f1 : FldO o1) (f2 : FldO o2) (k1 : CodeO lamQ o1) (k2 : CodeO lamQ o2) (n1 : @Ne Nat c1 l) (n2 : @Ne Nat c2 l)
    (m0 : (l, o) ∈ news) (m1 : (754, tabObj ps) ∈ news) (m2 : (c1, o1) ∈ news) (m3 : (c2, o2) ∈ news) (m4 : (d1, q1) ∈ news) (m5 : (d2, q2) ∈ news) : Q (.bool true) { s with heap := h', toks := tk' } := by
  have all : ∀ {b : Addr} {o : Obj}, (b, o) ∈ news → h'.get? b = some o ∧ g.get? b = none := fun {b o} hm => ⟨(N _ hm).1, by
    have e := (N _ hm).2.2
    dsimp only at e
    cases q : g.get? b with
    | none => rfl
    | some o => obtain ⟨sl, z⟩ := T0.up q; rw [e] at z; cases z⟩
  have kb : ∀ b o, s.heap.get? b = some o → @Ne Nat b l → @Ne Nat b 754 → b ∉ frs envs → h'.get? b = some o := fun b o e nl n nf => by
    by_cases e1 : b = d1
    · subst e1
      have := (O.all (b, q1) (.tail _ (.tail _ (.head _)))).1
      rw [this] at e; cases e
      exact (N _ m4).1
    · by_cases e2 : b = d2
      · subst e2
        have := (O.all (b, q2) (.tail _ (.tail _ (.tail _ (.head _))))).1
        rw [this] at e; cases e
        exact (N _ m5).1
      · exact F.keep _ _ (T0.other b o (hcov b o e nl n e1 e2) nf)
  refine H o ps c1 o1 c2 o2 h' tk' so S f1 f2 k1 k2 n1 n2 kb (kts_ts T0 F.keep) fun q hq => ?_
  rcases List.mem_cons.mp hq with rfl | hq
  · exact all m0
  rcases List.mem_cons.mp hq with rfl | hq
  · exact all m1
  rcases List.mem_cons.mp hq with rfl | hq
  · exact all m2
  rcases List.mem_cons.mp hq with rfl | hq
  · exact all m3
  · cases hq
set_option maxHeartbeats 2000000 in
theorem numbers_ok (G : Gd w base envs p loose mean mg mb g) (XB : (Mine.hd.heap_39 w.params).In base) (TB : Top p loose mean mg mb base) (CB : CodeHd base 756 754) {rv pl c1 c2 : Addr} {o o1 o2 : Obj} {ps : Array Value} (R : RV base rv pl)
    (O : OwnL g s.heap [(l, o), (754, tabObj ps), (c1, o1), (c2, o2)]) (hcov : ∀ b o, s.heap.get? b = some o → @Ne Nat b l → @Ne Nat b 754 → b ≠ c1 → b ≠ c2 → g.get? b = some o) (so : SrcO o) (S : TabS ps c1 o1 c2 o2) (f1 : FldO o1) (f2 : FldO o2) (n0 : @Ne Nat l 754) (n1 : @Ne Nat c1 l) (n2 : @Ne Nat c2 l) (hdp : dp + 300 < recursionLimit) (hu : un + 3000 < cLine)
    (hQ : NumQ g s envs l Q) : wpAny (model PG w) (Au dp un (some []) envs) (call (.ref 778) [.ref l, .ref rv]) Q E s := by
  obtain ⟨ox, ox', mm, h1', t1', h2', t2', n, h3', t3', h4', t4', n', R1, R2⟩ := R.ex
  have R0 := R.keeps G.stays
  have T0 : KtsTurn (frs envs) g g := KtsTurn.refl
  have m1 : @Ne Nat c1 754 := by
    rcases S with ⟨_, h, _⟩ | h
    · exact h
    · exact h.n1
  have m2 : @Ne Nat c2 754 := S.n2
  have O6 : OwnL g s.heap [(l, o), (c1, o1), (c2, o2), (754, tabObj ps), (c1, o1), (c2, o2)] := ⟨O.sub, O.size, fun q hq => O.all q (by
    rcases List.mem_cons.mp hq with rfl | hq
    · exact .head _
    rcases List.mem_cons.mp hq with rfl | hq
    · exact .tail _ (.tail _ (.head _))
    rcases List.mem_cons.mp hq with rfl | hq
    · exact .tail _ (.tail _ (.tail _ (.head _)))
    · exact .tail _ hq)⟩
  have H0 : PySem.Challenge.rw_xm0611_01 = PySem.Challenge.rw_xm0611_01 ∧ Mine.hd.heap_39 = Mine.hd.heap_39 := ⟨rfl, rfl⟩
  revert H0; k_fill; intro _
  (k_dflt (refine' enterL (binds := [(Str.ofString "source", Value.ref l), (Str.ofString "rvalues", Value.ref rv)]) ?G ?O ?k6 ?k7 ?k8 ?k9 ?kB ?_ ?c2 ?c3 ?c4 ?c5; (case G => assumption); (case O => assumption); (case k6 => k_is); (case k7 => k_is); (case k8 => ktr_room); (case k9 => first | exact BindsTo.of_eq rfl | exact binds_K ((Gd.kin (by assumption)).keeps (OwnL.sub (by assumption))) rfl (by k_is) rfl rfl rfl); (case c5 => decide); (case kB => exact locs rfl); (case c2 => exact rfl); (case c3 => exact rfl); (case c4 => exact rfl); k_whole; intro L' h' F' N' B' X' T'; (try dsimp only); (try k_fold)))
  k_steps
  exact num_end (s := s) hQ O hcov (by assumption) (by assumption) (by assumption) (by with_reducible assumption) (by with_reducible assumption) (by with_reducible assumption) (by with_reducible assumption) (by with_reducible assumption) (by with_reducible assumption) (by with_reducible assumption) (by with_reducible assumption) (by k_mem) (by k_mem) (by k_mem) (by k_mem) (by k_mem) (by k_mem)
end

local macro_rules | `(tactic| k_qdec) => `(tactic| decide +kernel)
abbrev rngI (x left step : Int) : Obj := { cls := .type "range_iterator", dict := none, data := .fields #[rawInt x, rawInt left, rawInt step], slots := #[] }
theorem code_rng {q : Str} {x left step : Int} (k : CodeO q (rngI x left step)) : False := by
  obtain ⟨vs, t, d, v⟩ := k
  cases d
  cases v
def NotFS (o : Obj) : Prop := (∀ vs, o.data ≠ .fields vs) ∧ ∀ vs n, o.data ≠ .seq vs n
structure RVL (news : List (Addr × Obj)) (rv pl : Addr) : Prop where
  ex : ∃ ox dx ox' dx' mm h1 t1 h2 t2 n h3 t3 h4 t4 n', (rv, ox) ∈ news ∧ ox.cls = .ref 671 ∧ ox.dict = some dx ∧ ox.data = .plain ∧ (dx, W.dictOf [⟨h1, .str (Str.ofString "places") t1, .ref pl⟩, ⟨h2, .str (Str.ofString "world") t2, .none⟩] n) ∈ news ∧
    (pl, ox') ∈ news ∧ ox'.cls = .ref 603 ∧ ox'.dict = some dx' ∧ ox'.data = .plain ∧ (dx', W.dictOf [⟨h3, .str (Str.ofString "memory") t3, .ref mm⟩, ⟨h4, .str (Str.ofString "world") t4, .none⟩] n') ∈ news
theorem rvl_mk {news : List (Addr × Obj)} {rv pl dx dx' mm : Addr} {ox ox' od od' : Obj} {h1 h2 h3 h4 : Int} {t1 t2 t3 t4 : Tok} {n n' : Nat} (m1 : (rv, ox) ∈ news) (a1 : ox.cls = .ref 671) (b1 : ox.dict = some dx) (c1 : ox.data = .plain) (m2 : (dx, od) ∈ news) (e2 : od = W.dictOf [⟨h1, .str (Str.ofString "places") t1, .ref pl⟩, ⟨h2, .str (Str.ofString "world") t2, .none⟩] n)
    (m3 : (pl, ox') ∈ news) (a3 : ox'.cls = .ref 603) (b3 : ox'.dict = some dx') (c3 : ox'.data = .plain) (m4 : (dx', od') ∈ news) (e4 : od' = W.dictOf [⟨h3, .str (Str.ofString "memory") t3, .ref mm⟩, ⟨h4, .str (Str.ofString "world") t4, .none⟩] n') : RVL news rv pl := by
  subst e2 e4
  exact ⟨ox, dx, ox', dx', mm, h1, t1, h2, t2, n, h3, t3, h4, t4, n', m1, a1, b1, c1, m2, m3, a3, b3, c3, m4⟩
theorem RVL.rv {news : List (Addr × Obj)} {rv pl : Addr} {h : Heap} (V : RVL news rv pl) (k : ∀ q ∈ news, NotFS q.2 → h.get? q.1 = some q.2) : RV h rv pl := by
  obtain ⟨ox, dx, ox', dx', mm, h1, t1, h2, t2, n, h3, t3, h4, t4, n', m1, a1, b1, c1, m2, m3, a3, b3, c3, m4⟩ := V.ex
  have np : ∀ {o : Obj}, o.data = .plain → NotFS o := fun e => ⟨fun vs q => (by rw [e] at q; cases q), fun vs n q => (by rw [e] at q; cases q)⟩
  have nd : ∀ es n, NotFS (W.dictOf es n) := fun es n => ⟨(fun vs q => by cases q), fun vs n q => by cases q⟩
  refine ⟨ox, ox', mm, h1, t1, h2, t2, n, h3, t3, h4, t4, n', ⟨k _ m1 (np c1), a1, by unfold notCls; rw [c1], ?_⟩, ⟨k _ m3 (np c3), a3, by unfold notCls; rw [c3], ?_⟩⟩
  · rw [b1]; exact k _ m2 (nd _ _)
  · rw [b3]; exact k _ m4 (nd _ _)
theorem notFS_src {o : Obj} (so : SrcO o) (h : NotFS o) : False := by
  obtain ⟨_, _, _, _, _, _, _, _, rfl⟩ := so
  exact h.2 _ _ rfl
theorem notFS_fld {o : Obj} (f : FldO o) (h : NotFS o) : False := let ⟨vs, d⟩ := f; h.1 vs d
section
variable {w : World} {A₀ : Around} {dp un : Nat} {gd : Option (List Code)} {base h₀ : Heap} {L l rv pl c1 c2 : Addr} {m : Str → Option Value} {env : Env} {p : Program} {loose : List Str} {mean : ExcName → Option Value} {mg mb : Str → Option Value} {s : Shared} {Q E : Value → Shared → Prop} {news pre : List (Addr × Obj)} {ol o1 o2 : Obj} {ps : Array Value}
theorem lawNum_use (F : Fr h₀ L s.heap m) (N : News h₀ L s.heap ((l, ol) :: news)) (B : Below A₀ base [] h₀) (XB : (Mine.hd.heap_39 w.params).In base) (TB : Top p loose mean mg mb base) (CB : CodeHd base 756 754) (hf : env.frame = some L) (hk : env.scope.kind = .function)
    (T3 : Tail3 news pre ps c1 o1 c2 o2) (V : RVL news rv pl) (so : SrcO ol) (S : TabS ps c1 o1 c2 o2) (f1 : FldO o1) (f2 : FldO o2) (hfr : ∀ q ∈ news, @Ne Nat q.1 l) {I : Addr} {x left : Int} (mI : (I, rngI x left 1) ∈ pre) (hp1 : ∀ q ∈ pre, q.1 ≠ 754) (hdp : dp + 300 < recursionLimit) (hu : un + 3000 < cLine)
    (hQ : ∀ o' ps' c1' o1' c2' o2' h' tk', SrcO o' → TabS ps' c1' o1' c2' o2' → FldO o1' → FldO o2' → (∀ q ∈ pre ++ [((754 : Addr), tabObj ps'), (c1', o1'), (c2', o2')], @Ne Nat q.1 l) → @Ne Nat c1' I → @Ne Nat c2' I → @Ne Nat I l → Fr h₀ L h' m → News h₀ L h' ((l, o') :: (pre ++ [(754, tabObj ps'), (c1', o1'), (c2', o2')])) → Q (.bool true) { s with heap := h', toks := tk' }) :
    wpAny (model PG w) (Au dp un (some []) [env]) (call (.ref 778) [.ref l, .ref rv]) Q E s := by
  have en := T3.eq
  have n0 : @Ne Nat l 754 := fun e => hfr _ (by rw [en]; exact List.mem_append_right _ (.head _)) e.symm
  have n1 : @Ne Nat c1 l := hfr (c1, o1) (by rw [en]; exact List.mem_append_right _ (.tail _ (.head _)))
  have n2 : @Ne Nat c2 l := hfr (c2, o2) (by rw [en]; exact List.mem_append_right _ (.tail _ (.tail _ (.head _))))
  have hp2 : ∀ q ∈ pre, q.1 ≠ l := fun q hq => hfr q (by rw [en]; exact List.mem_append_left _ hq)
  have sub4 : ∀ q ∈ [(l, ol), ((754 : Addr), tabObj ps), (c1, o1), (c2, o2)], q ∈ (l, ol) :: news := fun q hq => by
    rcases List.mem_cons.mp hq with rfl | hq
    · exact .head _
    · rw [en]; exact .tail _ (List.mem_append_right _ hq)
  obtain ⟨g, base', FG, st, G, O, stb, hg, hb⟩ := rebase F N B XB TB hf hk sub4
  have R : RV base' rv pl := V.rv fun q hq nf => by
    have z := N q (.tail _ hq)
    refine hb q.1 q.2 z.1 (fun hm => ?_) z.2.1 z.2.2
    obtain ⟨r, hr, e⟩ := List.mem_map.mp hm
    have zr := (N r (sub4 r hr)).1
    have ee : r.2 = q.2 := by
      have e' : r.1 = q.1 := e
      rw [e', z.1] at zr; exact (Option.some.inj zr).symm
    rcases List.mem_cons.mp hr with rfl | hr
    · exact notFS_src so (by rw [show q.2 = ol from ee.symm] at nf; exact nf)
    rcases List.mem_cons.mp hr with rfl | hr
    · exact notFS_fld (tab_fld ps) (by rw [show q.2 = tabObj ps from ee.symm] at nf; exact nf)
    rcases List.mem_cons.mp hr with rfl | hr
    · exact notFS_fld f1 (by rw [show q.2 = o1 from ee.symm] at nf; exact nf)
    rcases List.mem_cons.mp hr with rfl | hr
    · exact notFS_fld f2 (by rw [show q.2 = o2 from ee.symm] at nf; exact nf)
    · cases hr
  refine numbers_ok G (XB.keeps stb) (TB.keeps stb) (CB.keeps stb) R O (fun b o e nl n7 m1 m2 => hg b o e fun hm => ?_) so S f1 f2 n0 n1 n2 hdp hu fun o' ps' c1' o1' c2' o2' h' tk' so' S' f1' f2' k1' k2' n1' n2' kb T9 k2 => ?_
  · obtain ⟨q, hq, rfl⟩ := List.mem_map.mp hm
    rcases List.mem_cons.mp hq with rfl | hq
    · exact nl rfl
    rcases List.mem_cons.mp hq with rfl | hq
    · exact n7 rfl
    rcases List.mem_cons.mp hq with rfl | hq
    · exact m1 rfl
    rcases List.mem_cons.mp hq with rfl | hq
    · exact m2 rfl
    · cases hq
  · have nfr : ∀ q ∈ pre, q.1 ∉ frs [env] := fun q hq => by
      have z := N q (.tail _ (by rw [en]; exact List.mem_append_left _ hq))
      exact not_frame F B hf z.2.1 z.2.2
    have fr0 : ∀ b o, h₀.get? b = some o → b ∉ frs [env] := fun b o e hm => by
      obtain ⟨env', h1, h2⟩ := List.mem_filterMap.mp hm
      rw [List.mem_singleton.mp h1, hf] at h2
      rw [← Option.some.inj h2, kts_self FG] at e; cases e
    have F' : Fr h₀ L h' m := by
      obtain ⟨oL, es, ep, hL, r⟩ := FG.ns
      obtain ⟨sl, hs⟩ := T9.any _ _ hL
      exact ⟨⟨_, es, ep, hs, r⟩, fun b o e => T9.other b o (st _ _ e) (fr0 b o e), F.above⟩
    have zI := N _ (.tail _ (by rw [en]; exact List.mem_append_left _ mI))
    have hI := kb _ _ zI.1 (hp2 _ mI) (hp1 _ mI) (nfr _ mI)
    have nI : ∀ {c : Addr} {o : Obj}, h'.get? c = some o → CodeO lamQ o → @Ne Nat c I := fun {c o} e k z => by
      rw [show c = I from z, hI] at e
      rw [← Option.some.inj e] at k
      exact code_rng k
    refine hQ o' ps' c1' o1' c2' o2' h' tk' so' S' f1' f2' (fun q hq => ?_) (nI (k2 _ (.tail _ (.tail _ (.head _)))).1 k1') (nI (k2 _ (.tail _ (.tail _ (.tail _ (.head _))))).1 k2') (hp2 _ mI) F' fun q hq => ?_
    · rcases List.mem_append.mp hq with hq | hq
      · exact hp2 q hq
      rcases List.mem_cons.mp hq with rfl | hq
      · exact fun e => n0 e.symm
      rcases List.mem_cons.mp hq with rfl | hq
      · exact n1'
      rcases List.mem_cons.mp hq with rfl | hq
      · exact n2'
      · cases hq
    have four : ∀ q ∈ [(l, o'), ((754 : Addr), tabObj ps'), (c1', o1'), (c2', o2')], h'.get? q.1 = some q.2 ∧ q.1 ≠ L ∧ h₀.get? q.1 = none := fun q hq => by
      obtain ⟨z1, z2⟩ := k2 q hq
      refine ⟨z1, fun z => ?_, kts_none st z2⟩
      obtain ⟨oL, es, ep, hL, _⟩ := FG.ns
      rw [z, hL] at z2; cases z2
    rcases List.mem_cons.mp hq with rfl | hq
    · exact four _ (.head _)
    rcases List.mem_append.mp hq with hq | hq
    · have z := N q (.tail _ (by rw [en]; exact List.mem_append_left _ hq))
      exact ⟨kb _ _ z.1 (hp2 q hq) (hp1 q hq) (nfr q hq), z.2⟩
    · exact four _ (.tail _ hq)
theorem rv_news {h : Heap} (N : News h₀ L h news) (V : RVL news rv pl) : RV h rv pl := V.rv fun q hq _ => (N q hq).1
theorem RVL.hide {h : Heap} (V : RVL news rv pl) (N : News h₀ L h news) (hm : (l, ol) ∈ news) (so : SrcO ol) : RV (h.hide l) rv pl :=
  V.rv fun q hq nf => (Heap.hide_ne h (fun z => by
    have e1 := (N _ hm).1
    have e2 := (N q hq).1
    dsimp only at e1
    rw [z, e1] at e2
    exact notFS_src so (by rw [Option.some.inj e2]; exact nf))).trans (N q hq).1
end
section
variable {w : World} {dp un : Nat} {gd : Option (List Code)} {base : Heap} {envs : List Env} {p : Program} {loose : List Str} {mean : ExcName → Option Value} {mg mb : Str → Option Value} {s : Shared} {Q E : Value → Shared → Prop}
theorem law44_ok (G : Gd w base envs p loose mean mg mb s.heap) {rv pl rt one other lt : Addr} {t1 t2 t3 t4 t5 t6 t7 t8 : Tok} (R : RV s.heap rv pl)
    (hr : IsTup s.heap rt [Value.str (Str.ofString "binary") t1, .str (Str.ofString "+") t2, .ref one, .ref other].toArray) (h1 : IsTup s.heap one [Value.str (Str.ofString "const") t3, .ref lt, .int 200 t4].toArray) (h2 : IsTup s.heap other [Value.str (Str.ofString "const") t5, .ref lt, .int 100 t6].toArray)
    (hl : IsTup s.heap lt [Value.str (Str.ofString "int") t7, .str (Str.ofString "u8") t8].toArray) (hdp : dp + 30 < recursionLimit) (hu : un + 300 < cLine)
    (hQ : PostT s Q fun t => W.listOf [Value.int 44 t].toArray 0) : wpAny (model PG w) (Au dp un gd envs) (call (.ref 642) [.ref rv, .none, .ref rt]) Q E s :=
  twoArB_ok (k := .u8) (k2 := .u8) (o := .add) (a := 200) (b := 100) (v := 44) (ov := true) G (by unfold Bd; decide) R hr h1 h2 hl hl (by decide +kernel) hdp hu hQ
theorem law44C_ok (G : Gd w base envs p loose mean mg mb s.heap) {rv pl rt one other lt : Addr} {t1 t2 t3 t4 t5 t6 t7 t8 : Tok} (R : RV s.heap rv pl)
    (hr : IsTup s.heap rt [Value.str (Str.ofString "checked") t1, .str (Str.ofString "+") t2, .ref one, .ref other].toArray) (h1 : IsTup s.heap one [Value.str (Str.ofString "const") t3, .ref lt, .int 200 t4].toArray) (h2 : IsTup s.heap other [Value.str (Str.ofString "const") t5, .ref lt, .int 100 t6].toArray)
    (hl : IsTup s.heap lt [Value.str (Str.ofString "int") t7, .str (Str.ofString "u8") t8].toArray) (hdp : dp + 30 < recursionLimit) (hu : un + 300 < cLine)
    (hQ : PostT s Q fun t => W.listOf [Value.int 44 t, Value.bool true].toArray 0) : wpAny (model PG w) (Au dp un gd envs) (call (.ref 642) [.ref rv, .none, .ref rt]) Q E s :=
  twoArC_ok (k := .u8) (k2 := .u8) (o := .add) (a := 200) (b := 100) (v := 44) (ov := true) G (by unfold Bd; decide) R hr h1 h2 hl hl (by decide +kernel) hdp hu hQ
end
theorem words_p39_law_0 : True := by
  k_with "call ref" => (k_here; (with_reducible show wpAny _ _ (call (Value.ref 642) _) _ _ _); k_dflt (refine' law44_ok (gd_of ?zqF ?zqB ?zqX ?zqT ?zqhf ?zqhk) (rv_news (by k_asm) (by (refine' rvl_mk ?zqr1 ?zqr2 ?zqr3 ?zqr4 ?zqr5 ?zqr6 ?zqr7 ?zqr8 ?zqr9 ?zqq1 ?zqq2 ?zqq3; (case zqr1 => k_mem); (case zqr2 => exact rfl); (case zqr3 => exact rfl); (case zqr4 => exact rfl); (case zqr5 => k_mem); (case zqr6 => exact rfl); (case zqr7 => k_mem); (case zqr8 => exact rfl); (case zqr9 => exact rfl); (case zqq1 => exact rfl); (case zqq2 => k_mem); (case zqq3 => exact rfl)))) (News.isTup (by k_asm) (by k_mem)) (News.isTup (by k_asm) (by k_mem)) (News.isTup (by k_asm) (by k_mem)) (News.isTup (by k_asm) (by k_mem)) ?zqhdp ?zqhu ?_; (case zqF => k_asm); (case zqX => k_asm); (case zqT => k_asm); (case zqB => k_asm); (case zqhf => exact rfl); (case zqhk => exact rfl); (case zqhdp => ktr_room); (case zqhu => ktr_units);  k_whole; refine postT_use (by assumption) (by assumption) ?_; intro D9 t9 h9 tk9 F9 N9 l9; (try dsimp only at N9); (try dsimp only); (try k_sweep); (try k_fold)))
  k_with "call ref" => (k_here; (with_reducible show wpAny _ _ (call (Value.ref 642) _) _ _ _); k_dflt (refine' law44C_ok (gd_of ?zqF ?zqB ?zqX ?zqT ?zqhf ?zqhk) (rv_news (by k_asm) (by (refine' rvl_mk ?zqr1 ?zqr2 ?zqr3 ?zqr4 ?zqr5 ?zqr6 ?zqr7 ?zqr8 ?zqr9 ?zqq1 ?zqq2 ?zqq3; (case zqr1 => k_mem); (case zqr2 => exact rfl); (case zqr3 => exact rfl); (case zqr4 => exact rfl); (case zqr5 => k_mem); (case zqr6 => exact rfl); (case zqr7 => k_mem); (case zqr8 => exact rfl); (case zqr9 => exact rfl); (case zqq1 => exact rfl); (case zqq2 => k_mem); (case zqq3 => exact rfl)))) (News.isTup (by k_asm) (by k_mem)) (News.isTup (by k_asm) (by k_mem)) (News.isTup (by k_asm) (by k_mem)) (News.isTup (by k_asm) (by k_mem)) ?zqhdp ?zqhu ?_; (case zqF => k_asm); (case zqX => k_asm); (case zqT => k_asm); (case zqB => k_asm); (case zqhf => exact rfl); (case zqhk => exact rfl); (case zqhdp => ktr_room); (case zqhu => ktr_units);  k_whole; refine postT_use (by assumption) (by assumption) ?_; intro D9 t9 h9 tk9 F9 N9 l9; (try dsimp only at N9); (try dsimp only); (try k_sweep); (try k_fold)))
  k_with "call ref" => (k_here; (with_reducible show wpAny _ _ (call (Value.ref 682) _) _ _ _); k_dflt (refine' pool_ok (gd_of ?zqF ?zqB ?zqX ?zqT ?zqhf ?zqhk) ?zqhl ?zqhi ?zqhn ?zqi0 ?zqi1 ?zqhdp ?zqhu ?_; (case zqF => k_asm); (case zqB => k_asm); (case zqX => k_asm); (case zqT => k_asm); (case zqhf => exact rfl); (case zqhk => exact rfl); (case zqhl => is_list); (case zqhi => assumption); (case zqhn => omega); (case zqi0 => first | decide | omega); (case zqi1 => first | decide | omega); (case zqhdp => ktr_room); (case zqhu => ktr_units); k_whole; intro D9 o9 h9 tk9 st9 nd9 gd9 so9; (have F9 := Fr.keeps (by assumption) st9); (have hf9 := freshN (by assumption) nd9); (have N9 := news_add (by assumption) (by assumption) st9 nd9 gd9); clear st9 nd9 gd9; (try dsimp only); (try k_sweep); (try k_fold)))
  k_with "call ref" => (k_here; (with_reducible show wpAny _ _ (call (Value.ref 778) _) _ _ _); k_dflt (refine' lawNum_use ?zqF ?zqN ?zqB ?zqXB ?zqTB ?zqCB ?zqhf ?zqhk ?zqT3 ?zqV ?zqso ?zqS ?zqf1 ?zqf2 ?zqhfr ?zqmI ?zqhp1 ?zqhdp ?zqhu ?_; (case zqF => k_asm); (case zqN => k_asm); (case zqT3 => (repeat' first | exact Tail3.here | refine' Tail3.tail ?_)); (case zqB => k_asm); (case zqXB => with_reducible assumption); (case zqTB => with_reducible assumption); (case zqCB => with_reducible assumption); (case zqhf => exact rfl); (case zqhk => exact rfl); (case zqV => (refine' rvl_mk ?zqr1 ?zqr2 ?zqr3 ?zqr4 ?zqr5 ?zqr6 ?zqr7 ?zqr8 ?zqr9 ?zqq1 ?zqq2 ?zqq3; (case zqr1 => k_mem); (case zqr2 => exact rfl); (case zqr3 => exact rfl); (case zqr4 => exact rfl); (case zqr5 => k_mem); (case zqr6 => exact rfl); (case zqr7 => k_mem); (case zqr8 => exact rfl); (case zqr9 => exact rfl); (case zqq1 => exact rfl); (case zqq2 => k_mem); (case zqq3 => exact rfl))); (case zqso => with_reducible assumption); (case zqS => with_reducible assumption); (case zqf1 => with_reducible assumption); (case zqf2 => with_reducible assumption); (case zqhfr => assumption); (case zqmI => k_mem); (case zqhp1 => k_all); (case zqhdp => ktr_room); (case zqhu => ktr_units); k_whole; intro o9 ps9 c9 q9 c8 q8 h9 tk9 so9 S9 f9 f8 hf9 n9 n8 n7 F9 N9; (dsimp only [List.cons_append, List.nil_append] at N9 hf9); (try dsimp only); (try k_sweep); (try k_fold)))
  k_with "call ref" => (k_here; (with_reducible show wpAny _ _ (call (Value.ref 771) _) _ _ _); k_dflt (refine' truths_use ?zqF ?zqN ?zqU ?zqB ?zqX ?zqT ?zqhf ?zqhk ?zqmm ?zqso ?zqR ?zqhdp ?zqhu ?_; (case zqF => k_asm); (case zqN => k_asm); (case zqso => with_reducible assumption); (case zqmm => k_mem); (case zqU => exact UpdF.head (by assumption)); (case zqB => k_asm); (case zqX => k_asm); (case zqT => k_asm); (case zqhf => exact rfl); (case zqhk => exact rfl); (case zqR => (refine' RVL.hide ?zqV ?zqN2 ?zqm2 ?zqs2; (case zqN2 => k_asm); (case zqV => (refine' rvl_mk ?zqr1 ?zqr2 ?zqr3 ?zqr4 ?zqr5 ?zqr6 ?zqr7 ?zqr8 ?zqr9 ?zqq1 ?zqq2 ?zqq3; (case zqr1 => k_mem); (case zqr2 => exact rfl); (case zqr3 => exact rfl); (case zqr4 => exact rfl); (case zqr5 => k_mem); (case zqr6 => exact rfl); (case zqr7 => k_mem); (case zqr8 => exact rfl); (case zqr9 => exact rfl); (case zqq1 => exact rfl); (case zqq2 => k_mem); (case zqq3 => exact rfl))); (case zqm2 => k_mem); (case zqs2 => with_reducible assumption))); (case zqhdp => ktr_room); (case zqhu => ktr_units); k_whole; intro o9 h9 tk9 so9 F9 N9; (try dsimp only at N9); (try dsimp only); (try k_sweep); (try k_fold)))
  trivial
theorem news_dup {h₀ h : Heap} {L : Addr} (N : News h₀ L h [((754 : Addr), tabObj #[]), ((118 : Addr), tabObj #[])]) : News h₀ L h [((118 : Addr), tabObj #[]), ((754 : Addr), tabObj #[]), ((118 : Addr), tabObj #[]), ((118 : Addr), tabObj #[])] := fun q hq => N q (by
  rcases List.mem_cons.mp hq with rfl | hq
  · exact .tail _ (.head _)
  rcases List.mem_cons.mp hq with rfl | hq
  · exact .head _
  · rcases List.mem_cons.mp hq with rfl | hq
    · exact .tail _ (.head _)
    · exact .tail _ hq)
def ForW (prog : Program) (w : World) (A : Around) (R : Result → Shared → Prop) (target : Expr) (body : List Stmt) (it : Value) (env : Env) : Nat → Shared → Prop
  | 0, s => wpAny (model prog w) A (pyNext it) (fun r s₁ => match r with
      | none => R (.ok .next) s₁
      | some _ => False) (fun _ _ => False) s
  | n + 1, s => wpAny (model prog w) A (pyNext it) (fun r s₁ => match r with
      | none => False
      | some v => wpAny (model prog w) A (assign target env v) (fun _ s₂ => wpAny (model prog w) A (execs body env) (fun f s₃ => match f with
          | .next => ForW prog w A R target body it env n s₃
          | .cont => ForW prog w A R target body it env n s₃
          | .brk => R (.ok .next) s₃
          | .ret v => R (.ok (.ret v)) s₃) (fun _ _ => False) s₂) (fun _ _ => False) s₁) (fun _ _ => False) s
abbrev rngO (a b c : Int) (t u v : Tok) : Obj := { cls := .type "range", dict := none, data := .fields #[.int a t, .int b u, .int c v], slots := #[] }
def ForS (prog : Program) (w : World) (A : Around) (R : Result → Shared → Prop) (target : Expr) (body : List Stmt) (env : Env) (xv : Value) (s₁ : Shared) : Prop :=
  ∃ r k t u v, xv = .ref r ∧ (k = 1 ∨ k = 2) ∧ s₁.heap.get? r = some (rngO 0 k 1 t u v) ∧
    ∀ h₁, s₁.heap.StaysIn h₁ → h₁.get? s₁.heap.objs.size = some (rngI 0 k 1) → ForW prog w A R target body (.ref s₁.heap.objs.size) env k.toNat { s₁ with heap := h₁ }
section
variable {prog : Program} {w : World} {A : Around} {E : Value → Shared → Prop} {s : Shared} {env : Env} {h₀ : Heap} {L I r : Addr} {m : Str → Option Value} {news : List (Addr × Obj)} {gf : Obj → List (Addr × Obj)} {body : List Stmt} {R : Result → Shared → Prop}
theorem for_loop {target : Expr} {it : Value} (n : Nat) {s : Shared} (h : ForW prog w A R target body it env n s) (ht : ∀ v, letOwnedTupleGo target it v = pure () := by intro _; rfl) : codeAny (model prog w) A (.forLoop target it body [] env) R s := by
  refine codeAny_forLoop (ForW prog w A R target body it env) (fun n s hI => ?_) n h ht
  cases n with
  | zero => exact wpAny_mono hI (fun r s₁ x => by cases r with | none => exact wpAny_execs_nil x | some _ => exact x.elim) fun _ _ x => x.elim
  | succ n =>
    refine wpAny_mono hI (fun r s₁ x => ?_) fun _ _ x => x.elim
    cases r with
    | none => exact x.elim
    | some v => exact wpAny_mono x (fun _ s₂ y => wpAny_mono y (fun f s₃ z => by cases f with
      | next => exact ⟨n, Nat.lt_succ_self n, z⟩
      | cont => exact ⟨n, Nat.lt_succ_self n, z⟩
      | brk => exact z
      | ret v => exact z) fun _ _ x => x.elim) fun _ _ x => x.elim
theorem for_open {iter : Expr} {x : Str} {px pos : Pos} {Q : Flow → Shared → Prop}
    (h : wpAny (model prog w) A (eval iter env) (ForS prog w A (fun r s' => match r with | .ok f => Q f s' | .error e => cameBackBy (model prog w) A env E e s') (.Name x px) body env) E s)
    (hs : ∀ x, foldedSetIterable iter env x = pure x := by intro _; rfl) : wpAny (model prog w) A (exec (.For (.Name x px) iter body [] pos) env) Q E s := by
  refine wpAny_For (wpAny_mono h (fun xv s₁ h₁ => ?_) fun _ _ x => x) hs
  obtain ⟨r, k, t, u, v, rfl, hk, hr, K⟩ := h₁
  refine wpAny_pyIter_range hr (by rcases hk with rfl | rfl <;> decide +kernel) ?_
  have e : Builtin.Range.rangeSize 0 k 1 = k := by rcases hk with rfl | rfl <;> decide +kernel
  rw [e]
  exact for_loop _ (K _ (fun b o q => Heap.get?_push_of_some _ q) (Heap.get?_push_size _ rfl))
theorem for_start {target : Expr} {orr : Obj} {k : Int} {t u v : Tok} (F : Fr h₀ L s.heap m) (N : News h₀ L s.heap news) (hr : (r, orr) ∈ news) (er : orr = rngO 0 k 1 t u v) (hk : k = 1 ∨ k = 2)
    (h : (∀ I h', Fr h₀ L h' m → News h₀ L h' ((I, rngI 0 1 1) :: news) → (∀ q ∈ news, q.1 < I) → ForW prog w A R target body (.ref I) env 1 { s with heap := h' }) ∧
      ∀ I h', Fr h₀ L h' m → News h₀ L h' ((I, rngI 0 2 1) :: news) → (∀ q ∈ news, q.1 < I) → ForW prog w A R target body (.ref I) env 2 { s with heap := h' }) : ForS prog w A R target body env (.ref r) s := by
  subst er
  refine ⟨r, k, t, u, v, rfl, hk, N.get hr, fun h₁ st e => ?_⟩
  have N' : News h₀ L h₁ ((s.heap.objs.size, rngI 0 k 1) :: news) := fun q hq => by
    rcases List.mem_cons.mp hq with rfl | hq
    · exact ⟨e, Nat.ne_of_gt F.ns.lt, none_at_size F⟩
    · exact ⟨st _ _ (N q hq).1, (N q hq).2⟩
  rcases hk with rfl | rfl
  · exact h.1 _ h₁ (F.keeps st) N' fun q hq => Heap.lt_size (N q hq).1
  · exact h.2 _ h₁ (F.keeps st) N' fun q hq => Heap.lt_size (N q hq).1
theorem for_start2 {target : Expr} {h1 : Heap} {k : Int} {t u v : Tok} (st : ∀ b o, h1.get? b = some o → s.heap.get? b = some o) (F : Fr h₀ L h1 m) (N : News h₀ L h1 news) (hr : IsRange s.heap r 0 k 1 t u v) (hk : k = 1 ∨ k = 2)
    (h : (∀ I h', Fr h₀ L h' m → News h₀ L h' ((I, rngI 0 1 1) :: news) → (∀ q ∈ news, q.1 < I) → ForW prog w A R target body (.ref I) env 1 { s with heap := h' }) ∧
      ∀ I h', Fr h₀ L h' m → News h₀ L h' ((I, rngI 0 2 1) :: news) → (∀ q ∈ news, q.1 < I) → ForW prog w A R target body (.ref I) env 2 { s with heap := h' }) : ForS prog w A R target body env (.ref r) s := by
  refine ⟨r, k, t, u, v, rfl, hk, hr, fun h₁ st' e => ?_⟩
  have F₁ := F.keeps st
  have N₁ := N.keeps st
  have N' : News h₀ L h₁ ((s.heap.objs.size, rngI 0 k 1) :: news) := fun q hq => by
    rcases List.mem_cons.mp hq with rfl | hq
    · exact ⟨e, Nat.ne_of_gt F₁.ns.lt, none_at_size F₁⟩
    · exact ⟨st' _ _ (N₁ q hq).1, (N₁ q hq).2⟩
  rcases hk with rfl | rfl
  · exact h.1 _ h₁ (F₁.keeps st') N' fun q hq => Heap.lt_size (N₁ q hq).1
  · exact h.2 _ h₁ (F₁.keeps st') N' fun q hq => Heap.lt_size (N₁ q hq).1
theorem for_item {target : Expr} {n : Nat} {x left : Int} (F : Fr h₀ L s.heap m) (N : News h₀ L s.heap news) (U : UpdF I (rngI x left 1) news gf) (hl : 0 < left)
    (h : ∀ h' t, Fr h₀ L h' m → News h₀ L h' (gf (rngI (x + 1) (left - 1) 1)) → wpAny (model prog w) A (assign target env (.int x t)) (fun _ s₂ => wpAny (model prog w) A (execs body env) (fun f s₃ => match f with
          | .next => ForW prog w A R target body (.ref I) env n s₃
          | .cont => ForW prog w A R target body (.ref I) env n s₃
          | .brk => R (.ok .next) s₃
          | .ret v => R (.ok (.ret v)) s₃) (fun _ _ => False) s₂) (fun _ _ => False) { s with heap := h', toks := s.toks + 1 }) :
    ForW prog w A R target body (.ref I) env (n + 1) s := by
  obtain ⟨pre, post, rfl, hg, a, b⟩ := U.split
  have z := N (I, rngI x left 1) (List.mem_append.mpr (.inr (.head _)))
  refine wpAny_pyNext_range_item (x := x) (left := left) (step := 1) z.1 hl fun h' hit hs => ?_
  exact h h' s.toks (F.change hs z.2.1 z.2.2) (hg _ ▸ N.setAt a b hs hit)
theorem for_end {target : Expr} {x left : Int} {ps ps2 : Array Value} (hh : A.handled = none) (F : Fr h₀ L s.heap m) (N : News h₀ L s.heap news) (hm : (I, rngI x left 1) ∈ news) (hl : left ≤ 0) (m7 : ((754 : Addr), tabObj ps) ∈ news) (m8 : ((118 : Addr), tabObj ps2) ∈ news) (n7 : (754 : Addr) ≠ I) (n8 : (118 : Addr) ≠ I)
    (h : ∀ h', Fr h₀ L h' m → News h₀ L h' [((754 : Addr), tabObj ps), ((118 : Addr), tabObj ps2)] → R (.ok .next) { s with heap := h' }) : ForW prog w A R target body (.ref I) env 0 s := by
  have z := N _ hm
  refine wpAny_pyNext_range_end (x := x) (left := left) (step := 1) hh z.1 hl fun h' he => ?_
  exact h h' ⟨F.ns.extBut he z.2.1.symm, fun b o e => he b o (fun q => by rw [q, z.2.2] at e; cases e) (F.keep b o e), F.above⟩ fun q hq => by
    rcases List.mem_cons.mp hq with rfl | hq
    · exact ⟨he _ _ n7 (N _ m7).1, (N _ m7).2⟩
    rcases List.mem_cons.mp hq with rfl | hq
    · exact ⟨he _ _ n8 (N _ m8).1, (N _ m8).2⟩
    · cases hq
end
theorem words_p39_law_1 : True := by
  k_with "exec For Name Call cons nil" => (k_here; kn_here; k_dflt (refine' for_open ?_; k_whole))
  k_with "ForS" => (k_dflt (refine' for_start2 ?zqst ?zqF ?zqN ?zqhr ?zqhk ?_; (case zqst => assumption); (case zqF => assumption); (case zqN => assumption); (case zqhr => assumption); (case zqhk => (first | omega | (split <;> split <;> omega) | (split <;> omega) | grind)); k_whole; refine And.intro ?_ ?_ <;> (intro I9 h9 F9 N9 l9; (k_lt l9); (try dsimp only))))
  k_with "ForW" => ((with_reducible show ForW _ _ _ _ _ _ _ _ 0 _); k_dflt (refine' for_end ?zqhh ?zqF ?zqN ?zqmm ?zqhl ?zqm7 ?zqm8 ?zqn7 ?zqn8 ?_; (case zqhh => exact rfl); (case zqF => k_asm); (case zqN => k_asm); (case zqmm => k_mem); (case zqhl => omega); (case zqm7 => k_mem); (case zqm8 => k_mem); (case zqn7 => k_ne); (case zqn8 => k_ne); k_whole; intro h9 F9 N9; (try dsimp only)))
  k_with "ForW" => ((fail_if_success (with_reducible show ForW _ _ _ _ _ _ _ _ 0 _)); k_dflt (refine' for_item ?zqF ?zqN ?zqU ?zqhl ?_; (case zqF => k_asm); (case zqN => k_asm); (case zqU => k_updF); (case zqhl => omega); k_whole; intro h9 t9 F9 N9; (try dsimp only at N9); (try dsimp only)))
  trivial
set_option maxHeartbeats 4000000 in
theorem lawHolds : PySem.Challenge.rw_xm0611_01.Holds := by
  refine Mine.hd rfl ?_
  k_go0
  all_goals try k_fold
  rename News _ _ _ _ => NN
  have S0 : TabS #[] 118 (tabObj #[]) 118 (tabObj #[]) := .inl ⟨rfl, by decide, by decide⟩
  have f0 : FldO (tabObj #[]) := tab_fld _
  have N2 := news_dup NN
  clear NN
  k_steps

end Mine
theorem PySem.Challenge.cw_xm0611_01_holds : PySem.Challenge.rw_xm0611_01.Holds := by
  exact Mine.lawHolds
