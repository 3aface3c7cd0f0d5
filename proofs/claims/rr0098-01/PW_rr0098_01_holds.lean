import PyProof.Rows.All
import Wide.All
import OpenK.AllK
import Wide.FinOn
import Lean
import PySem.Challenge.RW_rr0098_01
open PySem PySem.W PySem.Calls PyProof.Rows
set_option Elab.async false
set_option maxRecDepth 100000
set_option linter.unusedVariables false
set_option maxHeartbeats 4000000
set_option genSizeOf false
set_option genInjectivity false
set_option compiler.extract_closed false
namespace Mine
noncomputable section
noncomputable abbrev pw : Program := PySem.Challenge.pw_rr0098_01
noncomputable def uN : Value := .none
noncomputable def uR (a : Nat) : Value := .ref a
noncomputable def uS (x : Str) (t : Nat) : Value := .str x t
noncomputable def uI (i : Int) (t : Nat) : Value := .int i t
noncomputable def uB (x : String) : Value := .builtin x
noncomputable def uT (x : String) : Value := .type x
noncomputable def uL (b : Bool) : Value := .bool b
noncomputable def oT (l : List Value) : Obj := ⟨.type "tuple", none, .seq ⟨l⟩ 0, ⟨[]⟩⟩
noncomputable def oDE (P : Params) (l : List (Str × Nat × Value)) : Array DictEntry := ⟨l.map fun e => ⟨PyData.keyHash P e.1, .str e.1 e.2.1, e.2.2⟩⟩
noncomputable def oD (P : Params) (l : List (Str × Nat × Value)) (n : Nat) : Obj := ⟨.type "dict", none, .dict (oDE P l) n, ⟨[]⟩⟩
noncomputable def oE (P : Params) (l : List (Str × Nat × Value)) (n : Nat) : Obj := ⟨.none, none, .dict (oDE P l) n, ⟨[]⟩⟩
noncomputable def oF (c : String) (l : List Value) : Obj := ⟨.type c, none, .fields ⟨l⟩, ⟨[]⟩⟩
noncomputable def oG (l : List Value) : Obj := ⟨.none, none, .fields ⟨l⟩, ⟨[]⟩⟩
noncomputable def oM (c : String) (d : Option Nat) (s : List (Option Value)) : Obj := ⟨.type c, d, .plain, ⟨s⟩⟩
noncomputable def oL (c : String) (v : Option Value) (d : Option Nat) (s : List (Option Value)) : Obj := ⟨.type c, d, .cell v, ⟨s⟩⟩
noncomputable def oC (c : String) (d : Option Nat) (nm : Str) (bases mro : List Value) (ns : Nat) (qn : Str) (hd : Bool) (sn : List Str) (sub : List Value) (ab : Bool) (co : Option Bool) (hdel : Bool) (s : List (Option Value)) : Obj :=
  ⟨.type c, d, .cls ⟨nm, bases, mro, ns, qn, hd, sn, sub, ab, co, hdel⟩, ⟨s⟩⟩
noncomputable def stmtAt (b : List Stmt) : List Nat → Stmt
  | [] => default
  | [i] => b.getD i default
  | i :: r => match b.getD i default with
    | .ClassDef _ _ _ c _ _ _ _ _ _ _ => stmtAt c r
    | _ => default
noncomputable def oV (cl : Value) (pa : List Nat) (qn : Str) (g : Nat) (clo : List (Str × Nat)) (df kd doc md : Value) (an : Option Nat) (code ct : Value) (bt : Nat) (d : Option Nat) (s : List (Option Value)) : Obj :=
  match stmtAt pw.main.body pa with
  | .FunctionDef n a b _ _ _ sc _ _ _ => ⟨cl, d, .func ⟨n, qn, a, .stmts b, sc, g, clo, df, kd, doc, md, an, code, ct, bt⟩, ⟨s⟩⟩
  | _ => default
noncomputable def oU := oV (.type "function")
noncomputable def oW := oV .none
noncomputable def fin3a : List (Str × Nat × Value) := [("__doc__",166,uN),("__package__",167,uN),("__loader__",168,uB "__main__.__loader__#opaque"),("__spec__",169,uN),("__annotations__",170,uR 6),("__builtins__",171,uR 4),("__file__",173,uS "/claim/cut.py" 172),("__cached__",174,uN),("_wall",193,uR 21),("FinderError",233,uR 47),("SpotFault",268,uR 76),("KindFault",284,uR 88),("ScopeFault",300,uR 100),("BoundFault",316,uR 112),("LimitFault",332,uR 124),("MOST_ROWS",336,uI 2000000 335)]
noncomputable def fin3b : List (Str × Nat × Value) := [("set_of",342,uR 131),("union",350,uR 138),("minus",356,uR 143),("is_within",364,uR 150),("product",370,uR 155),("Universe",442,uR 207),("Bounds",546,uR 284),("USUAL",550,uI 3 549),("MOST_ATOMS",552,uI 500 551),("MOST_TUPLES",554,uI 100000 553),("NOWHERE",557,uI (-1) 556),("Numbers",632,uR 331),("Uppers",695,uR 371),("Scopes",738,uR 402),("ORDERING",742,uS "util/ordering" 741),("Signatures",965,uR 571)]
noncomputable def fin3c : List (Str × Nat × Value) := [("_law_draw",977,uR 582),("_law_rows",983,uR 587),("_law_top",989,uR 592),("_law_scope",1005,uR 599),("_law_sets",1011,uR 604),("_law_lots",1017,uR 609),("_law_due",1023,uR 614),("_law_let",1029,uR 619),("_law_told",1035,uR 624),("_law_table",1041,uR 629),("law",1047,uR 634)]
noncomputable def fin3 : List (Str × Nat × Value) := fin3a ++ fin3b ++ fin3c
noncomputable def fin12 : List Value := [uI 1 0,uI 0 0,uR 20,uI 5 0,uI 0 0,uR 28,uI 13 0,uI 0 0,uR 57,uI 21 0,uI 0 0,uR 84,uI 23 0,uI 0 0,uR 96,uI 25 0,uI 0 0,uR 108,uI 27 0,uI 0 0,uR 120,uI 31 0,uI 0 0,uR 130,uI 33 0,uI 0 0,uR 137,uI 35 0,uI 0 0,uR 142,uI 38 0,uI 0 0,uR 149,uI 40 0,uI 0 0,uR 154,uI 45 0,uI 0 0,uR 161,uI 71 0,uI 0 0,uR 217,uI 126 0,uI 0 0,uR 294,uI 178 0,uI 0 0,uR 341,uI 217 0,uI 0 0,uR 381,uI 253 0,uI 0 0,uR 412,uI 387 0,uI 0 0,uR 581,uI 393 0,uI 0 0,uR 586,uI 398 0,uI 0 0,uR 591,uI 403 0,uI 0 0,uR 598,uI 414 0,uI 0 0,uR 603,uI 419 0,uI 0 0,uR 608,uI 432 0,uI 0 0,uR 613,uI 442 0,uI 0 0,uR 618,uI 454 0,uI 0 0,uR 623,uI 458 0,uI 0 0,uR 628,uI 462 0,uI 0 0,uR 633]
noncomputable def hd.heap_39 (P : Params) : Frag := [
(0, boot_o_0 P),
(1, boot_o_1 P),
(2, oE P [("type.__subclasses__.Exception.0",230,uI 47 0),("type.__subclasses__.Exception.n",231,uI 1 0)] 2),
(3, oD P (("__name__",165,uS "law_rr0098_01" 966) :: fin3) 44),
(4, boot_o_4 P),
(5, boot_o_5 P),
(6, boot_o_6 P),
(7, boot_o_7 P),
(8, boot_o_8 P),
(9, boot_o_9 P),
(10, boot_o_10 P),
(11, oT []),
(12, oG fin12),
(13, oF "code" [uS "<module>" 182,uS "<module>" 183,uS "/claim/cut.py" 184,uI 1 0,uI 0 0,uI 0 0,uI 0 0,uI 0 0,uR 11,uL false,uI 181 0,uR 12,uN,uN,uN,uN,uI 185 0,uI 1 0,uS "/claim/cut.py" 186]),
(14, oM "frame" none [some (uR 13),some (uR 3),some (uR 3),none,some (uS "__main__" 164),none,some (uR 0)]),
(15, oT []),
(16, oG []),
(17, oT [uS "k" 190]),
(18, oT []),
(19, oW [0] "_wall" 0 [] uN uN uN uN none uN uN 0 none []),
(20, oF "code" [uS "_wall" 187,uS "_wall" 188,uS "/claim/cut.py" 189,uI 1 0,uI 1 0,uI 0 0,uI 0 0,uI 3 0,uR 15,uL true,uI 181 0,uR 16,uN,uR 17,uR 18,uR 19,uI 191 0,uI 1 0,uS "/claim/cut.py" 192]),
(21, oU [0] "_wall" 3 [] uN uN uN (uS "__main__" 164) none (uR 20) uN 0 none []),
(22, oT [uT "Exception"]),
(23, oF "builtin_function_or_method" [uB "type.__prepare__",uT "type"]),
(24, oD P [("__module__",203,uS "relfinder.errors" 194),("__qualname__",205,uS "FinderError" 204),("__firstlineno__",207,uI 5 206),("__init__",216,uR 37),("told",223,uR 44),("__static_attributes__",225,uR 45),("__classcell__",226,uR 25)] 7),
(25, oL "cell" (some (uR 47)) none []),
(26, oT []),
(27, oG [uI 7 0,uI 4 0,uR 36,uI 11 0,uI 4 0,uR 43]),
(28, oF "code" [uS "FinderError" 198,uS "FinderError" 199,uS "/claim/cut.py" 200,uI 5 0,uI 0 0,uI 0 0,uI 0 0,uI 0 0,uR 26,uL false,uI 181 0,uR 27,uN,uN,uN,uN,uI 201 0,uI 5 0,uS "/claim/cut.py" 202]),
(29, oM "frame" none [some (uR 28),some (uR 3),some (uR 24),none,some (uS "relfinder.errors" 194),none,some (uR 0)]),
(30, oT [uR 25]),
(31, oT [uS "__class__" 211]),
(32, oG []),
(33, oT [uS "self" 212,uS "what" 213]),
(34, oT []),
(35, oW [2, 0] "FinderError.__init__" 0 [] uN uN uN uN none uN uN 0 none []),
(36, oF "code" [uS "__init__" 208,uS "FinderError.__init__" 209,uS "/claim/cut.py" 210,uI 7 0,uI 2 0,uI 0 0,uI 0 0,uI 3 0,uR 31,uL true,uI 181 0,uR 32,uN,uR 33,uR 34,uR 35,uI 214 0,uI 7 0,uS "/claim/cut.py" 215]),
(37, oU [2, 0] "FinderError.__init__" 3 [("__class__",25)] uN uN uN (uS "relfinder.errors" 194) none (uR 36) (uR 30) 0 none []),
(38, oT []),
(39, oG []),
(40, oT [uS "self" 220]),
(41, oT []),
(42, oW [2, 1] "FinderError.told" 0 [] uN uN uN uN none uN uN 0 none []),
(43, oF "code" [uS "told" 217,uS "FinderError.told" 218,uS "/claim/cut.py" 219,uI 11 0,uI 1 0,uI 0 0,uI 0 0,uI 3 0,uR 38,uL true,uI 181 0,uR 39,uN,uR 40,uR 41,uR 42,uI 221 0,uI 11 0,uS "/claim/cut.py" 222]),
(44, oU [2, 1] "FinderError.told" 3 [] uN uN uN (uS "relfinder.errors" 194) none (uR 43) uN 0 none []),
(45, oT [uS "what" 224]),
(46, oD P [("__module__",203,uS "relfinder.errors" 194),("__firstlineno__",207,uI 5 206),("__init__",216,uR 37),("told",223,uR 44),("__static_attributes__",225,uR 45),("__weakref__",228,uR 48),("__doc__",229,uN)] 4),
(47, oC "type" none "FinderError" [uT "Exception"] [uR 47,uT "Exception",uT "BaseException",uT "object"] 46 "FinderError" true [] [uR 76,uR 112,uR 124] false none false [some (uR 22),none,some (uS "FinderError" 196),some (uS "FinderError" 204),some (uB "Exception.__new__"),some (uL true)]),
(48, oF "getset_descriptor" [uS "__weakref__" 227,uR 47,uB "ExceptionGroup.__weakref__",uN]),
(49, oF "super" [uR 47,uR 47,uR 47]),
(50, oF "builtin_function_or_method" [uB "object.__init_subclass__",uR 47]),
(51, oT [uR 47]),
(52, oF "builtin_function_or_method" [uB "type.__prepare__",uT "type"]),
(53, oD P [("__module__",241,uS "relfinder.errors" 194),("__qualname__",243,uS "SpotFault" 242),("__firstlineno__",245,uI 13 244),("__init__",255,uR 66),("told",262,uR 73),("__static_attributes__",264,uR 74),("__classcell__",265,uR 54)] 7),
(54, oL "cell" (some (uR 76)) none []),
(55, oT []),
(56, oG [uI 15 0,uI 4 0,uR 65,uI 19 0,uI 4 0,uR 72]),
(57, oF "code" [uS "SpotFault" 236,uS "SpotFault" 237,uS "/claim/cut.py" 238,uI 13 0,uI 0 0,uI 0 0,uI 0 0,uI 0 0,uR 55,uL false,uI 181 0,uR 56,uN,uN,uN,uN,uI 239 0,uI 13 0,uS "/claim/cut.py" 240]),
(58, oM "frame" none [some (uR 57),some (uR 3),some (uR 53),none,some (uS "relfinder.errors" 194),none,some (uR 0)]),
(59, oT [uR 54]),
(60, oT [uS "__class__" 249]),
(61, oG []),
(62, oT [uS "self" 250,uS "what" 251,uS "spot" 252]),
(63, oT []),
(64, oW [3, 0] "SpotFault.__init__" 0 [] uN uN uN uN none uN uN 0 none []),
(65, oF "code" [uS "__init__" 246,uS "SpotFault.__init__" 247,uS "/claim/cut.py" 248,uI 15 0,uI 3 0,uI 0 0,uI 0 0,uI 3 0,uR 60,uL true,uI 181 0,uR 61,uN,uR 62,uR 63,uR 64,uI 253 0,uI 15 0,uS "/claim/cut.py" 254]),
(66, oU [3, 0] "SpotFault.__init__" 3 [("__class__",54)] uN uN uN (uS "relfinder.errors" 194) none (uR 65) (uR 59) 0 none []),
(67, oT []),
(68, oG []),
(69, oT [uS "self" 259]),
(70, oT []),
(71, oW [3, 1] "SpotFault.told" 0 [] uN uN uN uN none uN uN 0 none []),
(72, oF "code" [uS "told" 256,uS "SpotFault.told" 257,uS "/claim/cut.py" 258,uI 19 0,uI 1 0,uI 0 0,uI 0 0,uI 3 0,uR 67,uL true,uI 181 0,uR 68,uN,uR 69,uR 70,uR 71,uI 260 0,uI 19 0,uS "/claim/cut.py" 261]),
(73, oU [3, 1] "SpotFault.told" 3 [] uN uN uN (uS "relfinder.errors" 194) none (uR 72) uN 0 none []),
(74, oT [uS "spot" 263]),
(75, oD P [("__module__",241,uS "relfinder.errors" 194),("__firstlineno__",245,uI 13 244),("__init__",255,uR 66),("told",262,uR 73),("__static_attributes__",264,uR 74),("__doc__",266,uN)] 3),
(76, oC "type" none "SpotFault" [uR 47] [uR 76,uR 47,uT "Exception",uT "BaseException",uT "object"] 75 "SpotFault" true [] [uR 88,uR 100] false none false [some (uR 51),none,some (uS "SpotFault" 234),some (uS "SpotFault" 242),some (uB "Exception.__new__"),some (uL true)]),
(77, oF "super" [uR 76,uR 76,uR 76]),
(78, oF "builtin_function_or_method" [uB "object.__init_subclass__",uR 76]),
(79, oT [uR 76]),
(80, oF "builtin_function_or_method" [uB "type.__prepare__",uT "type"]),
(81, oD P [("__module__",276,uS "relfinder.errors" 194),("__qualname__",278,uS "KindFault" 277),("__firstlineno__",280,uI 21 279),("__static_attributes__",281,uR 86)] 4),
(82, oT []),
(83, oG []),
(84, oF "code" [uS "KindFault" 271,uS "KindFault" 272,uS "/claim/cut.py" 273,uI 21 0,uI 0 0,uI 0 0,uI 0 0,uI 0 0,uR 82,uL false,uI 181 0,uR 83,uN,uN,uN,uN,uI 274 0,uI 21 0,uS "/claim/cut.py" 275]),
(85, oM "frame" none [some (uR 84),some (uR 3),some (uR 81),none,some (uS "relfinder.errors" 194),none,some (uR 0)]),
(86, oT []),
(87, oD P [("__module__",276,uS "relfinder.errors" 194),("__firstlineno__",280,uI 21 279),("__static_attributes__",281,uR 86),("__doc__",282,uN)] 2),
(88, oC "type" none "KindFault" [uR 76] [uR 88,uR 76,uR 47,uT "Exception",uT "BaseException",uT "object"] 87 "KindFault" true [] [] false none false [some (uR 79),none,some (uS "KindFault" 269),some (uS "KindFault" 277),some (uB "Exception.__new__"),some (uL true)]),
(89, oF "super" [uR 88,uR 88,uR 88]),
(90, oF "builtin_function_or_method" [uB "object.__init_subclass__",uR 88]),
(91, oT [uR 76]),
(92, oF "builtin_function_or_method" [uB "type.__prepare__",uT "type"]),
(93, oD P [("__module__",292,uS "relfinder.errors" 194),("__qualname__",294,uS "ScopeFault" 293),("__firstlineno__",296,uI 23 295),("__static_attributes__",297,uR 98)] 4),
(94, oT []),
(95, oG []),
(96, oF "code" [uS "ScopeFault" 287,uS "ScopeFault" 288,uS "/claim/cut.py" 289,uI 23 0,uI 0 0,uI 0 0,uI 0 0,uI 0 0,uR 94,uL false,uI 181 0,uR 95,uN,uN,uN,uN,uI 290 0,uI 23 0,uS "/claim/cut.py" 291]),
(97, oM "frame" none [some (uR 96),some (uR 3),some (uR 93),none,some (uS "relfinder.errors" 194),none,some (uR 0)]),
(98, oT []),
(99, oD P [("__module__",292,uS "relfinder.errors" 194),("__firstlineno__",296,uI 23 295),("__static_attributes__",297,uR 98),("__doc__",298,uN)] 2),
(100, oC "type" none "ScopeFault" [uR 76] [uR 100,uR 76,uR 47,uT "Exception",uT "BaseException",uT "object"] 99 "ScopeFault" true [] [] false none false [some (uR 91),none,some (uS "ScopeFault" 285),some (uS "ScopeFault" 293),some (uB "Exception.__new__"),some (uL true)]),
(101, oF "super" [uR 100,uR 100,uR 100]),
(102, oF "builtin_function_or_method" [uB "object.__init_subclass__",uR 100]),
(103, oT [uR 47]),
(104, oF "builtin_function_or_method" [uB "type.__prepare__",uT "type"]),
(105, oD P [("__module__",308,uS "relfinder.errors" 194),("__qualname__",310,uS "BoundFault" 309),("__firstlineno__",312,uI 25 311),("__static_attributes__",313,uR 110)] 4),
(106, oT []),
(107, oG []),
(108, oF "code" [uS "BoundFault" 303,uS "BoundFault" 304,uS "/claim/cut.py" 305,uI 25 0,uI 0 0,uI 0 0,uI 0 0,uI 0 0,uR 106,uL false,uI 181 0,uR 107,uN,uN,uN,uN,uI 306 0,uI 25 0,uS "/claim/cut.py" 307]),
(109, oM "frame" none [some (uR 108),some (uR 3),some (uR 105),none,some (uS "relfinder.errors" 194),none,some (uR 0)]),
(110, oT []),
(111, oD P [("__module__",308,uS "relfinder.errors" 194),("__firstlineno__",312,uI 25 311),("__static_attributes__",313,uR 110),("__doc__",314,uN)] 2),
(112, oC "type" none "BoundFault" [uR 47] [uR 112,uR 47,uT "Exception",uT "BaseException",uT "object"] 111 "BoundFault" true [] [] false none false [some (uR 103),none,some (uS "BoundFault" 301),some (uS "BoundFault" 309),some (uB "Exception.__new__"),some (uL true)]),
(113, oF "super" [uR 112,uR 112,uR 112]),
(114, oF "builtin_function_or_method" [uB "object.__init_subclass__",uR 112]),
(115, oT [uR 47]),
(116, oF "builtin_function_or_method" [uB "type.__prepare__",uT "type"]),
(117, oD P [("__module__",324,uS "relfinder.errors" 194),("__qualname__",326,uS "LimitFault" 325),("__firstlineno__",328,uI 27 327),("__static_attributes__",329,uR 122)] 4),
(118, oT []),
(119, oG []),
(120, oF "code" [uS "LimitFault" 319,uS "LimitFault" 320,uS "/claim/cut.py" 321,uI 27 0,uI 0 0,uI 0 0,uI 0 0,uI 0 0,uR 118,uL false,uI 181 0,uR 119,uN,uN,uN,uN,uI 322 0,uI 27 0,uS "/claim/cut.py" 323]),
(121, oM "frame" none [some (uR 120),some (uR 3),some (uR 117),none,some (uS "relfinder.errors" 194),none,some (uR 0)]),
(122, oT []),
(123, oD P [("__module__",324,uS "relfinder.errors" 194),("__firstlineno__",328,uI 27 327),("__static_attributes__",329,uR 122),("__doc__",330,uN)] 2),
(124, oC "type" none "LimitFault" [uR 47] [uR 124,uR 47,uT "Exception",uT "BaseException",uT "object"] 123 "LimitFault" true [] [] false none false [some (uR 115),none,some (uS "LimitFault" 317),some (uS "LimitFault" 325),some (uB "Exception.__new__"),some (uL true)]),
(125, oF "super" [uR 124,uR 124,uR 124]),
(126, oF "builtin_function_or_method" [uB "object.__init_subclass__",uR 124]),
(127, oT []),
(128, oG []),
(129, oW [10] "set_of" 0 [] uN uN uN uN none uN uN 0 none []),
(130, oF "code" [uS "set_of" 337,uS "set_of" 338,uS "/claim/cut.py" 339,uI 31 0,uI 1 0,uI 0 0,uI 0 0,uI 3 0,uR 127,uL true,uI 181 0,uR 128,uN,uN,uN,uR 129,uI 340 0,uI 31 0,uS "/claim/cut.py" 341]),
(131, oU [10] "set_of" 3 [] uN uN uN (uS "relfinder.sets" 333) none (uR 130) uN 0 none []),
(132, oT []),
(133, oG []),
(134, oT [uS "s" 346,uS "t" 347]),
(135, oT []),
(136, oW [11] "union" 0 [] uN uN uN uN none uN uN 0 none []),
(137, oF "code" [uS "union" 343,uS "union" 344,uS "/claim/cut.py" 345,uI 33 0,uI 2 0,uI 0 0,uI 0 0,uI 3 0,uR 132,uL true,uI 181 0,uR 133,uN,uR 134,uR 135,uR 136,uI 348 0,uI 33 0,uS "/claim/cut.py" 349]),
(138, oU [11] "union" 3 [] uN uN uN (uS "relfinder.sets" 333) none (uR 137) uN 0 none []),
(139, oT []),
(140, oG []),
(141, oW [12] "minus" 0 [] uN uN uN uN none uN uN 0 none []),
(142, oF "code" [uS "minus" 351,uS "minus" 352,uS "/claim/cut.py" 353,uI 35 0,uI 2 0,uI 0 0,uI 0 0,uI 3 0,uR 139,uL true,uI 181 0,uR 140,uN,uN,uN,uR 141,uI 354 0,uI 35 0,uS "/claim/cut.py" 355]),
(143, oU [12] "minus" 3 [] uN uN uN (uS "relfinder.sets" 333) none (uR 142) uN 0 none []),
(144, oT []),
(145, oG []),
(146, oT [uS "s" 360,uS "t" 361]),
(147, oT []),
(148, oW [13] "is_within" 0 [] uN uN uN uN none uN uN 0 none []),
(149, oF "code" [uS "is_within" 357,uS "is_within" 358,uS "/claim/cut.py" 359,uI 38 0,uI 2 0,uI 0 0,uI 0 0,uI 3 0,uR 144,uL true,uI 181 0,uR 145,uN,uR 146,uR 147,uR 148,uI 362 0,uI 38 0,uS "/claim/cut.py" 363]),
(150, oU [13] "is_within" 3 [] uN uN uN (uS "relfinder.sets" 333) none (uR 149) uN 0 none []),
(151, oT []),
(152, oG []),
(153, oW [14] "product" 0 [] uN uN uN uN none uN uN 0 none []),
(154, oF "code" [uS "product" 365,uS "product" 366,uS "/claim/cut.py" 367,uI 40 0,uI 2 0,uI 0 0,uI 0 0,uI 3 0,uR 151,uL true,uI 181 0,uR 152,uN,uN,uN,uR 153,uI 368 0,uI 40 0,uS "/claim/cut.py" 369]),
(155, oU [14] "product" 3 [] uN uN uN (uS "relfinder.sets" 333) none (uR 154) uN 0 none []),
(156, oT []),
(157, oF "builtin_function_or_method" [uB "type.__prepare__",uT "type"]),
(158, oD P [("__module__",380,uS "relfinder.universe" 371),("__qualname__",382,uS "Universe" 381),("__firstlineno__",384,uI 45 383),("__init__",393,uR 169),("size",400,uR 176),("name",408,uR 183),("atom",416,uR 190),("text_of",424,uR 197),("set_text",432,uR 204),("__static_attributes__",435,uR 205)] 10),
(159, oT []),
(160, oG [uI 47 0,uI 4 0,uR 168,uI 55 0,uI 4 0,uR 175,uI 58 0,uI 4 0,uR 182,uI 61 0,uI 4 0,uR 189,uI 66 0,uI 4 0,uR 196,uI 69 0,uI 4 0,uR 203]),
(161, oF "code" [uS "Universe" 375,uS "Universe" 376,uS "/claim/cut.py" 377,uI 45 0,uI 0 0,uI 0 0,uI 0 0,uI 0 0,uR 159,uL false,uI 181 0,uR 160,uN,uN,uN,uN,uI 378 0,uI 45 0,uS "/claim/cut.py" 379]),
(162, oM "frame" none [some (uR 161),some (uR 3),some (uR 158),none,some (uS "relfinder.universe" 371),none,some (uR 0)]),
(163, oT []),
(164, oG []),
(165, oT [uS "self" 388,uS "names" 389,uS "name" 390]),
(166, oT []),
(167, oW [16, 0] "Universe.__init__" 0 [] uN uN uN uN none uN uN 0 none []),
(168, oF "code" [uS "__init__" 385,uS "Universe.__init__" 386,uS "/claim/cut.py" 387,uI 47 0,uI 2 0,uI 0 0,uI 0 0,uI 3 0,uR 163,uL true,uI 181 0,uR 164,uN,uR 165,uR 166,uR 167,uI 391 0,uI 47 0,uS "/claim/cut.py" 392]),
(169, oU [16, 0] "Universe.__init__" 3 [] uN uN uN (uS "relfinder.universe" 371) none (uR 168) uN 0 none []),
(170, oT []),
(171, oG []),
(172, oT [uS "self" 397]),
(173, oT []),
(174, oW [16, 1] "Universe.size" 0 [] uN uN uN uN none uN uN 0 none []),
(175, oF "code" [uS "size" 394,uS "Universe.size" 395,uS "/claim/cut.py" 396,uI 55 0,uI 1 0,uI 0 0,uI 0 0,uI 3 0,uR 170,uL true,uI 181 0,uR 171,uN,uR 172,uR 173,uR 174,uI 398 0,uI 55 0,uS "/claim/cut.py" 399]),
(176, oU [16, 1] "Universe.size" 3 [] uN uN uN (uS "relfinder.universe" 371) none (uR 175) uN 0 none []),
(177, oT []),
(178, oG []),
(179, oT [uS "self" 404,uS "a" 405]),
(180, oT []),
(181, oW [16, 2] "Universe.name" 0 [] uN uN uN uN none uN uN 0 none []),
(182, oF "code" [uS "name" 401,uS "Universe.name" 402,uS "/claim/cut.py" 403,uI 58 0,uI 2 0,uI 0 0,uI 0 0,uI 3 0,uR 177,uL true,uI 181 0,uR 178,uN,uR 179,uR 180,uR 181,uI 406 0,uI 58 0,uS "/claim/cut.py" 407]),
(183, oU [16, 2] "Universe.name" 3 [] uN uN uN (uS "relfinder.universe" 371) none (uR 182) uN 0 none []),
(184, oT []),
(185, oG []),
(186, oT [uS "self" 412,uS "name" 413]),
(187, oT []),
(188, oW [16, 3] "Universe.atom" 0 [] uN uN uN uN none uN uN 0 none []),
(189, oF "code" [uS "atom" 409,uS "Universe.atom" 410,uS "/claim/cut.py" 411,uI 61 0,uI 2 0,uI 0 0,uI 0 0,uI 3 0,uR 184,uL true,uI 181 0,uR 185,uN,uR 186,uR 187,uR 188,uI 414 0,uI 61 0,uS "/claim/cut.py" 415]),
(190, oU [16, 3] "Universe.atom" 3 [] uN uN uN (uS "relfinder.universe" 371) none (uR 189) uN 0 none []),
(191, oT []),
(192, oG []),
(193, oT [uS "self" 420,uS "row" 421]),
(194, oT []),
(195, oW [16, 4] "Universe.text_of" 0 [] uN uN uN uN none uN uN 0 none []),
(196, oF "code" [uS "text_of" 417,uS "Universe.text_of" 418,uS "/claim/cut.py" 419,uI 66 0,uI 2 0,uI 0 0,uI 0 0,uI 3 0,uR 191,uL true,uI 181 0,uR 192,uN,uR 193,uR 194,uR 195,uI 422 0,uI 66 0,uS "/claim/cut.py" 423]),
(197, oU [16, 4] "Universe.text_of" 3 [] uN uN uN (uS "relfinder.universe" 371) none (uR 196) uN 0 none []),
(198, oT []),
(199, oG []),
(200, oT [uS "self" 428,uS "some" 429]),
(201, oT []),
(202, oW [16, 5] "Universe.set_text" 0 [] uN uN uN uN none uN uN 0 none []),
(203, oF "code" [uS "set_text" 425,uS "Universe.set_text" 426,uS "/claim/cut.py" 427,uI 69 0,uI 2 0,uI 0 0,uI 0 0,uI 3 0,uR 198,uL true,uI 181 0,uR 199,uN,uR 200,uR 201,uR 202,uI 430 0,uI 69 0,uS "/claim/cut.py" 431]),
(204, oU [16, 5] "Universe.set_text" 3 [] uN uN uN (uS "relfinder.universe" 371) none (uR 203) uN 0 none []),
(205, oT [uS "names" 433,uS "numbers" 434]),
(206, oD P [("__module__",380,uS "relfinder.universe" 371),("__firstlineno__",384,uI 45 383),("__init__",393,uR 169),("size",400,uR 176),("name",408,uR 183),("atom",416,uR 190),("text_of",424,uR 197),("set_text",432,uR 204),("__static_attributes__",435,uR 205),("__dict__",437,uR 208),("__weakref__",439,uR 209),("__doc__",440,uN)] 4),
(207, oC "type" none "Universe" [uT "object"] [uR 207,uT "object"] 206 "Universe" true [] [] false none false [none,none,some (uS "Universe" 373),some (uS "Universe" 381),some (uB "object.__new__"),some (uL true)]),
(208, oF "getset_descriptor" [uS "__dict__" 436,uR 207,uB "function.__dict__",uB "function.__dict__#set"]),
(209, oF "getset_descriptor" [uS "__weakref__" 438,uR 207,uB "ExceptionGroup.__weakref__",uN]),
(210, oF "super" [uR 207,uR 207,uR 207]),
(211, oF "builtin_function_or_method" [uB "object.__init_subclass__",uR 207]),
(212, oT []),
(213, oF "builtin_function_or_method" [uB "type.__prepare__",uT "type"]),
(214, oD P [("__module__",450,uS "relfinder.universe" 371),("__qualname__",452,uS "Bounds" 451),("__firstlineno__",454,uI 71 453),("__init__",462,uR 225),("add",473,uR 232),("want_set",486,uR 239),("exactly",496,uR 246),("bound",504,uR 253),("size",511,uR 260),("lower",519,uR 267),("upper",527,uR 274),("number_of",535,uR 281),("__static_attributes__",539,uR 282)] 13),
(215, oT []),
(216, oG [uI 73 0,uI 4 0,uR 224,uI 78 0,uI 4 0,uR 231,uI 91 0,uI 4 0,uR 238,uI 104 0,uI 4 0,uR 245,uI 107 0,uI 4 0,uR 252,uI 110 0,uI 4 0,uR 259,uI 113 0,uI 4 0,uR 266,uI 116 0,uI 4 0,uR 273,uI 119 0,uI 4 0,uR 280]),
(217, oF "code" [uS "Bounds" 445,uS "Bounds" 446,uS "/claim/cut.py" 447,uI 71 0,uI 0 0,uI 0 0,uI 0 0,uI 0 0,uR 215,uL false,uI 181 0,uR 216,uN,uN,uN,uN,uI 448 0,uI 71 0,uS "/claim/cut.py" 449]),
(218, oM "frame" none [some (uR 217),some (uR 3),some (uR 214),none,some (uS "relfinder.universe" 371),none,some (uR 0)]),
(219, oT []),
(220, oG []),
(221, oT [uS "self" 458,uS "universe" 459]),
(222, oT []),
(223, oW [17, 0] "Bounds.__init__" 0 [] uN uN uN uN none uN uN 0 none []),
(224, oF "code" [uS "__init__" 455,uS "Bounds.__init__" 456,uS "/claim/cut.py" 457,uI 73 0,uI 2 0,uI 0 0,uI 0 0,uI 3 0,uR 219,uL true,uI 181 0,uR 220,uN,uR 221,uR 222,uR 223,uI 460 0,uI 73 0,uS "/claim/cut.py" 461]),
(225, oU [17, 0] "Bounds.__init__" 3 [] uN uN uN (uS "relfinder.universe" 371) none (uR 224) uN 0 none []),
(226, oT []),
(227, oG []),
(228, oT [uS "self" 466,uS "name" 467,uS "arity" 468,uS "lower" 469,uS "upper" 470]),
(229, oT []),
(230, oW [17, 1] "Bounds.add" 0 [] uN uN uN uN none uN uN 0 none []),
(231, oF "code" [uS "add" 463,uS "Bounds.add" 464,uS "/claim/cut.py" 465,uI 78 0,uI 5 0,uI 0 0,uI 0 0,uI 3 0,uR 226,uL true,uI 181 0,uR 227,uN,uR 228,uR 229,uR 230,uI 471 0,uI 78 0,uS "/claim/cut.py" 472]),
(232, oU [17, 1] "Bounds.add" 3 [] uN uN uN (uS "relfinder.universe" 371) none (uR 231) uN 0 none []),
(233, oT []),
(234, oG []),
(235, oT [uS "self" 477,uS "name" 478,uS "arity" 479,uS "some" 480,uS "row" 481,uS "a" 482,uS "k" 483]),
(236, oT []),
(237, oW [17, 2] "Bounds.want_set" 0 [] uN uN uN uN none uN uN 0 none []),
(238, oF "code" [uS "want_set" 474,uS "Bounds.want_set" 475,uS "/claim/cut.py" 476,uI 91 0,uI 4 0,uI 0 0,uI 0 0,uI 3 0,uR 233,uL true,uI 181 0,uR 234,uN,uR 235,uR 236,uR 237,uI 484 0,uI 91 0,uS "/claim/cut.py" 485]),
(239, oU [17, 2] "Bounds.want_set" 3 [] uN uN uN (uS "relfinder.universe" 371) none (uR 238) uN 0 none []),
(240, oT []),
(241, oG []),
(242, oT [uS "self" 490,uS "name" 491,uS "arity" 492,uS "some" 493]),
(243, oT []),
(244, oW [17, 3] "Bounds.exactly" 0 [] uN uN uN uN none uN uN 0 none []),
(245, oF "code" [uS "exactly" 487,uS "Bounds.exactly" 488,uS "/claim/cut.py" 489,uI 104 0,uI 4 0,uI 0 0,uI 0 0,uI 3 0,uR 240,uL true,uI 181 0,uR 241,uN,uR 242,uR 243,uR 244,uI 494 0,uI 104 0,uS "/claim/cut.py" 495]),
(246, oU [17, 3] "Bounds.exactly" 3 [] uN uN uN (uS "relfinder.universe" 371) none (uR 245) uN 0 none []),
(247, oT []),
(248, oG []),
(249, oT [uS "self" 500,uS "r" 501]),
(250, oT []),
(251, oW [17, 4] "Bounds.bound" 0 [] uN uN uN uN none uN uN 0 none []),
(252, oF "code" [uS "bound" 497,uS "Bounds.bound" 498,uS "/claim/cut.py" 499,uI 107 0,uI 2 0,uI 0 0,uI 0 0,uI 3 0,uR 247,uL true,uI 181 0,uR 248,uN,uR 249,uR 250,uR 251,uI 502 0,uI 107 0,uS "/claim/cut.py" 503]),
(253, oU [17, 4] "Bounds.bound" 3 [] uN uN uN (uS "relfinder.universe" 371) none (uR 252) uN 0 none []),
(254, oT []),
(255, oG []),
(256, oT [uS "self" 508]),
(257, oT []),
(258, oW [17, 5] "Bounds.size" 0 [] uN uN uN uN none uN uN 0 none []),
(259, oF "code" [uS "size" 505,uS "Bounds.size" 506,uS "/claim/cut.py" 507,uI 110 0,uI 1 0,uI 0 0,uI 0 0,uI 3 0,uR 254,uL true,uI 181 0,uR 255,uN,uR 256,uR 257,uR 258,uI 509 0,uI 110 0,uS "/claim/cut.py" 510]),
(260, oU [17, 5] "Bounds.size" 3 [] uN uN uN (uS "relfinder.universe" 371) none (uR 259) uN 0 none []),
(261, oT []),
(262, oG []),
(263, oT [uS "self" 515,uS "r" 516]),
(264, oT []),
(265, oW [17, 6] "Bounds.lower" 0 [] uN uN uN uN none uN uN 0 none []),
(266, oF "code" [uS "lower" 512,uS "Bounds.lower" 513,uS "/claim/cut.py" 514,uI 113 0,uI 2 0,uI 0 0,uI 0 0,uI 3 0,uR 261,uL true,uI 181 0,uR 262,uN,uR 263,uR 264,uR 265,uI 517 0,uI 113 0,uS "/claim/cut.py" 518]),
(267, oU [17, 6] "Bounds.lower" 3 [] uN uN uN (uS "relfinder.universe" 371) none (uR 266) uN 0 none []),
(268, oT []),
(269, oG []),
(270, oT [uS "self" 523,uS "r" 524]),
(271, oT []),
(272, oW [17, 7] "Bounds.upper" 0 [] uN uN uN uN none uN uN 0 none []),
(273, oF "code" [uS "upper" 520,uS "Bounds.upper" 521,uS "/claim/cut.py" 522,uI 116 0,uI 2 0,uI 0 0,uI 0 0,uI 3 0,uR 268,uL true,uI 181 0,uR 269,uN,uR 270,uR 271,uR 272,uI 525 0,uI 116 0,uS "/claim/cut.py" 526]),
(274, oU [17, 7] "Bounds.upper" 3 [] uN uN uN (uS "relfinder.universe" 371) none (uR 273) uN 0 none []),
(275, oT []),
(276, oG []),
(277, oT [uS "self" 531,uS "name" 532]),
(278, oT []),
(279, oW [17, 8] "Bounds.number_of" 0 [] uN uN uN uN none uN uN 0 none []),
(280, oF "code" [uS "number_of" 528,uS "Bounds.number_of" 529,uS "/claim/cut.py" 530,uI 119 0,uI 2 0,uI 0 0,uI 0 0,uI 3 0,uR 275,uL true,uI 181 0,uR 276,uN,uR 277,uR 278,uR 279,uI 533 0,uI 119 0,uS "/claim/cut.py" 534]),
(281, oU [17, 8] "Bounds.number_of" 3 [] uN uN uN (uS "relfinder.universe" 371) none (uR 280) uN 0 none []),
(282, oT [uS "bounds" 536,uS "numbers" 537,uS "universe" 538]),
(283, oD P [("__module__",450,uS "relfinder.universe" 371),("__firstlineno__",454,uI 71 453),("__init__",462,uR 225),("add",473,uR 232),("want_set",486,uR 239),("exactly",496,uR 246),("bound",504,uR 253),("size",511,uR 260),("lower",519,uR 267),("upper",527,uR 274),("number_of",535,uR 281),("__static_attributes__",539,uR 282),("__dict__",541,uR 285),("__weakref__",543,uR 286),("__doc__",544,uN)] 4),
(284, oC "type" none "Bounds" [uT "object"] [uR 284,uT "object"] 283 "Bounds" true [] [] false none false [none,none,some (uS "Bounds" 443),some (uS "Bounds" 451),some (uB "object.__new__"),some (uL true)]),
(285, oF "getset_descriptor" [uS "__dict__" 540,uR 284,uB "function.__dict__",uB "function.__dict__#set"]),
(286, oF "getset_descriptor" [uS "__weakref__" 542,uR 284,uB "ExceptionGroup.__weakref__",uN]),
(287, oF "super" [uR 284,uR 284,uR 284]),
(288, oF "builtin_function_or_method" [uB "object.__init_subclass__",uR 284]),
(289, oT []),
(290, oF "builtin_function_or_method" [uB "type.__prepare__",uT "type"]),
(291, oD P [("__module__",565,uS "relfinder.scopes" 547),("__qualname__",567,uS "Numbers" 566),("__firstlineno__",569,uI 126 568),("__init__",582,uR 302),("take",592,uR 309),("usual_for",598,uR 314),("lot_of",609,uR 321),("formula_of",620,uR 328),("__static_attributes__",625,uR 329)] 9),
(292, oT []),
(293, oG [uI 128 0,uI 4 0,uR 301,uI 140 0,uI 4 0,uR 308,uI 153 0,uI 4 0,uR 313,uI 160 0,uI 4 0,uR 320,uI 173 0,uI 4 0,uR 327]),
(294, oF "code" [uS "Numbers" 560,uS "Numbers" 561,uS "/claim/cut.py" 562,uI 126 0,uI 0 0,uI 0 0,uI 0 0,uI 0 0,uR 292,uL false,uI 181 0,uR 293,uN,uN,uN,uN,uI 563 0,uI 126 0,uS "/claim/cut.py" 564]),
(295, oM "frame" none [some (uR 294),some (uR 3),some (uR 291),none,some (uS "relfinder.scopes" 547),none,some (uR 0)]),
(296, oT []),
(297, oG []),
(298, oT [uS "self" 573,uS "signatures" 574,uS "scope" 575,uS "is_exact" 576,uS "number" 577,uS "sig" 578,uS "alias" 579]),
(299, oT []),
(300, oW [23, 0] "Numbers.__init__" 0 [] uN uN uN uN none uN uN 0 none []),
(301, oF "code" [uS "__init__" 570,uS "Numbers.__init__" 571,uS "/claim/cut.py" 572,uI 128 0,uI 3 0,uI 0 0,uI 0 0,uI 3 0,uR 296,uL true,uI 181 0,uR 297,uN,uR 298,uR 299,uR 300,uI 580 0,uI 128 0,uS "/claim/cut.py" 581]),
(302, oU [23, 0] "Numbers.__init__" 3 [] uN uN uN (uS "relfinder.scopes" 547) none (uR 301) uN 0 none []),
(303, oT []),
(304, oG []),
(305, oT [uS "self" 586,uS "is_exact" 587,uS "number" 588,uS "sig" 589]),
(306, oT []),
(307, oW [23, 1] "Numbers.take" 0 [] uN uN uN uN none uN uN 0 none []),
(308, oF "code" [uS "take" 583,uS "Numbers.take" 584,uS "/claim/cut.py" 585,uI 140 0,uI 4 0,uI 0 0,uI 0 0,uI 3 0,uR 303,uL true,uI 181 0,uR 304,uN,uR 305,uR 306,uR 307,uI 590 0,uI 140 0,uS "/claim/cut.py" 591]),
(309, oU [23, 1] "Numbers.take" 3 [] uN uN uN (uS "relfinder.scopes" 547) none (uR 308) uN 0 none []),
(310, oT []),
(311, oG []),
(312, oW [23, 2] "Numbers.usual_for" 0 [] uN uN uN uN none uN uN 0 none []),
(313, oF "code" [uS "usual_for" 593,uS "Numbers.usual_for" 594,uS "/claim/cut.py" 595,uI 153 0,uI 2 0,uI 0 0,uI 0 0,uI 3 0,uR 310,uL true,uI 181 0,uR 311,uN,uN,uN,uR 312,uI 596 0,uI 153 0,uS "/claim/cut.py" 597]),
(314, oU [23, 2] "Numbers.usual_for" 3 [] uN uN uN (uS "relfinder.scopes" 547) none (uR 313) uN 0 none []),
(315, oT []),
(316, oG []),
(317, oT [uS "self" 602,uS "sig" 603,uS "is_exact" 604,uS "many" 605,uS "mult" 606]),
(318, oT []),
(319, oW [23, 3] "Numbers.lot_of" 0 [] uN uN uN uN none uN uN 0 none []),
(320, oF "code" [uS "lot_of" 599,uS "Numbers.lot_of" 600,uS "/claim/cut.py" 601,uI 160 0,uI 2 0,uI 0 0,uI 0 0,uI 3 0,uR 315,uL true,uI 181 0,uR 316,uN,uR 317,uR 318,uR 319,uI 607 0,uI 160 0,uS "/claim/cut.py" 608]),
(321, oU [23, 3] "Numbers.lot_of" 3 [] uN uN uN (uS "relfinder.scopes" 547) none (uR 320) uN 0 none []),
(322, oT []),
(323, oG []),
(324, oT [uS "self" 613,uS "sig" 614,uS "r" 615,uS "is_exact" 616,uS "number" 617]),
(325, oT []),
(326, oW [23, 4] "Numbers.formula_of" 0 [] uN uN uN uN none uN uN 0 none []),
(327, oF "code" [uS "formula_of" 610,uS "Numbers.formula_of" 611,uS "/claim/cut.py" 612,uI 173 0,uI 3 0,uI 0 0,uI 0 0,uI 3 0,uR 322,uL true,uI 181 0,uR 323,uN,uR 324,uR 325,uR 326,uI 618 0,uI 173 0,uS "/claim/cut.py" 619]),
(328, oU [23, 4] "Numbers.formula_of" 3 [] uN uN uN (uS "relfinder.scopes" 547) none (uR 327) uN 0 none []),
(329, oT [uS "default" 621,uS "ordered" 622,uS "signatures" 623,uS "told" 624]),
(330, oD P [("__module__",565,uS "relfinder.scopes" 547),("__firstlineno__",569,uI 126 568),("__init__",582,uR 302),("take",592,uR 309),("usual_for",598,uR 314),("lot_of",609,uR 321),("formula_of",620,uR 328),("__static_attributes__",625,uR 329),("__dict__",627,uR 332),("__weakref__",629,uR 333),("__doc__",630,uN)] 4),
(331, oC "type" none "Numbers" [uT "object"] [uR 331,uT "object"] 330 "Numbers" true [] [] false none false [none,none,some (uS "Numbers" 558),some (uS "Numbers" 566),some (uB "object.__new__"),some (uL true)]),
(332, oF "getset_descriptor" [uS "__dict__" 626,uR 331,uB "function.__dict__",uB "function.__dict__#set"]),
(333, oF "getset_descriptor" [uS "__weakref__" 628,uR 331,uB "ExceptionGroup.__weakref__",uN]),
(334, oF "super" [uR 331,uR 331,uR 331]),
(335, oF "builtin_function_or_method" [uB "object.__init_subclass__",uR 331]),
(336, oT []),
(337, oF "builtin_function_or_method" [uB "type.__prepare__",uT "type"]),
(338, oD P [("__module__",640,uS "relfinder.scopes" 547),("__qualname__",642,uS "Uppers" 641),("__firstlineno__",644,uI 178 643),("__init__",654,uR 349),("of_sig",665,uR 356),("of_column",671,uR 361),("of_field",683,uR 368),("__static_attributes__",688,uR 369)] 8),
(339, oT []),
(340, oG [uI 180 0,uI 4 0,uR 348,uI 186 0,uI 4 0,uR 355,uI 197 0,uI 4 0,uR 360,uI 210 0,uI 4 0,uR 367]),
(341, oF "code" [uS "Uppers" 635,uS "Uppers" 636,uS "/claim/cut.py" 637,uI 178 0,uI 0 0,uI 0 0,uI 0 0,uI 0 0,uR 339,uL false,uI 181 0,uR 340,uN,uN,uN,uN,uI 638 0,uI 178 0,uS "/claim/cut.py" 639]),
(342, oM "frame" none [some (uR 341),some (uR 3),some (uR 338),none,some (uS "relfinder.scopes" 547),none,some (uR 0)]),
(343, oT []),
(344, oG []),
(345, oT [uS "self" 648,uS "signatures" 649,uS "kinds" 650,uS "lots" 651]),
(346, oT []),
(347, oW [24, 0] "Uppers.__init__" 0 [] uN uN uN uN none uN uN 0 none []),
(348, oF "code" [uS "__init__" 645,uS "Uppers.__init__" 646,uS "/claim/cut.py" 647,uI 180 0,uI 4 0,uI 0 0,uI 0 0,uI 3 0,uR 343,uL true,uI 181 0,uR 344,uN,uR 345,uR 346,uR 347,uI 652 0,uI 180 0,uS "/claim/cut.py" 653]),
(349, oU [24, 0] "Uppers.__init__" 3 [] uN uN uN (uS "relfinder.scopes" 547) none (uR 348) uN 0 none []),
(350, oT []),
(351, oG []),
(352, oT [uS "self" 658,uS "sig" 659,uS "top" 660,uS "found" 661,uS "one" 662]),
(353, oT []),
(354, oW [24, 1] "Uppers.of_sig" 0 [] uN uN uN uN none uN uN 0 none []),
(355, oF "code" [uS "of_sig" 655,uS "Uppers.of_sig" 656,uS "/claim/cut.py" 657,uI 186 0,uI 2 0,uI 0 0,uI 0 0,uI 3 0,uR 350,uL true,uI 181 0,uR 351,uN,uR 352,uR 353,uR 354,uI 663 0,uI 186 0,uS "/claim/cut.py" 664]),
(356, oU [24, 1] "Uppers.of_sig" 3 [] uN uN uN (uS "relfinder.scopes" 547) none (uR 355) uN 0 none []),
(357, oT []),
(358, oG []),
(359, oW [24, 2] "Uppers.of_column" 0 [] uN uN uN uN none uN uN 0 none []),
(360, oF "code" [uS "of_column" 666,uS "Uppers.of_column" 667,uS "/claim/cut.py" 668,uI 197 0,uI 2 0,uI 0 0,uI 0 0,uI 3 0,uR 357,uL true,uI 181 0,uR 358,uN,uN,uN,uR 359,uI 669 0,uI 197 0,uS "/claim/cut.py" 670]),
(361, oU [24, 2] "Uppers.of_column" 3 [] uN uN uN (uS "relfinder.scopes" 547) none (uR 360) uN 0 none []),
(362, oT []),
(363, oG []),
(364, oT [uS "self" 675,uS "sig" 676,uS "field" 677,uS "kind" 678,uS "found" 679,uS "column" 680]),
(365, oT []),
(366, oW [24, 3] "Uppers.of_field" 0 [] uN uN uN uN none uN uN 0 none []),
(367, oF "code" [uS "of_field" 672,uS "Uppers.of_field" 673,uS "/claim/cut.py" 674,uI 210 0,uI 3 0,uI 0 0,uI 0 0,uI 3 0,uR 362,uL true,uI 181 0,uR 363,uN,uR 364,uR 365,uR 366,uI 681 0,uI 210 0,uS "/claim/cut.py" 682]),
(368, oU [24, 3] "Uppers.of_field" 3 [] uN uN uN (uS "relfinder.scopes" 547) none (uR 367) uN 0 none []),
(369, oT [uS "kinds" 684,uS "known" 685,uS "lots" 686,uS "signatures" 687]),
(370, oD P [("__module__",640,uS "relfinder.scopes" 547),("__firstlineno__",644,uI 178 643),("__init__",654,uR 349),("of_sig",665,uR 356),("of_column",671,uR 361),("of_field",683,uR 368),("__static_attributes__",688,uR 369),("__dict__",690,uR 372),("__weakref__",692,uR 373),("__doc__",693,uN)] 4),
(371, oC "type" none "Uppers" [uT "object"] [uR 371,uT "object"] 370 "Uppers" true [] [] false none false [none,none,some (uS "Uppers" 633),some (uS "Uppers" 641),some (uB "object.__new__"),some (uL true)]),
(372, oF "getset_descriptor" [uS "__dict__" 689,uR 371,uB "function.__dict__",uB "function.__dict__#set"]),
(373, oF "getset_descriptor" [uS "__weakref__" 691,uR 371,uB "ExceptionGroup.__weakref__",uN]),
(374, oF "super" [uR 371,uR 371,uR 371]),
(375, oF "builtin_function_or_method" [uB "object.__init_subclass__",uR 371]),
(376, oT []),
(377, oF "builtin_function_or_method" [uB "type.__prepare__",uT "type"]),
(378, oD P [("__module__",703,uS "relfinder.scopes" 547),("__qualname__",705,uS "Scopes" 704),("__firstlineno__",707,uI 217 706),("__init__",716,uR 389),("atoms_of",722,uR 394),("bounds_of",728,uR 399),("__static_attributes__",731,uR 400)] 7),
(379, oT []),
(380, oG [uI 219 0,uI 4 0,uR 388,uI 223 0,uI 4 0,uR 393,uI 235 0,uI 4 0,uR 398]),
(381, oF "code" [uS "Scopes" 698,uS "Scopes" 699,uS "/claim/cut.py" 700,uI 217 0,uI 0 0,uI 0 0,uI 0 0,uI 0 0,uR 379,uL false,uI 181 0,uR 380,uN,uN,uN,uN,uI 701 0,uI 217 0,uS "/claim/cut.py" 702]),
(382, oM "frame" none [some (uR 381),some (uR 3),some (uR 378),none,some (uS "relfinder.scopes" 547),none,some (uR 0)]),
(383, oT []),
(384, oG []),
(385, oT [uS "self" 711,uS "signatures" 712,uS "kinds" 713]),
(386, oT []),
(387, oW [25, 0] "Scopes.__init__" 0 [] uN uN uN uN none uN uN 0 none []),
(388, oF "code" [uS "__init__" 708,uS "Scopes.__init__" 709,uS "/claim/cut.py" 710,uI 219 0,uI 3 0,uI 0 0,uI 0 0,uI 3 0,uR 383,uL true,uI 181 0,uR 384,uN,uR 385,uR 386,uR 387,uI 714 0,uI 219 0,uS "/claim/cut.py" 715]),
(389, oU [25, 0] "Scopes.__init__" 3 [] uN uN uN (uS "relfinder.scopes" 547) none (uR 388) uN 0 none []),
(390, oT []),
(391, oG []),
(392, oW [25, 1] "Scopes.atoms_of" 0 [] uN uN uN uN none uN uN 0 none []),
(393, oF "code" [uS "atoms_of" 717,uS "Scopes.atoms_of" 718,uS "/claim/cut.py" 719,uI 223 0,uI 2 0,uI 0 0,uI 0 0,uI 3 0,uR 390,uL true,uI 181 0,uR 391,uN,uN,uN,uR 392,uI 720 0,uI 223 0,uS "/claim/cut.py" 721]),
(394, oU [25, 1] "Scopes.atoms_of" 3 [] uN uN uN (uS "relfinder.scopes" 547) none (uR 393) uN 0 none []),
(395, oT []),
(396, oG []),
(397, oW [25, 2] "Scopes.bounds_of" 0 [] uN uN uN uN none uN uN 0 none []),
(398, oF "code" [uS "bounds_of" 723,uS "Scopes.bounds_of" 724,uS "/claim/cut.py" 725,uI 235 0,uI 2 0,uI 0 0,uI 0 0,uI 3 0,uR 395,uL true,uI 181 0,uR 396,uN,uN,uN,uR 397,uI 726 0,uI 235 0,uS "/claim/cut.py" 727]),
(399, oU [25, 2] "Scopes.bounds_of" 3 [] uN uN uN (uS "relfinder.scopes" 547) none (uR 398) uN 0 none []),
(400, oT [uS "kinds" 729,uS "signatures" 730]),
(401, oD P [("__module__",703,uS "relfinder.scopes" 547),("__firstlineno__",707,uI 217 706),("__init__",716,uR 389),("atoms_of",722,uR 394),("bounds_of",728,uR 399),("__static_attributes__",731,uR 400),("__dict__",733,uR 403),("__weakref__",735,uR 404),("__doc__",736,uN)] 4),
(402, oC "type" none "Scopes" [uT "object"] [uR 402,uT "object"] 401 "Scopes" true [] [] false none false [none,none,some (uS "Scopes" 696),some (uS "Scopes" 704),some (uB "object.__new__"),some (uL true)]),
(403, oF "getset_descriptor" [uS "__dict__" 732,uR 402,uB "function.__dict__",uB "function.__dict__#set"]),
(404, oF "getset_descriptor" [uS "__weakref__" 734,uR 402,uB "ExceptionGroup.__weakref__",uN]),
(405, oF "super" [uR 402,uR 402,uR 402]),
(406, oF "builtin_function_or_method" [uB "object.__init_subclass__",uR 402]),
(407, oT []),
(408, oF "builtin_function_or_method" [uB "type.__prepare__",uT "type"]),
(409, oD P [("__module__",750,uS "relfinder.sigs" 739),("__qualname__",752,uS "Signatures" 751),("__firstlineno__",754,uI 253 753),("__init__",764,uR 420),("take_sig",773,uR 427),("look_above",782,uR 434),("direct",790,uR 441),("parents_first",796,uR 446),("all_fields",812,uR 453),("look_fields",827,uR 460),("take_order",833,uR 465),("names",840,uR 472),("has",848,uR 479),("spot",856,uR 486),("parent",864,uR 493),("supers",872,uR 500),("is_subset",880,uR 507),("children",886,uR 512),("above",895,uR 519),("top",903,uR 526),("all_above",914,uR 533),("is_abstract",922,uR 540),("mult",930,uR 547),("fields",937,uR 554),("facts",945,uR 561),("orders",952,uR 568),("__static_attributes__",958,uR 569)] 27),
(410, oT []),
(411, oG [uI 255 0,uI 4 0,uR 419,uI 271 0,uI 4 0,uR 426,uI 280 0,uI 4 0,uR 433,uI 287 0,uI 4 0,uR 440,uI 290 0,uI 4 0,uR 445,uI 300 0,uI 4 0,uR 452,uI 309 0,uI 4 0,uR 459,uI 319 0,uI 4 0,uR 464,uI 330 0,uI 4 0,uR 471,uI 333 0,uI 4 0,uR 478,uI 336 0,uI 4 0,uR 485,uI 339 0,uI 4 0,uR 492,uI 342 0,uI 4 0,uR 499,uI 345 0,uI 4 0,uR 506,uI 348 0,uI 4 0,uR 511,uI 351 0,uI 4 0,uR 518,uI 358 0,uI 4 0,uR 525,uI 363 0,uI 4 0,uR 532,uI 372 0,uI 4 0,uR 539,uI 375 0,uI 4 0,uR 546,uI 378 0,uI 4 0,uR 553,uI 381 0,uI 4 0,uR 560,uI 384 0,uI 4 0,uR 567]),
(412, oF "code" [uS "Signatures" 745,uS "Signatures" 746,uS "/claim/cut.py" 747,uI 253 0,uI 0 0,uI 0 0,uI 0 0,uI 0 0,uR 410,uL false,uI 181 0,uR 411,uN,uN,uN,uN,uI 748 0,uI 253 0,uS "/claim/cut.py" 749]),
(413, oM "frame" none [some (uR 412),some (uR 3),some (uR 409),none,some (uS "relfinder.sigs" 739),none,some (uR 0)]),
(414, oT []),
(415, oG []),
(416, oT [uS "self" 758,uS "items" 759,uS "item" 760,uS "name" 761]),
(417, oT []),
(418, oW [28, 0] "Signatures.__init__" 0 [] uN uN uN uN none uN uN 0 none []),
(419, oF "code" [uS "__init__" 755,uS "Signatures.__init__" 756,uS "/claim/cut.py" 757,uI 255 0,uI 2 0,uI 0 0,uI 0 0,uI 3 0,uR 414,uL true,uI 181 0,uR 415,uN,uR 416,uR 417,uR 418,uI 762 0,uI 255 0,uS "/claim/cut.py" 763]),
(420, oU [28, 0] "Signatures.__init__" 3 [] uN uN uN (uS "relfinder.sigs" 739) none (uR 419) uN 0 none []),
(421, oT []),
(422, oG []),
(423, oT [uS "self" 768,uS "item" 769,uS "name" 770]),
(424, oT []),
(425, oW [28, 1] "Signatures.take_sig" 0 [] uN uN uN uN none uN uN 0 none []),
(426, oF "code" [uS "take_sig" 765,uS "Signatures.take_sig" 766,uS "/claim/cut.py" 767,uI 271 0,uI 2 0,uI 0 0,uI 0 0,uI 3 0,uR 421,uL true,uI 181 0,uR 422,uN,uR 423,uR 424,uR 425,uI 771 0,uI 271 0,uS "/claim/cut.py" 772]),
(427, oU [28, 1] "Signatures.take_sig" 3 [] uN uN uN (uS "relfinder.sigs" 739) none (uR 426) uN 0 none []),
(428, oT []),
(429, oG []),
(430, oT [uS "self" 777,uS "name" 778,uS "other" 779]),
(431, oT []),
(432, oW [28, 2] "Signatures.look_above" 0 [] uN uN uN uN none uN uN 0 none []),
(433, oF "code" [uS "look_above" 774,uS "Signatures.look_above" 775,uS "/claim/cut.py" 776,uI 280 0,uI 2 0,uI 0 0,uI 0 0,uI 3 0,uR 428,uL true,uI 181 0,uR 429,uN,uR 430,uR 431,uR 432,uI 780 0,uI 280 0,uS "/claim/cut.py" 781]),
(434, oU [28, 2] "Signatures.look_above" 3 [] uN uN uN (uS "relfinder.sigs" 739) none (uR 433) uN 0 none []),
(435, oT []),
(436, oG []),
(437, oT [uS "self" 786,uS "name" 787]),
(438, oT []),
(439, oW [28, 3] "Signatures.direct" 0 [] uN uN uN uN none uN uN 0 none []),
(440, oF "code" [uS "direct" 783,uS "Signatures.direct" 784,uS "/claim/cut.py" 785,uI 287 0,uI 2 0,uI 0 0,uI 0 0,uI 3 0,uR 435,uL true,uI 181 0,uR 436,uN,uR 437,uR 438,uR 439,uI 788 0,uI 287 0,uS "/claim/cut.py" 789]),
(441, oU [28, 3] "Signatures.direct" 3 [] uN uN uN (uS "relfinder.sigs" 739) none (uR 440) uN 0 none []),
(442, oT []),
(443, oG []),
(444, oW [28, 4] "Signatures.parents_first" 0 [] uN uN uN uN none uN uN 0 none []),
(445, oF "code" [uS "parents_first" 791,uS "Signatures.parents_first" 792,uS "/claim/cut.py" 793,uI 290 0,uI 1 0,uI 0 0,uI 0 0,uI 3 0,uR 442,uL true,uI 181 0,uR 443,uN,uN,uN,uR 444,uI 794 0,uI 290 0,uS "/claim/cut.py" 795]),
(446, oU [28, 4] "Signatures.parents_first" 3 [] uN uN uN (uS "relfinder.sigs" 739) none (uR 445) uN 0 none []),
(447, oT []),
(448, oG []),
(449, oT [uS "self" 800,uS "found" 801,uS "group" 802,uS "name" 803,uS "spot" 804,uS "is_disj" 805,uS "fields" 806,uS "mult" 807,uS "node" 808,uS "field" 809]),
(450, oT []),
(451, oW [28, 5] "Signatures.all_fields" 0 [] uN uN uN uN none uN uN 0 none []),
(452, oF "code" [uS "all_fields" 797,uS "Signatures.all_fields" 798,uS "/claim/cut.py" 799,uI 300 0,uI 1 0,uI 0 0,uI 0 0,uI 3 0,uR 447,uL true,uI 181 0,uR 448,uN,uR 449,uR 450,uR 451,uI 810 0,uI 300 0,uS "/claim/cut.py" 811]),
(453, oU [28, 5] "Signatures.all_fields" 3 [] uN uN uN (uS "relfinder.sigs" 739) none (uR 452) uN 0 none []),
(454, oT []),
(455, oG []),
(456, oT [uS "self" 816,uS "seen" 817,uS "field" 818,uS "name" 819,uS "mult" 820,uS "node" 821,uS "spot" 822,uS "group" 823,uS "other" 824]),
(457, oT []),
(458, oW [28, 6] "Signatures.look_fields" 0 [] uN uN uN uN none uN uN 0 none []),
(459, oF "code" [uS "look_fields" 813,uS "Signatures.look_fields" 814,uS "/claim/cut.py" 815,uI 309 0,uI 1 0,uI 0 0,uI 0 0,uI 3 0,uR 454,uL true,uI 181 0,uR 455,uN,uR 456,uR 457,uR 458,uI 825 0,uI 309 0,uS "/claim/cut.py" 826]),
(460, oU [28, 6] "Signatures.look_fields" 3 [] uN uN uN (uS "relfinder.sigs" 739) none (uR 459) uN 0 none []),
(461, oT []),
(462, oG []),
(463, oW [28, 7] "Signatures.take_order" 0 [] uN uN uN uN none uN uN 0 none []),
(464, oF "code" [uS "take_order" 828,uS "Signatures.take_order" 829,uS "/claim/cut.py" 830,uI 319 0,uI 2 0,uI 0 0,uI 0 0,uI 3 0,uR 461,uL true,uI 181 0,uR 462,uN,uN,uN,uR 463,uI 831 0,uI 319 0,uS "/claim/cut.py" 832]),
(465, oU [28, 7] "Signatures.take_order" 3 [] uN uN uN (uS "relfinder.sigs" 739) none (uR 464) uN 0 none []),
(466, oT []),
(467, oG []),
(468, oT [uS "self" 837]),
(469, oT []),
(470, oW [28, 8] "Signatures.names" 0 [] uN uN uN uN none uN uN 0 none []),
(471, oF "code" [uS "names" 834,uS "Signatures.names" 835,uS "/claim/cut.py" 836,uI 330 0,uI 1 0,uI 0 0,uI 0 0,uI 3 0,uR 466,uL true,uI 181 0,uR 467,uN,uR 468,uR 469,uR 470,uI 838 0,uI 330 0,uS "/claim/cut.py" 839]),
(472, oU [28, 8] "Signatures.names" 3 [] uN uN uN (uS "relfinder.sigs" 739) none (uR 471) uN 0 none []),
(473, oT []),
(474, oG []),
(475, oT [uS "self" 844,uS "name" 845]),
(476, oT []),
(477, oW [28, 9] "Signatures.has" 0 [] uN uN uN uN none uN uN 0 none []),
(478, oF "code" [uS "has" 841,uS "Signatures.has" 842,uS "/claim/cut.py" 843,uI 333 0,uI 2 0,uI 0 0,uI 0 0,uI 3 0,uR 473,uL true,uI 181 0,uR 474,uN,uR 475,uR 476,uR 477,uI 846 0,uI 333 0,uS "/claim/cut.py" 847]),
(479, oU [28, 9] "Signatures.has" 3 [] uN uN uN (uS "relfinder.sigs" 739) none (uR 478) uN 0 none []),
(480, oT []),
(481, oG []),
(482, oT [uS "self" 852,uS "name" 853]),
(483, oT []),
(484, oW [28, 10] "Signatures.spot" 0 [] uN uN uN uN none uN uN 0 none []),
(485, oF "code" [uS "spot" 849,uS "Signatures.spot" 850,uS "/claim/cut.py" 851,uI 336 0,uI 2 0,uI 0 0,uI 0 0,uI 3 0,uR 480,uL true,uI 181 0,uR 481,uN,uR 482,uR 483,uR 484,uI 854 0,uI 336 0,uS "/claim/cut.py" 855]),
(486, oU [28, 10] "Signatures.spot" 3 [] uN uN uN (uS "relfinder.sigs" 739) none (uR 485) uN 0 none []),
(487, oT []),
(488, oG []),
(489, oT [uS "self" 860,uS "name" 861]),
(490, oT []),
(491, oW [28, 11] "Signatures.parent" 0 [] uN uN uN uN none uN uN 0 none []),
(492, oF "code" [uS "parent" 857,uS "Signatures.parent" 858,uS "/claim/cut.py" 859,uI 339 0,uI 2 0,uI 0 0,uI 0 0,uI 3 0,uR 487,uL true,uI 181 0,uR 488,uN,uR 489,uR 490,uR 491,uI 862 0,uI 339 0,uS "/claim/cut.py" 863]),
(493, oU [28, 11] "Signatures.parent" 3 [] uN uN uN (uS "relfinder.sigs" 739) none (uR 492) uN 0 none []),
(494, oT []),
(495, oG []),
(496, oT [uS "self" 868,uS "name" 869]),
(497, oT []),
(498, oW [28, 12] "Signatures.supers" 0 [] uN uN uN uN none uN uN 0 none []),
(499, oF "code" [uS "supers" 865,uS "Signatures.supers" 866,uS "/claim/cut.py" 867,uI 342 0,uI 2 0,uI 0 0,uI 0 0,uI 3 0,uR 494,uL true,uI 181 0,uR 495,uN,uR 496,uR 497,uR 498,uI 870 0,uI 342 0,uS "/claim/cut.py" 871]),
(500, oU [28, 12] "Signatures.supers" 3 [] uN uN uN (uS "relfinder.sigs" 739) none (uR 499) uN 0 none []),
(501, oT []),
(502, oG []),
(503, oT [uS "self" 876,uS "name" 877]),
(504, oT []),
(505, oW [28, 13] "Signatures.is_subset" 0 [] uN uN uN uN none uN uN 0 none []),
(506, oF "code" [uS "is_subset" 873,uS "Signatures.is_subset" 874,uS "/claim/cut.py" 875,uI 345 0,uI 2 0,uI 0 0,uI 0 0,uI 3 0,uR 501,uL true,uI 181 0,uR 502,uN,uR 503,uR 504,uR 505,uI 878 0,uI 345 0,uS "/claim/cut.py" 879]),
(507, oU [28, 13] "Signatures.is_subset" 3 [] uN uN uN (uS "relfinder.sigs" 739) none (uR 506) uN 0 none []),
(508, oT []),
(509, oG []),
(510, oW [28, 14] "Signatures.children" 0 [] uN uN uN uN none uN uN 0 none []),
(511, oF "code" [uS "children" 881,uS "Signatures.children" 882,uS "/claim/cut.py" 883,uI 348 0,uI 2 0,uI 0 0,uI 0 0,uI 3 0,uR 508,uL true,uI 181 0,uR 509,uN,uN,uN,uR 510,uI 884 0,uI 348 0,uS "/claim/cut.py" 885]),
(512, oU [28, 14] "Signatures.children" 3 [] uN uN uN (uS "relfinder.sigs" 739) none (uR 511) uN 0 none []),
(513, oT []),
(514, oG []),
(515, oT [uS "self" 890,uS "name" 891,uS "found" 892]),
(516, oT []),
(517, oW [28, 15] "Signatures.above" 0 [] uN uN uN uN none uN uN 0 none []),
(518, oF "code" [uS "above" 887,uS "Signatures.above" 888,uS "/claim/cut.py" 889,uI 351 0,uI 2 0,uI 0 0,uI 0 0,uI 3 0,uR 513,uL true,uI 181 0,uR 514,uN,uR 515,uR 516,uR 517,uI 893 0,uI 351 0,uS "/claim/cut.py" 894]),
(519, oU [28, 15] "Signatures.above" 3 [] uN uN uN (uS "relfinder.sigs" 739) none (uR 518) uN 0 none []),
(520, oT []),
(521, oG []),
(522, oT [uS "self" 899,uS "name" 900]),
(523, oT []),
(524, oW [28, 16] "Signatures.top" 0 [] uN uN uN uN none uN uN 0 none []),
(525, oF "code" [uS "top" 896,uS "Signatures.top" 897,uS "/claim/cut.py" 898,uI 358 0,uI 2 0,uI 0 0,uI 0 0,uI 3 0,uR 520,uL true,uI 181 0,uR 521,uN,uR 522,uR 523,uR 524,uI 901 0,uI 358 0,uS "/claim/cut.py" 902]),
(526, oU [28, 16] "Signatures.top" 3 [] uN uN uN (uS "relfinder.sigs" 739) none (uR 525) uN 0 none []),
(527, oT []),
(528, oG []),
(529, oT [uS "self" 907,uS "name" 908,uS "found" 909,uS "waiting" 910,uS "other" 911]),
(530, oT []),
(531, oW [28, 17] "Signatures.all_above" 0 [] uN uN uN uN none uN uN 0 none []),
(532, oF "code" [uS "all_above" 904,uS "Signatures.all_above" 905,uS "/claim/cut.py" 906,uI 363 0,uI 2 0,uI 0 0,uI 0 0,uI 3 0,uR 527,uL true,uI 181 0,uR 528,uN,uR 529,uR 530,uR 531,uI 912 0,uI 363 0,uS "/claim/cut.py" 913]),
(533, oU [28, 17] "Signatures.all_above" 3 [] uN uN uN (uS "relfinder.sigs" 739) none (uR 532) uN 0 none []),
(534, oT []),
(535, oG []),
(536, oT [uS "self" 918,uS "name" 919]),
(537, oT []),
(538, oW [28, 18] "Signatures.is_abstract" 0 [] uN uN uN uN none uN uN 0 none []),
(539, oF "code" [uS "is_abstract" 915,uS "Signatures.is_abstract" 916,uS "/claim/cut.py" 917,uI 372 0,uI 2 0,uI 0 0,uI 0 0,uI 3 0,uR 534,uL true,uI 181 0,uR 535,uN,uR 536,uR 537,uR 538,uI 920 0,uI 372 0,uS "/claim/cut.py" 921]),
(540, oU [28, 18] "Signatures.is_abstract" 3 [] uN uN uN (uS "relfinder.sigs" 739) none (uR 539) uN 0 none []),
(541, oT []),
(542, oG []),
(543, oT [uS "self" 926,uS "name" 927]),
(544, oT []),
(545, oW [28, 19] "Signatures.mult" 0 [] uN uN uN uN none uN uN 0 none []),
(546, oF "code" [uS "mult" 923,uS "Signatures.mult" 924,uS "/claim/cut.py" 925,uI 375 0,uI 2 0,uI 0 0,uI 0 0,uI 3 0,uR 541,uL true,uI 181 0,uR 542,uN,uR 543,uR 544,uR 545,uI 928 0,uI 375 0,uS "/claim/cut.py" 929]),
(547, oU [28, 19] "Signatures.mult" 3 [] uN uN uN (uS "relfinder.sigs" 739) none (uR 546) uN 0 none []),
(548, oT []),
(549, oG []),
(550, oT [uS "self" 934]),
(551, oT []),
(552, oW [28, 20] "Signatures.fields" 0 [] uN uN uN uN none uN uN 0 none []),
(553, oF "code" [uS "fields" 931,uS "Signatures.fields" 932,uS "/claim/cut.py" 933,uI 378 0,uI 1 0,uI 0 0,uI 0 0,uI 3 0,uR 548,uL true,uI 181 0,uR 549,uN,uR 550,uR 551,uR 552,uI 935 0,uI 378 0,uS "/claim/cut.py" 936]),
(554, oU [28, 20] "Signatures.fields" 3 [] uN uN uN (uS "relfinder.sigs" 739) none (uR 553) uN 0 none []),
(555, oT []),
(556, oG []),
(557, oT [uS "self" 941,uS "name" 942]),
(558, oT []),
(559, oW [28, 21] "Signatures.facts" 0 [] uN uN uN uN none uN uN 0 none []),
(560, oF "code" [uS "facts" 938,uS "Signatures.facts" 939,uS "/claim/cut.py" 940,uI 381 0,uI 2 0,uI 0 0,uI 0 0,uI 3 0,uR 555,uL true,uI 181 0,uR 556,uN,uR 557,uR 558,uR 559,uI 943 0,uI 381 0,uS "/claim/cut.py" 944]),
(561, oU [28, 21] "Signatures.facts" 3 [] uN uN uN (uS "relfinder.sigs" 739) none (uR 560) uN 0 none []),
(562, oT []),
(563, oG []),
(564, oT [uS "self" 949]),
(565, oT []),
(566, oW [28, 22] "Signatures.orders" 0 [] uN uN uN uN none uN uN 0 none []),
(567, oF "code" [uS "orders" 946,uS "Signatures.orders" 947,uS "/claim/cut.py" 948,uI 384 0,uI 1 0,uI 0 0,uI 0 0,uI 3 0,uR 562,uL true,uI 181 0,uR 563,uN,uR 564,uR 565,uR 566,uI 950 0,uI 384 0,uS "/claim/cut.py" 951]),
(568, oU [28, 22] "Signatures.orders" 3 [] uN uN uN (uS "relfinder.sigs" 739) none (uR 567) uN 0 none []),
(569, oT [uS "entries" 953,uS "opened" 954,uS "ordered" 955,uS "own_fields" 956,uS "stands" 957]),
(570, oD P [("__module__",750,uS "relfinder.sigs" 739),("__firstlineno__",754,uI 253 753),("__init__",764,uR 420),("take_sig",773,uR 427),("look_above",782,uR 434),("direct",790,uR 441),("parents_first",796,uR 446),("all_fields",812,uR 453),("look_fields",827,uR 460),("take_order",833,uR 465),("names",840,uR 472),("has",848,uR 479),("spot",856,uR 486),("parent",864,uR 493),("supers",872,uR 500),("is_subset",880,uR 507),("children",886,uR 512),("above",895,uR 519),("top",903,uR 526),("all_above",914,uR 533),("is_abstract",922,uR 540),("mult",930,uR 547),("fields",937,uR 554),("facts",945,uR 561),("orders",952,uR 568),("__static_attributes__",958,uR 569),("__dict__",960,uR 572),("__weakref__",962,uR 573),("__doc__",963,uN)] 4),
(571, oC "type" none "Signatures" [uT "object"] [uR 571,uT "object"] 570 "Signatures" true [] [] false none false [none,none,some (uS "Signatures" 743),some (uS "Signatures" 751),some (uB "object.__new__"),some (uL true)]),
(572, oF "getset_descriptor" [uS "__dict__" 959,uR 571,uB "function.__dict__",uB "function.__dict__#set"]),
(573, oF "getset_descriptor" [uS "__weakref__" 961,uR 571,uB "ExceptionGroup.__weakref__",uN]),
(574, oF "super" [uR 571,uR 571,uR 571]),
(575, oF "builtin_function_or_method" [uB "object.__init_subclass__",uR 571]),
(576, oT []),
(577, oG []),
(578, oT [uS "purse" 971,uS "many" 972,uS "at" 973,uS "size_now" 974]),
(579, oT []),
(580, oW [30] "_law_draw" 0 [] uN uN uN uN none uN uN 0 none []),
(581, oF "code" [uS "_law_draw" 968,uS "_law_draw" 969,uS "/claim/cut.py" 970,uI 387 0,uI 2 0,uI 0 0,uI 0 0,uI 3 0,uR 576,uL true,uI 181 0,uR 577,uN,uR 578,uR 579,uR 580,uI 975 0,uI 387 0,uS "/claim/cut.py" 976]),
(582, oU [30] "_law_draw" 3 [] uN uN uN (uS "law_rr0098_01" 966) none (uR 581) uN 0 none []),
(583, oT []),
(584, oG []),
(585, oW [31] "_law_rows" 0 [] uN uN uN uN none uN uN 0 none []),
(586, oF "code" [uS "_law_rows" 978,uS "_law_rows" 979,uS "/claim/cut.py" 980,uI 393 0,uI 1 0,uI 0 0,uI 0 0,uI 3 0,uR 583,uL true,uI 181 0,uR 584,uN,uN,uN,uR 585,uI 981 0,uI 393 0,uS "/claim/cut.py" 982]),
(587, oU [31] "_law_rows" 3 [] uN uN uN (uS "law_rr0098_01" 966) none (uR 586) uN 0 none []),
(588, oT []),
(589, oG []),
(590, oW [32] "_law_top" 0 [] uN uN uN uN none uN uN 0 none []),
(591, oF "code" [uS "_law_top" 984,uS "_law_top" 985,uS "/claim/cut.py" 986,uI 398 0,uI 2 0,uI 0 0,uI 0 0,uI 3 0,uR 588,uL true,uI 181 0,uR 589,uN,uN,uN,uR 590,uI 987 0,uI 398 0,uS "/claim/cut.py" 988]),
(592, oU [32] "_law_top" 3 [] uN uN uN (uS "law_rr0098_01" 966) none (uR 591) uN 0 none []),
(593, oT []),
(594, oG []),
(595, oT [uS "purse" 993,uS "rows" 994,uS "told" 995,uS "left" 996,uS "turn" 997,uS "name" 998,uS "mult" 999,uS "parent" 1000,uS "is_exact" 1001,uS "number" 1002]),
(596, oT []),
(597, oW [33] "_law_scope" 0 [] uN uN uN uN none uN uN 0 none []),
(598, oF "code" [uS "_law_scope" 990,uS "_law_scope" 991,uS "/claim/cut.py" 992,uI 403 0,uI 2 0,uI 0 0,uI 0 0,uI 3 0,uR 593,uL true,uI 181 0,uR 594,uN,uR 595,uR 596,uR 597,uI 1003 0,uI 403 0,uS "/claim/cut.py" 1004]),
(599, oU [33] "_law_scope" 3 [] uN uN uN (uS "law_rr0098_01" 966) none (uR 598) uN 0 none []),
(600, oT []),
(601, oG []),
(602, oW [34] "_law_sets" 0 [] uN uN uN uN none uN uN 0 none []),
(603, oF "code" [uS "_law_sets" 1006,uS "_law_sets" 1007,uS "/claim/cut.py" 1008,uI 414 0,uI 1 0,uI 0 0,uI 0 0,uI 3 0,uR 600,uL true,uI 181 0,uR 601,uN,uN,uN,uR 602,uI 1009 0,uI 414 0,uS "/claim/cut.py" 1010]),
(604, oU [34] "_law_sets" 3 [] uN uN uN (uS "law_rr0098_01" 966) none (uR 603) uN 0 none []),
(605, oT []),
(606, oG []),
(607, oW [35] "_law_lots" 0 [] uN uN uN uN none uN uN 0 none []),
(608, oF "code" [uS "_law_lots" 1012,uS "_law_lots" 1013,uS "/claim/cut.py" 1014,uI 419 0,uI 3 0,uI 0 0,uI 0 0,uI 3 0,uR 605,uL true,uI 181 0,uR 606,uN,uN,uN,uR 607,uI 1015 0,uI 419 0,uS "/claim/cut.py" 1016]),
(609, oU [35] "_law_lots" 3 [] uN uN uN (uS "law_rr0098_01" 966) none (uR 608) uN 0 none []),
(610, oT []),
(611, oG []),
(612, oW [36] "_law_due" 0 [] uN uN uN uN none uN uN 0 none []),
(613, oF "code" [uS "_law_due" 1018,uS "_law_due" 1019,uS "/claim/cut.py" 1020,uI 432 0,uI 4 0,uI 0 0,uI 0 0,uI 3 0,uR 610,uL true,uI 181 0,uR 611,uN,uN,uN,uR 612,uI 1021 0,uI 432 0,uS "/claim/cut.py" 1022]),
(614, oU [36] "_law_due" 3 [] uN uN uN (uS "law_rr0098_01" 966) none (uR 613) uN 0 none []),
(615, oT []),
(616, oG []),
(617, oW [37] "_law_let" 0 [] uN uN uN uN none uN uN 0 none []),
(618, oF "code" [uS "_law_let" 1024,uS "_law_let" 1025,uS "/claim/cut.py" 1026,uI 442 0,uI 4 0,uI 0 0,uI 0 0,uI 3 0,uR 615,uL true,uI 181 0,uR 616,uN,uN,uN,uR 617,uI 1027 0,uI 442 0,uS "/claim/cut.py" 1028]),
(619, oU [37] "_law_let" 3 [] uN uN uN (uS "law_rr0098_01" 966) none (uR 618) uN 0 none []),
(620, oT []),
(621, oG []),
(622, oW [38] "_law_told" 0 [] uN uN uN uN none uN uN 0 none []),
(623, oF "code" [uS "_law_told" 1030,uS "_law_told" 1031,uS "/claim/cut.py" 1032,uI 454 0,uI 3 0,uI 0 0,uI 0 0,uI 3 0,uR 620,uL true,uI 181 0,uR 621,uN,uN,uN,uR 622,uI 1033 0,uI 454 0,uS "/claim/cut.py" 1034]),
(624, oU [38] "_law_told" 3 [] uN uN uN (uS "law_rr0098_01" 966) none (uR 623) uN 0 none []),
(625, oT []),
(626, oG []),
(627, oW [39] "_law_table" 0 [] uN uN uN uN none uN uN 0 none []),
(628, oF "code" [uS "_law_table" 1036,uS "_law_table" 1037,uS "/claim/cut.py" 1038,uI 458 0,uI 1 0,uI 0 0,uI 0 0,uI 3 0,uR 625,uL true,uI 181 0,uR 626,uN,uN,uN,uR 627,uI 1039 0,uI 458 0,uS "/claim/cut.py" 1040]),
(629, oU [39] "_law_table" 3 [] uN uN uN (uS "law_rr0098_01" 966) none (uR 628) uN 0 none []),
(630, oT []),
(631, oG []),
(632, oW [40] "law" 0 [] uN uN uN uN none uN uN 0 none []),
(633, oF "code" [uS "law" 1042,uS "law" 1043,uS "/claim/cut.py" 1044,uI 462 0,uI 1 0,uI 0 0,uI 0 0,uI 3 0,uR 630,uL true,uI 181 0,uR 631,uN,uN,uN,uR 632,uI 1045 0,uI 462 0,uS "/claim/cut.py" 1046]),
(634, oU [40] "law" 3 [] uN uN uN (uS "law_rr0098_01" 966) none (uR 633) uN 0 none [])]
noncomputable def hd.view_39 : Program := view pw [0, 2, 3, 4, 5, 6, 7, 9, 10, 11, 12, 13, 14, 16, 17, 19, 20, 21, 22, 23, 24, 25, 27, 28, 30, 31, 32, 33, 34, 35, 36, 37, 38, 39, 40]
noncomputable def trOf (P : Params) (n : Nat) (ov : List (Nat × Obj)) : BT := ((hd.heap_39 P).take n ++ ov).foldl (fun t x => t.ins x.1 x.2) .nil
noncomputable def sharT (t : BT) (n k : Nat) (os : OsState) : SharedT := ⟨t, n, {}, ⟨[]⟩, {}, k, os⟩
noncomputable def envE : Env := { scope := pw.main.scope, locals := mainNs, globals := mainNs, cells := [], code := .ref 13, frame := some 14 }
noncomputable def bE : List Stmt := behindTheImports pw
noncomputable def cE : Code := .body bE envE
noncomputable def annE : Option Value := some (.ref 6)
noncomputable def q0 : Pos := ⟨0, 0, 0, 0⟩
noncomputable def S0t (P : Params) : BT := trOf P 15 [(2, oE P [] 0), (3, oD P (("__name__",165,uS "__main__" 164) :: fin3.take 8) 9), (12, oG (fin12.take 0))]
noncomputable def S0 (w : World) (os : OsState) : SharedT := sharT (S0t w.params) 15 187 os
noncomputable def S1t (P : Params) : BT := trOf P 91 [(3, oD P (("__name__",165,uS "relfinder.errors" 194) :: fin3.take 12) 13), (12, oG (fin12.take 12)), (47, oC "type" none "FinderError" [uT "Exception"] [uR 47,uT "Exception",uT "BaseException",uT "object"] 46 "FinderError" true [] [uR 76] false none false [some (uR 22),none,some (uS "FinderError" 196),some (uS "FinderError" 204),some (uB "Exception.__new__"),some (uL true)]), (76, oC "type" none "SpotFault" [uR 47] [uR 76,uR 47,uT "Exception",uT "BaseException",uT "object"] 75 "SpotFault" true [] [uR 88] false none false [some (uR 51),none,some (uS "SpotFault" 234),some (uS "SpotFault" 242),some (uB "Exception.__new__"),some (uL true)])]
noncomputable def S1 (w : World) (os : OsState) : SharedT := sharT (S1t w.params) 91 285 os
noncomputable def S2t (P : Params) : BT := trOf P 156 [(3, oD P (("__name__",165,uS "relfinder.sets" 333) :: fin3.take 21) 22), (12, oG (fin12.take 36))]
noncomputable def S2 (w : World) (os : OsState) : SharedT := sharT (S2t w.params) 156 371 os
noncomputable def S3t (P : Params) : BT := trOf P 289 [(3, oD P (("__name__",165,uS "relfinder.universe" 371) :: fin3.take 23) 24), (12, oG (fin12.take 42))]
noncomputable def S3 (w : World) (os : OsState) : SharedT := sharT (S3t w.params) 289 547 os
noncomputable def S4t (P : Params) : BT := trOf P 376 [(3, oD P (("__name__",165,uS "relfinder.scopes" 547) :: fin3.take 29) 30), (12, oG (fin12.take 48))]
noncomputable def S4 (w : World) (os : OsState) : SharedT := sharT (S4t w.params) 376 696 os
noncomputable def S5t (P : Params) : BT := trOf P 407 [(3, oD P (("__name__",165,uS "relfinder.sigs" 739) :: fin3.take 31) 32), (12, oG (fin12.take 51))]
noncomputable def S5 (w : World) (os : OsState) : SharedT := sharT (S5t w.params) 407 743 os
noncomputable def S6t (P : Params) : BT := trOf P 576 [(3, oD P (("__name__",165,uS "relfinder.sigs" 739) :: fin3.take 32) 33), (12, oG (fin12.take 54))]
noncomputable def S6 (w : World) (os : OsState) : SharedT := sharT (S6t w.params) 576 966 os
noncomputable def S7t (P : Params) : BT := trOf P 635 []
noncomputable def S7 (w : World) (os : OsState) : SharedT := sharT (S7t w.params) 635 1048 os
noncomputable def g1 : List Stmt := (bE.drop 0).take 5
noncomputable def g2 : List Stmt := (bE.drop 5).take 10
noncomputable def g3 : List Stmt := (bE.drop 15).take 3
noncomputable def g4 : List Stmt := (bE.drop 18).take 7
noncomputable def g5 : List Stmt := (bE.drop 25).take 3
noncomputable def g6 : List Stmt := (bE.drop 28).take 1
noncomputable def g7 : List Stmt := (bE.drop 29).take 12
theorem open0 : ∀ w : World, (fencedOpening treeTable pw w 9746).map (fun s => (s.heap, s.gens, s.drawn, s.toks)) = some (boot_heap w.params, Array.mk [], boot_drawn, boot_toks) := boot_open (by kernel_rfl) (by decide) (fun s => by kernel_rfl)
theorem size0 (w : World) : ((boot_heap w.params).isNs mainGlobals && (Array.mk ([] : List GenState)).size == 0, (boot_heap w.params).objs.size, (boot_heap w.params).nsMap mainGlobals "__annotations__") = (true, 11, annE) := by kernel_rfl
theorem pre0 (w : World) : (fun os => topGo treeTable pw w 11 annE 12 ⟨boot_heap w.params, Array.mk [], boot_drawn, boot_toks, os⟩ (topStub pw)) = fun os => some ((S0 w os).abs, (⟨denote treeTable cE, cE, ⟨0, 0, 0, 0⟩, [topFrame q0]⟩ : Thread)) := by
  rw [PySem.W.Fast.te15667345088766844465, PySem.W.Fast.te11892475500146522536, PySem.W.Fast.te14364793385576792824]; kernel_rfl
theorem block0 (w : World) : (fun os => segRun treeTable pw w 11 annE 1 1 (S0 w os).abs (blockOf bE envE cE ⟨0, 0, 0, 0⟩ [topFrame q0])) = fun os => some (Flow.next, (S0 w os).abs, cE, (⟨0, 0, 0, 0⟩ : Pos)) := by
  rw [PySem.W.Fast.te14374325043358763698, PySem.W.Fast.te14364793385576792824]; kernel_rfl
theorem run1 (w : World) : (fun os => segRunT treeTable pw w 11 annE 1 834 (S0 w os) (piecesOf g1 envE cE ⟨0, 0, 0, 0⟩ [topFrame q0])) = fun os => some (Flow.next, S1 w os, cE, (⟨21, 0, 22, 8⟩ : Pos)) := by
  rw [PySem.W.Fast.te10110043849684766642, PySem.W.Fast.te14364793385576792824]; kernel_rfl
theorem run2 (w : World) : (fun os => segRunT treeTable pw w 11 annE 1 810 (S1 w os) (piecesOf g2 envE cE ⟨21, 0, 22, 8⟩ [topFrame q0])) = fun os => some (Flow.next, S2 w os, cE, (⟨40, 0, 43, 57⟩ : Pos)) := by
  rw [PySem.W.Fast.te10110043849684766642, PySem.W.Fast.te14364793385576792824]; kernel_rfl
theorem run3 (w : World) : (fun os => segRunT treeTable pw w 11 annE 1 882 (S2 w os) (piecesOf g3 envE cE ⟨40, 0, 43, 57⟩ [topFrame q0])) = fun os => some (Flow.next, S3 w os, cE, (⟨71, 0, 120, 16⟩ : Pos)) := by
  rw [PySem.W.Fast.te10110043849684766642, PySem.W.Fast.te14364793385576792824]; kernel_rfl
theorem run4 (w : World) : (fun os => segRunT treeTable pw w 11 annE 1 739 (S3 w os) (piecesOf g4 envE cE ⟨71, 0, 120, 16⟩ [topFrame q0])) = fun os => some (Flow.next, S4 w os, cE, (⟨178, 0, 216, 31⟩ : Pos)) := by
  rw [PySem.W.Fast.te10110043849684766642, PySem.W.Fast.te14364793385576792824]; kernel_rfl
theorem run5 (w : World) : (fun os => segRunT treeTable pw w 11 annE 1 299 (S4 w os) (piecesOf g5 envE cE ⟨178, 0, 216, 31⟩ [topFrame q0])) = fun os => some (Flow.next, S5 w os, cE, (⟨252, 0, 252, 8⟩ : Pos)) := by
  rw [PySem.W.Fast.te10110043849684766642, PySem.W.Fast.te14364793385576792824]; kernel_rfl
theorem run6 (w : World) : (fun os => segRunT treeTable pw w 11 annE 1 939 (S5 w os) (piecesOf g6 envE cE ⟨252, 0, 252, 8⟩ [topFrame q0])) = fun os => some (Flow.next, S6 w os, cE, (⟨253, 0, 385, 32⟩ : Pos)) := by
  rw [PySem.W.Fast.te10110043849684766642, PySem.W.Fast.te14364793385576792824]; kernel_rfl
theorem run7 (w : World) : (fun os => segRunT treeTable pw w 11 annE 1 314 (S6 w os) (piecesOf g7 envE cE ⟨253, 0, 385, 32⟩ [topFrame q0])) = fun os => some (Flow.next, S7 w os, cE, (⟨462, 0, 484, 52⟩ : Pos)) := by
  rw [PySem.W.Fast.te10110043849684766642, PySem.W.Fast.te14364793385576792824]; kernel_rfl
theorem fin0 (w : World) : (fun os => topRun treeTable pw w 11 annE 2 (S7 w os).abs (⟨doneF Flow.next, cE, ⟨462, 0, 484, 52⟩, [topFrame q0]⟩ : Thread)) = fun os => some (S7 w os).abs := by
  rw [PySem.W.Fast.te14082659384304107361, PySem.W.Fast.te14364793385576792824]; kernel_rfl
theorem allG : bE = g1 ++ (g2 ++ (g3 ++ (g4 ++ (g5 ++ (g6 ++ (g7 ++ [])))))) := by kernel_rfl
theorem runAll (w : World) (os : OsState) : topRun treeTable pw w 11 annE 4832 ⟨boot_heap w.params, Array.mk [], boot_drawn, boot_toks, os⟩ (topStub pw) = some (S7 w os).abs := by
  have k := congrFun (fin0 w) os
  have k : topRun treeTable pw w 11 annE (314 + 2) (S6 w os).abs (restOf (g7 ++ ([])) envE cE ⟨253, 0, 385, 32⟩ [topFrame q0]) = some (S7 w os).abs := piece_app (segRun_of (congrFun (run7 w) os)) k
  have k : topRun treeTable pw w 11 annE (939 + 316) (S5 w os).abs (restOf (g6 ++ (g7 ++ [])) envE cE ⟨252, 0, 252, 8⟩ [topFrame q0]) = some (S7 w os).abs := piece_app (segRun_of (congrFun (run6 w) os)) k
  have k : topRun treeTable pw w 11 annE (299 + 1255) (S4 w os).abs (restOf (g5 ++ (g6 ++ (g7 ++ []))) envE cE ⟨178, 0, 216, 31⟩ [topFrame q0]) = some (S7 w os).abs := piece_app (segRun_of (congrFun (run5 w) os)) k
  have k : topRun treeTable pw w 11 annE (739 + 1554) (S3 w os).abs (restOf (g4 ++ (g5 ++ (g6 ++ (g7 ++ [])))) envE cE ⟨71, 0, 120, 16⟩ [topFrame q0]) = some (S7 w os).abs := piece_app (segRun_of (congrFun (run4 w) os)) k
  have k : topRun treeTable pw w 11 annE (882 + 2293) (S2 w os).abs (restOf (g3 ++ (g4 ++ (g5 ++ (g6 ++ (g7 ++ []))))) envE cE ⟨40, 0, 43, 57⟩ [topFrame q0]) = some (S7 w os).abs := piece_app (segRun_of (congrFun (run3 w) os)) k
  have k : topRun treeTable pw w 11 annE (810 + 3175) (S1 w os).abs (restOf (g2 ++ (g3 ++ (g4 ++ (g5 ++ (g6 ++ (g7 ++ [])))))) envE cE ⟨21, 0, 22, 8⟩ [topFrame q0]) = some (S7 w os).abs := piece_app (segRun_of (congrFun (run2 w) os)) k
  have k : topRun treeTable pw w 11 annE (834 + 3985) (S0 w os).abs (restOf (g1 ++ (g2 ++ (g3 ++ (g4 ++ (g5 ++ (g6 ++ (g7 ++ []))))))) envE cE ⟨0, 0, 0, 0⟩ [topFrame q0]) = some (S7 w os).abs := piece_app (segRun_of (congrFun (run1 w) os)) k
  rw [← allG] at k
  have k := piece_block (congrFun (block0 w) os) k
  exact go_top (congrFun (pre0 w) os) k
end
end Mine
namespace Mine
noncomputable section
noncomputable def hkH : Hook := kHook hd.heap_39 (List.range 635) (fun P => by kernel_rfl)
noncomputable def finH (P : Params) : Heap := absHeap (S7t P) 635 {}
noncomputable abbrev finS (w : World) (os : OsState) : Shared := ⟨finH w.params, ⟨[]⟩, {}, 1048, os⟩
noncomputable def xtH (s : Shared) : Bool := xlAt hd.view_39 [] s && recOk (RowW.records PySem.Challenge.rw_rr0098_01.row.toRowW) s
theorem look1 (w : World) (os : OsState) : (staticsOk (importedModules pw.main.body) (boot_heap w.params) (finH w.params) && namesBound pw (finH w.params) && gensDone (finS w os) && laidKept (boot_heap w.params) (finH w.params)) = true := by
  rw [PySem.W.Fast.te5923862056798008813]; kernel_rfl
theorem look3 (w : World) (os : OsState) : hkH.obs (finS w os) = hkH.val w := by kernel_rfl
theorem look2 (w : World) (os : OsState) : openSeen hd.view_39 [] (importedModules pw.main.body) xtH true (finS w os) = openGood hd.view_39 [] := by
  rw [PySem.W.Fast.te4187177175401517315, PySem.W.Fast.te5923862056798008813]; kernel_rfl
end
end Mine
namespace Mine
theorem pair3 {α β γ : Type} {a a' : α} {b b' : β} {c c' : γ} (h1 : a = a') (h2 : b = b') (h3 : c = c') : (a, b, c) = (a', b', c') := by rw [h1, h2, h3]
theorem runFin (w : World) (os : OsState) : topRun treeTable pw w 11 annE 4832 ⟨boot_heap w.params, ⟨[]⟩, boot_drawn, boot_toks, os⟩ (topStub pw) = some ⟨finH w.params, ⟨[]⟩, {}, 1048, os⟩ :=
  (runAll w os).trans (by kernel_rfl)
theorem looks0 (w : World) : (fun os => ((staticsOk (importedModules pw.main.body) (boot_heap w.params) (finH w.params) && namesBound pw (finH w.params) && gensDone ⟨finH w.params, ⟨[]⟩, {}, 1048, os⟩ && laidKept (boot_heap w.params) (finH w.params)),
        openSeen hd.view_39 [] (importedModules pw.main.body) xtH true ⟨finH w.params, ⟨[]⟩, {}, 1048, os⟩, hkH.obs ⟨finH w.params, ⟨[]⟩, {}, 1048, os⟩)) = fun _ => (true, openGood hd.view_39 [], hkH.val w) :=
  funext fun os => pair3 (look1 w os) (look2 w os) (look3 w os)
theorem left0 : LeftO pw hd.view_39 [] xtH hkH.obs hkH.val 9746 :=
  @LeftO.of_pieces pw hd.view_39 [] xtH _ hkH.obs hkH.val 9746 true boot_heap finH ⟨[]⟩ ⟨[]⟩ boot_drawn {} boot_toks 1048 11 annE 4832 open0 size0 runFin (by decide) looks0
end Mine
namespace Mine
theorem said0 : PySem.Challenge.rw_rr0098_01.wellSaid = true := by
  rw [PySem.W.Fast.te9446332074065402090]; kernel_rfl
end Mine
namespace Mine
theorem wit0 : PySem.Challenge.rw_rr0098_01.row.toRowW.promised := by w_witness2
theorem ok1 : (chainsOk hd.view_39 && opensWell pw && (frees PySem.Challenge.rw_rr0098_01.row.toRowW && PySem.Challenge.rw_rr0098_01.row.within.isEmpty)) = true := by kernel_rfl
theorem bare0 : pw.bare := ⟨rfl, rfl, rfl, rfl, rfl, by decide +kernel⟩
noncomputable def dH : DefRec := match stmtAt pw.main.body [40] with
  | .FunctionDef n a b _ _ _ sc _ _ p => ⟨n, a, b, sc, p⟩
  | _ => ⟨"", default, [], default, default⟩
theorem def0 : defOf hd.view_39 "law" = some (dH, []) := by kernel_rfl
theorem theDef0 : pw.theDef "law" = some (dH.params, dH.body, dH.scope) := by kernel_rfl
theorem kw0 : kwWritten? dH.params.kwonlyargs dH.params.kw_defaults = some [] := by kernel_rfl
theorem hdO (hc : WalkO hd.view_39 [] (XL hd.view_39 []) hkH.says PySem.Challenge.rw_rr0098_01.row.toRowW dH [] fun f vs => PySem.call f vs) : PySem.Challenge.rw_rr0098_01.Holds :=
  holds_law said0 fun said => holds_open (q := hd.view_39) (loose := []) (Xt := xtH) (XP := XL hd.view_39 []) (Yf := hkH.obs) (Ya := hkH.val) (YP := hkH.says) (N := 9746) left0 (Hook.of hkH) (Hook.keeps hkH) (fun s e => xl_of s (Bool.and_eq_true_iff.mp e).1) XL.keeps
    def0 theDef0 kw0 (fun s e => recFacts_of (Bool.and_eq_true_iff.mp e).2) rfl said ok1 bare0 wit0 hc
end Mine
namespace Mine

inductive PV where
  | none
  | bool (b : Bool)
  | int (i : Int)
  | str (s : Str)
  | cst (v : Value)
  | tup (l : List PV)
  | lst (l : List PV)
  | sd (d : List (Str × PV))
  | td (d : List (List Int × PV))
  | inst (C : Addr) (fs : List (Str × PV))
  | rng (a b : Int)
  | ref (n : Nat)

inductive PO where
  | list (l : List PV)
  | sdict (d : List (Str × PV))
  | inst (C : Addr) (fs : List (Str × PV))

noncomputable abbrev Sto := List PO
noncomputable abbrev Phi := List (Addr × Addr)
noncomputable abbrev Rho := List (Str × PV)

structure Gd where
  prog : Program
  w : World
  K : Frag
  h₀ : Heap
  mg : Str → Option Value
  mb : Str → Option Value

noncomputable abbrev Gd.M (G : Gd) : Model := model G.prog G.w

structure Gd.Ok (G : Gd) : Prop where
  X : G.K.In G.h₀
  g : G.h₀.Ns mainGlobals G.mg
  b : G.h₀.Ns builtinsNs G.mb
  nolimit : G.h₀.NoLimit
  nodigits : ∃ mc, G.h₀.Ns cStatics mc ∧ mc "sys.int_max_str_digits" = Option.none
  boot : ∀ x : Str, x ≠ "__name__" → G.mb x = bootBuiltins x
  sysm : ∃ o, G.h₀.get? sysModules = some o

noncomputable def tupObj (vs : List Value) (n : Nat) : Obj := { cls := .type "tuple", data := .seq vs.toArray n }
noncomputable def lstObj (vs : List Value) (n : Nat) : Obj := { cls := .type "list", data := .seq vs.toArray n }

noncomputable def adr : Phi → List Addr
  | [] => []
  | p :: r => p.1 :: p.2 :: adr r

noncomputable def Frz (φ : Phi) (P : List Addr) (a : Addr) : Prop := a ∉ adr φ ∧ a ∉ P

noncomputable abbrev tkind (G : Gd) := tupleKind (intKind G.prog G.w)

/-- a pair that is related: values, rows of them, dictionaries by text, by a tuple, the entries of an object -/
inductive RT
  | v (p : PV) (w : Value)
  | l (p : List PV) (w : List Value)
  | s (p : List (Str × PV)) (w : List (Str × Value))
  | t (p : List (List Int × PV)) (w : List (List Int × Addr × Value))
  | e (p : List (Str × PV)) (w : List DictEntry)
inductive Rel (G : Gd) (h : Heap) (φ : Phi) (P : List Addr) : RT → Prop
  | none : Rel G h φ P (.v .none .none)
  | bool {b : Bool} : Rel G h φ P (.v (.bool b) (.bool b))
  | int {i : Int} {t : Tok} : Rel G h φ P (.v (.int i) (.int i t))
  | str {s : Str} {t : Tok} : Rel G h φ P (.v (.str s) (.str s t))
  | cst {v : Value} : handedIn v = true → Rel G h φ P (.v (.cst v) v)
  | tup {l : List PV} {a : Addr} {vs : List Value} {n : Nat} : h.get? a = some (tupObj vs n) → Frz φ P a → Rel G h φ P (.l l vs) → Rel G h φ P (.v (.tup l) (.ref a))
  | lst {l : List PV} {a : Addr} {vs : List Value} {n : Nat} : h.get? a = some (lstObj vs n) → Frz φ P a → Rel G h φ P (.l l vs) → Rel G h φ P (.v (.lst l) (.ref a))
  | sd {d : List (Str × PV)} {a : Addr} {kvs : List (Str × Value)} : h.DictOf (strKind G.prog G.w) a kvs → Frz φ P a → (a == sysModules) = false → Rel G h φ P (.s d kvs) → Rel G h φ P (.v (.sd d) (.ref a))
  | td {d : List (List Int × PV)} {a : Addr} {xs : List (List Int × Addr × Value)} : h.DictOfH (tkind G) a xs → Frz φ P a → (a == sysModules) = false → (∀ x ∈ xs, Frz φ P x.2.1) → Rel G h φ P (.t d xs) → Rel G h φ P (.v (.td d) (.ref a))
  | inst {C : Addr} {fs : List (Str × PV)} {a dx : Addr} {es : List DictEntry} {n : Nat} : h.get? a = some (instObj C dx) → h.get? dx = some (dictOf es n) → Frz φ P a → Frz φ P dx → Rel G h φ P (.e fs es) → Rel G h φ P (.v (.inst C fs) (.ref a))
  | rng {a b : Int} {r : Addr} {t u v : Tok} : IsRange h r a b 1 t u v → Frz φ P r → Rel G h φ P (.v (.rng a b) (.ref r))
  | ref {n : Nat} {p : Addr × Addr} : φ[n]? = some p → Rel G h φ P (.v (.ref n) (.ref p.1))
  | ln : Rel G h φ P (.l [] [])
  | lc {p : PV} {v : Value} {ps : List PV} {vs : List Value} : Rel G h φ P (.v p v) → Rel G h φ P (.l ps vs) → Rel G h φ P (.l (p :: ps) (v :: vs))
  | sn : Rel G h φ P (.s [] [])
  | sc {k : Str} {p : PV} {v : Value} {ps : List (Str × PV)} {vs : List (Str × Value)} : Rel G h φ P (.v p v) → Rel G h φ P (.s ps vs) → Rel G h φ P (.s ((k, p) :: ps) ((k, v) :: vs))
  | tn : Rel G h φ P (.t [] [])
  | tc {k : List Int} {p : PV} {a : Addr} {v : Value} {ps : List (List Int × PV)} {vs : List (List Int × Addr × Value)} : Rel G h φ P (.v p v) → Rel G h φ P (.t ps vs) → Rel G h φ P (.t ((k, p) :: ps) ((k, a, v) :: vs))
  | en : Rel G h φ P (.e [] [])
  | ec {k : Str} {p : PV} {t : Tok} {v : Value} {ps : List (Str × PV)} {es : List DictEntry} : Rel G h φ P (.v p v) → Rel G h φ P (.e ps es) → Rel G h φ P (.e ((k, p) :: ps) (⟨PyData.keyHash G.w.params k, .str k t, v⟩ :: es))
noncomputable def VRel (G : Gd) (h : Heap) (φ : Phi) (P : List Addr) (p : PV) (v : Value) : Prop := Rel G h φ P (.v p v)
noncomputable def VRels (G : Gd) (h : Heap) (φ : Phi) (P : List Addr) (p : List PV) (v : List Value) : Prop := Rel G h φ P (.l p v)
noncomputable def VSP (G : Gd) (h : Heap) (φ : Phi) (P : List Addr) (p : List (Str × PV)) (v : List (Str × Value)) : Prop := Rel G h φ P (.s p v)
noncomputable def VTP (G : Gd) (h : Heap) (φ : Phi) (P : List Addr) (p : List (List Int × PV)) (v : List (List Int × Addr × Value)) : Prop := Rel G h φ P (.t p v)
noncomputable def VEnts (G : Gd) (h : Heap) (φ : Phi) (P : List Addr) (p : List (Str × PV)) (v : List DictEntry) : Prop := Rel G h φ P (.e p v)
section
variable {G : Gd} {h : Heap} {φ : Phi} {P : List Addr}
theorem VRel.none : VRel G h φ P .none .none := Rel.none
theorem VRel.bool {b : Bool} : VRel G h φ P (.bool b) (.bool b) := Rel.bool
theorem VRel.int {i : Int} {t : Tok} : VRel G h φ P (.int i) (.int i t) := Rel.int
theorem VRel.str {s : Str} {t : Tok} : VRel G h φ P (.str s) (.str s t) := Rel.str
theorem VRel.cst {v : Value} (q : handedIn v = true) : VRel G h φ P (.cst v) v := Rel.cst q
theorem VRel.tup {l : List PV} {a : Addr} {vs : List Value} {n : Nat} (e : h.get? a = some (tupObj vs n)) (f : Frz φ P a) (r : VRels G h φ P l vs) : VRel G h φ P (.tup l) (.ref a) := Rel.tup e f r
theorem VRel.lst {l : List PV} {a : Addr} {vs : List Value} {n : Nat} (e : h.get? a = some (lstObj vs n)) (f : Frz φ P a) (r : VRels G h φ P l vs) : VRel G h φ P (.lst l) (.ref a) := Rel.lst e f r
theorem VRel.sd {d : List (Str × PV)} {a : Addr} {kvs : List (Str × Value)} (e : h.DictOf (strKind G.prog G.w) a kvs) (f : Frz φ P a) (z : (a == sysModules) = false) (r : VSP G h φ P d kvs) : VRel G h φ P (.sd d) (.ref a) := Rel.sd e f z r
theorem VRel.td {d : List (List Int × PV)} {a : Addr} {xs : List (List Int × Addr × Value)} (e : h.DictOfH (tkind G) a xs) (f : Frz φ P a) (z : (a == sysModules) = false) (g : ∀ x ∈ xs, Frz φ P x.2.1) (r : VTP G h φ P d xs) : VRel G h φ P (.td d) (.ref a) := Rel.td e f z g r
theorem VRel.inst {C : Addr} {fs : List (Str × PV)} {a dx : Addr} {es : List DictEntry} {n : Nat} (e1 : h.get? a = some (instObj C dx)) (e2 : h.get? dx = some (dictOf es n)) (f1 : Frz φ P a) (f2 : Frz φ P dx) (r : VEnts G h φ P fs es) : VRel G h φ P (.inst C fs) (.ref a) := Rel.inst e1 e2 f1 f2 r
theorem VRel.rng {a b : Int} {r : Addr} {t u v : Tok} (e : IsRange h r a b 1 t u v) (f : Frz φ P r) : VRel G h φ P (.rng a b) (.ref r) := Rel.rng e f
theorem VRel.ref {n : Nat} {p : Addr × Addr} (e : φ[n]? = some p) : VRel G h φ P (.ref n) (.ref p.1) := Rel.ref e
theorem VRels.nil : VRels G h φ P [] [] := Rel.ln
theorem VRels.cons {p : PV} {v : Value} {ps : List PV} {vs : List Value} (a : VRel G h φ P p v) (r : VRels G h φ P ps vs) : VRels G h φ P (p :: ps) (v :: vs) := Rel.lc a r
theorem VSP.nil : VSP G h φ P [] [] := Rel.sn
theorem VSP.cons {k : Str} {p : PV} {v : Value} {ps : List (Str × PV)} {vs : List (Str × Value)} (a : VRel G h φ P p v) (r : VSP G h φ P ps vs) : VSP G h φ P ((k, p) :: ps) ((k, v) :: vs) := Rel.sc a r
theorem VTP.nil : VTP G h φ P [] [] := Rel.tn
theorem VTP.cons {k : List Int} {p : PV} {a : Addr} {v : Value} {ps : List (List Int × PV)} {vs : List (List Int × Addr × Value)} (q : VRel G h φ P p v) (r : VTP G h φ P ps vs) : VTP G h φ P ((k, p) :: ps) ((k, a, v) :: vs) := Rel.tc q r
theorem VEnts.nil : VEnts G h φ P [] [] := Rel.en
theorem VEnts.cons {k : Str} {p : PV} {t : Tok} {v : Value} {ps : List (Str × PV)} {es : List DictEntry} (a : VRel G h φ P p v) (r : VEnts G h φ P ps es) : VEnts G h φ P ((k, p) :: ps) (⟨PyData.keyHash G.w.params k, .str k t, v⟩ :: es) := Rel.ec a r
end

structure Ext (h : Heap) (φ : Phi) (P : List Addr) (h' : Heap) (φ' : Phi) (P' : List Addr) : Prop where
  keep : ∀ a o, h.get? a = some o → Frz φ P a → h'.get? a = some o ∧ Frz φ' P' a
  phi : ∀ (n : Nat) p, φ[n]? = some p → φ'[n]? = some p

section
variable {G : Gd} {h h' : Heap} {φ φ' : Phi} {P P' : List Addr}
theorem dictOf_keep {a : Addr} {kvs : List (Str × Value)} (x : h.DictOf (strKind G.prog G.w) a kvs) (k : ∀ o, h.get? a = some o → h'.get? a = some o) : h'.DictOf (strKind G.prog G.w) a kvs :=
  by obtain ⟨o, es, ep, e, r⟩ := x; exact ⟨o, es, ep, k _ e, r⟩
theorem dictOf_some {a : Addr} {kvs : List (Str × Value)} (x : h.DictOf (strKind G.prog G.w) a kvs) : ∃ o, h.get? a = some o ∧ o.cls = .type "dict" := by obtain ⟨o, _, _, x⟩ := x; exact ⟨o, x.1, x.2.1.1⟩
theorem dictOfH_some {a : Addr} {xs : List (List Int × Addr × Value)} (x : h.DictOfH (tkind G) a xs) : ∃ o, h.get? a = some o ∧ o.cls = .type "dict" := by obtain ⟨o, _, _, x⟩ := x; exact ⟨o, x.1, x.2.1.1⟩
theorem dictOfH_key {a : Addr} {xs : List (List Int × Addr × Value)} (x : h.DictOfH (tkind G) a xs) : ∀ y ∈ xs, ∃ o, h.get? y.2.1 = some o := by
  obtain ⟨o, es, ep, e, a1, a2, a3, a4, a5⟩ := x
  intro y hy
  obtain ⟨o', items, n', q1, _⟩ := a4 y hy
  exact ⟨o', q1⟩
theorem dictOfH_keep {a : Addr} {xs : List (List Int × Addr × Value)} (x : h.DictOfH (tkind G) a xs) (k : ∀ o, h.get? a = some o → h'.get? a = some o) (k2 : ∀ y ∈ xs, ∀ o, h.get? y.2.1 = some o → h'.get? y.2.1 = some o) : h'.DictOfH (tkind G) a xs := by
  obtain ⟨o, es, ep, e, a1, a2, a3, a4, a5⟩ := x
  refine ⟨o, es, ep, k _ e, a1, a2, a3, fun y hy => ?_, a5⟩
  obtain ⟨o', items, n', q1, q2, q3, q4⟩ := a4 y hy
  exact ⟨o', items, n', k2 y hy _ q1, q2, q3, q4⟩

theorem Rel.ext (E : Ext h φ P h' φ' P') {x : RT} (r : Rel G h φ P x) : Rel G h' φ' P' x :=
  Rel.rec (motive := fun x _ => Rel G h' φ' P' x) .none .bool .int .str .cst
    (fun e f _ r => .tup (E.keep _ _ e f).1 (E.keep _ _ e f).2 r)
    (fun e f _ r => .lst (E.keep _ _ e f).1 (E.keep _ _ e f).2 r)
    (fun e f z _ r => .sd (dictOf_keep e fun o q => (E.keep _ o q f).1) (Exists.elim (dictOf_some e) fun _ q => (E.keep _ _ q.1 f).2) z r)
    (fun e f z g _ r => .td (dictOfH_keep e (fun o q => (E.keep _ o q f).1) fun y hy o q => (E.keep _ o q (g y hy)).1) (Exists.elim (dictOfH_some e) fun _ q => (E.keep _ _ q.1 f).2) z (fun y hy => Exists.elim (dictOfH_key e y hy) fun _ q => (E.keep _ _ q (g y hy)).2) r)
    (fun e1 e2 f1 f2 _ r => .inst (E.keep _ _ e1 f1).1 (E.keep _ _ e2 f2).1 (E.keep _ _ e1 f1).2 (E.keep _ _ e2 f2).2 r)
    (fun e f => .rng (E.keep _ _ e f).1 (E.keep _ _ e f).2) (fun e => .ref (E.phi _ _ e))
    .ln (fun _ _ => .lc) .sn (fun _ _ => .sc) .tn (fun _ _ => .tc) .en (fun _ _ => .ec) r
theorem VRel.ext (E : Ext h φ P h' φ' P') {p : PV} {v : Value} (r : VRel G h φ P p v) : VRel G h' φ' P' p v := Rel.ext E r
theorem VRels.ext (E : Ext h φ P h' φ' P') {p : List PV} {v : List Value} (r : VRels G h φ P p v) : VRels G h' φ' P' p v := Rel.ext E r
theorem VSP.ext (E : Ext h φ P h' φ' P') {p : List (Str × PV)} {v : List (Str × Value)} (r : VSP G h φ P p v) : VSP G h' φ' P' p v := Rel.ext E r
theorem VEnts.ext (E : Ext h φ P h' φ' P') {p : List (Str × PV)} {v : List DictEntry} (r : VEnts G h φ P p v) : VEnts G h' φ' P' p v := Rel.ext E r
theorem VTP.ext (E : Ext h φ P h' φ' P') {p : List (List Int × PV)} {v : List (List Int × Addr × Value)} (r : VTP G h φ P p v) : VTP G h' φ' P' p v := Rel.ext E r
end

/-- what a related pair looks like, by the first of it -/
noncomputable def VInv (G : Gd) (h : Heap) (φ : Phi) (P : List Addr) (p : PV) (v : Value) : Prop := PV.casesOn p (v = .none) (fun b => v = .bool b)
  (fun i => ∀ C : Prop, (∀ t, v = .int i t → C) → C) (fun x => ∀ C : Prop, (∀ t, v = .str x t → C) → C) (fun w => v = w ∧ handedIn v = true)
  (fun l => ∀ C : Prop, (∀ a vs n, v = .ref a → h.get? a = some (tupObj vs n) → Frz φ P a → VRels G h φ P l vs → C) → C)
  (fun l => ∀ C : Prop, (∀ a vs n, v = .ref a → h.get? a = some (lstObj vs n) → Frz φ P a → VRels G h φ P l vs → C) → C)
  (fun d => ∀ C : Prop, (∀ a kvs, v = .ref a → h.DictOf (strKind G.prog G.w) a kvs → Frz φ P a → (a == sysModules) = false → VSP G h φ P d kvs → C) → C)
  (fun d => ∀ C : Prop, (∀ a xs, v = .ref a → h.DictOfH (tkind G) a xs → Frz φ P a → (a == sysModules) = false → (∀ x ∈ xs, Frz φ P x.2.1) → VTP G h φ P d xs → C) → C)
  (fun c fs => ∀ C : Prop, (∀ a dx es n, v = .ref a → h.get? a = some (instObj c dx) → h.get? dx = some (dictOf es n) → Frz φ P a → Frz φ P dx → VEnts G h φ P fs es → C) → C)
  (fun a b => ∀ C : Prop, (∀ x t u w, v = .ref x → IsRange h x a b 1 t u w → Frz φ P x → C) → C)
  (fun n => ∀ C : Prop, (∀ p, v = .ref p.1 → φ[n]? = some p → C) → C)
noncomputable def RInv (G : Gd) (h : Heap) (φ : Phi) (P : List Addr) (x : RT) : Prop := RT.casesOn x (VInv G h φ P)
  (fun l w => List.casesOn l (w = []) fun p ps => ∀ C : Prop, (∀ v vs, w = v :: vs → VRel G h φ P p v → VRels G h φ P ps vs → C) → C)
  (fun l w => List.casesOn l (w = []) fun p ps => ∀ C : Prop, (∀ v vs, w = (p.1, v) :: vs → VRel G h φ P p.2 v → VSP G h φ P ps vs → C) → C)
  (fun l w => List.casesOn l (w = []) fun p ps => ∀ C : Prop, (∀ a v vs, w = (p.1, a, v) :: vs → VRel G h φ P p.2 v → VTP G h φ P ps vs → C) → C)
  (fun l w => List.casesOn l (w = []) fun p ps => ∀ C : Prop, (∀ t v es, w = ⟨PyData.keyHash G.w.params p.1, .str p.1 t, v⟩ :: es → VRel G h φ P p.2 v → VEnts G h φ P ps es → C) → C)
section
variable {G : Gd} {h : Heap} {φ : Phi} {P : List Addr} {C : Prop} {v : Value}
theorem Rel.inv {x : RT} (r : Rel G h φ P x) : RInv G h φ P x :=
  Rel.rec (motive := fun x _ => RInv G h φ P x) rfl rfl (fun _ k => k _ rfl) (fun _ k => k _ rfl) (fun q => ⟨rfl, q⟩) (fun e f r _ _ k => k _ _ _ rfl e f r) (fun e f r _ _ k => k _ _ _ rfl e f r)
    (fun e f z r _ _ k => k _ _ rfl e f z r) (fun e f z g r _ _ k => k _ _ rfl e f z g r) (fun e1 e2 f1 f2 r _ _ k => k _ _ _ _ rfl e1 e2 f1 f2 r) (fun e f _ k => k _ _ _ _ rfl e f) (fun e _ k => k _ rfl e)
    rfl (fun a r _ _ _ k => k _ _ rfl a r) rfl (fun a r _ _ _ k => k _ _ rfl a r) rfl (fun a r _ _ _ k => k _ _ _ rfl a r) rfl (fun a r _ _ _ k => k _ _ _ rfl a r) r
theorem VRel.noneE (r : VRel G h φ P .none v) (k : v = .none → C) : C := k (Rel.inv r)
theorem VRel.boolE {b : Bool} (r : VRel G h φ P (.bool b) v) (k : v = .bool b → C) : C := k (Rel.inv r)
theorem VRel.intE {i : Int} (r : VRel G h φ P (.int i) v) (k : ∀ t, v = .int i t → C) : C := Rel.inv r C k
theorem VRel.strE {x : Str} (r : VRel G h φ P (.str x) v) (k : ∀ t, v = .str x t → C) : C := Rel.inv r C k
theorem VRel.cstE {w : Value} (r : VRel G h φ P (.cst w) v) (k : v = w → handedIn v = true → C) : C := And.elim k (Rel.inv r)
theorem VRel.tupE {l : List PV} (r : VRel G h φ P (.tup l) v) (k : ∀ a vs n, v = .ref a → h.get? a = some (tupObj vs n) → Frz φ P a → VRels G h φ P l vs → C) : C := Rel.inv r C k
theorem VRel.lstE {l : List PV} (r : VRel G h φ P (.lst l) v) (k : ∀ a vs n, v = .ref a → h.get? a = some (lstObj vs n) → Frz φ P a → VRels G h φ P l vs → C) : C := Rel.inv r C k
theorem VRel.sdE {d : List (Str × PV)} (r : VRel G h φ P (.sd d) v) (k : ∀ a kvs, v = .ref a → h.DictOf (strKind G.prog G.w) a kvs → Frz φ P a → (a == sysModules) = false → VSP G h φ P d kvs → C) : C := Rel.inv r C k
theorem VRel.tdE {d : List (List Int × PV)} (r : VRel G h φ P (.td d) v) (k : ∀ a xs, v = .ref a → h.DictOfH (tkind G) a xs → Frz φ P a → (a == sysModules) = false → (∀ x ∈ xs, Frz φ P x.2.1) → VTP G h φ P d xs → C) : C := Rel.inv r C k
theorem VRel.instE {c : Addr} {fs : List (Str × PV)} (r : VRel G h φ P (.inst c fs) v) (k : ∀ a dx es n, v = .ref a → h.get? a = some (instObj c dx) → h.get? dx = some (dictOf es n) → Frz φ P a → Frz φ P dx → VEnts G h φ P fs es → C) : C := Rel.inv r C k
theorem VRel.rngE {a b : Int} (r : VRel G h φ P (.rng a b) v) (k : ∀ x t u w, v = .ref x → IsRange h x a b 1 t u w → Frz φ P x → C) : C := Rel.inv r C k
theorem VRel.refE {n : Nat} (r : VRel G h φ P (.ref n) v) (k : ∀ p, v = .ref p.1 → φ[n]? = some p → C) : C := Rel.inv r C k
theorem VRels.consE {p : PV} {ps : List PV} {w : List Value} (r : VRels G h φ P (p :: ps) w) (k : ∀ v vs, w = v :: vs → VRel G h φ P p v → VRels G h φ P ps vs → C) : C := Rel.inv r C k
theorem VRels.nilE {w : List Value} (r : VRels G h φ P [] w) (k : w = [] → C) : C := k (Rel.inv r)
theorem VRels.oneE {p : PV} {w : List Value} (r : VRels G h φ P [p] w) (k : ∀ v, w = [v] → VRel G h φ P p v → C) : C := r.consE fun v _ e a t => t.nilE fun e' => k v (by rw [e, e']) a
theorem VRels.twoE {p q : PV} {w : List Value} (r : VRels G h φ P [p, q] w) (k : ∀ v v', w = [v, v'] → VRel G h φ P p v → VRel G h φ P q v' → C) : C :=
  r.consE fun v _ e a t => t.consE fun v' _ e' b t => t.nilE fun e'' => k v v' (by rw [e, e', e'']) a b
theorem VSP.consE {p : Str × PV} {ps : List (Str × PV)} {w : List (Str × Value)} (r : VSP G h φ P (p :: ps) w) (k : ∀ v vs, w = (p.1, v) :: vs → VRel G h φ P p.2 v → VSP G h φ P ps vs → C) : C := Rel.inv r C k
theorem VSP.nilE {w : List (Str × Value)} (r : VSP G h φ P [] w) (k : w = [] → C) : C := k (Rel.inv r)
theorem VTP.consE {p : List Int × PV} {ps : List (List Int × PV)} {w : List (List Int × Addr × Value)} (r : VTP G h φ P (p :: ps) w) (k : ∀ a v vs, w = (p.1, a, v) :: vs → VRel G h φ P p.2 v → VTP G h φ P ps vs → C) : C := Rel.inv r C k
theorem VTP.nilE {w : List (List Int × Addr × Value)} (r : VTP G h φ P [] w) (k : w = [] → C) : C := k (Rel.inv r)
theorem VEnts.consE {p : Str × PV} {ps : List (Str × PV)} {w : List DictEntry} (r : VEnts G h φ P (p :: ps) w) (k : ∀ t v es, w = ⟨PyData.keyHash G.w.params p.1, .str p.1 t, v⟩ :: es → VRel G h φ P p.2 v → VEnts G h φ P ps es → C) : C := Rel.inv r C k
theorem VEnts.nilE {w : List DictEntry} (r : VEnts G h φ P [] w) (k : w = [] → C) : C := k (Rel.inv r)
end

noncomputable def ORel (G : Gd) (h : Heap) (φ : Phi) (P : List Addr) : PO → Addr × Addr → Prop
  | .list l, p => ∃ vs n, h.get? p.1 = some (lstObj vs n) ∧ VRels G h φ P l vs ∧ p.2 = p.1
  | .sdict d, p => ∃ kvs, h.DictOf (strKind G.prog G.w) p.1 kvs ∧ VSP G h φ P d kvs ∧ p.2 = p.1
  | .inst C fs, p => ∃ es n, h.get? p.1 = some (instObj C p.2) ∧ h.get? p.2 = some (dictOf es n) ∧ VEnts G h φ P fs es

structure Gr (s : Shared) (φ : Phi) (F : List Addr) (s' : Shared) (φ' : Phi) : Prop where
  pre : ∃ ψ, φ' = φ ++ ψ ∧ ∀ a ∈ adr ψ, s.heap.get? a = Option.none
  keep : ∀ b o, s.heap.get? b = some o → b ∉ adr φ → b ∉ F → s'.heap.get? b = some o
  alive : ∀ b o, s.heap.get? b = some o → ∃ o', s'.heap.get? b = some o'
  gens : s'.gens = s.gens
  drawn : s'.drawn = s.drawn
  os : s'.os = s.os

theorem adr_append (a b : Phi) : adr (a ++ b) = adr a ++ adr b := by
  induction a with
  | nil => rfl
  | cons p r ih => simp [adr, ih]
theorem mem_adr1 {φ : Phi} {p} (h : p ∈ φ) : p.1 ∈ adr φ := by
  induction φ with
  | nil => cases h
  | cons q r ih => rcases List.mem_cons.mp h with rfl | h <;> simp [adr]; right; right; exact ih h
theorem mem_adr2 {φ : Phi} {p} (h : p ∈ φ) : p.2 ∈ adr φ := by
  induction φ with
  | nil => cases h
  | cons q r ih => rcases List.mem_cons.mp h with rfl | h <;> simp [adr]; right; right; exact ih h
theorem of_mem_adr {φ : Phi} {a : Addr} (h : a ∈ adr φ) : ∃ p ∈ φ, a = p.1 ∨ a = p.2 := by
  induction φ with
  | nil => cases h
  | cons q r ih =>
    simp only [adr, List.mem_cons] at h
    rcases h with h | h | h
    · exact ⟨q, by simp, .inl h⟩
    · exact ⟨q, by simp, .inr h⟩
    · obtain ⟨p, hp, e⟩ := ih h; exact ⟨p, by simp [hp], e⟩
theorem phi_mem {φ : Phi} {n : Nat} {p} (e : φ[n]? = some p) : p ∈ φ := List.mem_of_getElem? e
theorem phi_mono {φ ψ : Phi} {n : Nat} {p} (e : φ[n]? = some p) : (φ ++ ψ)[n]? = some p := by
  have := (List.getElem?_eq_some_iff.mp e).1
  rw [List.getElem?_append_left this]; exact e

theorem Gr.refl (s : Shared) (φ : Phi) (F : List Addr) : Gr s φ F s φ :=
  ⟨⟨[], by simp, by simp [adr]⟩, fun _ _ e _ _ => e, fun _ o e => ⟨o, e⟩, rfl, rfl, rfl⟩
theorem Gr.trans {s s' s'' : Shared} {φ φ' φ'' : Phi} {F : List Addr} (a : Gr s φ F s' φ') (b : Gr s' φ' F s'' φ'') : Gr s φ F s'' φ'' := by
  obtain ⟨ψ, rfl, hψ⟩ := a.pre
  obtain ⟨ψ', rfl, hψ'⟩ := b.pre
  refine ⟨⟨ψ ++ ψ', by simp, fun c hc => ?_⟩, fun c o e hc hF => ?_, fun c o e => let ⟨o', e'⟩ := a.alive c o e; b.alive c o' e', b.gens.trans a.gens, b.drawn.trans a.drawn, b.os.trans a.os⟩
  · rw [adr_append] at hc
    rcases List.mem_append.mp hc with hc | hc
    · exact hψ c hc
    · cases q : s.heap.get? c with
      | none => rfl
      | some o => obtain ⟨o', e'⟩ := a.alive c o q; rw [hψ' c hc] at e'; cases e'
  · refine b.keep c o (a.keep c o e hc hF) ?_ hF
    rw [adr_append]
    intro q
    rcases List.mem_append.mp q with q | q
    · exact hc q
    · rw [hψ c q] at e; cases e
theorem Gr.weaken {s s' : Shared} {φ φ' : Phi} {F F' : List Addr} (a : Gr s φ F s' φ') (h : ∀ x ∈ F, x ∈ F') : Gr s φ F' s' φ' :=
  ⟨a.pre, fun b o e h1 h2 => a.keep b o e h1 fun q => h2 (h _ q), a.alive, a.gens, a.drawn, a.os⟩

/-- what a step leaves alone, frozen values stay -/
theorem Gr.ext {s s' : Shared} {φ φ' : Phi} {F P : List Addr} (g : Gr s φ F s' φ') (hF : ∀ a ∈ F, a ∈ P) : Ext s.heap φ P s'.heap φ' P := by
  obtain ⟨ψ, rfl, hψ⟩ := g.pre
  refine ⟨fun a o e f => ⟨g.keep a o e f.1 fun q => f.2 (hF a q), ?_, f.2⟩, fun n p e => phi_mono e⟩
  rw [adr_append]
  intro q
  rcases List.mem_append.mp q with q | q
  · exact f.1 q
  · rw [hψ a q] at e; cases e

structure Inv (G : Gd) (s : Shared) (φ : Phi) (P : List Addr) (σ : Sto) : Prop where
  base : ∀ b o, G.h₀.get? b = some o → s.heap.get? b = some o
  apart : ∀ a, a ∈ adr φ ∨ a ∈ P → G.h₀.get? a = Option.none
  disj : ∀ a, a ∈ adr φ → a ∉ P
  plow : ∀ a ∈ P, ∃ o, s.heap.get? a = some o
  len : φ.length = σ.length
  obj : ∀ (n : Nat) p o, φ[n]? = some p → σ[n]? = some o → ORel G s.heap φ P o p
  inj : ∀ (m n : Nat) p q, m ≠ n → φ[m]? = some p → φ[n]? = some q → p.1 ≠ q.1 ∧ p.1 ≠ q.2 ∧ p.2 ≠ q.1 ∧ p.2 ≠ q.2

section
variable {G : Gd} {s : Shared} {φ : Phi} {P : List Addr} {σ : Sto}
theorem Inv.lstE (I : Inv G s φ P σ) {n : Nat} {p : Addr × Addr} {l : List PV} {C : Prop} (e : φ[n]? = some p) (h : σ[n]? = some (.list l)) (k : ∀ vs m, s.heap.get? p.1 = some (lstObj vs m) → VRels G s.heap φ P l vs → p.2 = p.1 → C) : C :=
  Exists.elim (I.obj n p _ e h) fun vs h => Exists.elim h fun m h => k vs m h.1 h.2.1 h.2.2
theorem Inv.dctE (I : Inv G s φ P σ) {n : Nat} {p : Addr × Addr} {d : List (Str × PV)} {C : Prop} (e : φ[n]? = some p) (h : σ[n]? = some (.sdict d)) (k : ∀ kvs, s.heap.DictOf (strKind G.prog G.w) p.1 kvs → VSP G s.heap φ P d kvs → p.2 = p.1 → C) : C :=
  Exists.elim (I.obj n p _ e h) fun kvs h => k kvs h.1 h.2.1 h.2.2
theorem Inv.insE (I : Inv G s φ P σ) {n : Nat} {p : Addr × Addr} {c : Addr} {d : List (Str × PV)} {C : Prop} (e : φ[n]? = some p) (h : σ[n]? = some (.inst c d)) (k : ∀ es m, s.heap.get? p.1 = some (instObj c p.2) → s.heap.get? p.2 = some (dictOf es m) → VEnts G s.heap φ P d es → C) : C :=
  Exists.elim (I.obj n p _ e h) fun es h => Exists.elim h fun m h => k es m h.1 h.2.1 h.2.2
theorem Inv.objAt (I : Inv G s φ P σ) {n : Nat} {o : PO} (h : σ[n]? = some o) : ∃ p, φ[n]? = some p ∧ ORel G s.heap φ P o p := by
  have hn : n < φ.length := by rw [I.len]; exact (List.getElem?_eq_some_iff.mp h).1
  exact ⟨φ[n], List.getElem?_eq_getElem hn, I.obj n _ o (List.getElem?_eq_getElem hn) h⟩

theorem ORel.two {h : Heap} {o : PO} {p : Addr × Addr} (r : ORel G h φ P o p) : ∃ o1 o2, h.get? p.1 = some o1 ∧ h.get? p.2 = some o2 := by
  cases o with
  | list l => obtain ⟨vs, n, e, _, e2⟩ := r; rw [e2]; exact ⟨_, _, e, e⟩
  | sdict d => obtain ⟨kvs, x, _, e2⟩ := r; obtain ⟨o, e, _⟩ := dictOf_some x; rw [e2]; exact ⟨_, _, e, e⟩
  | inst C fs => obtain ⟨es, n, e1, e2, _⟩ := r; exact ⟨_, _, e1, e2⟩
theorem Inv.alive (I : Inv G s φ P σ) {a : Addr} (h : a ∈ adr φ) : ∃ o, s.heap.get? a = some o := by
  obtain ⟨p, hp, e⟩ := of_mem_adr h
  obtain ⟨n, hn, e'⟩ := List.getElem_of_mem hp
  have e1 : φ[n]? = some p := by rw [List.getElem?_eq_getElem hn, e']
  have hn' : n < σ.length := I.len ▸ hn
  obtain ⟨o1, o2, h1, h2⟩ := (I.obj n p _ e1 (List.getElem?_eq_getElem hn')).two
  rcases e with rfl | rfl
  · exact ⟨o1, h1⟩
  · exact ⟨o2, h2⟩
theorem Inv.low (I : Inv G s φ P σ) {a : Addr} (h : a ∈ adr φ ∨ a ∈ P) : ∃ o, s.heap.get? a = some o := h.elim I.alive (I.plow a)
theorem Inv.fresh (I : Inv G s φ P σ) {a : Addr} (h : s.heap.get? a = Option.none) : Frz φ P a :=
  ⟨fun q => let ⟨o, e⟩ := I.low (.inl q); (by rw [h] at e; cases e), fun q => let ⟨o, e⟩ := I.low (.inr q); (by rw [h] at e; cases e)⟩
theorem Inv.X (ok : G.Ok) (I : Inv G s φ P σ) : G.K.In s.heap := ok.X.keeps I.base

theorem ORel.ext {h h' : Heap} {φ' : Phi} {P' : List Addr} {o : PO} {p : Addr × Addr} (E : Ext h φ P h' φ' P') (r : ORel G h φ P o p) (e1 : ∀ o, h.get? p.1 = some o → h'.get? p.1 = some o) (e2 : ∀ o, h.get? p.2 = some o → h'.get? p.2 = some o) : ORel G h' φ' P' o p := by
  cases o with
  | list l => obtain ⟨vs, n, e, e3, e4⟩ := r; exact ⟨vs, n, e1 _ e, e3.ext E, e4⟩
  | sdict d => obtain ⟨kvs, x, e3, e4⟩ := r; exact ⟨kvs, dictOf_keep x e1, e3.ext E, e4⟩
  | inst C fs => obtain ⟨es, n, q1, q2, q3⟩ := r; exact ⟨es, n, e1 _ q1, e2 _ q2, q3.ext E⟩
end

/-- room for k more levels -/
noncomputable def Room (A : Around) (k : Nat) : Prop := A.handled = Option.none ∧ A.depth + 6 * k < 900 ∧ A.units + 30 * k < 5000
theorem Room.less {A : Around} {k j : Nat} (r : Room A k) (h : j ≤ k) : Room A j := ⟨r.1, by have := r.2.1; lia, by have := r.2.2; lia⟩

section
variable {α β : Type}
noncomputable def Sp (G : Gd) (k : Nat) (F : List Addr) (s : Shared) (φ : Phi) (t : Sem α) (Q : α → Shared → Phi → Prop) : Prop :=
  ∀ (A : Around), Room A k → ∀ (R : α → Shared → Prop) (E : Value → Shared → Prop), (∀ a s' φ', Gr s φ F s' φ' → Q a s' φ' → R a s') → wpAny G.M A t R E s

variable {G : Gd} {k : Nat} {F : List Addr} {s : Shared} {φ : Phi}
theorem Sp.bind {t : Sem α} {f : α → Sem β} {Q : β → Shared → Phi → Prop} {Q₁ : α → Shared → Phi → Prop}
    (h : Sp G k F s φ t Q₁) (h2 : ∀ a s' φ', Gr s φ F s' φ' → Q₁ a s' φ' → Sp G k F s' φ' (f a) Q) : Sp G k F s φ (t >>= f) Q :=
  fun A r R E hR => wpAny_bind (h A r _ E fun a s' φ' g p => h2 a s' φ' g p A r R E fun b s'' φ'' g' p' => hR b s'' φ'' (g.trans g') p')
theorem Sp.pure {a : α} {Q : α → Shared → Phi → Prop} (h : Q a s φ) : Sp G k F s φ (pure a) Q :=
  fun _ _ _ _ hR => wpAny_pure (hR a s φ (Gr.refl ..) h)
theorem Sp.mono {t : Sem α} {Q Q' : α → Shared → Phi → Prop} (h : Sp G k F s φ t Q) (hp : ∀ a s' φ', Gr s φ F s' φ' → Q a s' φ' → Q' a s' φ') : Sp G k F s φ t Q' :=
  fun A r R E hR => h A r R E fun a s' φ' g p => hR a s' φ' g (hp a s' φ' g p)
theorem Sp.more {F' : List Addr} {t : Sem α} {Q : α → Shared → Phi → Prop} (h : Sp G k F s φ t Q) (hF : ∀ x ∈ F, x ∈ F') : Sp G k F' s φ t Q :=
  fun A r R E hR => h A r R E fun a s' φ' g p => hR a s' φ' (g.weaken hF) p
theorem Sp.hold {vs : List Value} {t : Sem α} {Q : α → Shared → Phi → Prop} (h : Sp G k F s φ t Q) : Sp G k F s φ (holding vs t) Q :=
  fun A r R E hR => wpAny_holding (h A r R E hR)
theorem Sp.stand {p : Pos} {f : Unit → Sem β} {Q : β → Shared → Phi → Prop} (h : Sp G k F s φ (f ()) Q) : Sp G k F s φ (standAt p >>= f) Q :=
  fun A r R E hR => wpAny_bind (wpAny_standAt (h A r R E hR))
/-- a rule of the library with one road -/
theorem Sp.of {t : Sem α} {Q : α → Shared → Phi → Prop} (h : ∀ A, Room A k → ∀ (R : α → Shared → Prop) (E : Value → Shared → Prop), (∀ a s' φ', Gr s φ F s' φ' → Q a s' φ' → R a s') → wpAny G.M A t R E s) : Sp G k F s φ t Q := h
end

/-! ### small changes of the state -/
noncomputable abbrev hs (s : Shared) (h : Heap) (t : Nat) : Shared := { s with heap := h, toks := t }

section
variable {G : Gd} {s : Shared} {φ : Phi} {P : List Addr} {σ : Sto} {F : List Addr}
theorem Inv.tok (I : Inv G s φ P σ) (t : Nat) : Inv G (hs s s.heap t) φ P σ := ⟨I.base, I.apart, I.disj, I.plow, I.len, I.obj, I.inj⟩
theorem Gr.tok (t : Nat) : Gr s φ F (hs s s.heap t) φ := ⟨⟨[], by simp, by simp [adr]⟩, fun _ _ e _ _ => e, fun _ o e => ⟨o, e⟩, rfl, rfl, rfl⟩

theorem get_size (h : Heap) : h.get? h.objs.size = Option.none := by
  cases q : h.get? h.objs.size with
  | none => rfl
  | some o => exact absurd (Heap.lt_size q) (Nat.lt_irrefl _)
theorem get_over {h : Heap} {a : Addr} (l : h.objs.size ≤ a) : h.get? a = Option.none := by
  cases q : h.get? a with
  | none => rfl
  | some o => exact absurd (Heap.lt_size q) (Nat.not_lt.mpr l)

/-- all stays, some new addresses are kept from the values -/
theorem Ext.of_keepP {h h' : Heap} {N : List Addr} (k : ∀ b o, h.get? b = some o → h'.get? b = some o) (hN : ∀ a ∈ N, h.get? a = Option.none) : Ext h φ P h' φ (N ++ P) :=
  ⟨fun a o e f => ⟨k a o e, f.1, fun q => by
    rcases List.mem_append.mp q with q | q
    · rw [hN a q] at e; cases e
    · exact f.2 q⟩, fun _ _ e => e⟩
theorem Inv.keepAllP (I : Inv G s φ P σ) {h' : Heap} {t : Nat} {N : List Addr} (k : ∀ b o, s.heap.get? b = some o → h'.get? b = some o) (hN : ∀ a ∈ N, s.heap.get? a = Option.none) (hA : ∀ a ∈ N, ∃ o, h'.get? a = some o) : Inv G (hs s h' t) φ (N ++ P) σ where
  base := fun b o e => k b o (I.base b o e)
  apart := fun a ha => by
    rcases ha with ha | ha
    · exact I.apart a (.inl ha)
    · rcases List.mem_append.mp ha with ha | ha
      · cases q : G.h₀.get? a with
        | none => rfl
        | some o => have := I.base _ _ q; rw [hN a ha] at this; cases this
      · exact I.apart a (.inr ha)
  disj := fun a ha q => by
    rcases List.mem_append.mp q with q | q
    · exact (I.fresh (hN a q)).1 ha
    · exact I.disj a ha q
  plow := fun a q => by
    rcases List.mem_append.mp q with q | q
    · exact hA a q
    · obtain ⟨o, e⟩ := I.plow a q; exact ⟨o, k _ _ e⟩
  len := I.len
  inj := I.inj
  obj := fun n p o e1 e2 => ORel.ext (Ext.of_keepP k hN) (I.obj n p o e1 e2) (k _) (k _)
theorem Inv.keepAll (I : Inv G s φ P σ) {h' : Heap} {t : Nat} (k : ∀ b o, s.heap.get? b = some o → h'.get? b = some o) : Inv G (hs s h' t) φ P σ :=
  I.keepAllP (N := []) k (fun _ h => nomatch h) fun _ h => nomatch h
theorem Gr.keepAll {h' : Heap} {t : Nat} (k : ∀ b o, s.heap.get? b = some o → h'.get? b = some o) : Gr s φ F (hs s h' t) φ :=
  ⟨⟨[], by simp, by simp [adr]⟩, fun b o e _ _ => k b o e, fun b o e => ⟨o, k b o e⟩, rfl, rfl, rfl⟩
theorem keep_push (h : Heap) (o : Obj) : ∀ b x, h.get? b = some x → (h.push o).get? b = some x := fun _ _ e => Heap.get?_push_of_some o e

/-- fewer addresses are kept from the values -/
theorem Ext.shrink {h : Heap} {P' : List Addr} (hP : ∀ a ∈ P, a ∈ P') : Ext h φ P' h φ P := ⟨fun a o e f => ⟨e, f.1, fun q => f.2 (hP a q)⟩, fun _ _ e => e⟩
theorem Inv.shrink {P' : List Addr} (I : Inv G s φ P' σ) (hP : ∀ a ∈ P, a ∈ P') : Inv G s φ P σ where
  base := I.base
  apart := fun a h => I.apart a (h.imp id (hP a))
  disj := fun a h q => I.disj a h (hP a q)
  plow := fun a h => I.plow a (hP a h)
  len := I.len
  inj := I.inj
  obj := fun n p o e1 e2 => ORel.ext (Ext.shrink hP) (I.obj n p o e1 e2) (fun _ e => e) fun _ e => e

/-- one address changes that is none of the store's but a frame's -/
theorem Inv.other (I : Inv G s φ P σ) {h' : Heap} {t : Nat} {L : Addr} (hs' : Heap.SameBut L s.heap h') (hL : L ∈ P) (ha : ∃ o, h'.get? L = some o) : Inv G (hs s h' t) φ P σ := by
  have nb : ∀ b o, G.h₀.get? b = some o → b ≠ L := by rintro b o e rfl; rw [I.apart _ (.inr hL)] at e; cases e
  have na : ∀ b, b ∈ adr φ → b ≠ L := fun b q z => I.disj b q (z ▸ hL)
  refine ⟨fun b o e => (hs'.2 b (nb b o e)).trans (I.base b o e), I.apart, I.disj, fun a h => ?_, I.len, fun n p o e1 e2 => ?_, I.inj⟩
  · by_cases q : a = L
    · rw [q]; exact ha
    · obtain ⟨o, e⟩ := I.plow a h; exact ⟨o, (hs'.2 a q).trans e⟩
  · refine ORel.ext ⟨fun a o e f => ⟨(hs'.2 a fun q => f.2 (q ▸ hL)).trans e, f⟩, fun _ _ e => e⟩ (I.obj n p o e1 e2) (fun o e => (hs'.2 _ (na _ (mem_adr1 (phi_mem e1)))).trans e) fun o e => (hs'.2 _ (na _ (mem_adr2 (phi_mem e1)))).trans e
theorem Gr.other {h' : Heap} {t : Nat} {L : Addr} (hs' : Heap.SameBut L s.heap h') (hL : L ∈ F ∨ L ∈ adr φ) (ha : ∃ o, h'.get? L = some o) : Gr s φ F (hs s h' t) φ :=
  ⟨⟨[], by simp, by simp [adr]⟩, fun b o e h1 h2 => (hs'.2 b (by rintro rfl; exact hL.elim h2 h1)).trans e, fun b o e => by
    by_cases q : b = L
    · rw [q]; exact ha
    · exact ⟨o, (hs'.2 b q).trans e⟩, rfl, rfl, rfl⟩

/-- one address of the store changes -/
theorem Inv.set (I : Inv G s φ P σ) {h' : Heap} {t : Nat} {n : Nat} {p : Addr × Addr} {o' : PO} {L : Addr} (hn : φ[n]? = some p) (hL : L = p.1 ∨ L = p.2) (hs' : Heap.SameBut L s.heap h')
    (r' : Ext s.heap φ P h' φ P → ORel G h' φ P o' p) : Inv G (hs s h' t) φ P (σ.set n o') := by
  have hmem : L ∈ adr φ := by rcases hL with rfl | rfl; exact mem_adr1 (phi_mem hn); exact mem_adr2 (phi_mem hn)
  have E : Ext s.heap φ P h' φ P := ⟨fun a o e f => ⟨(hs'.2 a fun q => f.1 (q ▸ hmem)).trans e, f⟩, fun _ _ e => e⟩
  refine ⟨fun b o e => (hs'.2 b (by rintro rfl; rw [I.apart _ (.inl hmem)] at e; cases e)).trans (I.base b o e), I.apart, I.disj, fun a h => ?_, by simpa using I.len, fun m q o e1 e2 => ?_, I.inj⟩
  · obtain ⟨o, e⟩ := I.plow a h
    exact ⟨o, (hs'.2 a fun q => I.disj L hmem (q ▸ h)).trans e⟩
  by_cases hmn : m = n
  · subst hmn
    rw [hn] at e1; cases e1
    have : m < σ.length := by rw [← I.len]; exact (List.getElem?_eq_some_iff.mp hn).1
    rw [List.getElem?_set_self this] at e2
    cases e2; exact r' E
  · rw [List.getElem?_set_ne (Ne.symm hmn)] at e2
    have d := I.inj m n q p hmn e1 hn
    exact ORel.ext E (I.obj m q o e1 e2) (fun o e => (hs'.2 _ (by rcases hL with rfl | rfl; exact d.1; exact d.2.1)).trans e) (fun o e => (hs'.2 _ (by rcases hL with rfl | rfl; exact d.2.2.1; exact d.2.2.2)).trans e)
theorem Gr.set {h' : Heap} {t : Nat} {n : Nat} {p : Addr × Addr} {L : Addr} (hn : φ[n]? = some p) (hL : L = p.1 ∨ L = p.2) (hs' : Heap.SameBut L s.heap h') (ha : ∃ o, h'.get? L = some o) : Gr s φ F (hs s h' t) φ :=
  Gr.other hs' (.inr (by rcases hL with rfl | rfl; exact mem_adr1 (phi_mem hn); exact mem_adr2 (phi_mem hn))) ha

theorem at_end {α : Type} {l : List α} {x : α} {n : Nat} {C : Prop} {y : α} (e : (l ++ [x])[n]? = some y) (k1 : n < l.length → l[n]? = some y → C) (k2 : n = l.length → y = x → C) : C := by
  rcases Nat.lt_trichotomy n l.length with h | h | h
  · rw [List.getElem?_append_left h] at e; exact k1 h e
  · subst h
    rw [List.getElem?_append_right (Nat.le_refl _), Nat.sub_self] at e
    exact k2 rfl (Option.some.inj e).symm
  · rw [List.getElem?_eq_none (by rw [List.length_append]; exact h)] at e; cases e
theorem adr_end {p : Addr × Addr} {a : Addr} (h : a ∈ adr (φ ++ [p])) : a ∈ adr φ ∨ a = p.1 ∨ a = p.2 := by
  rw [adr_append] at h
  exact (List.mem_append.mp h).imp id fun q => by simpa [adr] using q
/-- the store grows by one -/
theorem Inv.grow {P' : List Addr} (I : Inv G s φ P' σ) {h' : Heap} {t : Nat} {p : Addr × Addr} {o' : PO} (base : ∀ b o, G.h₀.get? b = some o → h'.get? b = some o) (f : ∀ a, a = p.1 ∨ a = p.2 → a ∉ adr φ ∧ a ∉ P ∧ G.h₀.get? a = Option.none) (hP : ∀ a ∈ P, a ∈ P' ∧ ∃ o, h'.get? a = some o)
    (k : ∀ a ∈ adr φ, ∀ o, s.heap.get? a = some o → h'.get? a = some o) (E : Ext s.heap φ P' h' (φ ++ [p]) P) (r : ORel G h' (φ ++ [p]) P o' p) : Inv G (hs s h' t) (φ ++ [p]) P (σ ++ [o']) := by
  have al : ∀ (n : Nat) q, φ[n]? = some q → q.1 ≠ p.1 ∧ q.1 ≠ p.2 ∧ q.2 ≠ p.1 ∧ q.2 ≠ p.2 := fun n q e => by
    have a1 := mem_adr1 (phi_mem e)
    have a2 := mem_adr2 (phi_mem e)
    exact ⟨fun z => (f _ (.inl rfl)).1 (z ▸ a1), fun z => (f _ (.inr rfl)).1 (z ▸ a1), fun z => (f _ (.inl rfl)).1 (z ▸ a2), fun z => (f _ (.inr rfl)).1 (z ▸ a2)⟩
  refine ⟨base, fun a ha => ?_, fun a ha => ?_, fun a h => (hP a h).2, by rw [List.length_append, List.length_append, I.len]; rfl, fun m q o e1 e2 => ?_, fun m n q q' hmn e1 e2 => ?_⟩
  · rcases ha with ha | ha
    · exact (adr_end ha).elim (fun q => I.apart a (.inl q)) fun q => (f a q).2.2
    · exact I.apart a (.inr (hP a ha).1)
  · exact (adr_end ha).elim (fun q z => I.disj a q (hP a z).1) fun q => (f a q).2.1
  · refine at_end e1 (fun h e1 => ?_) fun h e1 => ?_
    · rw [List.getElem?_append_left (I.len ▸ h)] at e2
      exact ORel.ext E (I.obj m q o e1 e2) (k _ (mem_adr1 (phi_mem e1))) (k _ (mem_adr2 (phi_mem e1)))
    · refine at_end e2 (fun h' _ => absurd h' (by rw [h, I.len]; exact Nat.lt_irrefl _)) fun _ e2 => ?_
      rw [e1, e2]; exact r
  · refine at_end e1 (fun _ e1 => at_end e2 (fun _ e2 => I.inj m n q q' hmn e1 e2) fun _ e2 => ?_) fun h e1 => at_end e2 (fun _ e2 => ?_) fun h' _ => absurd (h.trans h'.symm) hmn
    · rw [e2]; exact al m q e1
    · rw [e1]
      obtain ⟨a, b, c, d⟩ := al n q' e2
      exact ⟨Ne.symm a, Ne.symm c, Ne.symm b, Ne.symm d⟩
/-- a new object of the store -/
theorem Inv.new (I : Inv G s φ P σ) {h' : Heap} {t : Nat} {p : Addr × Addr} {o' : PO} (k : ∀ b o, s.heap.get? b = some o → h'.get? b = some o) (h1 : s.heap.get? p.1 = Option.none) (h2 : s.heap.get? p.2 = Option.none)
    (r' : Ext s.heap φ P h' (φ ++ [p]) P → ORel G h' (φ ++ [p]) P o' p) : Inv G (hs s h' t) (φ ++ [p]) P (σ ++ [o']) := by
  have hn : ∀ a, a = p.1 ∨ a = p.2 → s.heap.get? a = Option.none := fun a ha => by rcases ha with rfl | rfl; exact h1; exact h2
  have E : Ext s.heap φ P h' (φ ++ [p]) P := ⟨fun a o e f => ⟨k a o e, fun q => (adr_end q).elim f.1 fun q => (by rw [hn a q] at e; cases e), f.2⟩, fun n q e => phi_mono e⟩
  refine I.grow (fun b o e => k b o (I.base b o e)) (fun a ha => ⟨(I.fresh (hn a ha)).1, (I.fresh (hn a ha)).2, ?_⟩) (fun a h => ⟨h, (I.plow a h).imp fun _ => k _ _⟩) (fun a _ => k a) E (r' E)
  cases q : G.h₀.get? a with
  | none => rfl
  | some o => have := I.base _ _ q; rw [hn a ha] at this; cases this
/-- an object that was kept from the values becomes one of the store -/
theorem Inv.adoptO {D : Addr} {o : PO} (I : Inv G s φ (D :: P) σ) (hD : D ∉ P) (r : Ext s.heap φ (D :: P) s.heap (φ ++ [(D, D)]) P → ORel G s.heap (φ ++ [(D, D)]) P o (D, D)) : Inv G s (φ ++ [(D, D)]) P (σ ++ [o]) := by
  have hDa : D ∉ adr φ := fun q => I.disj D q List.mem_cons_self
  have X : Ext s.heap φ (D :: P) s.heap (φ ++ [(D, D)]) P := ⟨fun a o e f => ⟨e, fun q => (adr_end q).elim f.1 fun q => f.2 (by rw [q.elim id id]; exact List.mem_cons_self), fun q => f.2 (List.mem_cons_of_mem _ q)⟩, fun n p e => phi_mono e⟩
  exact I.grow (t := s.toks) I.base (fun a ha => by rw [ha.elim id id]; exact ⟨hDa, hD, I.apart D (.inr List.mem_cons_self)⟩) (fun a h => ⟨List.mem_cons_of_mem _ h, I.plow a (List.mem_cons_of_mem _ h)⟩) (fun _ _ _ e => e) X (r X)
theorem Gr.new {h' : Heap} {t : Nat} {p : Addr × Addr} (k : ∀ b o, s.heap.get? b = some o → h'.get? b = some o) (h1 : s.heap.get? p.1 = Option.none) (h2 : s.heap.get? p.2 = Option.none) : Gr s φ F (hs s h' t) (φ ++ [p]) :=
  ⟨⟨[p], rfl, by simp [adr, h1, h2]⟩, fun b o e _ _ => k b o e, fun b o e => ⟨o, k b o e⟩, rfl, rfl, rfl⟩

/-- what was made first and changed later is no change seen from before -/
theorem Gr.made {s s₁ s₂ : Shared} {φ φ₁ φ₂ : Phi} {F N : List Addr} (a : Gr s φ F s₁ φ₁) (b : Gr s₁ φ₁ (N ++ F) s₂ φ₂) (hN : ∀ a ∈ N, s.heap.get? a = Option.none) : Gr s φ F s₂ φ₂ := by
  obtain ⟨ψ, rfl, hψ⟩ := a.pre
  obtain ⟨ψ', rfl, hψ'⟩ := b.pre
  refine ⟨⟨ψ ++ ψ', by simp, fun c hc => ?_⟩, fun c o e hc hF => ?_, fun c o e => let ⟨o', e'⟩ := a.alive c o e; b.alive c o' e', b.gens.trans a.gens, b.drawn.trans a.drawn, b.os.trans a.os⟩
  · rw [adr_append] at hc
    rcases List.mem_append.mp hc with hc | hc
    · exact hψ c hc
    · cases q : s.heap.get? c with
      | none => rfl
      | some o => obtain ⟨o', e'⟩ := a.alive c o q; rw [hψ' c hc] at e'; cases e'
  · refine b.keep c o (a.keep c o e hc hF) ?_ ?_
    · rw [adr_append]
      intro q
      rcases List.mem_append.mp q with q | q
      · exact hc q
      · rw [hψ c q] at e; cases e
    · intro q
      rcases List.mem_append.mp q with q | q
      · rw [hN c q] at e; cases e
      · exact hF q
end

section
variable {α β : Type} {G : Gd} {k : Nat} {F : List Addr} {s : Shared} {φ : Phi}
end
end Mine
namespace Mine
variable {G : Gd} {s : Shared} {φ : Phi} {P : List Addr} {σ : Sto}

noncomputable def ownA (env : Env) : List Addr := env.locals :: env.cells.map (·.2)

structure FrameAt (G : Gd) (env : Env) (P : List Addr) (h : Heap) (φ : Phi) (ρ : Rho) : Prop where
  kind : env.scope.kind = .function
  glob : env.globals = mainGlobals
  blt : env.builtins = builtinsNs
  ns : ∃ m, h.Ns env.locals m ∧ ∀ x v, ρ.lookup x = some v → env.kindOf x = some .local → ∃ val, m x = some val ∧ VRel G h φ P v val
  cell : ∀ x a, env.cells.lookup x = some a → ∃ v, h.IsCell a v
  val : ∀ x v, ρ.lookup x = some v → env.kindOf x = some .local ∨ ((env.kindOf x = some .cell ∨ (env.kindOf x = some .free ∧ (x == ("__classdict__" : Str)) = false)) ∧ ∃ a val, env.cells.lookup x = some a ∧ h.IsCell a (some val) ∧ VRel G h φ P v val)
  inj : ∀ x y a, env.cells.lookup x = some a → env.cells.lookup y = some a → x = y
  own : ∀ a ∈ ownA env, a ∈ P

theorem lookup_mem_map {l : List (Str × Addr)} {x : Str} {c : Addr} (h : l.lookup x = some c) : c ∈ l.map (·.2) := by
  induction l with
  | nil => cases h
  | cons p r ih =>
    rw [List.lookup_cons] at h
    split at h
    · cases h; simp
    · exact List.mem_cons_of_mem _ (ih h)
theorem isCell_keep {h h' : Heap} {c : Addr} {v} (x : h.IsCell c v) (k : ∀ o, h.get? c = some o → h'.get? c = some o) : h'.IsCell c v := x.imp fun o q => ⟨k o q.1, q.2⟩
theorem ns_keep {h h' : Heap} {a : Addr} {m} (hn : h.Ns a m) (k : ∀ o, h.get? a = some o → h'.get? a = some o) : h'.Ns a m :=
  hn.imp fun _ q => q.imp fun _ q => q.imp fun _ q => ⟨k _ q.1, q.2⟩
theorem ns_cell_ne {h : Heap} {a c : Addr} {m} {v} (hn : h.Ns a m) (hc : h.IsCell c v) : a ≠ c := by
  rintro rfl
  obtain ⟨o, es, ep, e, d, _⟩ := hn
  obtain ⟨o', e', d'⟩ := hc
  rw [e] at e'; cases e'; rw [d] at d'; cases d'

theorem FrameAt.keep {env : Env} {h h' : Heap} {φ' : Phi} {P' : List Addr} {ρ : Rho} (f : FrameAt G env P h φ ρ) (E : Ext h φ P h' φ' P') (k : ∀ a ∈ ownA env, ∀ o, h.get? a = some o → h'.get? a = some o) (hP : ∀ a ∈ P, a ∈ P') : FrameAt G env P' h' φ' ρ where
  kind := f.kind
  glob := f.glob
  blt := f.blt
  ns := by
    obtain ⟨m, hm, hv⟩ := f.ns
    exact ⟨m, ns_keep hm (k _ (by simp [ownA])), fun x v e1 e2 => (hv x v e1 e2).imp fun _ q => ⟨q.1, q.2.ext E⟩⟩
  cell := fun x c e => (f.cell x c e).imp fun _ q => isCell_keep q (k c (List.mem_cons_of_mem _ (lookup_mem_map e)))
  val := fun x v e1 => (f.val x v e1).imp id (by rintro ⟨q, c, val, q1, q2, q3⟩; exact ⟨q, c, val, q1, isCell_keep q2 (k c (List.mem_cons_of_mem _ (lookup_mem_map q1))), q3.ext E⟩)
  inj := f.inj
  own := fun a h => hP a (f.own a h)

theorem FrameAt.gr {env : Env} {s' : Shared} {φ' : Phi} {ρ : Rho} (f : FrameAt G env P s.heap φ ρ) (I : Inv G s φ P σ) (g : Gr s φ [] s' φ') : FrameAt G env P s'.heap φ' ρ :=
  f.keep (g.ext (fun a h => nomatch h)) (fun a ha o e => g.keep a o e (fun q => I.disj a q (f.own a ha)) (fun q => nomatch q)) fun _ h => h
theorem VRel.gr {s' : Shared} {φ' : Phi} {p : PV} {v : Value} (x : VRel G s.heap φ P p v) (g : Gr s φ [] s' φ') : VRel G s'.heap φ' P p v := x.ext (g.ext fun a h => nomatch h)
theorem VRels.gr {s' : Shared} {φ' : Phi} {p : List PV} {v : List Value} (x : VRels G s.heap φ P p v) (g : Gr s φ [] s' φ') : VRels G s'.heap φ' P p v := x.ext (g.ext fun a h => nomatch h)

/-! ### judgements -/
structure Cx where
  G : Gd
  k : Nat
  env : Env

noncomputable abbrev Post := PV → Sto → Prop
noncomputable def PostV (G : Gd) (P : List Addr) (Q : Post) : Value → Shared → Phi → Prop := fun v s' φ' => ∃ pv σ', Inv G s' φ' P σ' ∧ VRel G s'.heap φ' P pv v ∧ Q pv σ'
noncomputable def PostL (G : Gd) (P : List Addr) (Q : List PV → Sto → Prop) : List Value → Shared → Phi → Prop := fun v s' φ' => ∃ pv σ', Inv G s' φ' P σ' ∧ VRels G s'.heap φ' P pv v ∧ Q pv σ'

section
variable (c : Cx)
noncomputable abbrev Cx.Sp (F : List Addr) (s : Shared) (φ : Phi) {α : Type} (t : Sem α) (Q : α → Shared → Phi → Prop) : Prop := Mine.Sp c.G c.k F s φ t Q
/-- an expression -/
noncomputable def EWP (e : Expr) (ρ : Rho) (σ : Sto) (Q : Post) : Prop :=
  ∀ P s φ, Inv c.G s φ P σ → FrameAt c.G c.env P s.heap φ ρ → c.Sp [] s φ (eval e c.env) (PostV c.G P Q)
/-- a list of expressions -/
noncomputable def LWP (es : List Expr) (ρ : Rho) (σ : Sto) (Q : List PV → Sto → Prop) : Prop :=
  ∀ P s φ pos, Inv c.G s φ P σ → FrameAt c.G c.env P s.heap φ ρ → c.Sp [] s φ (spliced (backTo pos (starEach es c.env))) (PostL c.G P Q)
/-- a condition -/
noncomputable def BWP (e : Expr) (ρ : Rho) (σ : Sto) (Q : Bool → Sto → Prop) : Prop :=
  ∀ P s φ, Inv c.G s φ P σ → FrameAt c.G c.env P s.heap φ ρ → c.Sp [] s φ (isTrue e c.env (eval e c.env)) (fun b s' φ' => ∃ σ', Inv c.G s' φ' P σ' ∧ Q b σ')
noncomputable def O2 (t : Value → Value → Sem Value) (a b : PV) (σ : Sto) (Q : Post) : Prop :=
  ∀ P s φ v w, Inv c.G s φ P σ → VRel c.G s.heap φ P a v → VRel c.G s.heap φ P b w → c.Sp [] s φ (t v w) (PostV c.G P Q)
noncomputable def TWP (a : PV) (σ : Sto) (Q : Bool → Sto → Prop) : Prop :=
  ∀ P s φ v, Inv c.G s φ P σ → VRel c.G s.heap φ P a v → c.Sp [] s φ (truthy v) (fun b s' φ' => ∃ σ', Inv c.G s' φ' P σ' ∧ Q b σ')
/-- a call: the value called and its arguments -/
noncomputable def CWP (f : PV) (args : List PV) (σ : Sto) (Q : Post) : Prop :=
  ∀ P s φ fv vs, Inv c.G s φ P σ → VRel c.G s.heap φ P f fv → VRels c.G s.heap φ P args vs → c.Sp [] s φ (call fv vs []) (PostV c.G P Q)
/-- a method of a value: what is called, with what ahead -/
noncomputable def MWP (o : PV) (name : Str) (σ : Sto) (Q : PV → List PV → Sto → Prop) : Prop :=
  ∀ P s φ ov pl, Inv c.G s φ P σ → VRel c.G s.heap φ P o ov → c.Sp [] s φ (getMethod ov name pl) (fun r s' φ' => ∃ f first σ', Inv c.G s' φ' P σ' ∧ VRel c.G s'.heap φ' P f r.1 ∧ VRels c.G s'.heap φ' P first r.2 ∧ Q f first σ')
/-- a store -/
noncomputable def AWP (own : List Addr) (t : Expr) (v : PV) (ρ : Rho) (σ : Sto) (Q : Rho → Sto → Prop) : Prop :=
  ∀ P s φ val, Inv c.G s φ P σ → FrameAt c.G c.env P s.heap φ ρ → VRel c.G s.heap φ P v val → c.Sp own s φ (assign t c.env val) (fun _ s' φ' => ∃ ρ' σ', Inv c.G s' φ' P σ' ∧ FrameAt c.G c.env P s'.heap φ' ρ' ∧ Q ρ' σ')
noncomputable def PostF (P : List Addr) (Qn : Rho → Sto → Prop) (Qr : Post) : Flow → Shared → Phi → Prop := fun fl s' φ' => match fl with
    | .next => ∃ ρ' σ', Inv c.G s' φ' P σ' ∧ FrameAt c.G c.env P s'.heap φ' ρ' ∧ Qn ρ' σ'
    | .ret v => PostV c.G P Qr v s' φ'
    | _ => False
/-- statements: Qn behind the last, Qr at a return -/
noncomputable def SWP (st : List Stmt) (ρ : Rho) (σ : Sto) (Qn : Rho → Sto → Prop) (Qr : Post) : Prop :=
  ∀ P s φ, Inv c.G s φ P σ → FrameAt c.G c.env P s.heap φ ρ → c.Sp (ownA c.env) s φ (execs st c.env) (PostF c P Qn Qr)
noncomputable def S1WP (st : Stmt) (ρ : Rho) (σ : Sto) (Qn : Rho → Sto → Prop) (Qr : Post) : Prop :=
  ∀ P s φ, Inv c.G s φ P σ → FrameAt c.G c.env P s.heap φ ρ → c.Sp (ownA c.env) s φ (exec st c.env) (PostF c P Qn Qr)
end

section
variable {c : Cx} {ρ : Rho}

theorem EWP.mono {e : Expr} {Q Q' : Post} (h : EWP c e ρ σ Q) (q : ∀ v σ', Q v σ' → Q' v σ') : EWP c e ρ σ Q' :=
  fun P s φ I F => (h P s φ I F).mono fun _ _ _ _ pp => pp.imp fun _ pp => pp.imp fun _ pp => ⟨pp.1, pp.2.1, q _ _ pp.2.2⟩
theorem SWP.mono {st : List Stmt} {Qn Qn' : Rho → Sto → Prop} {Qr Qr' : Post} (h : SWP c st ρ σ Qn Qr) (q : ∀ r σ', Qn r σ' → Qn' r σ') (q2 : ∀ v σ', Qr v σ' → Qr' v σ') : SWP c st ρ σ Qn' Qr' :=
  fun P s φ I F => (h P s φ I F).mono fun fl _ _ _ x => by
    cases fl with
    | next => obtain ⟨r, σ', a, b, d⟩ := x; exact ⟨r, σ', a, b, q _ _ d⟩
    | ret v => obtain ⟨r, σ', a, b, d⟩ := x; exact ⟨r, σ', a, b, q2 _ _ d⟩
    | brk => exact x
    | cont => exact x

theorem PostV.e {Q : Post} {v : Value} {s' : Shared} {φ' : Phi} {C : Prop} (h : PostV G P Q v s' φ') (k : ∀ pv σ', Inv G s' φ' P σ' → VRel G s'.heap φ' P pv v → Q pv σ' → C) : C := Exists.elim h fun _ h => Exists.elim h fun _ h => k _ _ h.1 h.2.1 h.2.2
theorem PostL.e {Q : List PV → Sto → Prop} {v : List Value} {s' : Shared} {φ' : Phi} {C : Prop} (h : PostL G P Q v s' φ') (k : ∀ pv σ', Inv G s' φ' P σ' → VRels G s'.heap φ' P pv v → Q pv σ' → C) : C := Exists.elim h fun _ h => Exists.elim h fun _ h => k _ _ h.1 h.2.1 h.2.2
theorem exB {Q : Sto → Prop} {s' : Shared} {φ' : Phi} {C : Prop} (h : ∃ σ', Inv G s' φ' P σ' ∧ Q σ') (k : ∀ σ', Inv G s' φ' P σ' → Q σ' → C) : C := Exists.elim h fun _ h => k _ h.1 h.2
/-! ### what is still to do, as words: a step names it and copies nothing -/
noncomputable abbrev KT (c : Cx) (Q : Bool → Sto → Prop) : Post := fun x σ₁ => TWP c x σ₁ Q
noncomputable abbrev KO2 (c : Cx) (t : Value → Value → Sem Value) (a : PV) (Q : Post) : Post := fun b σ₂ => O2 c t a b σ₂ Q
noncomputable abbrev KE2 (c : Cx) (r : Expr) (ρ : Rho) (t : Value → Value → Sem Value) (Q : Post) : Post := fun a σ₁ => EWP c r ρ σ₁ (KO2 c t a Q)
noncomputable abbrev KIf (c : Cx) (a b : Expr) (ρ : Rho) (Q : Post) : Bool → Sto → Prop := fun x σ₁ => if x then EWP c a ρ σ₁ Q else EWP c b ρ σ₁ Q
noncomputable abbrev KNot (Q : Bool → Sto → Prop) : Bool → Sto → Prop := fun b σ₁ => Q (!b) σ₁
noncomputable abbrev KVs (v : PV) (Q : List PV → Sto → Prop) : List PV → Sto → Prop := fun vs σ₂ => Q (v :: vs) σ₂
noncomputable abbrev KL (c : Cx) (es : List Expr) (ρ : Rho) (Q : List PV → Sto → Prop) : Post := fun v σ₁ => LWP c es ρ σ₁ (KVs v Q)

/-! ### names and constants -/
theorem Sp_ret {F : List Addr} {k : Nat} {t : Sem Value} {Q : Post} {pv : PV} {v : Value} {σ' : Sto} {h' : Heap} {tk : Nat} {φ' : Phi}
    (hw : ∀ (A : Around) (R : Value → Shared → Prop) (E : Value → Shared → Prop), R v (hs s h' tk) → wpAny G.M A t R E s)
    (g : Gr s φ F (hs s h' tk) φ') (I : Inv G (hs s h' tk) φ' P σ') (r : VRel G h' φ' P pv v) (q : Q pv σ') : Sp G k F s φ t (PostV G P Q) :=
  fun A _ R E hR => hw A R E (hR _ _ _ g ⟨pv, σ', I, r, q⟩)
theorem Sp_tok {F : List Addr} {k : Nat} {t : Sem Value} {Q : Post} {pv : PV} {v : Value} {tk : Nat} (I : Inv G s φ P σ)
    (hw : ∀ (A : Around) (R : Value → Shared → Prop) (E : Value → Shared → Prop), R v (hs s s.heap tk) → wpAny G.M A t R E s) (r : VRel G s.heap φ P pv v) (q : Q pv σ) : Sp G k F s φ t (PostV G P Q) :=
  Sp_ret hw (Gr.tok tk) (I.tok tk) r q

theorem ewp_int {i : Int} {n : Nat} {pos : Pos} {Q : Post} (q : Q (.int i) σ) : EWP c (.Constant (.int i) n pos) ρ σ Q :=
  fun _ _ _ I _ => Sp_tok (tk := _) I (fun _ _ _ h => wpAny_Constant_int h) .int q
theorem ewp_str {x : Str} {n : Nat} {pos : Pos} {Q : Post} (q : Q (.str x) σ) : EWP c (.Constant (.str x) n pos) ρ σ Q :=
  fun _ _ _ I _ => Sp_tok (tk := _) I (fun _ _ _ h => wpAny_Constant_str h) .str q
theorem ewp_none {n : Nat} {pos : Pos} {Q : Post} (q : Q .none σ) : EWP c (.Constant .none n pos) ρ σ Q :=
  fun _ s _ I _ => Sp_tok (tk := s.toks) I (fun _ _ _ h => wpAny_Constant_none h) .none q
theorem ewp_bool {b : Bool} {n : Nat} {pos : Pos} {Q : Post} (q : Q (.bool b) σ) : EWP c (.Constant (.bool b) n pos) ρ σ Q :=
  fun _ s _ I _ => Sp_tok (tk := s.toks) I (fun _ _ _ h => wpAny_Constant_bool h) .bool q

theorem ewp_name {x : Str} {pos : Pos} {v : PV} {Q : Post} (h : ρ.lookup x = some v) (q : Q v σ) (hd : (x == ("__debug__" : Str)) = false := by rfl) : EWP c (.Name x pos) ρ σ Q := by
  intro P s φ I F
  rcases F.val x v h with hk | ⟨hk | ⟨hk, hcd⟩, a, val, h1, h2, h3⟩
  · obtain ⟨m, hm, hv⟩ := F.ns
    obtain ⟨val, e, r⟩ := hv x v h hk
    exact Sp_tok (tk := s.toks) I (fun A R E h => wpAny_Name (wpAny_loadName_local F.kind hk hm e h) hd) r q
  · exact Sp_tok (tk := s.toks) I (fun A R E h => wpAny_Name (wpAny_loadName_cell F.kind hk h1 h2 h) hd) h3 q
  · exact Sp_tok (tk := s.toks) I (fun A R E h => wpAny_Name (wpAny_loadName_free F.kind hk h1 h2 h hcd) hd) h3 q

theorem ewp_global {x : Str} {pos : Pos} {v : Value} {Q : Post} (ok : c.G.Ok) (hk : c.env.kindOf x = some .globalImplicit) (h : nsIn c.G.K mainGlobals x = some (some v)) (hv : handedIn v = true) (q : Q (.cst v) σ)
    (hd : (x == ("__debug__" : Str)) = false := by rfl) : EWP c (.Name x pos) ρ σ Q := fun P s φ I F =>
  Sp_tok (tk := s.toks) I (fun A R E hR => Name_function_global F.kind hk (loadGlobal_global (by rw [F.glob]; exact ok.g.keeps I.base) (mg_of ok.X ok.g h) hR) hd) (.cst hv) q
theorem ewp_builtin {x : Str} {pos : Pos} {v : Value} {Q : Post} (ok : c.G.Ok) (hk : c.env.kindOf x = some .globalImplicit) (h : nsIn c.G.K mainGlobals x = some none) (hb : bootBuiltins x = some v) (hn : x ≠ "__name__") (hv : handedIn v = true) (q : Q (.cst v) σ)
    (hd : (x == ("__debug__" : Str)) = false := by rfl) : EWP c (.Name x pos) ρ σ Q := fun P s φ I F =>
  Sp_tok (tk := s.toks) I (fun A R E hR => Name_function_global F.kind hk (loadGlobal_builtin (by rw [F.glob]; exact ok.g.keeps I.base) (mg_none_of ok.X ok.g h) (by rw [F.blt]; exact ok.b.keeps I.base) ((ok.boot x hn).trans hb) hR) hd) (.cst hv) q
/-- a global that holds an int or a str -/
theorem ewp_globalInt {x : Str} {pos : Pos} {i : Int} {t : Tok} {Q : Post} (ok : c.G.Ok) (hk : c.env.kindOf x = some .globalImplicit) (h : nsIn c.G.K mainGlobals x = some (some (.int i t))) (q : Q (.int i) σ)
    (hd : (x == ("__debug__" : Str)) = false := by rfl) : EWP c (.Name x pos) ρ σ Q := fun P s φ I F =>
  Sp_tok (tk := s.toks) I (fun A R E hR => Name_function_global F.kind hk (loadGlobal_global (by rw [F.glob]; exact ok.g.keeps I.base) (mg_of ok.X ok.g h) hR) hd) .int q
theorem ewp_globalStr {x y : Str} {pos : Pos} {t : Tok} {Q : Post} (ok : c.G.Ok) (hk : c.env.kindOf x = some .globalImplicit) (h : nsIn c.G.K mainGlobals x = some (some (.str y t))) (q : Q (.str y) σ)
    (hd : (x == ("__debug__" : Str)) = false := by rfl) : EWP c (.Name x pos) ρ σ Q := fun P s φ I F =>
  Sp_tok (tk := s.toks) I (fun A R E hR => Name_function_global F.kind hk (loadGlobal_global (by rw [F.glob]; exact ok.g.keeps I.base) (mg_of ok.X ok.g h) hR) hd) .str q

/-! ### shapes of expressions -/
theorem ewp_binop {l r : Expr} {op : Operator} {pos : Pos} {Q : Post} (h : EWP c l ρ σ (KE2 c r ρ (fun v w => operate [v, w] (binaryOp op v w)) Q)) : EWP c (.BinOp l op r pos) ρ σ Q := by
  intro P s φ I F
  show c.Sp [] s φ (eval l c.env >>= fun a => holding [a] (eval r c.env) >>= fun b => standAt pos >>= fun _ => operate [a, b] (binaryOp op a b)) _
  refine (h P s φ I F).bind fun a s₁ φ₁ g₁ pp => pp.e fun pa σ₁ I₁ r₁ h₁ => ?_
  refine Sp.bind (Sp.hold (h₁ P s₁ φ₁ I₁ (F.gr I g₁))) fun b s₂ φ₂ g₂ pp => pp.e fun pb σ₂ I₂ r₂ h₂ => ?_
  exact Sp.stand (h₂ P s₂ φ₂ a b I₂ (r₁.gr g₂) r₂)
theorem ewp_ifexp {t a b : Expr} {pos : Pos} {Q : Post} (h : BWP c t ρ σ (KIf c a b ρ Q)) : EWP c (.IfExp t a b pos) ρ σ Q := by
  intro P s φ I F
  show c.Sp [] s φ (isTrue t c.env (eval t c.env) >>= fun x => if x = true then eval a c.env else eval b c.env) _
  refine (h P s φ I F).bind fun x s₁ φ₁ g₁ pp => exB pp fun σ₁ I₁ h₁ => ?_
  cases x with
  | true => exact h₁ P s₁ φ₁ I₁ (F.gr I g₁)
  | false => exact h₁ P s₁ φ₁ I₁ (F.gr I g₁)
theorem ewp_compare {l r : Expr} {op : CmpOp} {pos : Pos} {Q : Post} (h : EWP c l ρ σ (KE2 c r ρ (fun v w => operate [v, w] (compareOp op v w)) Q))
    (hm : behindInMarks op r = false := by with_unfolding_all rfl) : EWP c (.Compare l [op] [r] pos) ρ σ Q := by
  intro P s φ I F
  have e : eval (.Compare l [op] [r] pos) c.env = (eval l c.env >>= fun a => holding [a] (eval r c.env) >>= fun b => standAt pos >>= fun _ => operate [a, b] (compareOp op a b)) := by
    show (eval l c.env >>= fun a => compareChain pos a [op] [markedBehindIn op r (eval r c.env)]) = _
    unfold markedBehindIn; rw [hm]; rfl
  rw [e]
  refine (h P s φ I F).bind fun a s₁ φ₁ g₁ pp => pp.e fun pa σ₁ I₁ r₁ h₁ => ?_
  refine Sp.bind (Sp.hold (h₁ P s₁ φ₁ I₁ (F.gr I g₁))) fun b s₂ φ₂ g₂ pp => pp.e fun pb σ₂ I₂ r₂ h₂ => ?_
  exact Sp.stand (h₂ P s₂ φ₂ a b I₂ (r₁.gr g₂) r₂)
theorem bwp_compare {l r : Expr} {op : CmpOp} {pos : Pos} {Q : Bool → Sto → Prop} (h : EWP c l ρ σ (KE2 c r ρ (fun v w => operate [v, w] (compareOp op v w)) (KT c Q)))
    (hm : behindInMarks op r = false := by with_unfolding_all rfl) : BWP c (.Compare l [op] [r] pos) ρ σ Q := by
  intro P s φ I F
  have e : isTrue (.Compare l [op] [r] pos) c.env (eval (.Compare l [op] [r] pos) c.env) = (eval l c.env >>= fun a => holding [a] (eval r c.env) >>= fun b => standAt pos >>= fun _ => operate [a, b] (compareOp op a b) >>= fun x => holding [x] (truthy x)) := by
    show (eval l c.env >>= fun a => testChain pos a [op] [markedBehindIn op r (eval r c.env)]) = _
    unfold markedBehindIn; rw [hm]; rfl
  rw [e]
  refine (h P s φ I F).bind fun a s₁ φ₁ g₁ pp => pp.e fun pa σ₁ I₁ r₁ h₁ => ?_
  refine Sp.bind (Sp.hold (h₁ P s₁ φ₁ I₁ (F.gr I g₁))) fun b s₂ φ₂ g₂ pp => pp.e fun pb σ₂ I₂ r₂ h₂ => ?_
  refine Sp.stand (Sp.bind (h₂ P s₂ φ₂ a b I₂ (r₁.gr g₂) r₂) fun x s₃ φ₃ g₃ pp => pp.e fun px σ₃ I₃ r₃ h₃ => Sp.hold (h₃ P s₃ φ₃ x I₃ r₃))
/-- a value as a condition; of what is no Not, BoolOp, IfExp, Compare -/
theorem bwp_value {e : Expr} {Q : Bool → Sto → Prop} (h : EWP c e ρ σ (KT c Q)) (he : isTrue e c.env (eval e c.env) = (eval e c.env >>= fun v => standAt e.pos >>= fun _ => holding [v] (truthy v)) := by rfl) : BWP c e ρ σ Q := by
  intro P s φ I F
  rw [he]
  refine (h P s φ I F).bind fun a s₁ φ₁ g₁ pp => pp.e fun pa σ₁ I₁ r₁ h₁ => Sp.stand (Sp.hold (h₁ P s₁ φ₁ a I₁ r₁))
theorem bwp_not {e : Expr} {pos : Pos} {Q : Bool → Sto → Prop} (h : BWP c e ρ σ (KNot Q)) : BWP c (.UnaryOp .Not e pos) ρ σ Q := by
  intro P s φ I F
  show c.Sp [] s φ (isTrue e c.env (eval e c.env) >>= fun b => pure (!b)) _
  exact (h P s φ I F).bind fun b s₁ φ₁ g₁ pp => exB pp fun σ₁ I₁ h₁ => Sp.pure ⟨σ₁, I₁, h₁⟩
/-- and, or as a condition -/
noncomputable def BLs (c : Cx) (op : BoolOp) (es : List Expr) (ρ : Rho) (σ : Sto) (Q : Bool → Sto → Prop) : Prop :=
  ∀ P s φ, Inv c.G s φ P σ → FrameAt c.G c.env P s.heap φ ρ → c.Sp [] s φ (allTrue op es c.env) (fun b s' φ' => ∃ σ', Inv c.G s' φ' P σ' ∧ Q b σ')
theorem bwp_bool {op : BoolOp} {es : List Expr} {pos : Pos} {Q : Bool → Sto → Prop} (h : BLs c op es ρ σ Q) : BWP c (.BoolOp op es pos) ρ σ Q := h
theorem bls_nil {op : BoolOp} {Q : Bool → Sto → Prop} (h : Q (op == .And) σ) : BLs c op [] ρ σ Q := fun _ _ _ I _ => Sp.pure ⟨σ, I, h⟩
noncomputable abbrev KAnd (c : Cx) (es : List Expr) (ρ : Rho) (Q : Bool → Sto → Prop) : Bool → Sto → Prop := fun b σ₁ => if b then BLs c .And es ρ σ₁ Q else Q false σ₁
noncomputable abbrev KOr (c : Cx) (es : List Expr) (ρ : Rho) (Q : Bool → Sto → Prop) : Bool → Sto → Prop := fun b σ₁ => if b then Q true σ₁ else BLs c .Or es ρ σ₁ Q
theorem bls_and {e : Expr} {es : List Expr} {Q : Bool → Sto → Prop} (h : BWP c e ρ σ (KAnd c es ρ Q)) : BLs c .And (e :: es) ρ σ Q := by
  intro P s φ I F
  show c.Sp [] s φ (isTrue e c.env (eval e c.env) >>= fun b => match BoolOp.And, b with | .And, false => pure false | .Or, true => pure true | _, _ => allTrue .And es c.env) _
  refine (h P s φ I F).bind fun b s₁ φ₁ g₁ pp => exB pp fun σ₁ I₁ h₁ => ?_
  cases b with
  | true => exact h₁ P s₁ φ₁ I₁ (F.gr I g₁)
  | false => exact Sp.pure ⟨σ₁, I₁, h₁⟩
theorem bls_or {e : Expr} {es : List Expr} {Q : Bool → Sto → Prop} (h : BWP c e ρ σ (KOr c es ρ Q)) : BLs c .Or (e :: es) ρ σ Q := by
  intro P s φ I F
  show c.Sp [] s φ (isTrue e c.env (eval e c.env) >>= fun b => match BoolOp.Or, b with | .And, false => pure false | .Or, true => pure true | _, _ => allTrue .Or es c.env) _
  refine (h P s φ I F).bind fun b s₁ φ₁ g₁ pp => exB pp fun σ₁ I₁ h₁ => ?_
  cases b with
  | true => exact Sp.pure ⟨σ₁, I₁, h₁⟩
  | false => exact h₁ P s₁ φ₁ I₁ (F.gr I g₁)
/-- and, or as a value, of two -/
theorem ewp_or2 {x y : Expr} {pos : Pos} {Q : Post} (h : EWP c x ρ σ fun a σ₁ => TWP c a σ₁ fun b σ₂ => if b then Q a σ₂ else EWP c y ρ σ₂ Q) : EWP c (.BoolOp .Or [x, y] pos) ρ σ Q := by
  intro P s φ I F
  show c.Sp [] s φ (eval x c.env >>= fun v => standAt pos >>= fun _ => holding [v] (truthy v) >>= fun t => match BoolOp.Or, t with | .And, false | .Or, true => pure v | _, _ => eval y c.env) _
  refine (h P s φ I F).bind fun a s₁ φ₁ g₁ pp => pp.e fun pa σ₁ I₁ r₁ h₁ => Sp.stand (Sp.bind (Sp.hold (h₁ P s₁ φ₁ a I₁ r₁)) fun b s₂ φ₂ g₂ pp => exB pp fun σ₂ I₂ h₂ => ?_)
  cases b with
  | true => exact Sp.pure ⟨pa, σ₂, I₂, r₁.gr g₂, h₂⟩
  | false => exact h₂ P s₂ φ₂ I₂ ((F.gr I g₁).gr I₁ g₂)
theorem ewp_and2 {x y : Expr} {pos : Pos} {Q : Post} (h : EWP c x ρ σ fun a σ₁ => TWP c a σ₁ fun b σ₂ => if b then EWP c y ρ σ₂ Q else Q a σ₂) : EWP c (.BoolOp .And [x, y] pos) ρ σ Q := by
  intro P s φ I F
  show c.Sp [] s φ (eval x c.env >>= fun v => standAt pos >>= fun _ => holding [v] (truthy v) >>= fun t => match BoolOp.And, t with | .And, false | .Or, true => pure v | _, _ => eval y c.env) _
  refine (h P s φ I F).bind fun a s₁ φ₁ g₁ pp => pp.e fun pa σ₁ I₁ r₁ h₁ => Sp.stand (Sp.bind (Sp.hold (h₁ P s₁ φ₁ a I₁ r₁)) fun b s₂ φ₂ g₂ pp => exB pp fun σ₂ I₂ h₂ => ?_)
  cases b with
  | true => exact h₂ P s₂ φ₂ I₂ ((F.gr I g₁).gr I₁ g₂)
  | false => exact Sp.pure ⟨pa, σ₂, I₂, r₁.gr g₂, h₂⟩

/-! ### lists of expressions -/
theorem lwp_nil {Q : List PV → Sto → Prop} (q : Q [] σ) : LWP c [] ρ σ Q := fun _ _ _ _ I _ => Sp.pure ⟨[], σ, I, .nil, q⟩
theorem lwp_cons {e : Expr} {es : List Expr} {Q : List PV → Sto → Prop} (h : EWP c e ρ σ (KL c es ρ Q))
    (he : starEach (e :: es) c.env = (false, eval e c.env) :: starEach es c.env := by rfl) : LWP c (e :: es) ρ σ Q := by
  intro P s φ pos I F
  rw [he]
  show c.Sp [] s φ (eval e c.env >>= fun v => pure [v] >>= fun here => holding here (spliced (backTo pos (starEach es c.env))) >>= fun r => pure (here ++ r)) _
  refine (h P s φ I F).bind fun v s₁ φ₁ g₁ pp => pp.e fun pv σ₁ I₁ r₁ h₁ => Sp.bind (Sp.pure (Q := fun x s' φ' => x = [v] ∧ s' = s₁ ∧ φ' = φ₁) ⟨rfl, rfl, rfl⟩) fun x s' φ' _ ⟨e1, e2, e3⟩ => ?_
  subst e1 e2 e3
  refine Sp.bind (Sp.hold (h₁ P s' φ' pos I₁ (F.gr I g₁))) fun vs s₂ φ₂ g₂ pp => pp.e fun pvs σ₂ I₂ r₂ h₂ => ?_
  exact Sp.pure ⟨pv :: pvs, σ₂, I₂, .cons (r₁.gr g₂) r₂, h₂⟩
end
end Mine
namespace Mine
variable {G : Gd} {s : Shared} {φ : Phi} {P : List Addr} {σ : Sto} {c : Cx} {ρ : Rho}

theorem VRels.length {h : Heap} {l : List PV} : ∀ {vs : List Value}, VRels G h φ P l vs → vs.length = l.length :=
  List.rec (motive := fun l => ∀ {vs : List Value}, VRels G h φ P l vs → vs.length = l.length) (fun r => r.nilE fun q => q ▸ rfl) (fun _ _ ih _ r => r.consE fun _ _ q _ t => q ▸ congrArg (· + 1) (ih t)) l
theorem VRels.get {h : Heap} {l : List PV} : ∀ {vs : List Value}, VRels G h φ P l vs → ∀ {i : Nat} {p : PV}, l[i]? = some p → ∃ v, vs[i]? = some v ∧ VRel G h φ P p v := by
  induction l with
  | nil => intro vs r i p e; cases e
  | cons p ps ih =>
    intro vs r i p e
    refine r.consE fun v w q a t => ?_
    subst q
    cases i with
    | zero => cases e; exact ⟨v, rfl, a⟩
    | succ i => exact ih t e
theorem VRels.append {h : Heap} {l l' : List PV} {vs vs' : List Value} (r : VRels G h φ P l vs) (r' : VRels G h φ P l' vs') : VRels G h φ P (l ++ l') (vs ++ vs') :=
  List.rec (motive := fun l => ∀ vs : List Value, VRels G h φ P l vs → VRels G h φ P (l ++ l') (vs ++ vs')) (fun _ r => r.nilE fun q => q ▸ r') (fun _ _ ih _ r => r.consE fun _ _ q a t => q ▸ .cons a (ih _ t)) l vs r

noncomputable def rset (x : Str) (v : PV) : Rho → Rho
  | [] => [(x, v)]
  | (y, w) :: r => if x == y then (y, v) :: r else (y, w) :: rset x v r
theorem lk_eq {α : Type} {x : Str} {p : α} {r : List (Str × α)} : List.lookup x ((x, p) :: r) = some p := by rw [List.lookup_cons, beq_self_eq_true]
theorem lk_ne {α : Type} {x k : Str} {p : α} {r : List (Str × α)} (h : k ≠ x) : List.lookup x ((k, p) :: r) = List.lookup x r := by rw [List.lookup_cons, beq_eq_false_iff_ne.mpr (Ne.symm h)]
theorem rset_eq {x : Str} {v w : PV} {r : Rho} : rset x v ((x, w) :: r) = (x, v) :: r := if_pos (beq_self_eq_true x)
theorem rset_no {x k : Str} {v w : PV} {r : Rho} (h : k ≠ x) : rset x v ((k, w) :: r) = (k, w) :: rset x v r := if_neg fun z => h (beq_iff_eq.mp z).symm
theorem rset_self (x : Str) (v : PV) (ρ : Rho) : (rset x v ρ).lookup x = some v := by
  induction ρ with
  | nil => exact lk_eq
  | cons f r ih =>
    obtain ⟨k, w⟩ := f
    by_cases hk : k = x
    · subst hk; rw [rset_eq, lk_eq]
    · rw [rset_no hk, lk_ne hk]; exact ih
theorem rset_ne (x y : Str) (v : PV) (hne : y ≠ x) (ρ : Rho) : (rset x v ρ).lookup y = ρ.lookup y := by
  induction ρ with
  | nil => exact lk_ne (Ne.symm hne)
  | cons f r ih =>
    obtain ⟨k, w⟩ := f
    by_cases hk : k = x
    · subst hk; rw [rset_eq, lk_ne (Ne.symm hne), lk_ne (Ne.symm hne)]
    · rw [rset_no hk]
      by_cases hy : k = y
      · subst hy; rw [lk_eq, lk_eq]
      · rw [lk_ne hy, lk_ne hy]; exact ih

theorem FrameAt.setLocal {env : Env} (f : FrameAt G env P s.heap φ ρ) {x : Str} {v : PV} {val : Value} {h' : Heap} {m} (hm : s.heap.Ns env.locals m) (hv : ∀ x v, ρ.lookup x = some v → env.kindOf x = some .local → ∃ val, m x = some val ∧ VRel G s.heap φ P v val)
    (hk : env.kindOf x = some .local) (hn : h'.Ns env.locals (fun y => if y = x then some val else m y)) (hs : Heap.SameBut env.locals s.heap h') (r : VRel G s.heap φ P v val) : FrameAt G env P h' φ (rset x v ρ) := by
  have hL : env.locals ∈ P := f.own _ (by simp [ownA])
  have E : Ext s.heap φ P h' φ P := ⟨fun a o e q => ⟨(hs.2 a fun z => q.2 (z ▸ hL)).trans e, q⟩, fun _ _ e => e⟩
  refine ⟨f.kind, f.glob, f.blt, ⟨_, hn, fun y w e1 e2 => ?_⟩, fun y a e => ?_, fun y w e1 => ?_, f.inj, f.own⟩
  · by_cases hy : y = x
    · subst hy; rw [rset_self] at e1; cases e1; exact ⟨val, by simp, r.ext E⟩
    · rw [rset_ne _ _ _ hy] at e1; obtain ⟨z, q1, q2⟩ := hv y w e1 e2; exact ⟨z, by simp [hy, q1], q2.ext E⟩
  · obtain ⟨z, q⟩ := f.cell y a e; exact ⟨z, isCell_keep q fun o e => (hs.2 _ (Ne.symm (ns_cell_ne hm q))).trans e⟩
  · by_cases hy : y = x
    · subst hy; exact .inl hk
    · rw [rset_ne _ _ _ hy] at e1
      exact (f.val y w e1).imp id (by rintro ⟨q, a, z, q1, q2, q3⟩; exact ⟨q, a, z, q1, isCell_keep q2 fun o e => (hs.2 _ (Ne.symm (ns_cell_ne hm q2))).trans e, q3.ext E⟩)

theorem FrameAt.setCell {env : Env} (f : FrameAt G env P s.heap φ ρ) {x : Str} {v : PV} {val : Value} {h' : Heap} {a : Addr} (hk : env.kindOf x = some .cell) (ha : env.cells.lookup x = some a)
    (hn : h'.IsCell a (some val)) (hs : Heap.SameBut a s.heap h') (r : VRel G s.heap φ P v val) : FrameAt G env P h' φ (rset x v ρ) := by
  have hL : a ∈ P := f.own _ (List.mem_cons_of_mem _ (lookup_mem_map ha))
  have E : Ext s.heap φ P h' φ P := ⟨fun b o e q => ⟨(hs.2 b fun z => q.2 (z ▸ hL)).trans e, q⟩, fun _ _ e => e⟩
  obtain ⟨m, hm, hv⟩ := f.ns
  obtain ⟨v0, hc0⟩ := f.cell x a ha
  have other : ∀ y b, env.cells.lookup y = some b → y ≠ x → b ≠ a := fun y b e hy z => hy (f.inj y x a (z ▸ e) ha)
  refine ⟨f.kind, f.glob, f.blt, ⟨m, ns_keep hm fun o e => (hs.2 _ (ns_cell_ne hm hc0)).trans e, fun y w e1 e2 => ?_⟩, fun y b e => ?_, fun y w e1 => ?_, f.inj, f.own⟩
  · by_cases hy : y = x
    · subst hy; rw [hk] at e2; cases e2
    · rw [rset_ne _ _ _ hy] at e1; obtain ⟨z, q1, q2⟩ := hv y w e1 e2; exact ⟨z, q1, q2.ext E⟩
  · by_cases hy : y = x
    · subst hy; rw [ha] at e; cases e; exact ⟨_, hn⟩
    · obtain ⟨z, q⟩ := f.cell y b e; exact ⟨z, isCell_keep q fun o e' => (hs.2 _ (other y b e hy)).trans e'⟩
  · by_cases hy : y = x
    · subst hy; rw [rset_self] at e1; cases e1; exact .inr ⟨.inl hk, a, val, ha, hn, r.ext E⟩
    · rw [rset_ne _ _ _ hy] at e1
      exact (f.val y w e1).imp id (by rintro ⟨q, b, z, q1, q2, q3⟩; exact ⟨q, b, z, q1, isCell_keep q2 fun o e => (hs.2 _ (other y b q1 hy)).trans e, q3.ext E⟩)

noncomputable def Owns (env : Env) (own : List Addr) (x : Str) : Prop := (env.kindOf x = some .local ∧ env.locals ∈ own) ∨ (env.kindOf x = some .cell ∧ ∃ a, env.cells.lookup x = some a ∧ a ∈ own)

theorem Sp_bindName {own : List Addr} {x : Str} {v : PV} {val : Value} {Q : Unit → Shared → Phi → Prop} (I : Inv c.G s φ P σ) (F : FrameAt c.G c.env P s.heap φ ρ) (r : VRel c.G s.heap φ P v val)
    (hk : Owns c.env own x) (q : ∀ s', Inv c.G s' φ P σ → FrameAt c.G c.env P s'.heap φ (rset x v ρ) → Q () s' φ) : c.Sp own s φ (bindName c.env x val) Q := by
  intro A hA R E hR
  refine wpAny_bindName ?_
  rcases hk with ⟨hk, ho⟩ | ⟨hk, a, ha, ho⟩
  · obtain ⟨m, hm, hv⟩ := F.ns
    have hL : c.env.locals ∈ P := F.own _ (by simp [ownA])
    refine wpAny_storeName_local hk hm (fun h' hn hs => ?_) (by rw [F.kind]; rfl)
    have al : ∃ o, h'.get? c.env.locals = some o := by obtain ⟨o, _, _, e, _⟩ := hn; exact ⟨o, e⟩
    exact hR _ _ φ (Gr.other hs (.inl ho) al) (q _ (I.other hs hL al) (F.setLocal hm hv hk hn hs r))
  · have hL : a ∈ P := F.own _ (List.mem_cons_of_mem _ (lookup_mem_map ha))
    obtain ⟨v0, hc0⟩ := F.cell x a ha
    refine wpAny_storeName_cell F.kind hk ha hc0 fun h' hn hs => ?_
    have al : ∃ o, h'.get? a = some o := hn.imp fun _ q => q.1
    exact hR _ _ φ (Gr.other (t := s.toks) hs (.inl ho) al) (q _ (I.other (t := s.toks) hs hL al) (F.setCell hk ha hn hs r))

theorem awp_name {own : List Addr} {x : Str} {pos : Pos} {v : PV} {Q : Rho → Sto → Prop} (hk : Owns c.env own x) (q : Q (rset x v ρ) σ) : AWP c own (.Name x pos) v ρ σ Q := by
  intro P s φ val I F r
  show c.Sp own s φ (standAt pos >>= fun _ => bindName c.env x val) _
  exact Sp.stand (Sp_bindName I F r hk fun s' I' F' => ⟨_, _, I', F', q⟩)
theorem owns_local {x : Str} (hk : c.env.kindOf x = some .local) : Owns c.env (ownA c.env) x := .inl ⟨hk, by simp [ownA]⟩
theorem owns_cell {x : Str} (hk : c.env.kindOf x = some .cell) (hc : (c.env.cells.lookup x).isSome = true) : Owns c.env (ownA c.env) x :=
  let ⟨a, ha⟩ := Option.isSome_iff_exists.mp hc; .inr ⟨hk, a, ha, List.mem_cons_of_mem _ (lookup_mem_map ha)⟩
theorem owns_comp {x : Str} (hk : c.env.kindOf x = some .local) : Owns c.env [c.env.locals] x := .inl ⟨hk, by simp⟩

/-! ### statements -/
noncomputable abbrev KS (c : Cx) (rest : List Stmt) (Qn : Rho → Sto → Prop) (Qr : Post) : Rho → Sto → Prop := fun ρ₁ σ₁ => SWP c rest ρ₁ σ₁ Qn Qr
noncomputable abbrev KSIf (c : Cx) (a b : List Stmt) (ρ : Rho) (Qn : Rho → Sto → Prop) (Qr : Post) : Bool → Sto → Prop := fun x σ₁ => if x then SWP c a ρ σ₁ Qn Qr else SWP c b ρ σ₁ Qn Qr
noncomputable abbrev KN (ρ : Rho) (Qn : Rho → Sto → Prop) : Post := fun _ σ₁ => Qn ρ σ₁
noncomputable abbrev KA (c : Cx) (own : List Addr) (t : Expr) (ρ : Rho) (Qn : Rho → Sto → Prop) : Post := fun v σ₁ => AWP c own t v ρ σ₁ Qn
theorem swp_nil {Qn : Rho → Sto → Prop} {Qr : Post} (q : Qn ρ σ) : SWP c [] ρ σ Qn Qr := fun P s φ I F => Sp.pure ⟨ρ, σ, I, F, q⟩
theorem swp_cons {st : Stmt} {rest : List Stmt} {Qn : Rho → Sto → Prop} {Qr : Post} (h : S1WP c st ρ σ (KS c rest Qn Qr) Qr) : SWP c (st :: rest) ρ σ Qn Qr := by
  intro P s φ I F
  show c.Sp _ s φ (exec st c.env >>= fun f => match f with | .next => execs rest c.env | f => pure f) _
  refine (h P s φ I F).bind fun fl s₁ φ₁ g₁ p => ?_
  cases fl with
  | next => obtain ⟨ρ₁, σ₁, I₁, F₁, h₁⟩ := p; exact h₁ P s₁ φ₁ I₁ F₁
  | ret v => exact Sp.pure p
  | brk => exact p.elim
  | cont => exact p.elim
theorem s1_return {e : Expr} {pos : Pos} {Qn : Rho → Sto → Prop} {Qr : Post} (h : EWP c e ρ σ Qr) : S1WP c (.Return (some e) pos) ρ σ Qn Qr := by
  intro P s φ I F
  show c.Sp _ s φ (standAt pos >>= fun _ => eval e c.env >>= fun v => pure (Flow.ret v)) _
  exact Sp.stand (((h P s φ I F).more fun _ z => nomatch z).bind fun v s₁ φ₁ g₁ p => Sp.pure p)
theorem s1_if {t : Expr} {a b : List Stmt} {pos : Pos} {Qn : Rho → Sto → Prop} {Qr : Post} (h : BWP c t ρ σ (KSIf c a b ρ Qn Qr)) : S1WP c (.If t a b pos) ρ σ Qn Qr := by
  intro P s φ I F
  show c.Sp _ s φ (standAt pos >>= fun _ => isTrue t c.env (eval t c.env) >>= fun x => if x = true then execs a c.env else execs b c.env) _
  refine Sp.stand (Sp.bind (((h P s φ I F).mono fun x s₁ φ₁ g₁ p => And.intro g₁ p).more fun _ z => nomatch z) fun x s₁ φ₁ _ pp => ?_)
  obtain ⟨g₁, σ₁, I₁, h₁⟩ := pp
  cases x with
  | true => exact h₁ P s₁ φ₁ I₁ (F.gr I g₁)
  | false => exact h₁ P s₁ φ₁ I₁ (F.gr I g₁)
theorem s1_expr {e : Expr} {pos : Pos} {Qn : Rho → Sto → Prop} {Qr : Post} (h : EWP c e ρ σ (KN ρ Qn)) (hi : interactive c.env = false := by rfl) (hs : swapsWith e none pos.line c.env = pure false := by rfl) : S1WP c (.Expr e pos) ρ σ Qn Qr := by
  intro P s φ I F
  refine Sp.of fun A hA R E hR => wpAny_Expr_any (h P s φ I F A hA _ E fun v s₁ φ₁ g₁ pp => pp.e fun pv σ₁ I₁ r₁ h₁ => ?_) hi hs
  exact hR _ _ _ (g₁.weaken fun _ z => nomatch z) ⟨ρ, σ₁, I₁, F.gr I g₁, h₁⟩

/-- a store of one value into one target -/
theorem s1_assign1 {t e : Expr} {pos : Pos} {Qn : Rho → Sto → Prop} {Qr : Post} (h : EWP c e ρ σ (KA c (ownA c.env) t ρ Qn))
    (hs : swapsWithSole [t] e pos.line c.env = pure false := by rfl) (hw : swappedStores [t] e c.env = pure none := by rfl) (he : assignEach [t] c.env = [(false, assign t c.env)] := by rfl) : S1WP c (.Assign [t] e pos) ρ σ Qn Qr := by
  intro P s φ I F
  refine Sp.of fun A hA R E hR => wpAny_Assign_stores ?_ hs hw
  rw [he]
  refine h P s φ I F A hA _ E fun v s₁ φ₁ g₁ pp => pp.e fun pv σ₁ I₁ r₁ h₁ => ?_
  exact h₁ P s₁ φ₁ v I₁ (F.gr I g₁) r₁ A hA _ E fun _ s₂ φ₂ g₂ p => hR _ _ _ ((g₁.weaken fun _ z => nomatch z).trans g₂) p

/-- several targets in order -/
noncomputable def ALs (c : Cx) (own : List Addr) : List Expr → List PV → Rho → Sto → (Rho → Sto → Prop) → Prop
  | t :: ts, v :: vs, ρ, σ, Q => AWP c own t v ρ σ fun ρ' σ' => ALs c own ts vs ρ' σ' Q
  | [], [], ρ, σ, Q => Q ρ σ
  | _, _, _, _, _ => False
theorem als_run {own : List Addr} (hown : ∀ a ∈ own, a ∈ ownA c.env) {Q : Rho → Sto → Prop} : ∀ (ts : List Expr) {ps : List PV} {vs : List Value} {s : Shared} {φ : Phi} {ρ : Rho} {σ : Sto}, ALs c own ts ps ρ σ Q → Inv c.G s φ P σ → FrameAt c.G c.env P s.heap φ ρ → VRels c.G s.heap φ P ps vs →
    c.Sp own s φ (assignInOrder (ts.map fun t => assign t c.env) vs) (fun _ s' φ' => ∃ ρ' σ', Inv c.G s' φ' P σ' ∧ FrameAt c.G c.env P s'.heap φ' ρ' ∧ Q ρ' σ') := by
  intro ts
  induction ts with
  | nil =>
    intro ps vs s φ ρ σ h I F r
    cases ps with
    | nil => exact Sp.pure ⟨ρ, σ, I, F, h⟩
    | cons p ps => exact False.elim h
  | cons t ts ih =>
    intro ps vs s φ ρ σ h I F r
    cases ps with
    | nil => exact False.elim h
    | cons p ps =>
      refine r.consE fun v vs q a rs => ?_
      subst q
      refine Sp.bind (Sp.hold (h P s φ v I F a)) fun _ s₁ φ₁ g₁ pp => ?_
      obtain ⟨ρ₁, σ₁, I₁, F₁, h₁⟩ := pp
      exact ih h₁ I₁ F₁ (rs.ext (g₁.ext fun a q => F.own a (hown a q)))

theorem awp_tuple {own : List Addr} (hown : ∀ a ∈ own, a ∈ ownA c.env) {ts : List Expr} {n : Nat} {pos : Pos} {ps : List PV} {Q : Rho → Sto → Prop} (h : ALs c own ts ps ρ σ Q) (hl : ts.length = ps.length)
    (he : assignEach ts c.env = ts.map fun t => (false, assign t c.env)) : AWP c own (.Tuple ts n pos) (.tup ps) ρ σ Q := by
  intro P s φ val I F r
  refine r.tupE fun a vs m vq e f rs => ?_
  subst vq
  refine Sp.of fun A hA R E hR => ?_
  have hT : s.heap.IsTuple a vs.toArray := ⟨_, e, rfl, m, rfl⟩
  refine wpAny_assign_Tuple (items := vs.toArray) hA.1 hT (by rw [he, List.length_map, hl, List.size_toArray, rs.length]) (by rw [he, List.findIdx?_eq_none_iff]; intro x hx; obtain ⟨t, _, rfl⟩ := List.mem_map.mp hx; rfl) fun h' ext => ?_
  have k : ∀ b o, s.heap.get? b = some o → h'.get? b = some o := fun b o q => ext b o (Nat.ne_of_lt (Heap.lt_size q)) q
  rw [he, List.map_map]
  exact als_run hown ts (s := hs s h' s.toks) h (I.keepAll k) (F.keep (Ext.of_keepP (N := []) k fun _ z => nomatch z) (fun a _ => k a) fun _ z => z) (rs.ext (Ext.of_keepP (N := []) k fun _ z => nomatch z)) A hA R E fun x s' φ' g q => hR x s' φ' ((Gr.keepAll k).trans g) q
end Mine
namespace Mine
variable {G : Gd} {s : Shared} {φ : Phi} {P : List Addr} {σ : Sto} {c : Cx} {ρ : Rho}

/-! ### values without late references; freezing -/
inductive LT
  | v (p : PV)
  | l (p : List PV)
  | s (p : List (Str × PV))
  | t (p : List (List Int × PV))
inductive Lw (n : Nat) : LT → Prop
  | none : Lw n (.v .none)
  | bool {b : Bool} : Lw n (.v (.bool b))
  | int {i : Int} : Lw n (.v (.int i))
  | str {x : Str} : Lw n (.v (.str x))
  | cst {v : Value} : Lw n (.v (.cst v))
  | tup {l : List PV} : Lw n (.l l) → Lw n (.v (.tup l))
  | lst {l : List PV} : Lw n (.l l) → Lw n (.v (.lst l))
  | sd {d : List (Str × PV)} : Lw n (.s d) → Lw n (.v (.sd d))
  | td {d : List (List Int × PV)} : Lw n (.t d) → Lw n (.v (.td d))
  | inst {C : Addr} {fs : List (Str × PV)} : Lw n (.s fs) → Lw n (.v (.inst C fs))
  | rng {a b : Int} : Lw n (.v (.rng a b))
  | ref {m : Nat} : m < n → Lw n (.v (.ref m))
  | ln : Lw n (.l [])
  | lc {p : PV} {ps : List PV} : Lw n (.v p) → Lw n (.l ps) → Lw n (.l (p :: ps))
  | sn : Lw n (.s [])
  | sc {k : Str} {p : PV} {ps : List (Str × PV)} : Lw n (.v p) → Lw n (.s ps) → Lw n (.s ((k, p) :: ps))
  | tn : Lw n (.t [])
  | tc {k : List Int} {p : PV} {ps : List (List Int × PV)} : Lw n (.v p) → Lw n (.t ps) → Lw n (.t ((k, p) :: ps))
noncomputable def Low (n : Nat) (p : PV) : Prop := Lw n (.v p)
noncomputable def LowL (n : Nat) (p : List PV) : Prop := Lw n (.l p)
noncomputable def LowS (n : Nat) (p : List (Str × PV)) : Prop := Lw n (.s p)
noncomputable def LowT (n : Nat) (p : List (List Int × PV)) : Prop := Lw n (.t p)
section
variable {n : Nat}
theorem Low.none : Low n .none := Lw.none
theorem Low.bool {b : Bool} : Low n (.bool b) := Lw.bool
theorem Low.int {i : Int} : Low n (.int i) := Lw.int
theorem Low.str {x : Str} : Low n (.str x) := Lw.str
theorem Low.cst {v : Value} : Low n (.cst v) := Lw.cst
theorem Low.tup {l : List PV} (h : LowL n l) : Low n (.tup l) := Lw.tup h
theorem Low.lst {l : List PV} (h : LowL n l) : Low n (.lst l) := Lw.lst h
theorem Low.sd {d : List (Str × PV)} (h : LowS n d) : Low n (.sd d) := Lw.sd h
theorem Low.td {d : List (List Int × PV)} (h : LowT n d) : Low n (.td d) := Lw.td h
theorem Low.inst {C : Addr} {fs : List (Str × PV)} (h : LowS n fs) : Low n (.inst C fs) := Lw.inst h
theorem Low.rng {a b : Int} : Low n (.rng a b) := Lw.rng
theorem Low.ref {m : Nat} (h : m < n) : Low n (.ref m) := Lw.ref h
theorem LowL.nil : LowL n [] := Lw.ln
theorem LowL.cons {p : PV} {ps : List PV} (a : Low n p) (r : LowL n ps) : LowL n (p :: ps) := Lw.lc a r
theorem LowS.nil : LowS n [] := Lw.sn
theorem LowS.cons {k : Str} {p : PV} {ps : List (Str × PV)} (a : Low n p) (r : LowS n ps) : LowS n ((k, p) :: ps) := Lw.sc a r
theorem LowT.nil : LowT n [] := Lw.tn
theorem LowT.cons {k : List Int} {p : PV} {ps : List (List Int × PV)} (a : Low n p) (r : LowT n ps) : LowT n ((k, p) :: ps) := Lw.tc a r
noncomputable def LwInv (n : Nat) (x : LT) : Prop := LT.casesOn x
  (fun p => PV.casesOn p True (fun _ => True) (fun _ => True) (fun _ => True) (fun _ => True) (LowL n) (LowL n) (LowS n) (LowT n) (fun _ => LowS n) (fun _ _ => True) (fun m => m < n))
  (fun l => List.casesOn l True fun p ps => Low n p ∧ LowL n ps) (fun l => List.casesOn l True fun p ps => Low n p.2 ∧ LowS n ps) (fun l => List.casesOn l True fun p ps => Low n p.2 ∧ LowT n ps)
theorem Lw.inv {x : LT} (r : Lw n x) : LwInv n x :=
  Lw.rec (motive := fun x _ => LwInv n x) trivial trivial trivial trivial trivial (fun h _ => h) (fun h _ => h) (fun h _ => h) (fun h _ => h) (fun h _ => h) trivial (fun h => h) trivial (fun a r _ _ => ⟨a, r⟩) trivial (fun a r _ _ => ⟨a, r⟩) trivial (fun a r _ _ => ⟨a, r⟩) r
theorem Low.tupE {l : List PV} (h : Low n (.tup l)) : LowL n l := Lw.inv h
theorem Low.lstE {l : List PV} (h : Low n (.lst l)) : LowL n l := Lw.inv h
theorem Low.sdE {l : List (Str × PV)} (h : Low n (.sd l)) : LowS n l := Lw.inv h
theorem Low.tdE {l : List (List Int × PV)} (h : Low n (.td l)) : LowT n l := Lw.inv h
theorem Low.instE {C : Addr} {l : List (Str × PV)} (h : Low n (.inst C l)) : LowS n l := Lw.inv h
theorem Low.refE {m : Nat} (h : Low n (.ref m)) : m < n := Lw.inv h
theorem LowL.consE {p : PV} {ps : List PV} (h : LowL n (p :: ps)) : Low n p ∧ LowL n ps := Lw.inv h
theorem LowS.consE {p : Str × PV} {ps : List (Str × PV)} (h : LowS n (p :: ps)) : Low n p.2 ∧ LowS n ps := Lw.inv h
theorem LowT.consE {p : List Int × PV} {ps : List (List Int × PV)} (h : LowT n (p :: ps)) : Low n p.2 ∧ LowT n ps := Lw.inv h
end
noncomputable def lowOf : RT → LT
  | .v p _ => .v p
  | .l p _ => .l p
  | .s p _ => .s p
  | .t p _ => .t p
  | .e p _ => .s p
noncomputable def LowO (n : Nat) : PO → Prop
  | .list l => LowL n l
  | .sdict d => LowS n d
  | .inst _ fs => LowS n fs

theorem Rel.low {h : Heap} {x : RT} (r : Rel G h φ P x) : Lw φ.length (lowOf x) :=
  Rel.rec (motive := fun x _ => Lw φ.length (lowOf x)) .none .bool .int .str (fun _ => .cst) (fun _ _ _ => .tup) (fun _ _ _ => .lst) (fun _ _ _ _ => .sd) (fun _ _ _ _ _ => .td) (fun _ _ _ _ _ => .inst) (fun _ _ => .rng) (fun e => .ref (List.getElem?_eq_some_iff.mp e).1)
    .ln (fun _ _ => .lc) .sn (fun _ _ => .sc) .tn (fun _ _ => .tc) .sn (fun _ _ => .sc) r
theorem VRel.low {h : Heap} {p : PV} {v : Value} (r : VRel G h φ P p v) : Low φ.length p := Rel.low r
theorem VRels.low {h : Heap} {p : List PV} {v : List Value} (r : VRels G h φ P p v) : LowL φ.length p := Rel.low r
theorem VSP.low {h : Heap} {p : List (Str × PV)} {v : List (Str × Value)} (r : VSP G h φ P p v) : LowS φ.length p := Rel.low r
theorem VTP.low {h : Heap} {p : List (List Int × PV)} {v : List (List Int × Addr × Value)} (r : VTP G h φ P p v) : LowT φ.length p := Rel.low r
theorem VEnts.low {h : Heap} {p : List (Str × PV)} {v : List DictEntry} (r : VEnts G h φ P p v) : LowS φ.length p := Rel.low r
theorem ORel.low {h : Heap} {o : PO} {p : Addr × Addr} (r : ORel G h φ P o p) : LowO φ.length o := by
  cases o with
  | list l => obtain ⟨_, _, _, r, _⟩ := r; exact r.low
  | sdict d => obtain ⟨_, _, r, _⟩ := r; exact r.low
  | inst C fs => obtain ⟨_, _, _, _, r⟩ := r; exact r.low

/-- what the store and the frames have shrunk from -/
structure Back (φ : Phi) (P : List Addr) (φ' : Phi) (P' : List Addr) : Prop where
  phi : ∃ ψ, φ' = φ ++ ψ
  sub : ∀ a ∈ P, a ∈ P'
theorem Back.frz {φ' : Phi} {P' : List Addr} (B : Back φ P φ' P') {a : Addr} (f : Frz φ' P' a) : Frz φ P a := by
  obtain ⟨ψ, rfl⟩ := B.phi
  exact ⟨fun q => f.1 (by rw [adr_append]; exact List.mem_append_left _ q), fun q => f.2 (B.sub a q)⟩

section
variable {h : Heap} {φ' : Phi} {P' : List Addr}
theorem Back.ref (B : Back φ P φ' P') {n : Nat} {p : Addr × Addr} (e : φ'[n]? = some p) (l : n < φ.length) : φ[n]? = some p := by
  obtain ⟨ψ, rfl⟩ := B.phi
  rw [List.getElem?_append_left l] at e; exact e
theorem Rel.back (B : Back φ P φ' P') {x : RT} (l : Lw φ.length (lowOf x)) (r : Rel G h φ' P' x) : Rel G h φ P x :=
  Rel.rec (motive := fun x _ => Lw φ.length (lowOf x) → Rel G h φ P x) (fun _ => .none) (fun _ => .bool) (fun _ => .int) (fun _ => .str) (fun q _ => .cst q)
    (fun e f _ ih l => .tup e (B.frz f) (ih (Low.tupE l))) (fun e f _ ih l => .lst e (B.frz f) (ih (Low.lstE l))) (fun e f z _ ih l => .sd e (B.frz f) z (ih (Low.sdE l)))
    (fun e f z g _ ih l => .td e (B.frz f) z (fun x q => B.frz (g x q)) (ih (Low.tdE l))) (fun e1 e2 f1 f2 _ ih l => .inst e1 e2 (B.frz f1) (B.frz f2) (ih (Low.instE l)))
    (fun e f _ => .rng e (B.frz f)) (fun e l => .ref (B.ref e (Low.refE l)))
    (fun _ => .ln) (fun _ _ i j l => .lc (i (LowL.consE l).1) (j (LowL.consE l).2)) (fun _ => .sn) (fun _ _ i j l => .sc (i (LowS.consE l).1) (j (LowS.consE l).2))
    (fun _ => .tn) (fun _ _ i j l => .tc (i (LowT.consE l).1) (j (LowT.consE l).2)) (fun _ => .en) (fun _ _ i j l => .ec (i (LowS.consE l).1) (j (LowS.consE l).2)) r l
theorem Low.back (B : Back φ P φ' P') {p : PV} {v : Value} (l : Low φ.length p) (r : VRel G h φ' P' p v) : VRel G h φ P p v := Rel.back B (x := .v p v) l r
theorem LowL.back (B : Back φ P φ' P') {p : List PV} {v : List Value} (l : LowL φ.length p) (r : VRels G h φ' P' p v) : VRels G h φ P p v := Rel.back B (x := .l p v) l r
theorem LowS.backP (B : Back φ P φ' P') {p : List (Str × PV)} {v : List (Str × Value)} (l : LowS φ.length p) (r : VSP G h φ' P' p v) : VSP G h φ P p v := Rel.back B (x := .s p v) l r
theorem LowS.back (B : Back φ P φ' P') {p : List (Str × PV)} {v : List DictEntry} (l : LowS φ.length p) (r : VEnts G h φ' P' p v) : VEnts G h φ P p v := Rel.back B (x := .e p v) l r
end
/-! a value handed out of a call: what the call made is frozen -/
inductive FT
  | v (p q : PV)
  | l (p q : List PV)
  | s (p q : List (Str × PV))
inductive Fy (n : Nat) (σ : Sto) : FT → Prop
  | low {p : PV} : Low n p → Fy n σ (.v p p)
  | tup {l l' : List PV} : Fy n σ (.l l l') → Fy n σ (.v (.tup l) (.tup l'))
  | lst {l l' : List PV} : Fy n σ (.l l l') → Fy n σ (.v (.lst l) (.lst l'))
  | rlist {m : Nat} {l l' : List PV} : n ≤ m → σ[m]? = some (.list l) → Fy n σ (.l l l') → Fy n σ (.v (.ref m) (.lst l'))
  | rdict {m : Nat} {d d' : List (Str × PV)} : n ≤ m → σ[m]? = some (.sdict d) → Fy n σ (.s d d') → Fy n σ (.v (.ref m) (.sd d'))
  | rinst {m : Nat} {C : Addr} {d d' : List (Str × PV)} : n ≤ m → σ[m]? = some (.inst C d) → Fy n σ (.s d d') → Fy n σ (.v (.ref m) (.inst C d'))
  | llow {l : List PV} : LowL n l → Fy n σ (.l l l)
  | ln : Fy n σ (.l [] [])
  | lc {p p' : PV} {ps ps' : List PV} : Fy n σ (.v p p') → Fy n σ (.l ps ps') → Fy n σ (.l (p :: ps) (p' :: ps'))
  | slow {l : List (Str × PV)} : LowS n l → Fy n σ (.s l l)
  | sn : Fy n σ (.s [] [])
  | sc {k : Str} {p p' : PV} {ps ps' : List (Str × PV)} : Fy n σ (.v p p') → Fy n σ (.s ps ps') → Fy n σ (.s ((k, p) :: ps) ((k, p') :: ps'))
noncomputable def Fz (n : Nat) (σ : Sto) (p q : PV) : Prop := Fy n σ (.v p q)
noncomputable def FzL (n : Nat) (σ : Sto) (p q : List PV) : Prop := Fy n σ (.l p q)
noncomputable def FzS (n : Nat) (σ : Sto) (p q : List (Str × PV)) : Prop := Fy n σ (.s p q)
section
variable {n : Nat} {σ : Sto}
theorem Fz.low {p : PV} (h : Low n p) : Fz n σ p p := Fy.low h
theorem Fz.tup {l l' : List PV} (h : FzL n σ l l') : Fz n σ (.tup l) (.tup l') := Fy.tup h
theorem Fz.lst {l l' : List PV} (h : FzL n σ l l') : Fz n σ (.lst l) (.lst l') := Fy.lst h
theorem Fz.rlist {m : Nat} {l l' : List PV} (a : n ≤ m) (b : σ[m]? = some (.list l)) (h : FzL n σ l l') : Fz n σ (.ref m) (.lst l') := Fy.rlist a b h
theorem Fz.rdict {m : Nat} {d d' : List (Str × PV)} (a : n ≤ m) (b : σ[m]? = some (.sdict d)) (h : FzS n σ d d') : Fz n σ (.ref m) (.sd d') := Fy.rdict a b h
theorem Fz.rinst {m : Nat} {C : Addr} {d d' : List (Str × PV)} (a : n ≤ m) (b : σ[m]? = some (.inst C d)) (h : FzS n σ d d') : Fz n σ (.ref m) (.inst C d') := Fy.rinst a b h
theorem FzL.low {l : List PV} (h : LowL n l) : FzL n σ l l := Fy.llow h
theorem FzL.nil : FzL n σ [] [] := Fy.ln
theorem FzL.cons {p p' : PV} {ps ps' : List PV} (a : Fz n σ p p') (r : FzL n σ ps ps') : FzL n σ (p :: ps) (p' :: ps') := Fy.lc a r
theorem FzS.low {l : List (Str × PV)} (h : LowS n l) : FzS n σ l l := Fy.slow h
theorem FzS.nil : FzS n σ [] [] := Fy.sn
theorem FzS.cons {k : Str} {p p' : PV} {ps ps' : List (Str × PV)} (a : Fz n σ p p') (r : FzS n σ ps ps') : FzS n σ ((k, p) :: ps) ((k, p') :: ps') := Fy.sc a r
end
/-- what the freezing of a pair says -/
noncomputable def FSay (G : Gd) (h : Heap) (φ : Phi) (P : List Addr) (φ' : Phi) (P' : List Addr) (x : FT) : Prop := FT.casesOn x (fun p q => ∀ v, VRel G h φ' P' p v → VRel G h φ P q v) (fun p q => ∀ v, VRels G h φ' P' p v → VRels G h φ P q v)
  (fun p q => (∀ v, VSP G h φ' P' p v → VSP G h φ P q v) ∧ (∀ v, VEnts G h φ' P' p v → VEnts G h φ P q v))

section
variable {φ' : Phi} {P' : List Addr} {σ' : Sto}
theorem Back.late (B : Back φ P φ' P') (I : Inv G s φ' P' σ') {m : Nat} {p : Addr × Addr} (hm : φ.length ≤ m) (e : φ'[m]? = some p) : Frz φ P p.1 ∧ Frz φ P p.2 := by
  obtain ⟨ψ, rfl⟩ := B.phi
  have key : ∀ a, (a = p.1 ∨ a = p.2) → Frz φ P a := fun a ha => by
    refine ⟨fun q => ?_, fun q => I.disj a (by rcases ha with rfl | rfl; exact mem_adr1 (phi_mem e); exact mem_adr2 (phi_mem e)) (B.sub a q)⟩
    obtain ⟨q', hq, e'⟩ := of_mem_adr q
    obtain ⟨i, hi, e2⟩ := List.getElem_of_mem hq
    have e3 : (φ ++ ψ)[i]? = some q' := by rw [List.getElem?_append_left hi, List.getElem?_eq_getElem hi, e2]
    have d := I.inj m i p q' (by lia) e e3
    rcases ha with rfl | rfl <;> rcases e' with e' | e' <;> first | exact d.1 e' | exact d.2.1 e' | exact d.2.2.1 e' | exact d.2.2.2 e'
  exact ⟨key _ (.inl rfl), key _ (.inr rfl)⟩

theorem Back.sys (ok : G.Ok) (I : Inv G s φ' P' σ') {m : Nat} {p : Addr × Addr} (e : φ'[m]? = some p) : (p.1 == sysModules) = false := by
  obtain ⟨o, ho⟩ := ok.sysm
  rw [beq_eq_false_iff_ne]; intro z
  have := I.apart _ (.inl (mem_adr1 (phi_mem e)))
  rw [z, ho] at this; cases this
theorem Fz.sound (ok : G.Ok) (B : Back φ P φ' P') (I : Inv G s φ' P' σ') {p p' : PV} {v : Value} (f : Fz φ.length σ' p p') (r : VRel G s.heap φ' P' p v) : VRel G s.heap φ P p' v :=
  Fy.rec (n := φ.length) (σ := σ') (motive := fun x _ => FSay G s.heap φ P φ' P' x)
    (fun l _ r => l.back B r)
    (fun _ ih _ r => r.tupE fun _ _ _ q e f rs => q ▸ .tup e (B.frz f) (ih _ rs))
    (fun _ ih _ r => r.lstE fun _ _ _ q e f rs => q ▸ .lst e (B.frz f) (ih _ rs))
    (fun hm hσ _ ih _ r => r.refE fun _ q e => I.lstE e hσ fun _ _ e1 r1 _ => q ▸ .lst e1 (B.late I hm e).1 (ih _ r1))
    (fun hm hσ _ ih _ r => r.refE fun _ q e => I.dctE e hσ fun _ e1 r1 _ => q ▸ .sd e1 (B.late I hm e).1 (Back.sys ok I e) (ih.1 _ r1))
    (fun hm hσ _ ih _ r => r.refE fun _ q e => I.insE e hσ fun _ _ e1 e2 r1 => q ▸ .inst e1 e2 (B.late I hm e).1 (B.late I hm e).2 (ih.2 _ r1))
    (fun l _ r => l.back B r) (fun _ r => r.nilE fun q => q ▸ .nil) (fun _ _ ih ih2 _ r => r.consE fun _ _ q a t => q ▸ .cons (ih _ a) (ih2 _ t))
    (fun l => ⟨fun _ r => l.backP B r, fun _ r => l.back B r⟩) ⟨fun _ r => r.nilE fun q => q ▸ .nil, fun _ r => r.nilE fun q => q ▸ .nil⟩
    (fun _ _ ih ih2 => ⟨fun _ r => r.consE fun _ _ q a t => q ▸ .cons (ih _ a) (ih2.1 _ t), fun _ r => r.consE fun _ _ _ q a t => q ▸ .cons (ih _ a) (ih2.2 _ t)⟩) f v r
theorem LowO.back {h : Heap} (B : Back φ P φ' P') {o : PO} {p : Addr × Addr} (l : LowO φ.length o) (r : ORel G h φ' P' o p) : ORel G h φ P o p := by
  cases o with
  | list _ => obtain ⟨vs, n, e, r, e2⟩ := r; exact ⟨vs, n, e, LowL.back B l r, e2⟩
  | sdict _ => obtain ⟨kvs, e, r, e2⟩ := r; exact ⟨kvs, e, LowS.backP B l r, e2⟩
  | inst C _ => obtain ⟨es, n, e1, e2, r⟩ := r; exact ⟨es, n, e1, e2, LowS.back B l r⟩

/-- the state behind a call, seen by the caller -/
theorem Inv.back (B : Back φ P φ' P') (I : Inv G s φ' P' σ') (hl : ∀ i o, i < φ.length → σ'[i]? = some o → LowO φ.length o) : Inv G s φ P (σ'.take φ.length) := by
  obtain ⟨ψ, rfl⟩ := B.phi
  have le : φ.length ≤ σ'.length := by rw [← I.len, List.length_append]; lia
  refine ⟨I.base, fun a h => I.apart a (h.imp (fun q => by rw [adr_append]; exact List.mem_append_left _ q) (B.sub a)), fun a h q => I.disj a (by rw [adr_append]; exact List.mem_append_left _ h) (B.sub a q), fun a h => I.plow a (B.sub a h), ?_, fun i p o e1 e2 => ?_, fun m n p q h e1 e2 => I.inj m n p q h (phi_mono e1) (phi_mono e2)⟩
  · rw [List.length_take]; lia
  · have hi := (List.getElem?_eq_some_iff.mp e1).1
    rw [List.getElem?_take_of_lt hi] at e2
    exact (hl i o hi e2).back B (I.obj i p o (phi_mono e1) e2)
end

noncomputable def Leave (σ σ' : Sto) (v : PV) (Q : Post) : Prop := ∃ v', Fz σ.length σ' v v' ∧ (∀ i o, i < σ.length → σ'[i]? = some o → σ[i]? = some o ∨ LowO σ.length o) ∧ Q v' (σ'.take σ.length)
end Mine
namespace Mine
variable {G : Gd} {s : Shared} {φ : Phi} {P : List Addr} {σ : Sto} {c : Cx} {ρ : Rho}

structure FdOk (G : Gd) (fa : Addr) (fd : FuncData) (names : List Str) (body : List Stmt) : Prop where
  obj : ∃ oc od osl, G.K.lookup fa = some ⟨oc, od, .func fd, osl⟩
  code : codeIn G.K fd.code fd.qualname = true
  bdy : fd.body = .stmts body
  globals : fd.globals = mainGlobals
  builtins : fd.builtins = builtinsNs
  closure : fd.closure = []
  bind : ∀ vs : List Value, vs.length = names.length → bindArgs fd ⟨vs, []⟩ = pure (names.zip vs)
  kinds : (names.all fun n => fd.scope.names.lookup n == some .local || fd.scope.names.lookup n == some .cell) = true
  nodup : names.Nodup
  cells : ((cellsFrom 0 fd.scope.names []).map (·.1)).Nodup
  co : fd.scope.isCoroutine = false
  gen : fd.scope.isGenerator = false
  kind : fd.scope.kind = .function

theorem cellsFrom_names : ∀ (names : List (Str × NameKind)) (n k : Nat) (acc acc' : List (Str × Addr)), acc.map (·.1) = acc'.map (·.1) → (cellsFrom n names acc).map (·.1) = (cellsFrom k names acc').map (·.1)
  | [], _, _, _, _, e => e
  | (x, kd) :: r, n, k, acc, acc', e => by
    unfold cellsFrom
    split
    · exact cellsFrom_names r _ _ _ _ (by simp [e])
    · exact cellsFrom_names r _ _ _ _ e
theorem lookup_of_nodup : ∀ {l : List (Str × Addr)} {x : Str} {a : Addr}, (l.map (·.1)).Nodup → (x, a) ∈ l → l.lookup x = some a
  | (y, b) :: r, x, a, hn, hm => by
    rw [List.map_cons, List.nodup_cons] at hn
    rw [List.lookup_cons]
    rcases List.mem_cons.mp hm with e | hm'
    · cases e; simp
    · have : (x == y) = false := by
        rw [beq_eq_false_iff_ne]; rintro rfl; exact hn.1 (List.mem_map_of_mem (f := (·.1)) hm')
      rw [this]; exact lookup_of_nodup hn.2 hm'

theorem bindL_other {kd : Str → Option NameKind} {x : Str} : ∀ (bs : List (Str × Value)) (m : Str → Option Value), x ∉ bs.map (·.1) → bindL kd bs m x = m x
  | [], _, _ => rfl
  | (n, v) :: r, m, h => by
    simp only [List.map_cons, List.mem_cons, not_or] at h
    unfold bindL
    rw [bindL_other r _ h.2]
    split
    · simp [h.1]
    · rfl
theorem bindC_other {kd : Str → Option NameKind} {x : Str} : ∀ (bs : List (Str × Value)) (m : Str → Option Value), x ∉ bs.map (·.1) → bindC kd bs m x = m x
  | [], _, _ => rfl
  | (n, v) :: r, m, h => by
    simp only [List.map_cons, List.mem_cons, not_or] at h
    unfold bindC
    rw [bindC_other r _ h.2]
    split
    · rfl
    · simp [h.1]
theorem zip_names {names : List Str} {vs : List Value} {x : Str} (h : x ∉ names) : x ∉ (names.zip vs).map (·.1) := fun q => by
  obtain ⟨p, hp, rfl⟩ := List.mem_map.mp q
  exact h (List.of_mem_zip hp).1
theorem binds_get {kd : Str → Option NameKind} {h : Heap} {x : Str} {v : PV} {names : List Str} : ∀ {args : List PV} {vs : List Value} (m cm : Str → Option Value), names.Nodup → VRels G h φ P args vs → (names.zip args).lookup x = some v →
    ∃ val, VRel G h φ P v val ∧ (kd x = some .local → bindL kd (names.zip vs) m x = some val) ∧ (kd x ≠ some .local → bindC kd (names.zip vs) cm x = some val) := by
  induction names with
  | nil => intro args vs m cm _ _ e; cases e
  | cons n names ih =>
    intro args vs m cm hn r e
    cases args with
    | nil => cases e
    | cons p ps =>
      refine r.consE fun w ws q a rs => ?_
      subst q
      have hn' := List.nodup_cons.mp hn
      by_cases hx : x = n
      · subst hx
        rw [List.zip_cons_cons, List.lookup_cons, beq_self_eq_true] at e
        cases e
        refine ⟨w, a, fun hk => ?_, fun hk => ?_⟩
        · exact (bindL_other _ _ (zip_names hn'.1)).trans ((congrFun (if_pos hk) x).trans (if_pos rfl))
        · exact (bindC_other _ _ (zip_names hn'.1)).trans ((congrFun (if_neg hk) x).trans (if_pos rfl))
      · rw [List.zip_cons_cons, List.lookup_cons, beq_eq_false_iff_ne.mpr hx] at e
        exact ih _ _ hn'.2 rs e
theorem zip_lookup_mem {x : Str} {v : PV} : ∀ {names : List Str} {args : List PV}, (names.zip args).lookup x = some v → x ∈ names
  | [], _, e => by simp at e
  | _ :: _, [], e => by simp at e
  | n :: r, p :: ps, e => by
    rw [List.zip_cons_cons, List.lookup_cons] at e
    split at e
    · rename_i hx; rw [beq_iff_eq.mp hx]; exact .head _
    · exact .tail _ (zip_lookup_mem e)

theorem code_def {fa : Addr} {fd : FuncData} {names : List Str} {body : List Stmt} {args : List PV} {vs : List Value} {Qn : Rho → Sto → Prop} {Qr : Post} {A : Around} {k : Nat} {R : Result → Shared → Prop}
    (ok : G.Ok) (D : FdOk G fa fd names body) (I : Inv G s φ P σ) (ra : VRels G s.heap φ P args vs) (hl : args.length = names.length) (hA : Room A (k + 1))
    (h : ∀ L, SWP ⟨G, k, callEnvC fd L fa⟩ body (names.zip args) σ Qn Qr)
    (hR : ∀ v s₂ φ₂ P' pv σ', Gr s φ [] s₂ φ₂ → Back φ P φ₂ P' → Inv G s₂ φ₂ P' σ' → VRel G s₂.heap φ₂ P' pv v → (Qr pv σ' ∨ (pv = .none ∧ v = .none ∧ ∃ ρ', Qn ρ' σ')) → R (.ok (.ret v)) s₂) :
    codeAny G.M A (.call (.ref fa) ⟨vs, []⟩) R s := by
  obtain ⟨oc, od, osl, ho⟩ := D.obj
  have hX := I.X ok
  have kinds : ∀ n ∈ names, fd.scope.names.lookup n = some .local ∨ fd.scope.names.lookup n = some .cell := fun n hn => by
    have := List.all_eq_true.mp D.kinds n hn
    rcases Bool.or_eq_true_iff.mp this with q | q
    · exact .inl (by simpa using q)
    · exact .inr (by simpa using q)
  have hvl : vs.length = names.length := by rw [ra.length, hl]
  refine codeAny_call_cells (fd := fd) (binds := names.zip vs) (by have := hA.2.1; show A.depth < 1000; lia) (hX _ _ ho) rfl (ok.nolimit.keeps I.base) (codeRec_of hX D.code) D.bdy (D.bind vs hvl) D.closure
    (fun x hx => ?_) (fun s₁ X => ?_) D.co D.gen D.kind
  · have := kinds x.1 (List.of_mem_zip (show (x.1, x.2) ∈ _ from hx)).1
    exact this.imp id fun q => ⟨q, cellsFrom_some _ _ _ (.inl q)⟩
  · generalize hL : s.heap.objs.size = L at X ⊢
    generalize henv : callEnvC fd L fa = env at X ⊢
    have hloc : env.locals = L := by rw [← henv]; rfl
    have hcs : env.cells = cellsFrom (L + 1) fd.scope.names [] := by rw [← henv]; rfl
    have hkd : ∀ x, env.kindOf x = fd.scope.names.lookup x := by rw [← henv]; intro x; rfl
    obtain ⟨h₁, tk, rfl, keep⟩ := X.done
    have hnd : (env.cells.map (·.1)).Nodup := by rw [hcs, cellsFrom_names _ _ 0 _ [] rfl]; exact D.cells
    have hN : ∀ a ∈ ownA env, s.heap.get? a = Option.none := fun a ha => by
      rcases List.mem_cons.mp ha with rfl | ha
      · rw [hloc, ← hL]; exact get_size _
      · obtain ⟨q, hq, rfl⟩ := List.mem_map.mp ha
        have := X.above q.1 q.2 hq
        exact get_over (by rw [hL]; rw [hloc] at this; exact Nat.le_of_lt this)
    have hcell : ∀ x a, (x, a) ∈ env.cells → ∃ v, h₁.IsCell a v := fun x a hm => ⟨_, X.cell x a (lookup_of_nodup hnd hm)⟩
    have hAl : ∀ a ∈ ownA env, ∃ o, h₁.get? a = some o := fun a ha => by
      rcases List.mem_cons.mp ha with rfl | ha
      · obtain ⟨o, _, _, e, _⟩ := X.toInCall.ns; exact ⟨o, e⟩
      · obtain ⟨q, hq, rfl⟩ := List.mem_map.mp ha
        obtain ⟨v, o, e, _⟩ := hcell q.1 q.2 hq; exact ⟨o, e⟩
    have I₁ : Inv G (hs s h₁ tk) φ (ownA env ++ P) σ := I.keepAllP keep hN hAl
    have E₁ : Ext s.heap φ P h₁ φ (ownA env ++ P) := Ext.of_keepP keep hN
    have F₁ : FrameAt G env (ownA env ++ P) h₁ φ (names.zip args) := by
      refine ⟨by rw [← henv]; exact D.kind, by rw [← henv]; exact D.globals, by rw [← henv]; exact D.builtins, ⟨_, X.toInCall.ns, fun x v e hk => ?_⟩, fun x a e => hcell x a (mem_of_lookup e), fun x v e => ?_, fun x y a e1 e2 => name_of_addr X.apart (mem_of_lookup e1) (mem_of_lookup e2), fun a ha => List.mem_append_left _ ha⟩
      · obtain ⟨val, r, q, _⟩ := binds_get (kd := env.kindOf) (fun _ => Option.none) (fun _ => Option.none) D.nodup ra e
        exact ⟨val, q hk, r.ext E₁⟩
      · obtain ⟨val, r, q1, q2⟩ := binds_get (kd := env.kindOf) (fun _ => Option.none) (fun _ => Option.none) D.nodup ra e
        rcases kinds x (zip_lookup_mem e) with hk | hk
        · exact .inl ((hkd x).trans hk)
        · have hk' : env.kindOf x = some .cell := (hkd x).trans hk
          obtain ⟨a, ha⟩ := Option.isSome_iff_exists.mp (cellsFrom_some fd.scope.names (L + 1) [] (.inl hk))
          rw [← hcs] at ha
          refine .inr ⟨.inl hk', a, val, ha, ?_, r.ext E₁⟩
          have := X.cell x a ha
          rw [q2 (by rw [hk']; decide)] at this
          exact this
    have hA' : Room (A.deeper env) k := ⟨hA.1, by have := hA.2.1; show A.depth + 1 + 6 * k < 900; lia, by have := hA.2.2; show A.units + 3 + 30 * k < 5000; lia⟩
    have body_ : SWP ⟨G, k, env⟩ body (names.zip args) σ Qn Qr := by rw [← henv]; exact h L
    refine body_ (ownA env ++ P) (hs s h₁ tk) φ I₁ F₁ (A.deeper env) hA' _ _ fun fl s₂ φ₂ g₂ p => ?_
    have g : Gr s φ [] s₂ φ₂ := (Gr.keepAll (t := tk) keep).made (N := ownA env) (g₂.weaken fun x hx => by rw [List.append_nil]; exact hx) hN
    have B : Back φ P φ₂ (ownA env ++ P) := ⟨let ⟨ψ, e, _⟩ := g₂.pre; ⟨ψ, e⟩, fun a ha => List.mem_append_right _ ha⟩
    cases fl with
    | next => obtain ⟨ρ', σ', I', _, q⟩ := p; exact hR .none s₂ φ₂ _ .none σ' g B I' .none (.inr ⟨rfl, rfl, ρ', q⟩)
    | ret v => obtain ⟨pv, σ', I', r, q⟩ := p; exact hR v s₂ φ₂ _ pv σ' g B I' r (.inl q)
    | brk => exact p.elim
    | cont => exact p.elim

noncomputable abbrev KRet (σ : Sto) (Q : Post) : Post := fun v σ' => Leave σ σ' v Q
noncomputable abbrev KEnd (σ : Sto) (Q : Post) : Rho → Sto → Prop := fun _ σ' => Leave σ σ' .none Q
noncomputable abbrev KMade (pv : PV) (Q : Post) : Rho → Sto → Prop := fun _ σ' => Q pv σ'
noncomputable abbrev KMadeR (pv : PV) (Q : Post) : Post := fun v σ' => v = .none ∧ Q pv σ'
theorem cwp_def0 {fa : Addr} {fd : FuncData} {names : List Str} {body : List Stmt} {args : List PV} {Q : Post} {k : Nat} (ok : c.G.Ok) (D : FdOk c.G fa fd names body) (hk : k + 1 ≤ c.k) (hl : args.length = names.length)
    (h : ∀ L, SWP ⟨c.G, k, callEnvC fd L fa⟩ body (names.zip args) σ (KEnd σ Q) (KRet σ Q)) : CWP c (.cst (.ref fa)) args σ Q := by
  intro P s φ fv vs I rf ra
  refine rf.cstE fun e _ => ?_
  subst e
  intro A hA R E hR
  refine wpAny_call (code_def ok D I ra hl (hA.less hk) h fun v s₂ φ₂ P' pv σ' g B I' r q => ?_)
  have hlen : φ.length = σ.length := I.len
  have q' : Leave σ σ' pv Q := q.elim id fun ⟨e, _, _, q⟩ => e ▸ q
  obtain ⟨v', z, lo, q'⟩ := q'
  rw [← hlen] at z lo q'
  have lo' : ∀ i o, i < φ.length → σ'[i]? = some o → LowO φ.length o := fun i o hi e => (lo i o hi e).elim (fun e' => by
    obtain ⟨p, _, r⟩ := I.objAt e'; exact r.low) id
  exact hR v s₂ φ ⟨⟨[], by simp, by simp [adr]⟩, g.keep, g.alive, g.gens, g.drawn, g.os⟩ ⟨v', _, I'.back B lo', z.sound ok B I' r, q'⟩

theorem room_make {A : Around} {k : Nat} {C : Addr} {rest : List Value} (hA : Room A (k + 2)) : Room (A.under (.builtin "type.__call__" ⟨.ref C :: rest, []⟩)) (k + 1) := by
  have e1 : (Code.builtin "type.__call__" ⟨.ref C :: rest, []⟩).weight ≤ 2 := by
    have : (Code.builtin "type.__call__" ⟨.ref C :: rest, []⟩).weight = (Code.builtin "type.__call__" ⟨.ref 0 :: [], []⟩).weight := by rfl
    rw [this]; decide +kernel
  have e2 : (Code.builtin "type.__call__" ⟨.ref C :: rest, []⟩).cUnits ≤ 7 := by
    have : (Code.builtin "type.__call__" ⟨.ref C :: rest, []⟩).cUnits = (Code.builtin "type.__call__" ⟨.ref 0 :: [], []⟩).cUnits := by rfl
    rw [this]; decide +kernel
  refine ⟨hA.1, ?_, ?_⟩
  · have := hA.2.1
    show A.depth + (Code.builtin "type.__call__" ⟨.ref C :: rest, []⟩).weight + 6 * (k + 1) < 900
    lia
  · have := hA.2.2
    show A.units + (Code.builtin "type.__call__" ⟨.ref C :: rest, []⟩).cUnits + 30 * (k + 1) < 5000
    lia

theorem cwp_cls0 {C fI : Addr} {fd : FuncData} {names : List Str} {body : List Stmt} {args : List PV} {Q : Post} {k : Nat} (ok : c.G.Ok) (hm : makesIn c.G.K C = true) (hi : findIn c.G.K (.ref C) "__init__" = some (some (.ref fI)))
    (hf : isFn c.G.K (.ref fI) = true) (D : FdOk c.G fI fd names body) (hk : k + 2 ≤ c.k) (hl : args.length + 1 = names.length)
    (h : ∀ L, SWP ⟨c.G, k, callEnvC fd L fI⟩ body (names.zip (.ref σ.length :: args)) (σ ++ [.inst C []]) (KMade (.ref σ.length) Q) (KMadeR (.ref σ.length) Q)) : CWP c (.cst (.ref C)) args σ Q := by
  intro P s φ fv vs I rf ra
  refine rf.cstE fun e _ => ?_
  subst e
  intro A hA R E hR
  have X := I.X ok
  obtain ⟨hh, g, d, t, os⟩ := s
  have fr : Frag.In c.G.K hh := X
  have keep : ∀ b o, hh.get? b = some o → ((hh.push emptyDict).push (instObj C hh.objs.size)).get? b = some o := fun b o e => Heap.get?_push_of_some _ (Heap.get?_push_of_some _ e)
  have n1 : hh.get? (hh.objs.size + 1) = Option.none := get_over (Nat.le_succ _)
  have n2 : hh.get? hh.objs.size = Option.none := get_size _
  have g1 : ((hh.push emptyDict).push (instObj C hh.objs.size)).get? (hh.objs.size + 1) = some (instObj C hh.objs.size) := by
    have := Heap.get?_push_size (hh.push emptyDict) (o := instObj C hh.objs.size) rfl
    rwa [Heap.size_push] at this
  have g2 : ((hh.push emptyDict).push (instObj C hh.objs.size)).get? hh.objs.size = some emptyDict := Heap.get?_push_of_some _ (Heap.get?_push_size hh rfl)
  have I₁ : Inv c.G (hs ⟨hh, g, d, t, os⟩ ((hh.push emptyDict).push (instObj C hh.objs.size)) t) (φ ++ [(hh.objs.size + 1, hh.objs.size)]) P (σ ++ [.inst C []]) :=
    I.new keep n1 n2 fun _ => ⟨[], 0, g1, g2, .nil⟩
  have gr₁ : Gr ⟨hh, g, d, t, os⟩ φ [] (hs ⟨hh, g, d, t, os⟩ ((hh.push emptyDict).push (instObj C hh.objs.size)) t) (φ ++ [(hh.objs.size + 1, hh.objs.size)]) := Gr.new keep n1 n2
  have hlen : φ.length = σ.length := I.len
  have rs : VRel c.G ((hh.push emptyDict).push (instObj C hh.objs.size)) (φ ++ [(hh.objs.size + 1, hh.objs.size)]) P (.ref σ.length) (.ref (hh.objs.size + 1)) :=
    VRel.ref (p := (hh.objs.size + 1, hh.objs.size)) (by rw [← hlen]; simp)
  refine wpAny_call (make_core (makes_of fr hm) (looks_findIn fr hi) (fun self => bind_fn fr self (beq_iff_eq.mp hf)) (.inl rfl) ?_)
  refine code_def (G := c.G) (s := hs ⟨hh, g, d, t, os⟩ ((hh.push emptyDict).push (instObj C hh.objs.size)) t) ok D I₁ (.cons rs (ra.gr gr₁)) hl (room_make (hA.less hk)) h fun v s₂ φ₂ P' pv σ' g' B I' r q => ?_
  have key : v = .none ∧ Q (.ref σ.length) σ' := q.elim (fun ⟨e, q'⟩ => by
    subst e
    cases r
    exact ⟨rfl, q'⟩) fun ⟨_, e, _, q⟩ => ⟨e, q⟩
  refine ⟨key.1, ?_⟩
  refine hR _ s₂ φ₂ (gr₁.trans g') ⟨.ref σ.length, σ', I'.shrink B.sub, ?_, key.2⟩
  obtain ⟨ψ, e⟩ := B.phi
  exact VRel.ref (p := (hh.objs.size + 1, hh.objs.size)) (by rw [e, List.append_assoc]; rw [← hlen]; simp)
/-- inside of a call -/
noncomputable abbrev inC (G : Gd) (k : Nat) (fd : FuncData) (L fa : Addr) : Cx := ⟨G, k, callEnvC fd L fa⟩
theorem cwp_def {G : Gd} {j : Nat} {env : Env} {fa : Addr} {fd : FuncData} {names : List Str} {body : List Stmt} {args : List PV} {Q : Post} {k : Nat} (ok : G.Ok) (D : FdOk G fa fd names body) (hk : k + 1 ≤ j) (hl : args.length = names.length)
    (h : ∀ L, SWP (inC G k fd L fa) body (names.zip args) σ (KEnd σ Q) (KRet σ Q)) : CWP ⟨G, j, env⟩ (.cst (.ref fa)) args σ Q := cwp_def0 (c := ⟨G, j, env⟩) ok D hk hl h
theorem cwp_cls {G : Gd} {j : Nat} {env : Env} {C fI : Addr} {fd : FuncData} {names : List Str} {body : List Stmt} {args : List PV} {Q : Post} {k : Nat} (ok : G.Ok) (hm : makesIn G.K C = true) (hi : findIn G.K (.ref C) "__init__" = some (some (.ref fI)))
    (hf : isFn G.K (.ref fI) = true) (D : FdOk G fI fd names body) (hk : k + 2 ≤ j) (hl : args.length + 1 = names.length)
    (h : ∀ L, SWP (inC G k fd L fI) body (names.zip (.ref σ.length :: args)) (σ ++ [.inst C []]) (KMade (.ref σ.length) Q) (KMadeR (.ref σ.length) Q)) : CWP ⟨G, j, env⟩ (.cst (.ref C)) args σ Q := cwp_cls0 (c := ⟨G, j, env⟩) ok hm hi hf D hk hl h
end Mine
namespace Mine
variable {G : Gd} {s : Shared} {φ : Phi} {P : List Addr} {σ : Sto} {c : Cx} {ρ : Rho}

/-! ### views of a value -/
inductive LstV (σ : Sto) : PV → List PV → Prop
  | f {l : List PV} : LstV σ (.lst l) l
  | r {n : Nat} {l : List PV} : σ[n]? = some (.list l) → LstV σ (.ref n) l
inductive SdV (σ : Sto) : PV → List (Str × PV) → Prop
  | f {l : List (Str × PV)} : SdV σ (.sd l) l
  | r {n : Nat} {l : List (Str × PV)} : σ[n]? = some (.sdict l) → SdV σ (.ref n) l
inductive InstV (σ : Sto) : PV → Addr → List (Str × PV) → Prop
  | f {C : Addr} {l : List (Str × PV)} : InstV σ (.inst C l) C l
  | r {n : Nat} {C : Addr} {l : List (Str × PV)} : σ[n]? = some (.inst C l) → InstV σ (.ref n) C l

theorem LstV.open {pv : PV} {v : Value} {l : List PV} {C : Prop} (V : LstV σ pv l) (I : Inv G s φ P σ) (r : VRel G s.heap φ P pv v) (k : ∀ a vs m, v = .ref a → s.heap.get? a = some (lstObj vs m) → VRels G s.heap φ P l vs → C) : C := by
  cases V with
  | f => exact r.lstE fun a vs n q e f rs => k a vs n q e rs
  | r h => exact r.refE fun p q e => I.lstE e h fun vs n e1 r1 _ => k _ vs n q e1 r1
theorem SdV.open (ok : G.Ok) {pv : PV} {v : Value} {l : List (Str × PV)} {C : Prop} (V : SdV σ pv l) (I : Inv G s φ P σ) (r : VRel G s.heap φ P pv v) (k : ∀ a kvs, v = .ref a → s.heap.DictOf (strKind G.prog G.w) a kvs → VSP G s.heap φ P l kvs → (a == sysModules) = false → C) : C := by
  cases V with
  | f => exact r.sdE fun a kvs q e f z r => k a kvs q e r z
  | r h => exact r.refE fun p q e => I.dctE e h fun kvs e1 r1 _ => k _ kvs q e1 r1 (Back.sys ok I e)
theorem InstV.open {pv : PV} {v : Value} {C : Addr} {l : List (Str × PV)} {D : Prop} (V : InstV σ pv C l) (I : Inv G s φ P σ) (r : VRel G s.heap φ P pv v) (k : ∀ a dx es n, v = .ref a → s.heap.get? a = some (instObj C dx) → s.heap.get? dx = some (dictOf es n) → VEnts G s.heap φ P l es → D) : D := by
  cases V with
  | f => exact r.instE fun a dx es n q e1 e2 f1 f2 r => k a dx es n q e1 e2 r
  | r h => exact r.refE fun p q e => I.insE e h fun es n e1 e2 r1 => k _ _ es n q e1 e2 r1

theorem getL_eq {x : Str} {n : Int} {t : Tok} {v : Value} {es : List DictEntry} : getL x (⟨n, .str x t, v⟩ :: es) = some (some v) := by
  unfold getL; rw [List.find?_cons_of_pos (by exact beq_self_eq_true x)]
theorem getL_ne {x k : Str} {n : Int} {t : Tok} {v : Value} {es : List DictEntry} (h : k ≠ x) : getL x (⟨n, .str k t, v⟩ :: es) = getL x es := by
  unfold getL; rw [List.find?_cons_of_neg (by show ¬(k == x) = true; rw [beq_iff_eq]; exact h)]; rfl
theorem VEnts.look {h : Heap} {x : Str} {fs : List (Str × PV)} : ∀ {es : List DictEntry}, VEnts G h φ P fs es → es.length = fs.length ∧ (fs.lookup x = Option.none → getL x es = some Option.none) ∧ ∀ p, fs.lookup x = some p → ∃ v, getL x es = some (some v) ∧ VRel G h φ P p v := by
  induction fs with
  | nil => exact fun r => r.nilE fun q => by subst q; exact ⟨rfl, fun _ => rfl, fun p e => nomatch e⟩
  | cons f fs ih =>
    obtain ⟨k, w⟩ := f
    refine fun r => r.consE fun t v es q a rs => ?_
    subst q
    have i := ih rs
    refine ⟨congrArg (· + 1) i.1, ?_⟩
    by_cases hk : k = x
    · subst hk
      rw [lk_eq]
      exact ⟨fun e => (nomatch e), fun p e => ⟨v, getL_eq, Option.some.inj e ▸ a⟩⟩
    · rw [lk_ne hk, getL_ne hk]
      exact i.2
theorem VEnts.get {h : Heap} {fs : List (Str × PV)} {es : List DictEntry} (r : VEnts G h φ P fs es) {x : Str} {p : PV} (e : fs.lookup x = some p) : ∃ v, getL x es = some (some v) ∧ VRel G h φ P p v := r.look.2.2 p e
theorem VEnts.miss {h : Heap} {fs : List (Str × PV)} {es : List DictEntry} (r : VEnts G h φ P fs es) {x : Str} (e : fs.lookup x = Option.none) : getL x es = some Option.none := r.look.2.1 e
theorem VEnts.length {h : Heap} {fs : List (Str × PV)} {es : List DictEntry} (r : VEnts G h φ P fs es) : es.length = fs.length := (r.look (x := "")).1
theorem VEnts.put {h : Heap} {x : Str} {p : PV} {t : Tok} {v : Value} (a : VRel G h φ P p v) {fs : List (Str × PV)} : ∀ {es : List DictEntry}, VEnts G h φ P fs es → VEnts G h φ P (rset x p fs) (putL x (PyData.keyHash G.w.params x) (.str x t) v es) := by
  induction fs with
  | nil => exact fun r => r.nilE fun q => q ▸ .cons a .nil
  | cons f fs ih =>
    obtain ⟨k, w⟩ := f
    refine fun r => r.consE fun t' v' es q b rs => ?_
    subst q
    by_cases hk : k = x
    · subst hk
      rw [rset_eq, show putL k (PyData.keyHash G.w.params k) (.str k t) v (⟨PyData.keyHash G.w.params k, .str k t', v'⟩ :: es) = _ from if_pos (beq_self_eq_true k)]
      exact .cons a rs
    · rw [rset_no hk, show putL x (PyData.keyHash G.w.params x) (.str x t) v (⟨PyData.keyHash G.w.params k, .str k t', v'⟩ :: es) = _ from if_neg fun z => hk (beq_iff_eq.mp z)]
      exact .cons b (ih rs)
theorem valueAt_eq {x : Str} {v : Value} {es : List (Str × Value)} : valueAt ((x, v) :: es) x = some v := by
  unfold valueAt; rw [List.find?_cons_of_pos (by exact decide_eq_true rfl)]; rfl
theorem valueAt_ne {x k : Str} {v : Value} {es : List (Str × Value)} (h : k ≠ x) : valueAt ((k, v) :: es) x = valueAt es x := by
  unfold valueAt; rw [List.find?_cons_of_neg (by exact fun z => h (of_decide_eq_true z))]
theorem VSP.look {h : Heap} {x : Str} {fs : List (Str × PV)} : ∀ {es : List (Str × Value)}, VSP G h φ P fs es → es.length = fs.length ∧ (fs.lookup x = Option.none → valueAt es x = Option.none) ∧ ∀ p, fs.lookup x = some p → ∃ v, valueAt es x = some v ∧ VRel G h φ P p v := by
  induction fs with
  | nil => exact fun r => r.nilE fun q => by subst q; exact ⟨rfl, fun _ => rfl, fun p e => nomatch e⟩
  | cons f fs ih =>
    obtain ⟨k, w⟩ := f
    refine fun r => r.consE fun v es q a rs => ?_
    subst q
    have i := ih rs
    refine ⟨congrArg (· + 1) i.1, ?_⟩
    by_cases hk : k = x
    · subst hk
      rw [lk_eq]
      exact ⟨fun e => (nomatch e), fun p e => ⟨v, valueAt_eq, Option.some.inj e ▸ a⟩⟩
    · rw [lk_ne hk, valueAt_ne hk]
      exact i.2
theorem VSP.get {h : Heap} {fs : List (Str × PV)} {es : List (Str × Value)} (r : VSP G h φ P fs es) {x : Str} {p : PV} (e : fs.lookup x = some p) : ∃ v, valueAt es x = some v ∧ VRel G h φ P p v := r.look.2.2 p e
theorem VSP.miss {h : Heap} {fs : List (Str × PV)} {es : List (Str × Value)} (r : VSP G h φ P fs es) {x : Str} (e : fs.lookup x = Option.none) : valueAt es x = Option.none := r.look.2.1 e
theorem VSP.length {h : Heap} {fs : List (Str × PV)} {es : List (Str × Value)} (r : VSP G h φ P fs es) : es.length = fs.length := (r.look (x := "")).1
noncomputable def rsetV (x : Str) (v : Value) : List (Str × Value) → List (Str × Value)
  | [] => [(x, v)]
  | (y, w) :: r => if x == y then (y, v) :: r else (y, w) :: rsetV x v r
theorem rsetV_eq {x : Str} {v w : Value} {r : List (Str × Value)} : rsetV x v ((x, w) :: r) = (x, v) :: r := if_pos (beq_self_eq_true x)
theorem rsetV_no {x k : Str} {v w : Value} {r : List (Str × Value)} (h : k ≠ x) : rsetV x v ((k, w) :: r) = (k, w) :: rsetV x v r := if_neg fun z => h (beq_iff_eq.mp z).symm
theorem stored_rsetV (x : Str) (v : Value) (kvs : List (Str × Value)) : (kvs.map (·.1)).Nodup → stored kvs x v = rsetV x v kvs := by
  induction kvs with
  | nil => exact fun _ => rfl
  | cons f r ih =>
    obtain ⟨y, w⟩ := f
    intro hn
    have hn := List.nodup_cons.mp hn
    by_cases hk : y = x
    · subst hk
      rw [rsetV_eq]
      unfold stored
      rw [List.any_cons, decide_eq_true rfl, Bool.true_or, if_pos rfl, List.map_cons, if_pos rfl, map_store_of_not_mem r y v hn.1]
    · rw [rsetV_no hk, ← ih hn.2]
      unfold stored
      rw [List.any_cons, decide_eq_false hk, Bool.false_or, List.map_cons, if_neg hk]
      split <;> rfl
theorem VSP.putV {h : Heap} {x : Str} {p : PV} {v : Value} (a : VRel G h φ P p v) {fs : List (Str × PV)} : ∀ {es : List (Str × Value)}, VSP G h φ P fs es → VSP G h φ P (rset x p fs) (rsetV x v es) := by
  induction fs with
  | nil => exact fun r => r.nilE fun q => q ▸ .cons a .nil
  | cons f fs ih =>
    obtain ⟨k, w⟩ := f
    refine fun r => r.consE fun v' es q b rs => ?_
    subst q
    by_cases hk : k = x
    · subst hk; rw [rset_eq, rsetV_eq]; exact .cons a rs
    · rw [rset_no hk, rsetV_no hk]; exact .cons b (ih rs)
theorem dictOf_nodup {h : Heap} {a : Addr} {kvs : List (Str × Value)} (x : h.DictOf (strKind G.prog G.w) a kvs) : (kvs.map (·.1)).Nodup := by obtain ⟨_, _, _, x⟩ := x; exact x.2.2.2.2.2

/-! ### calls -/
noncomputable def keepsOf (K : Frag) : PV → Bool
  | .cst (.ref a) => keepIn K (.ref a)
  | .cst (.builtin _) => true
  | .cst (.type _) => true
  | _ => false

theorem evalArgs_all {M : Model} {A : Around} {E : Value → Shared → Prop} {f : Value} {Q : Args → Shared → Prop} {L : List (Bool × Sem Value)} (e : L.any (·.1) = false)
    (h : wpAny M A (spliced L) (fun vs s' => Q ⟨vs, []⟩ s') E s) : wpAny M A (evalArgs f true L []) Q E s := by
  cases L with
  | nil =>
    unfold evalArgs
    show wpAny M A (spliced [] >>= _) Q E s
    refine wpAny_bind (wpAny_mono h (fun vs s' h' => ?_) fun _ _ x => x)
    refine wpAny_holding ?_
    exact wpAny_bind (wpAny_pure (wpAny_bind (wpAny_pure (wpAny_pure h'))))
  | cons x r =>
    obtain ⟨b, x⟩ := x
    cases b with
    | false => exact evalArgs_plain h
    | true => exact absurd e (Ne.symm Bool.false_ne_true)

theorem keeps_of {M : Model} {K : Frag} {f : PV} {fv : Value} (hk : keepsOf K f = true) (hf : f = .cst fv) (h : Heap) (X : K.In h) : ∃ k, (k = Keeper.frame ∨ k = Keeper.machine ∨ k = Keeper.boundFrame) ∧ Looks M h (keeperOf fv) k := by
  subst hf
  cases fv with
  | ref a => exact keeps_K (show keepIn K (.ref a) = true from hk) h X
  | builtin i => exact ⟨.machine, .inr (.inl rfl), .of_pure rfl⟩
  | type n => exact ⟨.machine, .inr (.inl rfl), .of_pure rfl⟩
  | _ => exact absurd hk Bool.false_ne_true

noncomputable abbrev KArgs (c : Cx) (f : PV) (Q : Post) : List PV → Sto → Prop := fun vs σ₂ => CWP c f vs σ₂ Q
noncomputable abbrev KArgs1 (c : Cx) (f : PV) (first : List PV) (Q : Post) : List PV → Sto → Prop := fun vs σ₂ => CWP c f (first ++ vs) σ₂ Q
noncomputable abbrev KCall (c : Cx) (args : List Expr) (ρ : Rho) (Q : Post) : Post := fun f σ₁ => keepsOf c.G.K f = true ∧ LWP c args ρ σ₁ (KArgs c f Q)
theorem callWith_sp {pos : Pos} {args : List Expr} {f : PV} {fv : Value} {first : List PV} {fvs : List Value} {Q : Post} (ok : c.G.Ok) (hk : keepsOf c.G.K f = true) (ha : (backTo pos (starEach args c.env)).any (·.1) = false)
    (I : Inv c.G s φ P σ) (F : FrameAt c.G c.env P s.heap φ ρ) (rf : VRel c.G s.heap φ P f fv) (rs : VRels c.G s.heap φ P first fvs)
    (h : LWP c args ρ σ (KArgs1 c f first Q)) : c.Sp [] s φ (callWith pos fv fvs (backTo pos (starEach args c.env)) (backToKw pos (keywordEach [] c.env))) (PostV c.G P Q) := by
  intro A hA R E hR
  have hf : f = .cst fv := by
    cases f with
    | cst v => exact rf.cstE fun q _ => q ▸ rfl
    | _ => exact absurd hk Bool.false_ne_true
  show wpAny _ A (callWith pos fv fvs (backTo pos (starEach args c.env)) []) R E s
  refine callWith_of (P := fun h => c.G.K.In h) (by rw [ha]; rfl) (fun h X => keeps_of hk hf h X) (evalArgs_all ha ?_)
  refine h P s φ pos I F A hA _ E fun vs s₁ φ₁ g₁ pp => pp.e fun pvs σ₁ I₁ r₁ h₁ => ⟨I₁.X ok, ?_⟩
  exact h₁ P s₁ φ₁ fv (fvs ++ vs) I₁ (rf.gr g₁) ((rs.gr g₁).append r₁) A hA R E fun v s₂ φ₂ g₂ p => hR v s₂ φ₂ (g₁.trans g₂) p

theorem ewp_call {func : Expr} {args : List Expr} {pos : Pos} {Q : Post} (ok : c.G.Ok) (h : EWP c func ρ σ (KCall c args ρ Q))
    (ha : (backTo pos (starEach args c.env)).any (·.1) = false := by rfl)
    (he : eval (.Call func args [] pos) c.env = (eval func c.env >>= fun f => callWith pos f [] (backTo pos (starEach args c.env)) (backToKw pos (keywordEach [] c.env))) := by rfl) : EWP c (.Call func args [] pos) ρ σ Q := by
  intro P s φ I F
  rw [he]
  exact (h P s φ I F).bind fun fv s₁ φ₁ g₁ pp => pp.e fun f σ₁ I₁ r₁ h₁ => callWith_sp ok h₁.1 ha I₁ (F.gr I g₁) r₁ .nil h₁.2

theorem ewp_method {o : Expr} {name : Str} {apos pos : Pos} {args : List Expr} {Q : Post} (ok : c.G.Ok)
    (h : EWP c o ρ σ fun ov σ₁ => MWP c ov name σ₁ fun f first σ₂ => keepsOf c.G.K f = true ∧ LWP c args ρ σ₂ (KArgs1 c f first Q))
    (ha : (backTo pos (starEach args c.env)).any (·.1) = false := by rfl)
    (he : eval (.Call (.Attribute o name apos) args [] pos) c.env = (eval o c.env >>= fun ov => standAt apos.atName >>= fun _ => holding [ov] (getMethod ov name (do return (← importBound o c.env).getD true)) >>= fun r =>
      callWith pos r.1 r.2 (backTo pos (starEach args c.env)) (backToKw pos (keywordEach [] c.env))) := by rfl) : EWP c (.Call (.Attribute o name apos) args [] pos) ρ σ Q := by
  intro P s φ I F
  rw [he]
  refine (h P s φ I F).bind fun ov s₁ φ₁ g₁ pp => pp.e fun pv σ₁ I₁ r₁ h₁ => Sp.stand ?_
  refine Sp.bind (Sp.hold (h₁ P s₁ φ₁ ov _ I₁ r₁)) fun r s₂ φ₂ g₂ pp => ?_
  obtain ⟨f, first, σ₂, I₂, rf, rs, hk, h₂⟩ := pp
  exact callWith_sp ok hk ha I₂ ((F.gr I g₁).gr I₁ g₂) rf rs h₂

/-! ### instances -/
theorem instAt {h : Heap} {a dx C : Addr} {es : List DictEntry} {n : Nat} (e1 : h.get? a = some (instObj C dx)) (e2 : h.get? dx = some (dictOf es n)) : InstAt h a (instObj C dx) C (some (dictOf es n)) := ⟨e1, rfl, rfl, e2⟩

/-- a method of the text's own -/
theorem mwp_inst {o : PV} {C f : Addr} {fs : List (Str × PV)} {name : Str} {Q : PV → List PV → Sto → Prop} (ok : c.G.Ok) (V : InstV σ o C fs) (hg : plainGet c.G.K C name = true) (hf : findIn c.G.K (.ref C) name = some (some (.ref f)))
    (ht : isFn c.G.K (.ref f) = true) (hm : fs.lookup name = Option.none) (q : Q (.cst (.ref f)) [o] σ) : MWP c o name σ Q := by
  intro P s φ ov pl I r A hA R E hR
  refine V.open I r fun a dx es n vq e1 e2 rs => ?_
  subst vq
  refine method_fn (od := some (dictOf es n)) (I.X ok) (instAt e1 e2) (plainGet_of hg).1 (plainGet_of hg).2 hf (beq_iff_eq.mp ht) (by show (lookIn name (dictOf es n)).map _ = _; rw [lookIn_dict, rs.miss hm]; rfl) ?_
  exact hR _ s φ (Gr.refl ..) ⟨.cst (.ref f), [o], σ, I, .cst rfl, .cons r .nil, q⟩

noncomputable def AttrOk (K : Frag) (C : Addr) (name : Str) : Prop := plainGet K C name = true ∧ hasDictIn K C = true ∧ findIn K (.ref C) name = some Option.none

theorem handedIn_of {h : Heap} {p : PV} {v : Value} (r : VRel G h φ P p v) : handedIn v = true := by
  have key : ∀ {x : RT}, Rel G h φ P x → RT.casesOn x (fun _ v => handedIn v = true) (fun _ _ => True) (fun _ _ => True) (fun _ _ => True) (fun _ _ => True) := fun {x} r =>
    Rel.rec (motive := fun x _ => RT.casesOn x (fun _ v => handedIn v = true) (fun _ _ => True) (fun _ _ => True) (fun _ _ => True) (fun _ _ => True)) rfl rfl rfl rfl id (fun _ _ _ _ => rfl) (fun _ _ _ _ => rfl) (fun _ _ _ _ _ => rfl) (fun _ _ _ _ _ _ => rfl) (fun _ _ _ _ _ _ => rfl) (fun _ _ => rfl) (fun _ => rfl)
      trivial (fun _ _ _ _ => trivial) trivial (fun _ _ _ _ => trivial) trivial (fun _ _ _ _ => trivial) trivial (fun _ _ _ _ => trivial) r
  exact key r

noncomputable abbrev KAttr (c : Cx) (name : Str) (Q : Post) : Post := fun o σ₁ => ∃ C fs v, InstV σ₁ o C fs ∧ AttrOk c.G.K C name ∧ fs.lookup name = some v ∧ Q v σ₁
theorem ewp_attr {e : Expr} {name : Str} {pos : Pos} {Q : Post} (ok : c.G.Ok)
    (h : EWP c e ρ σ (KAttr c name Q))
    (he : eval (.Attribute e name pos) c.env = (eval e c.env >>= fun o => standAt pos.atName >>= fun _ => holding [o] (getAttr o name true) >>= fun r => letTemporaryGo e o r >>= fun _ => pure r) := by rfl) : EWP c (.Attribute e name pos) ρ σ Q := by
  intro P s φ I F
  rw [he]
  refine (h P s φ I F).bind fun o s₁ φ₁ g₁ pp => pp.e fun po σ₁ I₁ r₁ h₁ => Sp.stand ?_
  obtain ⟨C, fs, v, V, hA, hv, q⟩ := h₁
  intro A hA' R E hR
  refine V.open I₁ r₁ fun a dx es n vq e1 e2 rs => ?_
  subst vq
  obtain ⟨w, hw, rw'⟩ := rs.get hv
  refine wpAny_bind (wpAny_holding (get_value (od := some (dictOf es n)) (I₁.X ok) (instAt e1 e2) (plainGet_of hA.1).1 (findObj_own hA.2.1 hA.2.2 rfl (by rw [lookIn_dict]; exact hw)) (handedIn_of rw') ?_))
  exact wpAny_bind (wpAny_letTemporaryGo (wpAny_pure (hR w (hs s₁ s₁.heap (s₁.toks + 1)) φ₁ (Gr.tok _) ⟨v, σ₁, I₁.tok _, rw', q⟩)))

noncomputable def StoreOk (K : Frag) (C : Addr) (name : Str) : Prop := findIn K (.ref C) "__setattr__" = some (some (.builtin "object.__setattr__")) ∧ plainOver K C = true ∧ takerIn K C name = some Option.none ∧ hasDictIn K C = true

theorem set_attr {prog : Program} {w : World} {A : Around} {E : Value → Shared → Prop} {K : Frag} {C a dx : Addr} {es : List DictEntry} {n : Nat} {name : Str} {v : Value} {Q : Unit → Shared → Prop} (X : K.In s.heap) (e1 : s.heap.get? a = some (instObj C dx)) (e2 : s.heap.get? dx = some (dictOf es n)) (S : StoreOk K C name)
    (hl : (getL name es).isSome = true) (hz : es.length < 1000)
    (h : ∀ h' n', Heap.SameBut dx s.heap h' → h'.get? dx = some (dictOf (putL name (PyData.keyHash w.params name) (.str name (s.toks + 1)) v es) n') → Q () { s with heap := h', toks := s.toks + 2 }) :
    wpAny (model prog w) A (setAttr (.ref a) name v) Q E s := by
  have I := instAt e1 e2
  refine set_plain X I S.1 (osa_open (s := { s with toks := s.toks + 1 }) X I S.2.1 S.2.2.1 fun b => ?_)
  obtain ⟨cd, hc, hd'⟩ := any_some S.2.2.2
  have D' : (s.heap.update dx (Obj.putName name (PyData.keyHash w.params name) (.str name (s.toks + 1)) v)).get? dx = some (dictOf (putL name (PyData.keyHash w.params name) (.str name (s.toks + 1)) v es) (putN name es n)) := by
    rw [Heap.get?_update_self _ e2 (by rw [putName_dict]; rfl), putName_dict]
  have lenP : ∀ (es : List DictEntry), (putL name (PyData.keyHash w.params name) (.str name (s.toks + 1)) v es).length ≤ es.length + 1 := fun es => by
    induction es with
    | nil => exact Nat.le_refl _
    | cons e r ih => unfold putL; split <;> simp only [List.length_cons] <;> lia
  refine wpAny_bind (wpAny_pure (wpAny_bind (wpAny_bind (wpAny_loadPart e1 (wpAny_bind (Looks.here (s := { s with toks := s.toks + 1 }) (looks_clsIn X hc) ?_))))))
  rw [hd']
  refine wpAny_pure (a := some dx) (wpAny_bind (wpAny_pure (wpAny_bind ?_)))
  unfold nsSet
  refine wpAny_bind (wpAny_bind (wpAny_askSetting (wpAny_pure (wpAny_bind (wpAny_mkText (wpAny_bind (wpAny_loadPart e2 ?_)))))))
  dsimp only
  have cnd : (!es.toArray.any (·.key.isStr name) && es.toArray.any (·.refKey)) = false := by
    rw [List.any_toArray, List.any_toArray]
    unfold getL at hl
    split at hl
    · rename_i en he
      rw [List.any_eq_true.mpr ⟨en, List.mem_of_find?_eq_some he, List.find?_some he⟩]; rfl
    · split at hl
      · cases hl
      · rename_i z; rw [Bool.not_eq_true] at z; rw [z, Bool.and_false]
  rw [aRefKeyMayBeTheName_at, cnd]
  refine wpAny_updatePart e2 ?_
  refine wpAny_bind (wpAny_lookBehind D' (pastItsLine_dict (by rw [List.size_toArray, sizeLine_eq]; have := lenP es; lia)) ?_)
  exact wpAny_pure (h _ _ (Heap.SameBut.update ..) D')

noncomputable abbrev KPut (c : Cx) (name : Str) (v : PV) (ρ : Rho) (Q : Rho → Sto → Prop) : Post := fun o σ₁ => ∃ C n fs, o = .ref n ∧ σ₁[n]? = some (.inst C fs) ∧ StoreOk c.G.K C name ∧ fs.length < 1000 ∧ Q ρ (σ₁.set n (.inst C (rset name v fs)))
theorem awp_attr {own : List Addr} {e : Expr} {name : Str} {pos : Pos} {v : PV} {Q : Rho → Sto → Prop} (ok : c.G.Ok)
    (h : EWP c e ρ σ (KPut c name v ρ Q)) : AWP c own (.Attribute e name pos) v ρ σ Q := by
  intro P s φ val I F r
  show c.Sp own s φ (holding [val] (eval e c.env) >>= fun ov => standAt pos.atName >>= fun _ => holding [val, ov] (setAttr ov name val) >>= fun _ => release [val, ov] []) _
  refine Sp.bind (((Sp.hold (h P s φ I F)).mono fun x s₁ φ₁ g₁ p => And.intro g₁ p).more fun _ z => nomatch z) fun ov s₁ φ₁ _ pp => Sp.stand ?_
  obtain ⟨g₁, po, σ₁, I₁, r₁, C, n, fs, e0, hn, S, hz, q⟩ := pp
  subst e0
  intro A hA R E hR
  refine r₁.refE fun p vq e1 => ?_
  subst vq
  refine I₁.insE e1 hn fun es m e2 e3 rs => ?_
  have rv := r.gr g₁
  refine wpAny_bind (wpAny_holding (set_attr (I₁.X ok) e2 e3 S ?_ (by rw [rs.length]; exact hz) fun h' n' hs' hd => wpAny_release ?_))
  · cases hl : fs.lookup name with
    | none => rw [rs.miss hl]; rfl
    | some x => obtain ⟨w, q1, _⟩ := rs.get hl; rw [q1]; rfl
  · have hne : p.1 ≠ p.2 := by rintro z; rw [z, e3] at e2; cases e2
    have I₂ : Inv c.G (hs s₁ h' (s₁.toks + 2)) φ₁ P (σ₁.set n (.inst C (rset name v fs))) := I₁.set e1 (.inr rfl) hs' fun X => ⟨_, n', (hs'.2 _ hne).trans e2, hd, (rs.ext X).put (rv.ext X)⟩
    have al : ∃ o, h'.get? p.2 = some o := ⟨_, hd⟩
    have g₂ : Gr s₁ φ₁ own (hs s₁ h' (s₁.toks + 2)) φ₁ := Gr.set e1 (.inr rfl) hs' al
    have F₂ : FrameAt c.G c.env P h' φ₁ ρ := (F.gr I g₁).gr (s' := hs s₁ h' (s₁.toks + 2)) I₁ (Gr.set e1 (.inr rfl) hs' al)
    exact hR () _ φ₁ g₂ ⟨ρ, _, I₂, F₂, q⟩

/-! ### subscripts -/
noncomputable def SubA (c : Cx) (value slice : Expr) (o i : PV) (σ : Sto) (Q : Post) : Prop :=
  ∀ P s φ ov iv, Inv c.G s φ P σ → VRel c.G s.heap φ P o ov → VRel c.G s.heap φ P i iv → c.Sp [] s φ (subscriptTail value slice ov iv) (PostV c.G P Q)
noncomputable abbrev KSub2 (c : Cx) (value slice : Expr) (o : PV) (Q : Post) : Post := fun i σ₂ => SubA c value slice o i σ₂ Q
noncomputable abbrev KSub (c : Cx) (value slice : Expr) (ρ : Rho) (Q : Post) : Post := fun o σ₁ => EWP c slice ρ σ₁ (KSub2 c value slice o Q)
theorem ewp_sub {value slice : Expr} {pos : Pos} {Q : Post} (h : EWP c value ρ σ (KSub c value slice ρ Q)) : EWP c (.Subscript value slice pos) ρ σ Q := by
  intro P s φ I F
  rw [eval_Subscript]
  refine (h P s φ I F).bind fun o s₁ φ₁ g₁ pp => pp.e fun po σ₁ I₁ r₁ h₁ => ?_
  refine Sp.bind (Sp.hold (h₁ P s₁ φ₁ I₁ (F.gr I g₁))) fun i s₂ φ₂ g₂ pp => pp.e fun pi σ₂ I₂ r₂ h₂ => Sp.stand ?_
  exact h₂ P s₂ φ₂ o i I₂ (r₁.gr g₂) r₂

theorem sub_list {value slice : Expr} {o : PV} {l : List PV} {k : Int} {j : Nat} {p : PV} {Q : Post} (V : LstV σ o l) (hlo : -(2 ^ 63) ≤ k) (hhi : k < 2 ^ 63) (hj : seqIndex? k l.length = some j) (hx : l[j]? = some p) (q : Q p σ)
    (hsl : ∀ o i, subscripted slice false o i = operate [o, i] (getItem o i) := by with_unfolding_all (intro _ _; rfl)) : SubA c value slice o (.int k) σ Q := by
  intro P s φ ov iv I r ri A hA R E hR
  refine V.open I r fun a vs m vq e rs => ?_
  subst vq
  cases ri
  obtain ⟨v, hv, rv⟩ := rs.get hx
  have hL : s.heap.IsList a vs.toArray := ⟨_, e, rfl, m, rfl⟩
  have fin : R v s := hR v s φ (Gr.refl ..) ⟨p, σ, I, rv, q⟩
  refine tail_any hL.typeIs slot_list_getitem.lookup ?_ (hsl _ _)
  unfold seqIndex? at hj
  simp only at hj
  rw [← rs.length] at hj
  by_cases h0 : k < 0
  · rw [if_pos h0] at hj
    split at hj
    · rename_i hc
      simp only [Bool.and_eq_true, decide_eq_true_eq] at hc
      cases hj
      exact wpAny_getItem_list_neg hL h0 (by simp; lia) hlo (by simpa using hv) fin
    · cases hj
  · rw [if_neg h0] at hj
    split at hj
    · cases hj
      exact wpAny_getItem_list hL (by lia) hhi (by simpa using hv) fin
    · cases hj
theorem sub_tup {value slice : Expr} {l : List PV} {k : Int} {j : Nat} {p : PV} {Q : Post} (hlo : -(2 ^ 63) ≤ k) (hhi : k < 2 ^ 63) (hj : seqIndex? k l.length = some j) (hx : l[j]? = some p) (q : Q p σ)
    (hsl : ∀ o i, subscripted slice false o i = operate [o, i] (getItem o i) := by with_unfolding_all (intro _ _; rfl)) : SubA c value slice (.tup l) (.int k) σ Q := by
  intro P s φ ov iv I r ri A hA R E hR
  refine r.tupE fun a vs m vq e f rs => ?_
  subst vq
  cases ri
  obtain ⟨v, hv, rv⟩ := rs.get hx
  exact item_tupleT (t := a) (l := vs) ⟨_, e, rfl, m, rfl⟩ hlo hhi (by rw [rs.length]; exact hj) hv (hR v s φ (Gr.refl ..) ⟨p, σ, I, rv, q⟩) (hsl _ _)
theorem sub_dict {value slice : Expr} {o : PV} {d : List (Str × PV)} {x : Str} {p : PV} {Q : Post} (ok : c.G.Ok) (V : SdV σ o d) (hx : d.lookup x = some p) (q : Q p σ)
    (hsl : ∀ o i, subscripted slice false o i = operate [o, i] (getItem o i) := by with_unfolding_all (intro _ _; rfl)) : SubA c value slice o (.str x) σ Q := by
  intro P s φ ov iv I r ri A hA R E hR
  refine V.open ok I r fun a kvs vq e rs z => ?_
  subst vq
  refine ri.strE fun t vq => ?_
  subst vq
  obtain ⟨v, hv, rv⟩ := rs.get hx
  refine tail_any e.typeIs slot_dict_getitem.lookup (wpAny_getItem_of (strKind_is _ _ x t) e.mapOf hv ?_) (hsl _ _)
  exact hR v (hs s s.heap (s.toks + 1)) φ (Gr.tok _) ⟨p, σ, I.tok _, rv, q⟩

noncomputable def SetI (c : Cx) (o i v : PV) (σ : Sto) (Q : Sto → Prop) : Prop :=
  ∀ P s φ ov iv val, Inv c.G s φ P σ → VRel c.G s.heap φ P o ov → VRel c.G s.heap φ P i iv → VRel c.G s.heap φ P v val → c.Sp [] s φ (setItem ov iv val) (fun _ s' φ' => ∃ σ', Inv c.G s' φ' P σ' ∧ Q σ')
theorem assign_sub (o i : Expr) (pos : Pos) (env : Env) (val : Value) : ∃ L : Value → Value → List Value, assign (.Subscript o i pos) env val = (holding [val] (eval o env) >>= fun ov => holding [val, ov] (eval i env) >>= fun iv => standAt pos >>= fun _ => holding [val, ov, iv] (setItem ov iv val) >>= fun _ =>
    release (L ov iv) []) := ⟨_, rfl⟩
noncomputable abbrev KSet2 (c : Cx) (v po : PV) (ρ : Rho) (Q : Rho → Sto → Prop) : Post := fun pi σ₂ => SetI c po pi v σ₂ (Q ρ)
noncomputable abbrev KSet (c : Cx) (i : Expr) (v : PV) (ρ : Rho) (Q : Rho → Sto → Prop) : Post := fun po σ₁ => EWP c i ρ σ₁ (KSet2 c v po ρ Q)
theorem awp_sub {own : List Addr} {o i : Expr} {pos : Pos} {v : PV} {Q : Rho → Sto → Prop}
    (h : EWP c o ρ σ (KSet c i v ρ Q)) : AWP c own (.Subscript o i pos) v ρ σ Q := by
  intro P s φ val I F r
  have key : c.Sp [] s φ (assign (.Subscript o i pos) c.env val) (fun _ s' φ' => Gr s φ [] s' φ' ∧ ∃ σ', Inv c.G s' φ' P σ' ∧ Q ρ σ') := by
    obtain ⟨L, hL⟩ := assign_sub o i pos c.env val
    rw [hL]
    refine Sp.bind (Sp.hold (h P s φ I F)) fun ov s₁ φ₁ g₁ pp => pp.e fun po σ₁ I₁ r₁ h₁ => ?_
    refine Sp.bind (Sp.hold (h₁ P s₁ φ₁ I₁ (F.gr I g₁))) fun iv s₂ φ₂ g₂ pp => pp.e fun pi σ₂ I₂ r₂ h₂ => Sp.stand ?_
    refine Sp.bind (Sp.hold (h₂ P s₂ φ₂ ov iv val I₂ (r₁.gr g₂) r₂ ((r.gr g₁).gr g₂))) fun _ s₃ φ₃ g₃ pp => exB pp fun σ₃ I₃ q => ?_
    intro A hA R E hR
    exact wpAny_release (hR () s₃ φ₃ (Gr.refl ..) ⟨(g₁.trans g₂).trans g₃, σ₃, I₃, q⟩)
  exact (key.mono fun _ s' φ' _ ⟨g, σ', I', q⟩ => ⟨ρ, σ', I', F.gr I g, q⟩).more fun _ z => nomatch z
theorem set_dict {n : Nat} {d : List (Str × PV)} {x : Str} {v : PV} {Q : Sto → Prop} (hn : σ[n]? = some (.sdict d)) (hz : d.length ≤ sizeLine) (q : Q (σ.set n (.sdict (rset x v d)))) : SetI c (.ref n) (.str x) v σ Q := by
  intro P s φ ov iv val I r ri rv A hA R E hR
  refine r.refE fun p vq e1 => ?_
  subst vq
  refine ri.strE fun t vq => ?_
  subst vq
  refine I.dctE e1 hn fun kvs e rs e2 => ?_
  refine wpAny_setItem_pairs (strKind_is _ _ x t) e (fun h' hd hs' => ?_) (by rw [rs.length]; exact hz)
  rw [stored_rsetV _ _ _ (dictOf_nodup e)] at hd
  have al : ∃ o, h'.get? p.1 = some o := (dictOf_some hd).imp fun _ q => q.1
  have I₂ : Inv c.G (hs s h' (s.toks + 1)) φ P (σ.set n (.sdict (rset x v d))) := I.set e1 (.inl rfl) hs' fun X => ⟨_, hd, (rs.ext X).putV (rv.ext X), e2⟩
  exact hR () (hs s h' (s.toks + 1)) φ (Gr.set e1 (.inl rfl) hs' al) ⟨_, I₂, q⟩
end Mine
namespace Mine
variable {G : Gd} {s : Shared} {φ : Phi} {P : List Addr} {σ : Sto} {c : Cx} {ρ : Rho}

theorem Sp_op {F : List Addr} {k : Nat} {vs : List Value} {t : Sem Value} {Q : Value → Shared → Phi → Prop} (h : Sp G k F s φ t Q) : Sp G k F s φ (operate vs t) Q := fun A r R E hR => wpAny_operating (h A r R E hR)
theorem o2_of {t : Value → Value → Sem Value} {a b : PV} {Q : Post} (h : O2 c t a b σ Q) : O2 c (fun v w => operate [v, w] (t v w)) a b σ Q := fun P s φ v w I r1 r2 => Sp_op (h P s φ v w I r1 r2)
theorem o2_ii {t : Value → Value → Sem Value} {a b : Int} {Q : Post} (h : ∀ P s φ t1 t2, Inv c.G s φ P σ → c.Sp [] s φ (t (.int a t1) (.int b t2)) (PostV c.G P Q)) : O2 c (fun v w => operate [v, w] (t v w)) (.int a) (.int b) σ Q :=
  o2_of fun P s φ v w I r1 r2 => r1.intE fun _ e1 => r2.intE fun _ e2 => e1 ▸ e2 ▸ h P s φ _ _ I
theorem o2_ss {t : Value → Value → Sem Value} {a b : Str} {Q : Post} (h : ∀ P s φ t1 t2, Inv c.G s φ P σ → c.Sp [] s φ (t (.str a t1) (.str b t2)) (PostV c.G P Q)) : O2 c (fun v w => operate [v, w] (t v w)) (.str a) (.str b) σ Q :=
  o2_of fun P s φ v w I r1 r2 => r1.strE fun _ e1 => r2.strE fun _ e2 => e1 ▸ e2 ▸ h P s φ _ _ I
theorem cl_room {A : Around} {k : Nat} (h : Room A k) : A.units + 64 < cLine := by have := h.2.2; show A.units + 64 < 9900; lia

/-! ### ints -/
section
variable {a b : Int} {Q : Post}
theorem o2_add (q : Q (.int (a + b)) σ) : O2 c (fun v w => operate [v, w] (binaryOp .Add v w)) (.int a) (.int b) σ Q := o2_ii fun P s φ t1 t2 I =>
  Sp_tok I (fun A R E h => PySem.P.add_int h) .int q
theorem o2_sub (q : Q (.int (a - b)) σ) : O2 c (fun v w => operate [v, w] (binaryOp .Sub v w)) (.int a) (.int b) σ Q := o2_ii fun P s φ t1 t2 I =>
  Sp_tok I (fun A R E h => PySem.P.sub_int h) .int q
theorem o2_mul (hm : IntMulOk a b) (q : Q (.int (a * b)) σ) : O2 c (fun v w => operate [v, w] (binaryOp .Mult v w)) (.int a) (.int b) σ Q := o2_ii fun P s φ t1 t2 I =>
  Sp_tok I (fun A R E h => PySem.P.mul_int h hm) .int q
theorem o2_mod (hb : b ≠ 0) (q : Q (.int (a.fmod b)) σ) : O2 c (fun v w => operate [v, w] (binaryOp .Mod v w)) (.int a) (.int b) σ Q := o2_ii fun P s φ t1 t2 I =>
  Sp_tok I (fun A R E h => mod_int' hb h) .int q
theorem o2_eq_int (q : Q (.bool (a == b)) σ) : O2 c (fun v w => operate [v, w] (compareOp .Eq v w)) (.int a) (.int b) σ Q := o2_ii fun P s φ t1 t2 I =>
  Sp_tok (tk := s.toks) I (fun A R E h => PySem.P.eq_int h) .bool q
theorem o2_ne_int (q : Q (.bool (a != b)) σ) : O2 c (fun v w => operate [v, w] (compareOp .NotEq v w)) (.int a) (.int b) σ Q := o2_ii fun P s φ t1 t2 I =>
  Sp_tok (tk := s.toks) I (fun A R E h => PySem.P.ne_int h) .bool q
theorem o2_lt (q : Q (.bool (decide (a < b))) σ) : O2 c (fun v w => operate [v, w] (compareOp .Lt v w)) (.int a) (.int b) σ Q := o2_ii fun P s φ t1 t2 I =>
  Sp_tok (tk := s.toks) I (fun A R E h => PySem.P.lt_int h) .bool q
theorem o2_le (q : Q (.bool (decide (a ≤ b))) σ) : O2 c (fun v w => operate [v, w] (compareOp .LtE v w)) (.int a) (.int b) σ Q := o2_ii fun P s φ t1 t2 I =>
  Sp_tok (tk := s.toks) I (fun A R E h => PySem.P.le_int h) .bool q
theorem o2_gt (q : Q (.bool (decide (a > b))) σ) : O2 c (fun v w => operate [v, w] (compareOp .Gt v w)) (.int a) (.int b) σ Q := o2_ii fun P s φ t1 t2 I =>
  Sp_tok (tk := s.toks) I (fun A R E h => PySem.P.gt_int h) .bool q
theorem o2_ge (q : Q (.bool (decide (a ≥ b))) σ) : O2 c (fun v w => operate [v, w] (compareOp .GtE v w)) (.int a) (.int b) σ Q := o2_ii fun P s φ t1 t2 I =>
  Sp_tok (tk := s.toks) I (fun A R E h => PySem.P.ge_int h) .bool q
end
noncomputable abbrev KNeg (Q : Post) : Post := fun v σ₁ => ∃ a, v = .int a ∧ Q (.int (-a)) σ₁
noncomputable abbrev KTup (Q : Post) : List PV → Sto → Prop := fun vs σ₁ => vs.length ≤ sizeLine ∧ Q (.tup vs) σ₁
noncomputable abbrev KLst (Q : Post) : List PV → Sto → Prop := fun vs σ₁ => vs.length ≤ sizeLine ∧ Q (.lst vs) σ₁
noncomputable abbrev KLstM (Q : Post) : List PV → Sto → Prop := fun vs σ₁ => vs.length ≤ sizeLine ∧ Q (.ref σ₁.length) (σ₁ ++ [.list vs])
theorem ewp_neg {e : Expr} {pos : Pos} {Q : Post} (h : EWP c e ρ σ (KNeg Q)) : EWP c (.UnaryOp .USub e pos) ρ σ Q := by
  intro P s φ I F
  show c.Sp [] s φ (eval e c.env >>= fun v => standAt pos >>= fun _ => holding [v] (unaryOp .USub v)) _
  refine (h P s φ I F).bind fun v s₁ φ₁ g₁ pp => pp.e fun pv σ₁ I₁ r₁ h₁ => Sp.stand (Sp.hold ?_)
  obtain ⟨a, e1, q⟩ := h₁
  subst e1
  refine r₁.intE fun t e1 => ?_
  subst e1
  exact Sp_tok I₁ (fun A R E h => PySem.P.neg_int h) .int q
/-! ### strs -/
theorem str_beq (x y : Str) : (x.cps.toList == y.cps.toList) = decide (x = y) := by
  by_cases h : x = y
  · subst h; simp
  · have : x.cps.toList ≠ y.cps.toList := fun e => h (by obtain ⟨a⟩ := x; obtain ⟨b⟩ := y; simp at e; rw [e])
    rw [decide_eq_false h]; exact beq_eq_false_iff_ne.mpr this
section
variable {x y : Str} {Q : Post}
theorem o2_eq_str (q : Q (.bool (decide (x = y))) σ) : O2 c (fun v w => operate [v, w] (compareOp .Eq v w)) (.str x) (.str y) σ Q := o2_ss fun P s φ t1 t2 I =>
  Sp_tok (tk := s.toks) I (fun A R E h => PySem.P.eq_str (by rw [str_beq]; exact h)) .bool q
theorem o2_ne_str (q : Q (.bool (!decide (x = y))) σ) : O2 c (fun v w => operate [v, w] (compareOp .NotEq v w)) (.str x) (.str y) σ Q := o2_ss fun P s φ t1 t2 I =>
  Sp_tok (tk := s.toks) I (fun A R E h => PySem.P.ne_str (by rw [bne, str_beq]; exact h)) .bool q
theorem str_empty {x : Str} (h : x.length = 0) : x = Str.empty := by
  obtain ⟨a⟩ := x
  have : a = #[] := Array.eq_empty_of_size_eq_zero h
  rw [this]; rfl
theorem o2_add_str (hz : (x ++ y).length ≤ sizeLine) (q : Q (.str (x ++ y)) σ) : O2 c (fun v w => operate [v, w] (binaryOp .Add v w)) (.str x) (.str y) σ Q := o2_of fun P s φ v w I r1 r2 => by
  refine r1.strE fun t vq => ?_
  subst vq
  refine r2.strE fun u vq => ?_
  subst vq
  intro A hA R E hR
  refine PySem.P.add_str ?_
  have fin : ∀ tk tk', R (.str (x ++ y) tk) (hs s s.heap tk') := fun tk tk' => hR _ _ φ (Gr.tok tk') ⟨.str (x ++ y), σ, I.tok tk', .str, q⟩
  by_cases hx : x.length = 0
  · have e := str_empty hx
    rw [if_pos (by simpa using hx)]
    have f := fin u s.toks
    rw [e, PySem.Str.empty_append] at f
    exact f
  · rw [if_neg (by simpa using hx)]
    by_cases hy : y.length = 0
    · have e := str_empty hy
      rw [if_pos (by simpa using hy)]
      have f := fin t s.toks
      rw [e, PySem.Str.append_empty] at f
      exact f
    · rw [if_neg (by simpa using hy)]
      exact ⟨hz, fin _ _⟩
end

/-! ### data that is compared -/
inductive DT
  | v (p : PV) (d : PyData)
  | l (p : List PV) (d : List PyData)
inductive Dt (σ : Sto) : DT → Prop
  | none : Dt σ (.v .none .none)
  | bool {b : Bool} : Dt σ (.v (.bool b) (.bool b))
  | int {i : Int} : Dt σ (.v (.int i) (.int i))
  | str {x : Str} : Dt σ (.v (.str x) (.str x))
  | tup {l : List PV} {ds : List PyData} : Dt σ (.l l ds) → Dt σ (.v (.tup l) (.tuple ds))
  | lst {l : List PV} {ds : List PyData} : Dt σ (.l l ds) → Dt σ (.v (.lst l) (.list ds))
  | rlist {n : Nat} {l : List PV} {ds : List PyData} : σ[n]? = some (.list l) → Dt σ (.l l ds) → Dt σ (.v (.ref n) (.list ds))
  | ln : Dt σ (.l [] [])
  | lc {p : PV} {d : PyData} {ps : List PV} {ds : List PyData} : Dt σ (.v p d) → Dt σ (.l ps ds) → Dt σ (.l (p :: ps) (d :: ds))
noncomputable def DatV (σ : Sto) (p : PV) (d : PyData) : Prop := Dt σ (.v p d)
noncomputable def DatVs (σ : Sto) (p : List PV) (d : List PyData) : Prop := Dt σ (.l p d)
theorem DatV.none : DatV σ .none .none := Dt.none
theorem DatV.bool {b : Bool} : DatV σ (.bool b) (.bool b) := Dt.bool
theorem DatV.int {i : Int} : DatV σ (.int i) (.int i) := Dt.int
theorem DatV.str {x : Str} : DatV σ (.str x) (.str x) := Dt.str
theorem DatV.tup {l : List PV} {ds : List PyData} (h : DatVs σ l ds) : DatV σ (.tup l) (.tuple ds) := Dt.tup h
theorem DatV.lst {l : List PV} {ds : List PyData} (h : DatVs σ l ds) : DatV σ (.lst l) (.list ds) := Dt.lst h
theorem DatV.rlist {n : Nat} {l : List PV} {ds : List PyData} (e : σ[n]? = some (.list l)) (h : DatVs σ l ds) : DatV σ (.ref n) (.list ds) := Dt.rlist e h
theorem DatVs.nil : DatVs σ [] [] := Dt.ln
theorem DatVs.cons {p : PV} {d : PyData} {ps : List PV} {ds : List PyData} (a : DatV σ p d) (r : DatVs σ ps ds) : DatVs σ (p :: ps) (d :: ds) := Dt.lc a r
noncomputable def DtSay (G : Gd) (s : Shared) (φ : Phi) (P : List Addr) : DT → Prop
  | .v p d => ∀ v, VRel G s.heap φ P p v → ∃ as, Reads s.heap v d as
  | .l p d => ∀ v, VRels G s.heap φ P p v → ∃ as, ReadsAll s.heap v d as
theorem Dt.reads (I : Inv G s φ P σ) {x : DT} (D : Dt σ x) : DtSay G s φ P x :=
  Dt.rec (motive := fun x _ => DtSay G s φ P x) (fun _ r => r.noneE fun q => q ▸ ⟨_, .none⟩) (fun _ r => r.boolE fun q => q ▸ ⟨_, .bool _⟩) (fun _ r => r.intE fun _ q => q ▸ ⟨_, .int _ _⟩) (fun _ r => r.strE fun _ q => q ▸ ⟨_, .str _ _⟩)
    (fun _ ih _ r => r.tupE fun _ _ _ q e f t => q ▸ Exists.elim (ih _ t) fun _ z => ⟨_, .tuple e rfl rfl z⟩)
    (fun _ ih _ r => r.lstE fun _ _ _ q e f t => q ▸ Exists.elim (ih _ t) fun _ z => ⟨_, .list e rfl rfl z⟩)
    (fun h _ ih _ r => r.refE fun _ q e => I.lstE e h fun _ _ e1 r1 _ => q ▸ Exists.elim (ih _ r1) fun _ z => ⟨_, .list e1 rfl rfl z⟩)
    (fun _ r => r.nilE fun q => q ▸ ⟨_, .nil⟩) (fun _ _ i j _ r => r.consE fun _ _ q a t => q ▸ Exists.elim (i _ a) fun _ z => Exists.elim (j _ t) fun _ w => ⟨_, .cons z w⟩) D
theorem DatV.reads (I : Inv G s φ P σ) {p : PV} {d : PyData} {v : Value} (D : DatV σ p d) (r : VRel G s.heap φ P p v) : ∃ as, Reads s.heap v d as := Dt.reads I (x := .v p d) D v r
section
variable {a b : PV} {d e : PyData} {Q : Post}
theorem o2_eq (da : DatV σ a d) (db : DatV σ b e) (ha : SeqAt.shaped d = true) (hb : SeqAt.shaped e = true) (q : Q (.bool (PyData.eqv d e)) σ) : O2 c (fun v w => operate [v, w] (compareOp .Eq v w)) a b σ Q := o2_of fun P s φ v w I r1 r2 => by
  obtain ⟨_, q1⟩ := da.reads I r1; obtain ⟨_, q2⟩ := db.reads I r2
  intro A hA R E hR
  exact eq_dataH q1 q2 ha hb (cl_room hA) (hR _ s φ (Gr.refl ..) ⟨_, σ, I, .bool, q⟩)
theorem o2_ne (da : DatV σ a d) (db : DatV σ b e) (ha : SeqAt.shaped d = true) (hb : SeqAt.shaped e = true) (q : Q (.bool (!PyData.eqv d e)) σ) : O2 c (fun v w => operate [v, w] (compareOp .NotEq v w)) a b σ Q := o2_of fun P s φ v w I r1 r2 => by
  obtain ⟨_, q1⟩ := da.reads I r1; obtain ⟨_, q2⟩ := db.reads I r2
  intro A hA R E hR
  exact ne_dataH q1 q2 ha hb (cl_room hA) (hR _ s φ (Gr.refl ..) ⟨_, σ, I, .bool, q⟩)
/-- in a list or a tuple -/
theorem o2_in {ds : List PyData} (da : DatV σ a d) (db : DatV σ b (.list ds) ∨ DatV σ b (.tuple ds)) (ha : SeqAt.shaped d = true) (hb : PyData.canLayAll0 ds = true) (q : Q (.bool (ds.any fun y => PyData.eqv y d)) σ) : O2 c (fun v w => operate [v, w] (compareOp .In v w)) a b σ Q := o2_of fun P s φ v w I r1 r2 => by
  obtain ⟨_, q1⟩ := da.reads I r1
  intro A hA R E hR
  have u := cl_room hA
  have hd := SeqAt.depth_of_shaped ha
  have fin := hR _ s φ (Gr.refl ..) ⟨_, σ, I, .bool, q⟩
  have hm : min (PyData.depthAll ds) d.depth ≤ d.depth := Nat.min_le_right _ _
  rcases db with db | db
  · obtain ⟨_, q2⟩ := db.reads I r2
    exact SeqAt.in_list_reads q2 q1 hb (SeqAt.canLay_of_shaped ha) (by have := hA.2.2; show _ < 9900; lia) fin
  · obtain ⟨_, q2⟩ := db.reads I r2
    exact SeqAt.in_tuple_reads q2 q1 hb (SeqAt.canLay_of_shaped ha) (by have := hA.2.2; show _ < 9900; lia) fin
theorem o2_notin {ds : List PyData} (da : DatV σ a d) (db : DatV σ b (.list ds) ∨ DatV σ b (.tuple ds)) (ha : SeqAt.shaped d = true) (hb : PyData.canLayAll0 ds = true) (q : Q (.bool (!ds.any fun y => PyData.eqv y d)) σ) : O2 c (fun v w => operate [v, w] (compareOp .NotIn v w)) a b σ Q := o2_of fun P s φ v w I r1 r2 => by
  obtain ⟨_, q1⟩ := da.reads I r1
  intro A hA R E hR
  have u := cl_room hA
  have hd := SeqAt.depth_of_shaped ha
  have fin := hR _ s φ (Gr.refl ..) ⟨_, σ, I, .bool, q⟩
  have hm : min (PyData.depthAll ds) d.depth ≤ d.depth := Nat.min_le_right _ _
  rcases db with db | db
  · obtain ⟨_, q2⟩ := db.reads I r2
    exact SeqAt.notIn_list_reads q2 q1 hb (SeqAt.canLay_of_shaped ha) (by have := hA.2.2; show _ < 9900; lia) fin
  · obtain ⟨_, q2⟩ := db.reads I r2
    exact SeqAt.notIn_tuple_reads q2 q1 hb (SeqAt.canLay_of_shaped ha) (by have := hA.2.2; show _ < 9900; lia) fin
/-- in a dict by strs -/
theorem o2_in_dict {x : Str} {dd : List (Str × PV)} (ok : c.G.Ok) (V : SdV σ b dd) (q : Q (.bool (dd.lookup x).isSome) σ) : O2 c (fun v w => operate [v, w] (compareOp .In v w)) (.str x) b σ Q := o2_of fun P s φ v w I r1 r2 => by
  refine V.open ok I r2 fun a kvs vq e rs z => ?_
  subst vq
  refine r1.strE fun t vq => ?_
  subst vq
  have hv : (valueAt kvs x).isSome = (dd.lookup x).isSome := by
    cases h : dd.lookup x with
    | none => rw [rs.miss h]; rfl
    | some p => obtain ⟨w, q1, _⟩ := rs.get h; rw [q1]; rfl
  exact Sp_tok I (fun A R E h => wpAny_in_of (strKind_is _ _ x t) z e.mapOf (by rw [hv]; exact h)) .bool q
theorem o2_notin_dict {x : Str} {dd : List (Str × PV)} (ok : c.G.Ok) (V : SdV σ b dd) (q : Q (.bool (!(dd.lookup x).isSome)) σ) : O2 c (fun v w => operate [v, w] (compareOp .NotIn v w)) (.str x) b σ Q := o2_of fun P s φ v w I r1 r2 => by
  refine V.open ok I r2 fun a kvs vq e rs z => ?_
  subst vq
  refine r1.strE fun t vq => ?_
  subst vq
  have hv : (valueAt kvs x).isSome = (dd.lookup x).isSome := by
    cases h : dd.lookup x with
    | none => rw [rs.miss h]; rfl
    | some p => obtain ⟨w, q1, _⟩ := rs.get h; rw [q1]; rfl
  exact Sp_tok I (fun A R E h => wpAny_notIn_of (strKind_is _ _ x t) z e.mapOf (by rw [hv]; exact h)) .bool q
end

/-! ### is None -/
noncomputable def notNone : PV → Bool
  | .none => false
  | _ => true
theorem o2_isnot_none {a : PV} {Q : Post} (q : Q (.bool (notNone a)) σ) (hc : ∀ v, a ≠ .cst v) : O2 c (fun v w => operate [v, w] (compareOp .IsNot v w)) a .none σ Q := o2_of fun P s φ v w I r1 r2 => by
  refine r2.noneE fun e2 => ?_
  subst e2
  have e : ∀ (A : Around) (R : Value → Shared → Prop) (E : Value → Shared → Prop), R (.bool (notNone a)) s → wpAny c.G.M A (compareOp .IsNot v .none) R E s := fun A R E h => by
    refine wpAny_isNot_plain (by cases r1 <;> first | rfl | exact absurd rfl (hc _)) ?_
    cases r1 <;> first | exact h | exact absurd rfl (hc _)
  exact Sp_tok (tk := s.toks) I e .bool q

/-! ### truth -/
theorem twp_bool {b : Bool} {Q : Bool → Sto → Prop} (q : Q b σ) : TWP c (.bool b) σ Q := fun P s φ v I r A hA R E hR => by
  cases r; exact wpAny_truthy_bool (hR b s φ (Gr.refl ..) ⟨σ, I, q⟩)

/-! ### sums of sequences -/
theorem o2_add_list {a b : PV} {l l' : List PV} {Q : Post} (V : LstV σ a l) (V' : LstV σ b l') (hz : l.length + l'.length ≤ sizeLine) (q : Q (.lst (l ++ l')) σ) : O2 c (fun v w => operate [v, w] (binaryOp .Add v w)) a b σ Q := o2_of fun P s φ v w I r1 r2 => by
  refine V.open I r1 fun x vs m vq e1 rs1 => ?_
  subst vq
  refine V'.open I r2 fun y ws m' vq e2 rs2 => ?_
  subst vq
  have k := keep_push s.heap { cls := .type "list", data := .seq (vs.toArray ++ ws.toArray) }
  refine Sp_ret (pv := .lst (l ++ l')) (tk := s.toks) (fun A R E h => PySem.P.add_list e1 e2 h (by rw [List.size_toArray, List.size_toArray, rs1.length, rs2.length]; exact hz)) (Gr.keepAll k) (I.keepAll k) (.lst (n := 0) (vs := vs ++ ws) ?_ (I.fresh (get_size _)) ((rs1.append rs2).ext (Ext.of_keepP (N := []) k fun _ z => nomatch z))) q
  have := Heap.get?_push_size s.heap (o := { cls := .type "list", data := .seq (vs.toArray ++ ws.toArray) }) rfl
  simpa [lstObj] using this
theorem tup_ret {Q : Post} {F : List Addr} {k : Nat} {t : Sem Value} {l : List PV} {vs : List Value} (I : Inv G s φ P σ) (rs : VRels G s.heap φ P l vs)
    (h : ∀ (A : Around) (R : Value → Shared → Prop) (E : Value → Shared → Prop), R (.ref s.heap.objs.size) { s with heap := s.heap.push { cls := .type "tuple", data := .seq vs.toArray } } → wpAny G.M A t R E s) (q : Q (.tup l) σ) : Sp G k F s φ t (PostV G P Q) := by
  have kp := keep_push s.heap { cls := .type "tuple", data := .seq vs.toArray }
  refine Sp_ret (pv := .tup l) (tk := s.toks) h (Gr.keepAll kp) (I.keepAll kp) (.tup (n := 0) (vs := vs) ?_ (I.fresh (get_size _)) (rs.ext (Ext.of_keepP (N := []) kp fun _ z => nomatch z))) q
  exact Heap.get?_push_size s.heap (o := { cls := .type "tuple", data := .seq vs.toArray }) rfl
theorem lst_ret {Q : Post} {F : List Addr} {k : Nat} {t : Sem Value} {l : List PV} {vs : List Value} (I : Inv G s φ P σ) (rs : VRels G s.heap φ P l vs)
    (h : ∀ (A : Around) (R : Value → Shared → Prop) (E : Value → Shared → Prop), R (.ref s.heap.objs.size) { s with heap := s.heap.push { cls := .type "list", data := .seq vs.toArray } } → wpAny G.M A t R E s) (q : Q (.lst l) σ) : Sp G k F s φ t (PostV G P Q) := by
  have kp := keep_push s.heap { cls := .type "list", data := .seq vs.toArray }
  refine Sp_ret (pv := .lst l) (tk := s.toks) h (Gr.keepAll kp) (I.keepAll kp) (.lst (n := 0) (vs := vs) ?_ (I.fresh (get_size _)) (rs.ext (Ext.of_keepP (N := []) kp fun _ z => nomatch z))) q
  exact Heap.get?_push_size s.heap (o := { cls := .type "list", data := .seq vs.toArray }) rfl
/-- a list made that is the store's -/
theorem list_ret {Q : Post} {F : List Addr} {k : Nat} {t : Sem Value} {l : List PV} {vs : List Value} (I : Inv G s φ P σ) (rs : VRels G s.heap φ P l vs)
    (h : ∀ (A : Around) (R : Value → Shared → Prop) (E : Value → Shared → Prop), R (.ref s.heap.objs.size) { s with heap := s.heap.push { cls := .type "list", data := .seq vs.toArray } } → wpAny G.M A t R E s) (q : Q (.ref σ.length) (σ ++ [.list l])) : Sp G k F s φ t (PostV G P Q) := by
  have kp := keep_push s.heap { cls := .type "list", data := .seq vs.toArray }
  have g1 := Heap.get?_push_size s.heap (o := { cls := .type "list", data := .seq vs.toArray }) rfl
  have I₁ : Inv G (hs s (s.heap.push { cls := .type "list", data := .seq vs.toArray }) s.toks) (φ ++ [(s.heap.objs.size, s.heap.objs.size)]) P (σ ++ [.list l]) :=
    I.new kp (get_size _) (get_size _) fun X => ⟨vs, 0, g1, rs.ext X, rfl⟩
  refine Sp_ret (pv := .ref σ.length) (tk := s.toks) h (Gr.new kp (get_size _) (get_size _)) I₁ (VRel.ref (p := (s.heap.objs.size, s.heap.objs.size)) (by rw [← I.len]; simp)) q
theorem o2_add_tup {l l' : List PV} {Q : Post} (h1 : l ≠ []) (h2 : l' ≠ []) (hz : l.length + l'.length ≤ sizeLine) (q : Q (.tup (l ++ l')) σ) : O2 c (fun v w => operate [v, w] (binaryOp .Add v w)) (.tup l) (.tup l') σ Q := o2_of fun P s φ v w I r1 r2 => by
  refine r1.tupE fun a vs m vq e1 f1 rs1 => ?_
  subst vq
  refine r2.tupE fun b ws m' vq e2 f2 rs2 => ?_
  subst vq
  have hvs : vs ≠ [] := fun e => h1 (by have := rs1.length; rw [e] at this; exact List.eq_nil_of_length_eq_zero this.symm)
  have hws : ws ≠ [] := fun e => h2 (by have := rs2.length; rw [e] at this; exact List.eq_nil_of_length_eq_zero this.symm)
  refine tup_ret I (rs1.append rs2) (fun A R E h => PySem.P.add_tuple e1 e2 (by simpa using hvs) (by simpa using hws) (by simpa using h) (by rw [List.size_toArray, List.size_toArray, rs1.length, rs2.length]; exact hz)) q

/-! ### displays -/
theorem ewp_tuple {es : List Expr} {n : Nat} {pos : Pos} {Q : Post} (h : LWP c es ρ σ (KTup Q)) : EWP c (.Tuple es n pos) ρ σ Q := by
  intro P s φ I F
  show c.Sp [] s φ (standAt pos >>= fun _ => spliced (backTo pos (starEach es c.env)) >>= fun vs => newTuple vs) _
  refine Sp.stand ((h P s φ pos I F).bind fun vs s₁ φ₁ g₁ ⟨pvs, σ₁, I₁, r₁, hz, q⟩ => ?_)
  exact tup_ret I₁ r₁ (fun A R E h => wpAny_newTuple h (by rw [r₁.length]; exact hz)) q
/-- a list display that nothing changes -/
theorem ewp_list {es : List Expr} {pos : Pos} {Q : Post} (h : LWP c es ρ σ (KLst Q)) : EWP c (.List es pos) ρ σ Q := by
  intro P s φ I F
  show c.Sp [] s φ (standAt pos >>= fun _ => spliced (backTo pos (starEach es c.env)) >>= fun vs => newList vs) _
  refine Sp.stand ((h P s φ pos I F).bind fun vs s₁ φ₁ g₁ ⟨pvs, σ₁, I₁, r₁, hz, q⟩ => ?_)
  exact lst_ret I₁ r₁ (fun A R E h => wpAny_newList h (by rw [r₁.length]; exact hz)) q
/-- a list display that is changed later -/
theorem ewp_list_m {es : List Expr} {pos : Pos} {Q : Post} (h : LWP c es ρ σ (KLstM Q)) : EWP c (.List es pos) ρ σ Q := by
  intro P s φ I F
  show c.Sp [] s φ (standAt pos >>= fun _ => spliced (backTo pos (starEach es c.env)) >>= fun vs => newList vs) _
  refine Sp.stand ((h P s φ pos I F).bind fun vs s₁ φ₁ g₁ ⟨pvs, σ₁, I₁, r₁, hz, q⟩ => ?_)
  exact list_ret I₁ r₁ (fun A R E h => wpAny_newList h (by rw [r₁.length]; exact hz)) q
end Mine
namespace Mine
variable {G : Gd} {s : Shared} {φ : Phi} {P : List Addr} {σ : Sto} {c : Cx} {ρ : Rho}

/-! ### letting go of an address that is kept from the values -/
theorem Ext.drop {h h' : Heap} {P' : List Addr} {L : Addr} (hL : L ∈ P) (hx : Heap.ExtBut L h h') (hP : ∀ a ∈ P', a ∈ P ∧ a ≠ L) : Ext h φ P h' φ P' :=
  ⟨fun a o e f => ⟨hx a o (fun q => f.2 (q ▸ hL)) e, f.1, fun q => f.2 (hP a q).1⟩, fun _ _ e => e⟩
theorem Inv.drop (I : Inv G s φ P σ) {P' : List Addr} {L : Addr} {h' : Heap} {t : Nat} (hL : L ∈ P) (hx : Heap.ExtBut L s.heap h') (hP : ∀ a ∈ P', a ∈ P ∧ a ≠ L) : Inv G (hs s h' t) φ P' σ where
  base := fun b o e => hx b o (by rintro rfl; rw [I.apart _ (.inr hL)] at e; cases e) (I.base b o e)
  apart := fun a h => I.apart a (h.imp id fun q => (hP a q).1)
  disj := fun a h q => I.disj a h (hP a q).1
  plow := fun a h => let ⟨o, e⟩ := I.plow a (hP a h).1; ⟨o, hx a o (hP a h).2 e⟩
  len := I.len
  inj := I.inj
  obj := fun n p o e1 e2 => ORel.ext (Ext.drop hL hx hP) (I.obj n p o e1 e2) (fun o e => hx _ o (fun q => I.disj L (q ▸ mem_adr1 (phi_mem e1)) hL) e) (fun o e => hx _ o (fun q => I.disj L (q ▸ mem_adr2 (phi_mem e1)) hL) e)
theorem Gr.drop {s₀ : Shared} {φ₀ : Phi} {F : List Addr} {L : Addr} {h' : Heap} {t : Nat} (g : Gr s₀ φ₀ F s φ) (h0 : s₀.heap.get? L = Option.none) (hx : Heap.ExtBut L s.heap h') : Gr s₀ φ₀ F (hs s h' t) φ where
  pre := g.pre
  keep := fun b o e h1 h2 => hx b o (by rintro rfl; rw [h0] at e; cases e) (g.keep b o e h1 h2)
  alive := fun b o e => let ⟨o', e'⟩ := g.alive b o e; ⟨o', hx b o' (by rintro rfl; rw [h0] at e; cases e) e'⟩
  gens := g.gens
  drawn := g.drawn
  os := g.os
theorem FrameAt.drop {env : Env} {P' : List Addr} {L : Addr} {h' : Heap} (f : FrameAt G env P s.heap φ ρ) (hL : L ∈ P) (hx : Heap.ExtBut L s.heap h') (hP : ∀ a ∈ P', a ∈ P ∧ a ≠ L) (hO : ∀ a ∈ ownA env, a ∈ P') : FrameAt G env P' h' φ ρ := by
  have E : Ext s.heap φ P h' φ P' := Ext.drop hL hx hP
  obtain ⟨m, hm, hv⟩ := f.ns
  have kp : ∀ a ∈ ownA env, ∀ o, s.heap.get? a = some o → h'.get? a = some o := fun a ha o e => hx a o (hP a (hO a ha)).2 e
  exact ⟨f.kind, f.glob, f.blt, ⟨m, ns_keep hm (kp _ (by simp [ownA])), fun x v e1 e2 => let ⟨val, q1, q2⟩ := hv x v e1 e2; ⟨val, q1, q2.ext E⟩⟩,
    fun x c e => let ⟨v, q⟩ := f.cell x c e; ⟨v, isCell_keep q (kp c (List.mem_cons_of_mem _ (lookup_mem_map e)))⟩,
    fun x v e1 => (f.val x v e1).imp id fun ⟨q, c, val, q1, q2, q3⟩ => ⟨q, c, val, q1, isCell_keep q2 (kp c (List.mem_cons_of_mem _ (lookup_mem_map q1))), q3.ext E⟩, f.inj, hO⟩

/-! ### what a loop goes over -/
noncomputable def rngL (a b : Int) : List PV := (List.range (b - a).toNat).map fun (i : Nat) => PV.int (a + i)
noncomputable def isL : PV → Bool
  | .lst _ => true
  | .ref _ => true
  | _ => false
noncomputable def RngOk (a b : Int) : Prop := -(2 ^ 62) ≤ a ∧ a < 2 ^ 62 ∧ -(2 ^ 62) ≤ b ∧ b < 2 ^ 62
inductive Src (σ : Sto) : PV → List PV → Prop
  | lst {pv : PV} {l : List PV} : LstV σ pv l → Src σ pv l
  | tup {l : List PV} : Src σ (.tup l) l
  | rng {a b : Int} : RngOk a b → Src σ (.rng a b) (rngL a b)

inductive ItAt (G : Gd) (h : Heap) (φ : Phi) (P : List Addr) : PV → Addr → Nat → Prop
  | lst {pv : PV} {a it : Addr} {i : Nat} : isL pv = true → VRel G h φ P pv (.ref a) → h.IsListIter it a i → ItAt G h φ P pv it i
  | tup {l : List PV} {a it : Addr} {i : Nat} : VRel G h φ P (.tup l) (.ref a) → h.IsTupleIter it a i → ItAt G h φ P (.tup l) it i
  | rng {a b : Int} {it : Addr} {i : Nat} : IsRangeIter h it (a + i) ((b - a).toNat - i) 1 → ItAt G h φ P (.rng a b) it i

theorem LstV.isL {pv : PV} {l : List PV} (V : LstV σ pv l) : Mine.isL pv = true := by cases V <;> rfl

theorem ItAt.ext {h h' : Heap} {φ' : Phi} {P' : List Addr} {pv : PV} {it : Addr} {i : Nat} (E : Ext h φ P h' φ' P') (k : ∀ o, h.get? it = some o → h'.get? it = some o) (T : ItAt G h φ P pv it i) : ItAt G h' φ' P' pv it i := by
  cases T with
  | lst a r t => obtain ⟨o, e, q⟩ := t; exact .lst a (r.ext E) ⟨o, k _ e, q⟩
  | tup r t => obtain ⟨o, e, q⟩ := t; exact .tup (r.ext E) ⟨o, k _ e, q⟩
  | rng t => exact .rng (k _ t)

theorem iter_start {A : Around} {E : Value → Shared → Prop} {Q : Value → Shared → Prop} {pv : PV} {l : List PV} {v : Value} (S : Src σ pv l) (I : Inv G s φ P σ) (r : VRel G s.heap φ P pv v)
    (hQ : ∀ h' it, it = s.heap.objs.size → (∀ b o, s.heap.get? b = some o → h'.get? b = some o) → (∃ o, h'.get? it = some o) → ItAt G h' φ (it :: P) pv it 0 → Q (.ref it) (hs s h' s.toks)) : wpAny G.M A (pyIter v) Q E s := by
  have kp : ∀ o, ∀ b x, s.heap.get? b = some x → (s.heap.push o).get? b = some x := fun o => keep_push s.heap o
  have E' : ∀ o, Ext s.heap φ P (s.heap.push o) φ (s.heap.objs.size :: P) := fun o => Ext.of_keepP (N := [s.heap.objs.size]) (kp o) (fun a h => by rw [List.mem_singleton.mp h]; exact get_size _)
  cases S with
  | lst V =>
    refine V.open I r fun a vs m vq e rs => ?_
    subst vq
    have hg := Heap.get?_push_size s.heap (o := { cls := .type "list_iterator", data := .fields #[.ref a, .int 0 0] }) rfl
    exact wpAny_pyIter_list ⟨_, e, rfl, m, rfl⟩ (hQ _ _ rfl (kp _) ⟨_, hg⟩ (.lst V.isL (r.ext (E' _)) ⟨_, hg, rfl, rfl⟩))
  | tup =>
    refine r.tupE fun a vs m vq e f rs => ?_
    subst vq
    have hg := Heap.get?_push_size s.heap (o := { cls := .type "tuple_iterator", data := .fields #[.ref a, .int 0 0] }) rfl
    exact wpAny_pyIter_tuple ⟨_, e, rfl, m, rfl⟩ (hQ _ _ rfl (kp _) ⟨_, hg⟩ (.tup ((VRel.tup e f rs).ext (E' _)) ⟨_, hg, rfl, rfl⟩))
  | @rng a b hab =>
    refine r.rngE fun rr t u w vq e f => ?_
    subst vq
    refine wpAny_pyIter_range e (small_one hab.1 hab.2.1 hab.2.2.1 hab.2.2.2) ?_
    have hg := Heap.get?_push_size s.heap (o := { cls := .type "range_iterator", data := .fields #[rawInt a, rawInt (Builtin.Range.rangeSize a b 1), rawInt 1] }) rfl
    refine hQ _ _ rfl (kp _) ⟨_, hg⟩ (.rng ?_)
    have e1 : Builtin.Range.rangeSize a b 1 = ((b - a).toNat : Int) - ((0 : Nat) : Int) := by rw [rangeSize_one]; split <;> lia
    have e2 : a + ((0 : Nat) : Int) = a := by simp
    rw [e2, ← e1]; exact hg

theorem next_item {A : Around} {E : Value → Shared → Prop} {Q : Option Value → Shared → Prop} {pv : PV} {l : List PV} {it : Addr} {i : Nat} {p : PV} (S : Src σ pv l) (I : Inv G s φ P σ) (T : ItAt G s.heap φ P pv it i) (hit : it ∈ P) (e : l[i]? = some p)
    (hQ : ∀ s' v, Inv G s' φ P σ → (∀ F, it ∈ F → Gr s φ F s' φ) → VRel G s'.heap φ P p v → ItAt G s'.heap φ P pv it (i + 1) → Q (some v) s') : wpAny G.M A (pyNext (.ref it)) Q E s := by
  have fin : ∀ h' t v, Heap.SameBut it s.heap h' → (∃ o, h'.get? it = some o) → VRel G h' φ P p v → ItAt G h' φ P pv it (i + 1) → Q (some v) (hs s h' t) := fun h' t v hs' al r' T' =>
    hQ _ v (I.other hs' hit al) (fun F hF => Gr.other hs' (.inl hF) al) r' T'
  have E' : ∀ h', Heap.SameBut it s.heap h' → Ext s.heap φ P h' φ P := fun h' hs' => ⟨fun a o e f => ⟨(hs'.2 a fun q => f.2 (q ▸ hit)).trans e, f⟩, fun _ _ e => e⟩
  cases T with
  | @lst _ a _ _ ha r t =>
    cases S with
    | lst V =>
      refine V.open I r fun a' vs m ea e1 rs => ?_
      cases ea
      obtain ⟨v, hv, rv⟩ := rs.get e
      exact wpAny_pyNext_list_item t ⟨_, e1, rfl, m, rfl⟩ (by simpa using hv) fun h' t' hs' => fin h' s.toks v hs' (let ⟨o, q, _⟩ := t'; ⟨o, q⟩) (rv.ext (E' h' hs')) (.lst ha (r.ext (E' h' hs')) t')
    | tup => cases ha
    | rng _ => cases ha
  | @tup _ a _ _ r t =>
    cases S with
    | lst V => exact absurd V.isL (by simp [isL])
    | tup =>
      refine r.tupE fun _ vs m vq e1 f rs => ?_
      cases vq
      obtain ⟨v, hv, rv⟩ := rs.get e
      exact wpAny_pyNext_tuple_item t ⟨_, e1, rfl, m, rfl⟩ (by simpa using hv) fun h' t' hs' => fin h' s.toks v hs' (let ⟨o, q, _⟩ := t'; ⟨o, q⟩) (rv.ext (E' h' hs')) (.tup ((VRel.tup e1 f rs).ext (E' h' hs')) t')
  | @rng a b _ _ t =>
    cases S with
    | lst V => exact absurd V.isL (by simp [isL])
    | rng _ =>
      have hi : i < (b - a).toNat := by
        have := (List.getElem?_eq_some_iff.mp e).1
        simpa [rngL] using this
      have hp : p = .int (a + i) := by
        simp [rngL, List.getElem?_map, List.getElem?_range hi] at e
        exact e.symm
      subst hp
      refine wpAny_pyNext_range_item t (by lia) fun h' t' hs' => ?_
      exact fin h' (s.toks + 1) _ hs' ⟨_, t'⟩ .int (.rng (by
        have e1 : a + (i : Int) + 1 = a + ((i + 1 : Nat) : Int) := by push_cast; lia
        have e2 : ((b - a).toNat : Int) - i - 1 = ((b - a).toNat : Int) - ((i + 1 : Nat) : Int) := by push_cast; lia
        rw [← e1, ← e2]; exact t'))
theorem next_end {A : Around} {E : Value → Shared → Prop} {Q : Option Value → Shared → Prop} {pv : PV} {l : List PV} {it : Addr} {i : Nat} (hh : A.handled = Option.none) (S : Src σ pv l) (I : Inv G s φ P σ) (T : ItAt G s.heap φ P pv it i) (e : l[i]? = Option.none)
    (hQ : ∀ h', Heap.ExtBut it s.heap h' → Q Option.none (hs s h' s.toks)) : wpAny G.M A (pyNext (.ref it)) Q E s := by
  cases T with
  | @lst _ a _ _ ha r t =>
    cases S with
    | lst V =>
      refine V.open I r fun a' vs m ea e1 rs => ?_
      cases ea
      exact wpAny_pyNext_list_end hh t ⟨_, e1, rfl, m, rfl⟩ (by
        have := List.getElem?_eq_none_iff.mp e
        simp; rw [rs.length]; exact this) hQ
    | tup => cases ha
    | rng _ => cases ha
  | @tup _ a _ _ r t =>
    cases S with
    | lst V => exact absurd V.isL (by simp [isL])
    | tup =>
      refine r.tupE fun _ vs m vq e1 f rs => ?_
      cases vq
      exact wpAny_pyNext_tuple_end hh t ⟨_, e1, rfl, m, rfl⟩ (by
        have := List.getElem?_eq_none_iff.mp e
        simp; rw [rs.length]; exact this) hQ
  | @rng a b _ _ t =>
    cases S with
    | lst V => exact absurd V.isL (by simp [isL])
    | rng _ =>
      have hi : (b - a).toNat ≤ i := by
        have := List.getElem?_eq_none_iff.mp e
        simpa [rngL] using this
      exact wpAny_pyNext_range_end hh t (by lia) hQ
theorem go_shape (t : Expr) (it : Addr) (v : Value) : letOwnedTupleGo t (.ref it) v = pure () ∨ letOwnedTupleGo t (.ref it) v = letOwnedTupleGo (.Tuple [] 0 default) (.ref it) v := by
  cases t <;> first | exact .inl rfl | exact .inr rfl
theorem owned_key {A : Around} {E : Value → Shared → Prop} {Q : Unit → Shared → Prop} {it : Addr} {tgt : Expr} {v : Value} {o : Obj} {n : String} {vs : Array Value} (e1 : s.heap.get? it = some o) (e2 : o.cls = .type n) (e3 : o.data = .fields vs) (e4 : (["enumerate", "zip", "dict_itemiterator", "dict_reverseitemiterator", "odict_iterator", "itertools.zip_longest", "itertools.pairwise"].contains n) = false) (hQ : Q () s) : wpAny G.M A (letOwnedTupleGo tgt (.ref it) v) Q E s := by
  rcases go_shape tgt it v with h | h
  · rw [h]; exact wpAny_pure hQ
  · rw [h]
    cases v
    case ref a =>
      unfold letOwnedTupleGo
      refine wpAny_bind (wpAny_load e1 ?_)
      rw [e2, e3]
      dsimp only
      rw [e4, Bool.false_and]
      exact wpAny_pure hQ
    all_goals exact wpAny_pure hQ
theorem owned_go {A : Around} {E : Value → Shared → Prop} {Q : Unit → Shared → Prop} {pv : PV} {it : Addr} {i : Nat} {tgt : Expr} {v : Value} (T : ItAt G s.heap φ P pv it i) (hQ : Q () s) : wpAny G.M A (letOwnedTupleGo tgt (.ref it) v) Q E s := by
  cases T with
  | lst a r t => obtain ⟨o, e, q1, q2⟩ := t; exact owned_key e q1 q2 (by decide) hQ
  | tup r t => obtain ⟨o, e, q1, q2⟩ := t; exact owned_key e q1 q2 (by decide) hQ
  | rng t => exact owned_key t rfl rfl (by decide) hQ
/-! ### for -/
noncomputable def ForWP (c : Cx) (tgt : Expr) (body : List Stmt) (pv : PV) (l : List PV) (Qn : Rho → Sto → Prop) (Qr : Post) : List PV → Rho → Sto → Prop
  | [], ρ, σ => Src σ pv l ∧ Qn ρ σ
  | x :: r, ρ, σ => Src σ pv l ∧ AWP c (ownA c.env) tgt x ρ σ fun ρ₁ σ₁ => SWP c body ρ₁ σ₁ (fun ρ₂ σ₂ => ForWP c tgt body pv l Qn Qr r ρ₂ σ₂) Qr

noncomputable abbrev KFor (c : Cx) (tgt : Expr) (body : List Stmt) (ρ : Rho) (Qn : Rho → Sto → Prop) (Qr : Post) : Post := fun pv σ₁ => ∃ l, ForWP c tgt body pv l Qn Qr l ρ σ₁
theorem for_by {M : Model} {A : Around} {R : Result → Shared → Prop} {target : Expr} {it : Value} {body : List Stmt} {env : Env} (hM : ∃ prog w, M = model prog w) (I : Nat → Shared → Prop)
    (turn : ∀ n s, I n s → ∀ (PN : Option Value → Shared → Prop) (PB : Flow → Shared → Prop) (EX : Value → Shared → Prop), (∀ s₁, R (.ok .next) s₁ → PN none s₁) →
      (∀ v s₁, wpAny M A (letOwnedTupleGo target it v) (fun _ s₁' => wpAny M A (assign target env v) (fun _ s₂ => wpAny M A (execs body env) PB EX s₂) EX s₁') EX s₁ → PN (some v) s₁) →
      (∀ s₃ m, m < n → I m s₃ → PB .next s₃) → (∀ v s₃, R (.ok (.ret v)) s₃ → PB (.ret v) s₃) → wpAny M A (pyNext it) PN EX s)
    (n : Nat) (h : I n s) : codeAny M A (.forLoop target it body [] env) R s := by
  obtain ⟨prog, w, rfl⟩ := hM
  exact codeAny_forLoop_any I (fun n s h => turn n s h _ (fun f s₃ => match f with
            | .next | .cont => ∃ m, m < n ∧ I m s₃
            | .brk => R (.ok .next) s₃
            | .ret v => R (.ok (.ret v)) s₃) _ (fun s₁ k => wpAny_execs_nil k) (fun _ _ k => k) (fun _ m a b => ⟨m, a, b⟩) fun _ _ k => k) n h
inductive ForI (c : Cx) (tgt : Expr) (body : List Stmt) (pv : PV) (l : List PV) (Qn : Rho → Sto → Prop) (Qr : Post) (P : List Addr) (it : Addr) (s : Shared) (φ : Phi) : Nat → Shared → Prop
  | mk {i : Nat} {φ' : Phi} {ρ' : Rho} {σ' : Sto} {s' : Shared} : i ≤ l.length → ForWP c tgt body pv l Qn Qr (l.drop i) ρ' σ' → Inv c.G s' φ' (it :: P) σ' → FrameAt c.G c.env (it :: P) s'.heap φ' ρ' → ItAt c.G s'.heap φ' (it :: P) pv it i → Gr s φ (ownA c.env) s' φ' → ForI c tgt body pv l Qn Qr P it s φ (l.length - i) s'
theorem drop_nil {α : Type} {l : List α} {i : Nat} (hx : l[i]? = none) : l.drop i = [] := by rw [List.drop_eq_nil_iff]; exact List.getElem?_eq_none_iff.mp hx
theorem drop_one {α : Type} {l : List α} {i : Nat} {p : α} (hx : l[i]? = some p) : l.drop i = p :: l.drop (i + 1) := by
  have hlt : i < l.length := (List.getElem?_eq_some_iff.mp hx).1
  rw [List.drop_eq_getElem_cons hlt]
  rw [List.getElem?_eq_getElem hlt] at hx; cases hx; rfl
theorem for_run {tgt : Expr} {body : List Stmt} {pv : PV} {l : List PV} {Qn : Rho → Sto → Prop} {Qr : Post} {it : Addr} {A : Around} {R : Result → Shared → Prop} {s₁ : Shared} {φ₁ : Phi} {σ₁ : Sto} {ρ₁ : Rho}
    (hA : Room A c.k) (hit0 : s.heap.get? it = Option.none) (hown : ∀ a ∈ ownA c.env, a ∈ P ∧ a ≠ it) (hP : ∀ a ∈ P, a ∈ it :: P ∧ a ≠ it) (h : ForWP c tgt body pv l Qn Qr l ρ₁ σ₁) (I : Inv c.G s₁ φ₁ (it :: P) σ₁) (F : FrameAt c.G c.env (it :: P) s₁.heap φ₁ ρ₁)
    (T : ItAt c.G s₁.heap φ₁ (it :: P) pv it 0) (g : Gr s φ (ownA c.env) s₁ φ₁) (fin : ∀ fl s' φ', Gr s φ (ownA c.env) s' φ' → PostF c P Qn Qr fl s' φ' → R (.ok fl) s') : codeAny c.G.M A (.forLoop tgt (.ref it) body [] c.env) R s₁ := by
  refine for_by ⟨_, _, rfl⟩ (ForI c tgt body pv l Qn Qr P it s φ) (fun n s' hj PN PB EX hn hv hb hr => ?_) l.length (.mk (i := 0) (Nat.zero_le _) h I F T g)
  cases hj with
  | @mk i φ' ρ' σ' _ hi hw I' F' T' g' =>
  cases hx : l[i]? with
  | none =>
    rw [drop_nil hx] at hw
    refine next_end hA.1 hw.1 I' T' hx fun h'' ext => hn _ ?_
    exact fin .next (hs s' h'' s'.toks) φ' (g'.drop hit0 ext) ⟨ρ', σ', I'.drop (by simp) ext hP, F'.drop (by simp) ext hP (fun a ha => (hown a ha).1), hw.2⟩
  | some p =>
    have hlt : i < l.length := (List.getElem?_eq_some_iff.mp hx).1
    rw [drop_one hx] at hw
    refine next_item hw.1 I' T' (by simp) hx fun s₃ v I₃ gn r₃ T₃ => hv _ _ (owned_go T₃ ?_)
    have g₃ : Gr s φ (ownA c.env) s₃ φ' := g'.made (gn ([it] ++ ownA c.env) (by simp)) (fun a h => by rw [List.mem_singleton.mp h]; exact hit0)
    have gg := gn [it] (by simp)
    have F₃ : FrameAt c.G c.env (it :: P) s₃.heap φ' ρ' :=
      F'.keep (gg.ext (fun a h => by rw [List.mem_singleton.mp h]; simp)) (fun a ha o e => gg.keep a o e (fun q => I'.disj a q (F'.own a ha)) (fun q => (hown a ha).2 (List.mem_singleton.mp q))) fun _ h => h
    refine hw.2 (it :: P) s₃ φ' v I₃ F₃ r₃ A hA _ _ fun _ s₄ φ₄ g₄ p₄ => ?_
    obtain ⟨ρ₄, σ₄, I₄, F₄, h₄⟩ := p₄
    refine h₄ (it :: P) s₄ φ₄ I₄ F₄ A hA _ _ fun fl s₅ φ₅ g₅ p₅ => ?_
    have g₅' := (g₃.trans g₄).trans g₅
    cases fl with
    | next =>
      obtain ⟨ρ₅, σ₅, I₅, F₅, h₅⟩ := p₅
      have gi := g₄.trans g₅
      exact hb _ _ (by lia) (.mk hlt h₅ I₅ F₅ (T₃.ext (gi.ext fun a ha => F₃.own a ha) (fun o e => gi.keep it o e (fun q => I₃.disj it q (by simp)) (fun q => (hown it q).2 rfl))) g₅')
    | ret v =>
      obtain ⟨pv', σ₅, I₅, r₅, h₅⟩ := p₅
      exact hr _ _ (fin (.ret v) s₅ φ₅ g₅' ⟨pv', σ₅, I₅.shrink fun a ha => (hP a ha).1, r₅.ext (Ext.shrink fun a ha => (hP a ha).1), h₅⟩)
    | brk => exact p₅.elim
    | cont => exact p₅.elim
theorem not_of_new {L : Addr} (I : Inv G s φ P σ) (h : s.heap.get? L = Option.none) {a : Addr} (ha : a ∈ P) : a ≠ L := by
  rintro rfl
  obtain ⟨o, e⟩ := I.plow a ha
  rw [h] at e; cases e
theorem s1_for {tgt iter : Expr} {body : List Stmt} {pos : Pos} {Qn : Rho → Sto → Prop} {Qr : Post}
    (h : EWP c iter ρ σ (KFor c tgt body ρ Qn Qr))
    (hset : ∀ x, foldedSetIterable iter c.env x = pure x := by intro _; rfl) : S1WP c (.For tgt iter body [] pos) ρ σ Qn Qr := by
  intro P s φ I F A hA R E hR
  refine wpAny_For (h P s φ I F A hA _ E fun x s₁ φ₁ g₁ p₁ => ?_) hset
  obtain ⟨pv, σ₁, I₁, r₁, l, h₁⟩ := p₁
  have S₁ : Src σ₁ pv l := by cases l with | nil => exact h₁.1 | cons _ _ => exact h₁.1
  refine iter_start S₁ I₁ r₁ fun h' it eit keep al T => ?_
  have hN : ∀ a ∈ [it], s₁.heap.get? a = Option.none := fun a h => by rw [List.mem_singleton.mp h, eit]; exact get_size _
  have hAl : ∀ a ∈ [it], ∃ o, h'.get? a = some o := fun a h => by rw [List.mem_singleton.mp h]; exact al
  have hit0 : s.heap.get? it = Option.none := by
    cases q : s.heap.get? it with
    | none => rfl
    | some o => obtain ⟨o', e'⟩ := g₁.alive it o q; rw [hN it (by simp)] at e'; cases e'
  exact for_run hA hit0 (fun a ha => ⟨F.own a ha, not_of_new I hit0 (F.own a ha)⟩) (fun a ha => ⟨List.mem_cons_of_mem _ ha, not_of_new I hit0 ha⟩) h₁ (I₁.keepAllP (N := [it]) keep hN hAl)
    ((F.gr I g₁).keep (Ext.of_keepP (N := [it]) keep hN) (fun a _ => keep a) fun a h => List.mem_cons_of_mem _ h) T ((g₁.weaken fun _ z => nomatch z).trans (Gr.keepAll keep)) fun fl s' φ' g p => hR fl s' φ' g p

/-! ### while -/
noncomputable def WhWP (c : Cx) (test : Expr) (body : List Stmt) (Qn : Rho → Sto → Prop) (Qr : Post) : Nat → Rho → Sto → Prop
  | 0, _, _ => False
  | n + 1, ρ, σ => BWP c test ρ σ fun b σ₁ => if b then SWP c body ρ σ₁ (fun ρ₂ σ₂ => WhWP c test body Qn Qr n ρ₂ σ₂) Qr else Qn ρ σ₁
theorem s1_while {test : Expr} {body : List Stmt} {pos : Pos} {Qn : Rho → Sto → Prop} {Qr : Post} (n : Nat) (h : WhWP c test body Qn Qr n ρ σ) : S1WP c (.While test body [] pos) ρ σ Qn Qr := by
  intro P s φ I F A hA R E hR
  refine wpAny_While ?_
  have key : ∀ (n : Nat) (s' : Shared) (φ' : Phi) (ρ' : Rho) (σ' : Sto), WhWP c test body Qn Qr n ρ' σ' → Inv c.G s' φ' P σ' → FrameAt c.G c.env P s'.heap φ' ρ' → Gr s φ (ownA c.env) s' φ' →
      codeAny c.G.M A (.whileLoop test body [] c.env) (fun r s' => match r with | .ok f => R f s' | .error e => cameBackBy c.G.M A c.env E e s') s' := by
    intro n
    induction n with
    | zero => intro _ _ _ _ h; exact h.elim
    | succ n ih =>
      intro s' φ' ρ' σ' hw I' F' g'
      refine codeAny_of_tree ?_
      rw [Around.under_of_weight (c := .whileLoop test body [] c.env) rfl]
      show wpAny _ _ ((whileTurn test body [] c.env).onRaise _) _ _ _
      refine wpAny_onRaise ?_
      unfold whileTurn
      refine wpAny_bind (hw P s' φ' I' F' A hA _ _ fun b s₁ φ₁ g₁ pp => exB pp fun σ₁ I₁ h₁ => ?_)
      have F₁ := F'.gr I' g₁
      have g₁' : Gr s φ (ownA c.env) s₁ φ₁ := g'.trans (g₁.weaken fun _ z => nomatch z)
      cases b with
      | true =>
        refine wpAny_bind (h₁ P s₁ φ₁ I₁ F₁ A hA _ _ fun fl s₂ φ₂ g₂ p => ?_)
        cases fl with
        | next => obtain ⟨ρ₂, σ₂, I₂, F₂, h₂⟩ := p; exact wpAny_pure ⟨rfl, ih s₂ φ₂ ρ₂ σ₂ h₂ I₂ F₂ (g₁'.trans g₂)⟩
        | ret v => exact wpAny_pure (hR (.ret v) s₂ φ₂ (g₁'.trans g₂) p)
        | brk => exact p.elim
        | cont => exact p.elim
      | false =>
        exact wpAny_bind (wpAny_execs_nil (wpAny_pure (hR .next s₁ φ₁ g₁' ⟨ρ', σ₁, I₁, F₁, h₁⟩)))
  exact key n s φ ρ σ h I F (Gr.refl ..)
end Mine
namespace Mine
variable {G : Gd} {s : Shared} {φ : Phi} {P : List Addr} {σ : Sto} {c : Cx} {ρ : Rho}

/-! ### the closure of a comprehension -/
noncomputable def closL (env : Env) : List (Str × NameKind) → List (Str × Addr) → List (Str × Addr)
  | [], acc => acc
  | (n, k) :: r, acc => if k == .free then closL env r ((n, (env.cells.lookup n).getD 0) :: acc) else closL env r acc

noncomputable def compOk (scope : Scope) (env : Env) : Bool := scope.kind == .function && scope.names.all fun x => (x.2 != .cell) && (x.2 != .local || scope.names.lookup x.1 == some .local) &&
  (x.2 != .free || ((env.kindOf x.1 == some .cell || env.kindOf x.1 == some .free) && (env.cells.lookup x.1).isSome && x.1 != ("__classdict__" : Str)))

structure CompOk (scope : Scope) (env : Env) : Prop where
  kind : scope.kind = .function
  nocell : ∀ x ∈ scope.names, x.2 ≠ .cell
  loc : ∀ x ∈ scope.names, x.2 = .local → scope.names.lookup x.1 = some .local
  free : ∀ x ∈ scope.names, x.2 = .free → (env.kindOf x.1 = some .cell ∨ env.kindOf x.1 = some .free) ∧ (env.cells.lookup x.1).isSome = true ∧ (x.1 == ("__classdict__" : Str)) = false
theorem compOk_of {scope : Scope} {env : Env} (h : compOk scope env = true) : CompOk scope env := by
  unfold compOk at h
  obtain ⟨h1, h2⟩ := Bool.and_eq_true_iff.mp h
  have h3 := List.all_eq_true.mp h2
  refine ⟨by simpa using h1, fun x hx => ?_, fun x hx e => ?_, fun x hx e => ?_⟩
  · have := h3 x hx
    simp only [Bool.and_eq_true, bne_iff_ne, ne_eq] at this
    exact this.1.1
  · have := h3 x hx
    simp only [Bool.and_eq_true] at this
    have := this.1.2
    simpa [e] using this
  · have := h3 x hx
    simp only [Bool.and_eq_true] at this
    have := this.2
    rw [e] at this
    simp only [bne_self_eq_false, Bool.false_or, Bool.and_eq_true, Bool.or_eq_true, beq_iff_eq, bne_iff_ne, ne_eq] at this
    exact ⟨this.1.1, this.1.2, beq_eq_false_iff_ne.mpr this.2⟩

theorem closL_free {env : Env} {n : Str} {r : List (Str × NameKind)} {acc : List (Str × Addr)} : closL env ((n, .free) :: r) acc = closL env r ((n, (env.cells.lookup n).getD 0) :: acc) := rfl
theorem closL_no {env : Env} {n : Str} {k : NameKind} {r : List (Str × NameKind)} {acc : List (Str × Addr)} (h : k ≠ .free) : closL env ((n, k) :: r) acc = closL env r acc := if_neg fun z => h (beq_iff_eq.mp z)
theorem closL_forIn (env : Env) (names : List (Str × NameKind)) : ∀ (acc : List (Str × Addr)), (∀ x ∈ names, x.2 = .free → (env.cells.lookup x.1).isSome = true) →
    (forIn names acc fun x r => match x with | (name, kind) => if (kind == NameKind.free) = true then (do let c ← cellOf env name; pure (ForInStep.yield ((name, c) :: r))) else (do pure PUnit.unit; pure (ForInStep.yield r)) : Sem (List (Str × Addr))) = pure (closL env names acc) := by
  induction names with
  | nil => exact fun _ _ => rfl
  | cons x r ih =>
    obtain ⟨n, k⟩ := x
    intro acc h
    have hr : ∀ x ∈ r, x.2 = .free → (env.cells.lookup x.1).isSome = true := fun x hx => h x (List.mem_cons_of_mem _ hx)
    rw [List.forIn_cons]
    by_cases hk : k = .free
    · subst hk
      obtain ⟨a, ha⟩ := Option.isSome_iff_exists.mp (h (n, .free) (.head _) rfl)
      have hc : cellOf env n = pure a := by unfold cellOf; rw [ha]
      rw [closL_free, ← ih _ hr, ha, ← show (some a).getD 0 = a from rfl]
      dsimp only
      rw [hc]; rfl
    · have hb : (k == NameKind.free) = false := beq_eq_false_iff_ne.mpr hk
      rw [closL_no hk, ← ih _ hr]
      dsimp only
      rw [hb]; rfl
theorem closureFor_eq {scope : Scope} {env : Env} (h : ∀ x ∈ scope.names, x.2 = .free → (env.cells.lookup x.1).isSome = true) : closureFor scope env = pure (closL env scope.names []) := by
  have := closL_forIn env scope.names [] h
  unfold closureFor
  first
    | exact this
    | (show (forIn scope.names [] _ >>= fun cs => pure cs) = _
       rw [show (fun (cs : List (Str × Addr)) => (pure cs : Sem _)) = pure from rfl]
       first | (rw [← this]; rfl) | (simp only [bind_pure]; exact this))

theorem closL_mem (env : Env) (names : List (Str × NameKind)) : ∀ (acc : List (Str × Addr)), (∀ x ∈ names, x.2 = .free → (env.cells.lookup x.1).isSome = true) → ∀ p ∈ closL env names acc, env.cells.lookup p.1 = some p.2 ∨ p ∈ acc := by
  induction names with
  | nil => exact fun _ _ p hp => .inr hp
  | cons x r ih =>
    obtain ⟨n, k⟩ := x
    intro acc h p hp
    have hr : ∀ x ∈ r, x.2 = .free → (env.cells.lookup x.1).isSome = true := fun x hx => h x (List.mem_cons_of_mem _ hx)
    by_cases hk : k = .free
    · subst hk
      refine (ih _ hr p hp).elim .inl fun q => ?_
      rcases List.mem_cons.mp q with rfl | q
      · obtain ⟨a, ha⟩ := Option.isSome_iff_exists.mp (h (n, .free) (.head _) rfl)
        exact .inl (by rw [ha]; rfl)
      · exact .inr q
    · rw [closL_no hk] at hp
      exact ih _ hr p hp
theorem closL_some (env : Env) {x : Str} (names : List (Str × NameKind)) : ∀ (acc : List (Str × Addr)), ((x, NameKind.free) ∈ names ∨ (acc.lookup x).isSome = true) → ((closL env names acc).lookup x).isSome = true := by
  induction names with
  | nil => exact fun _ h => h.elim (fun q => nomatch q) id
  | cons y r ih =>
    obtain ⟨n, k⟩ := y
    intro acc h
    by_cases hk : k = .free
    · subst hk
      refine ih _ ?_
      by_cases hx : n = x
      · subst hx; exact .inr (by rw [lk_eq]; rfl)
      · refine h.imp (fun q => (List.mem_cons.mp q).resolve_left fun z => hx (congrArg (·.1) z).symm) fun q => ?_
        rw [lk_ne hx]; exact q
    · rw [closL_no hk]
      exact ih _ (h.imp_left fun q => (List.mem_cons.mp q).resolve_left fun z => hk (congrArg (·.2) z).symm)
theorem relabel_free {env : Env} {x : Str} {names : List (Str × NameKind)} : names.lookup x = some .free →
    (names.map fun (n, k) => if (k == NameKind.free && env.scope.kind == .function && env.kindOf n == some .cell) then (n, NameKind.cell) else (n, k)).lookup x = some .cell ∨
    (names.map fun (n, k) => if (k == NameKind.free && env.scope.kind == .function && env.kindOf n == some .cell) then (n, NameKind.cell) else (n, k)).lookup x = some .free := by
  induction names with
  | nil => exact fun h => nomatch h
  | cons y r ih =>
    obtain ⟨n, k⟩ := y
    intro h
    rw [List.map_cons]
    dsimp only
    by_cases hx : n = x
    · subst hx
      rw [lk_eq] at h
      split
      · exact .inl lk_eq
      · exact .inr (lk_eq.trans h)
    · rw [lk_ne hx] at h
      split <;> (rw [lk_ne hx]; exact ih h)

noncomputable def rfree (scope : Scope) (ρ : Rho) : Rho := ρ.filter fun p => scope.names.lookup p.1 == some .free
theorem rfree_lookup {scope : Scope} {x : Str} {v : PV} {ρ : Rho} : (rfree scope ρ).lookup x = some v → ρ.lookup x = some v ∧ scope.names.lookup x = some .free := by
  unfold rfree
  induction ρ with
  | nil => exact fun h => nomatch h
  | cons y r ih =>
    obtain ⟨y, w⟩ := y
    intro h
    rw [List.filter_cons] at h
    split at h
    · rename_i hy
      by_cases hx : y = x
      · subst hx
        rw [lk_eq] at h
        exact ⟨lk_eq.trans h, beq_iff_eq.mp hy⟩
      · rw [lk_ne hx] at h ⊢; exact ih h
    · rename_i hy
      obtain ⟨h1, h2⟩ := ih h
      refine ⟨?_, h2⟩
      rw [lk_ne (show y ≠ x from fun z => hy (by subst z; exact beq_iff_eq.mpr h2))]; exact h1

noncomputable abbrev cenvOf (scope : Scope) (env : Env) (C : Addr) : Env := compEnvC scope (closL env scope.names []) C env

theorem frame_comp {scope : Scope} {env : Env} {h h' : Heap} {P' : List Addr} {C : Addr} {m} (K : CompOk scope env) (F : FrameAt G env P h φ ρ) (hn : h'.Ns C m) (k : ∀ b o, h.get? b = some o → h'.get? b = some o) (E : Ext h φ P h' φ P')
    (hC : C ∈ P') (hP : ∀ a ∈ P, a ∈ P') : FrameAt G (cenvOf scope env C) P' h' φ (rfree scope ρ) := by
  have hfree : ∀ x ∈ scope.names, x.2 = .free → (env.cells.lookup x.1).isSome = true := fun x hx e => (K.free x hx e).2.1
  have hlk : ∀ x a, (closL env scope.names []).lookup x = some a → env.cells.lookup x = some a := fun x a e => (closL_mem env _ _ hfree _ (mem_of_lookup e)).resolve_right (fun q => nomatch q)
  refine ⟨K.kind, F.glob, F.blt, ⟨m, hn, fun x v e1 e2 => ?_⟩, fun x a e => ?_, fun x v e => ?_, fun x y a e1 e2 => F.inj x y a (hlk x a e1) (hlk y a e2), fun a ha => ?_⟩
  · obtain ⟨h1, h2⟩ := rfree_lookup e1
    have e2' : (relabel scope env).names.lookup x = some .local := e2
    rcases relabel_free (env := env) h2 with q | q
    · have : (relabel scope env).names.lookup x = some .cell := q
      rw [e2'] at this; cases this
    · have : (relabel scope env).names.lookup x = some .free := q
      rw [e2'] at this; cases this
  · obtain ⟨v, q⟩ := F.cell x a (hlk x a e); exact ⟨v, isCell_keep q fun o => k _ o⟩
  · obtain ⟨h1, h2⟩ := rfree_lookup e
    have hm := mem_of_lookup h2
    obtain ⟨k1, k2, k3⟩ := K.free _ hm rfl
    obtain ⟨a, ha⟩ := Option.isSome_iff_exists.mp (closL_some env scope.names [] (.inl hm))
    have hk : (cenvOf scope env C).kindOf x = some .cell ∨ ((cenvOf scope env C).kindOf x = some .free ∧ (x == ("__classdict__" : Str)) = false) := (relabel_free (env := env) h2).imp id fun q => ⟨q, k3⟩
    rcases F.val x v h1 with q | ⟨_, a', val, q1, q2, q3⟩
    · have k1' : env.kindOf x = some .cell ∨ env.kindOf x = some .free := k1
      rw [q] at k1'; rcases k1' with z | z <;> cases z
    · have := hlk x a ha
      rw [q1] at this
      have e' : a' = a := Option.some.inj this
      exact .inr ⟨hk, a', val, e' ▸ ha, isCell_keep q2 (fun o => k _ o), q3.ext E⟩
  · rcases List.mem_cons.mp ha with rfl | ha
    · exact hC
    · obtain ⟨p, hp, rfl⟩ := List.mem_map.mp ha
      have := (closL_mem env _ _ hfree p hp).resolve_right (fun q => nomatch q)
      exact hP _ (F.own _ (List.mem_cons_of_mem _ (lookup_mem_map this)))

/-! ### the loop of a comprehension -/
noncomputable abbrev Cx.comp (c : Cx) (scope : Scope) (C : Addr) : Cx := { c with env := cenvOf scope c.env C }

noncomputable def TestsWP (c : Cx) (ifs : List Expr) (ρ : Rho) (σ : Sto) (Q : Bool → Sto → Prop) : Prop := match ifs with
  | [] => Q true σ
  | [e] => BWP c e ρ σ Q
  | _ => False
noncomputable def CompWP (c : Cx) (tgt : Expr) (ifs : List Expr) (elt : Expr) (pv : PV) (l : List PV) (Q : List PV → Sto → Prop) : List PV → Rho → Sto → List PV → Prop
  | [], _, σ, acc => Src σ pv l ∧ Q acc σ
  | x :: r, ρ, σ, acc => Src σ pv l ∧ AWP c [c.env.locals] tgt x ρ σ fun ρ₁ σ₁ => TestsWP c ifs ρ₁ σ₁ fun b σ₂ =>
      if b then EWP c elt ρ₁ σ₂ fun v σ₃ => CompWP c tgt ifs elt pv l Q r ρ₁ σ₃ (acc ++ [v]) else CompWP c tgt ifs elt pv l Q r ρ₁ σ₂ acc

noncomputable abbrev KX2 (c : Cx) (elt : Expr) (ρ : Rho) (QT : Post) (QF : Sto → Prop) : Bool → Sto → Prop := fun b σ₂ => if b then EWP c elt ρ σ₂ QT else QF σ₂
noncomputable abbrev KX (c : Cx) (ifs : List Expr) (elt : Expr) (QT : Rho → Post) (QF : Rho → Sto → Prop) : Rho → Sto → Prop := fun ρ₁ σ₁ => TestsWP c ifs ρ₁ σ₁ (KX2 c elt ρ₁ (QT ρ₁) (QF ρ₁))
theorem tests_run {A : Around} {E : Value → Shared → Prop} {ifs : List Expr} {Q : Bool → Sto → Prop} {R : Bool → Shared → Prop} (hA : Room A c.k) (h : TestsWP c ifs ρ σ Q) (I : Inv c.G s φ P σ) (F : FrameAt c.G c.env P s.heap φ ρ)
    (hR : ∀ b s' φ', Gr s φ [] s' φ' → (∃ σ', Inv c.G s' φ' P σ' ∧ Q b σ') → R b s') :
    wpAny c.G.M A (forIn ifs true fun e r => if r = true then do let ok ← isTrue e c.env (eval e c.env); pure (ForInStep.yield ok) else pure (ForInStep.yield r)) R E s := by
  cases ifs with
  | nil => exact wpAny_tests_nil (hR true s φ (Gr.refl ..) ⟨σ, I, h⟩)
  | cons e l =>
    cases l with
    | nil =>
      have h' : BWP c e ρ σ Q := h
      exact wpAny_tests_one (h' P s φ I F A hA R E hR)
    | cons _ _ => exact False.elim h

theorem lst_append {A : Around} {E : Value → Shared → Prop} {Q : Value → Shared → Prop} {D : Addr} {vs : List Value} {m : Nat} {v : Value} (e : s.heap.get? D = some (lstObj vs m)) (hz : vs.length ≤ sizeLine)
    (hQ : ∀ h' m', Heap.SameBut D s.heap h' → h'.get? D = some (lstObj (vs ++ [v]) m') → Q .none { s with heap := h' }) : wpAny G.M A (call (.builtin "list.append") [.ref D, v]) Q E s := by
  refine call_meets F.slot_list_append ⟨_, e, rfl⟩ F.entry_list_append (F.args_list_append_2 _ _) (list_append D vs.toArray m v (by rw [List.size_toArray]; exact hz)) ⟨e, ?_⟩
  have g := IsL.update (h := s.heap) (l := D) (items := vs.toArray) (n := m) e (·.push v)
  refine hQ _ (if (vs.toArray.push v).size == vs.toArray.size then m else m + 1) (Heap.SameBut.update ..) ?_
  rw [lstObj]
  have : (vs ++ [v]).toArray = vs.toArray.push v := by simp
  rw [this]; exact g

theorem iter_again {A : Around} {E : Value → Shared → Prop} {Q : Value → Shared → Prop} {pv : PV} {it : Addr} {i : Nat} (T : ItAt G s.heap φ P pv it i) (hQ : Q (.ref it) s) : wpAny G.M A (pyIter (.ref it)) Q E s := by
  cases T with
  | lst a r t => exact wpAny_pyIter_listiter t hQ
  | tup r t => exact wpAny_pyIter_tupleiter t hQ
  | rng t => exact wpAny_pyIter_rangeiter t hQ

theorem loop_by {M : Model} {A : Around} {cd : Code} {R : Result → Shared → Prop} (hq : cd.quiet = true) (I : Nat → Shared → Prop)
    (turn : ∀ n s, I n s → ∀ PD EX, (∀ f s', R (.ok f) s' → PD (.done f) s') → (∀ s' m, m < n → I m s' → PD (.again cd) s') → (∀ e s', R (.error e) s' → EX e s') → wpAny M (A.under cd) (M.den cd) PD EX s)
    (n : Nat) (h : I n s) : codeAny M A cd R s := codeAny_loop hq I (fun n s h => turn n s h _ _ (fun _ _ k => k) (fun _ m a b => ⟨rfl, m, a, b⟩) fun _ _ k => k) n h
inductive CompI (c : Cx) (tgt : Expr) (ifs : List Expr) (elt : Expr) (pv : PV) (l : List PV) (Q : List PV → Sto → Prop) (it D : Addr) (P : List Addr) (s₀ : Shared) (φ₀ : Phi) : Nat → Shared → Prop
  | mk {i : Nat} {φ' : Phi} {ρ' : Rho} {σ' : Sto} {acc : List PV} {vs : List Value} {m : Nat} {s' : Shared} : i ≤ l.length → CompWP c tgt ifs elt pv l Q (l.drop i) ρ' σ' acc → Inv c.G s' φ' P σ' →
      FrameAt c.G c.env P s'.heap φ' ρ' → ItAt c.G s'.heap φ' P pv it i → s'.heap.get? D = some (lstObj vs m) → VRels c.G s'.heap φ' P acc vs → acc.length ≤ i → Gr s₀ φ₀ [] s' φ' →
      CompI c tgt ifs elt pv l Q it D P s₀ φ₀ (l.length - i) s'
theorem Gr.made1 {s₀ s₁ s₂ : Shared} {φ₀ φ₁ φ₂ : Phi} {L : Addr} (h : s₀.heap.get? L = Option.none) (g1 : Gr s₀ φ₀ [] s₁ φ₁) (g2 : Gr s₁ φ₁ [L] s₂ φ₂) : Gr s₀ φ₀ [] s₂ φ₂ :=
  g1.made (N := [L]) (g2.weaken fun _ q => by rw [List.append_nil]; exact q) fun _ q => (List.mem_singleton.mp q) ▸ h
theorem Gr.ext1 {s s' : Shared} {φ φ' : Phi} {P : List Addr} {L : Addr} (g : Gr s φ [L] s' φ') (h : L ∈ P) : Ext s.heap φ P s'.heap φ' P := g.ext fun _ q => (List.mem_singleton.mp q) ▸ h
theorem Gr.keep1 {s s' : Shared} {φ φ' : Phi} {L b : Addr} {o : Obj} (g : Gr s φ [L] s' φ') (e : s.heap.get? b = some o) (h : b ∉ adr φ) (n : b ≠ L) : s'.heap.get? b = some o := g.keep b o e h fun q => n (List.mem_singleton.mp q)
theorem Gr.ext0 {s s' : Shared} {φ φ' : Phi} {P : List Addr} (g : Gr s φ [] s' φ') : Ext s.heap φ P s'.heap φ' P := g.ext fun _ q => nomatch q
theorem Gr.keep0 {s s' : Shared} {φ φ' : Phi} {b : Addr} {o : Obj} (g : Gr s φ [] s' φ') (e : s.heap.get? b = some o) (h : b ∉ adr φ) : s'.heap.get? b = some o := g.keep b o e h fun q => nomatch q
theorem Inv.off {s : Shared} {φ : Phi} {P : List Addr} {σ : Sto} {L : Addr} (I : Inv G s φ P σ) (h : L ∈ P) : L ∉ adr φ := fun q => I.disj L q h
theorem comp_loop {A : Around} {tgt elt iter : Expr} {ifs : List Expr} {scope : Scope} {pos : Pos} {pv : PV} {l : List PV} {Q : List PV → Sto → Prop} {it D : Addr} {P' : List Addr} {s₀ : Shared} {φ₀ : Phi} {R : Result → Shared → Prop} {m : Nat}
    (hA : Room A c.k) (hz : l.length ≤ sizeLine) (h : CompWP c tgt ifs elt pv l Q l ρ σ []) (I : Inv c.G s φ P σ) (F : FrameAt c.G c.env P s.heap φ ρ)
    (T : ItAt c.G s.heap φ P pv it 0) (eD : s.heap.get? D = some (lstObj [] m)) (g : Gr s₀ φ₀ [] s φ) (n1 : s₀.heap.get? it = Option.none) (n2 : s₀.heap.get? D = Option.none) (n3 : s₀.heap.get? c.env.locals = Option.none)
    (m1 : it ∈ P) (m2 : D ∈ P) (m3 : c.env.locals ∈ P) (d1 : D ≠ it) (d2 : c.env.locals ≠ it) (d3 : D ≠ c.env.locals)
    (hown : ∀ a ∈ ownA c.env, a ≠ it ∧ a ≠ D) (hP : ∀ a ∈ P', a ∈ P ∧ a ≠ it)
    (hR : ∀ s' φ' σ' acc vs m, Inv c.G s' φ' P' σ' → s'.heap.get? D = some (lstObj vs m) → VRels c.G s'.heap φ' P' acc vs → (∃ m, s'.heap.Ns c.env.locals m) → Gr s₀ φ₀ [] s' φ' → Q acc σ' → R (.ok .next) s') :
    codeAny c.G.M A (.compLoop (.ListComp elt [⟨tgt, iter, ifs, 0⟩] scope pos) 0 (.ref it) (.ref D) c.env) R s := by
  refine loop_by rfl (CompI c tgt ifs elt pv l Q it D P s₀ φ₀) (fun n s' hj PD EX hd ha _ => ?_) l.length (.mk (i := 0) (Nat.zero_le _) h I F T eD .nil (Nat.le_refl _) g)
  cases hj with
  | @mk i φ' ρ' σ' acc vs m _ hi hw I' F' T' eD' ra hal g' =>
  show wpAny _ A ((compTurn (.ListComp elt [⟨tgt, iter, ifs, 0⟩] scope pos) 0 (.ref it) (.ref D) c.env).onRaise (fun x => do noteFrame x c.env; theTreesLotGoes x)) _ _ s'
  refine wpAny_onRaise ?_
  rw [compTurn_list]
  refine wpAny_bind (wpAny_standAt (wpAny_bind ?_))
  cases hx : l[i]? with
  | none =>
    rw [drop_nil hx] at hw
    refine next_end hA.1 hw.1 I' T' hx fun h'' ext => wpAny_pure (hd _ _ ?_)
    have I'' : Inv c.G (hs s' h'' s'.toks) φ' P' σ' := I'.drop m1 ext hP
    obtain ⟨mm, hm, _⟩ := F'.ns
    exact hR (hs s' h'' s'.toks) φ' σ' acc vs m I'' (ext D _ d1 eD') (ra.ext (Ext.drop m1 ext hP)) ⟨mm, ns_keep hm (fun o e => ext _ o d2 e)⟩ (g'.drop n1 ext) hw.2
  | some p =>
    have hlt : i < l.length := (List.getElem?_eq_some_iff.mp hx).1
    rw [drop_one hx] at hw
    refine next_item hw.1 I' T' m1 hx fun s₃ v I₃ gn r₃ T₃ => ?_
    dsimp only
    refine wpAny_bind (owned_go T₃ (wpAny_bind ?_))
    have gni := gn [it] (.head _)
    have F₃ : FrameAt c.G c.env P s₃.heap φ' ρ' := F'.keep (gni.ext1 m1) (fun a ha o e => gni.keep1 e (I'.off (F'.own a ha)) (hown a ha).1) fun _ h => h
    refine hw.2 P s₃ φ' v I₃ F₃ r₃ A hA _ _ fun _ s₄ φ₄ g₄ p₄ => wpAny_bind ?_
    obtain ⟨ρ₄, σ₄, I₄, F₄, h₄⟩ := p₄
    refine tests_run hA h₄ I₄ F₄ fun b s₅ φ₅ g₅ p₅ => ?_
    obtain ⟨σ₅, I₅, h₅⟩ := p₅
    have gB := (Gr.made1 n3 (Gr.made1 n1 g' gni) g₄).trans g₅
    have eD₅ : s₅.heap.get? D = some (lstObj vs m) := g₅.keep0 (g₄.keep1 (gni.keep1 eD' (I'.off m2) d1) (I₃.off m2) d3) (I₄.off m2)
    have T₅ : ItAt c.G s₅.heap φ₅ P pv it (i + 1) := (T₃.ext (g₄.ext1 m3) fun o e => g₄.keep1 e (I₃.off m1) (Ne.symm d2)).ext g₅.ext0 fun o e => g₅.keep0 e (I₄.off m1)
    have ra₅ := ((ra.ext (gni.ext1 m1)).ext (g₄.ext1 m3)).ext g₅.ext0
    have F₅ := F₄.gr I₄ g₅
    cases b with
    | false =>
      exact wpAny_pure (ha _ _ (by lia) (.mk hlt h₅ I₅ F₅ T₅ eD₅ ra₅ (Nat.le_succ_of_le hal) gB))
    | true =>
      refine wpAny_bind (wpAny_bind (h₅ P s₅ φ₅ I₅ F₅ A hA _ _ fun x s₆ φ₆ g₆ p₆ => wpAny_bind ?_))
      obtain ⟨px, σ₆, I₆, r₆, h₆⟩ := p₆
      have eD₆ : s₆.heap.get? D = some (lstObj vs m) := g₆.keep0 eD₅ (I₅.off m2)
      have T₆ : ItAt c.G s₆.heap φ₆ P pv it (i + 1) := T₅.ext g₆.ext0 fun o e => g₆.keep0 e (I₅.off m1)
      have ra₆ := ra₅.ext g₆.ext0
      have F₆ := F₅.gr I₅ g₆
      refine lst_append eD₆ (by rw [ra₆.length]; lia) fun h' m' hs' eD₇ => wpAny_pure (wpAny_pure (ha _ (l.length - (i + 1)) (by lia) ?_))
      have al : ∃ o, h'.get? D = some o := ⟨_, eD₇⟩
      have E₇ : Ext s₆.heap φ₆ P h' φ₆ P := ⟨fun a o e f => ⟨(hs'.2 a fun q => f.2 (q ▸ m2)).trans e, f⟩, fun _ _ e => e⟩
      have g₇ : Gr s₆ φ₆ [D] (hs s₆ h' s₆.toks) φ₆ := Gr.other hs' (.inl (.head _)) al
      refine .mk hlt h₆ (I₆.other (t := s₆.toks) hs' m2 al) (F₆.keep E₇ (fun a ha o e => (hs'.2 a (hown a ha).2).trans e) fun _ h => h) (T₆.ext E₇ (fun o e => (hs'.2 it (Ne.symm d1)).trans e)) eD₇ ((ra₆.ext E₇).append (.cons (r₆.ext E₇) .nil)) ?_ (Gr.made1 n2 (gB.trans g₆) g₇)
      rw [List.length_append]; exact Nat.succ_le_succ hal

theorem comp_core {A : Around} {E : Value → Shared → Prop} {R : Value → Shared → Prop} {use : Option (Value → Sem Unit)} {tgt elt iter : Expr} {ifs : List Expr} {scope : Scope} {pos p₀ : Pos} {Q : List PV → Sto → Prop} (hA : Room A c.k) (K : compOk scope c.env = true)
    (h : EWP c iter ρ σ fun pv σ₁ => ∃ l, l.length ≤ sizeLine ∧ ∀ C, CompWP (c.comp scope C) tgt ifs elt pv l Q l (rfree scope ρ) σ₁ []) (I : Inv c.G s φ P σ) (F : FrameAt c.G c.env P s.heap φ ρ)
    (hset : ∀ x, foldedSetIterable iter c.env x = pure x)
    (hpost : ∀ s' φ' σ' acc D C vs m, Gr s φ [] s' φ' → Inv c.G s' φ' (D :: C :: P) σ' → s'.heap.get? D = some (lstObj vs m) → VRels c.G s'.heap φ' (D :: C :: P) acc vs → (∃ m, s'.heap.Ns C m) → s.heap.get? D = Option.none → s.heap.get? C = Option.none → D ≠ C → Q acc σ' →
      compPost c.G.M A E use R (.ref D) C (.ok .next) s') :
    wpAny c.G.M A (comprehension (.ListComp elt [⟨tgt, iter, ifs, 0⟩] scope pos) scope c.env p₀ (newList []) false (eval iter c.env) use) R E s := by
  have KK := compOk_of K
  have hfree : ∀ x ∈ scope.names, x.2 = .free → (c.env.cells.lookup x.1).isSome = true := fun x hx e => (KK.free x hx e).2.1
  refine wpAny_comprehension_free (g := ⟨tgt, iter, ifs, 0⟩) (gs := []) rfl hset (closureFor_eq hfree) KK.kind KK.loc ?_
  refine h P s φ I F A hA _ E fun x s₁ φ₁ g₁ pp => pp.e fun pv σ₁ I₁ r₁ h₁ => ?_
  obtain ⟨l, hz, h₁⟩ := h₁
  have S₁ : Src σ₁ pv l := by
    have := h₁ 0
    cases l with | nil => exact this.1 | cons _ _ => exact this.1
  have F₁ := F.gr I g₁
  refine iter_start S₁ I₁ r₁ fun h' it eit keep al T => ?_
  refine wpAny_newObj_type (wpAny_newFunctionEnv KK.nocell (by intro y hy; simp at hy) (fun h₃ hns hsb => ?_) KK.kind)
  dsimp only at hns hsb ⊢
  generalize hD : h'.objs.size = D at hns hsb ⊢
  generalize hH : h'.push { cls := .type "list", dict := none, data := .seq ([] : List Value).toArray } = H2 at hns hsb ⊢
  generalize hC : H2.objs.size = C at hns hsb ⊢
  have nD : h'.get? D = Option.none := by rw [← hD]; exact get_size _
  have k2 : ∀ b o, h'.get? b = some o → H2.get? b = some o := fun b o e => hH ▸ Heap.get?_push_of_some _ e
  have nC : H2.get? C = Option.none := by rw [← hC]; exact get_size _
  have k3 : ∀ b o, H2.get? b = some o → h₃.get? b = some o := fun b o e => hsb.extBut b o (by rintro rfl; rw [nC] at e; cases e) (Heap.get?_push_of_some _ e)
  have k23 : ∀ b o, h'.get? b = some o → h₃.get? b = some o := fun b o e => k3 b o (k2 b o e)
  have kk : ∀ b o, s₁.heap.get? b = some o → h₃.get? b = some o := fun b o e => k23 b o (keep b o e)
  have gD : h₃.get? D = some (lstObj [] 0) := k3 D _ (by rw [← hH, ← hD]; exact Heap.get?_push_size h' (o := { cls := .type "list", dict := none, data := .seq ([] : List Value).toArray }) rfl)
  have aC : ∃ o, h₃.get? C = some o := hns.imp fun _ q => Exists.elim q fun _ q => Exists.elim q fun _ q => q.1
  have aIt : ∃ o, h₃.get? it = some o := al.imp fun _ => k23 _ _
  have nIt : s₁.heap.get? it = Option.none := by rw [eit]; exact get_size _
  have nD1 : s₁.heap.get? D = Option.none := by
    cases q : s₁.heap.get? D with
    | none => rfl
    | some o => have := keep _ _ q; rw [nD] at this; cases this
  have nC2 : h'.get? C = Option.none := by
    cases q : h'.get? C with
    | none => rfl
    | some o => have := k2 _ _ q; rw [nC] at this; cases this
  have nC1 : s₁.heap.get? C = Option.none := by
    cases q : s₁.heap.get? C with
    | none => rfl
    | some o => have := keep _ _ q; rw [nC2] at this; cases this
  have before : ∀ a, s₁.heap.get? a = Option.none → s.heap.get? a = Option.none := fun a e => by
    cases q : s.heap.get? a with
    | none => rfl
    | some o => obtain ⟨o', e'⟩ := g₁.alive a o q; rw [e] at e'; cases e'
  have hne : it ≠ D ∧ it ≠ C ∧ D ≠ C := by
    obtain ⟨o, e⟩ := al
    refine ⟨fun z => ?_, fun z => ?_, fun z => ?_⟩
    · rw [z, nD] at e; cases e
    · rw [z, nC2] at e; cases e
    · have g2 : H2.get? D = some (lstObj [] 0) := by rw [← hH, ← hD]; exact Heap.get?_push_size h' (o := { cls := .type "list", dict := none, data := .seq ([] : List Value).toArray }) rfl
      rw [z, nC] at g2; cases g2
  have hNs : ∀ a ∈ [it, D, C], s₁.heap.get? a = Option.none := List.forall_mem_cons.mpr ⟨nIt, List.forall_mem_cons.mpr ⟨nD1, List.forall_mem_cons.mpr ⟨nC1, fun _ q => nomatch q⟩⟩⟩
  have aP : ∀ a ∈ P, ∃ o, s₁.heap.get? a = some o := fun a ha => I₁.plow a ha
  have I₃ : Inv c.G (hs s₁ h₃ s₁.toks) φ₁ ([it, D, C] ++ P) σ₁ := I₁.keepAllP (N := [it, D, C]) kk hNs (List.forall_mem_cons.mpr ⟨aIt, List.forall_mem_cons.mpr ⟨⟨_, gD⟩, List.forall_mem_cons.mpr ⟨aC, fun _ q => nomatch q⟩⟩⟩)
  have E₃ : Ext s₁.heap φ₁ P h₃ φ₁ ([it, D, C] ++ P) := Ext.of_keepP (N := [it, D, C]) kk hNs
  have m1 : it ∈ [it, D, C] ++ P := .head _
  have m2 : D ∈ [it, D, C] ++ P := .tail _ (.head _)
  have m3 : C ∈ [it, D, C] ++ P := .tail _ (.tail _ (.head _))
  have m4 : ∀ a ∈ D :: C :: P, a ∈ [it, D, C] ++ P ∧ a ≠ it := List.forall_mem_cons.mpr ⟨⟨m2, Ne.symm hne.1⟩, List.forall_mem_cons.mpr ⟨⟨m3, Ne.symm hne.2.1⟩, fun a ha => ⟨.tail _ (.tail _ (.tail _ ha)), fun z => by
    obtain ⟨o, e⟩ := aP a ha
    rw [z, nIt] at e; cases e⟩⟩⟩
  have m5 : ∀ a ∈ P, a ∈ [it, D, C] ++ P := fun a ha => (m4 a (.tail _ (.tail _ ha))).1
  have m6 : ∀ a o, h'.get? a = some o → a ∉ it :: P → a ∉ [it, D, C] ++ P := fun a o e f q => by
    rcases List.mem_cons.mp q with z | q
    · exact f (z ▸ .head _)
    rcases List.mem_cons.mp q with z | q
    · rw [z, nD] at e; cases e
    rcases List.mem_cons.mp q with z | q
    · rw [z, nC2] at e; cases e
    exact f (.tail _ q)
  generalize [it, D, C] ++ P = PP at I₃ E₃ m1 m2 m3 m4 m5 m6
  have Fc : FrameAt c.G (cenvOf scope c.env C) PP h₃ φ₁ (rfree scope ρ) := frame_comp KK F₁ hns kk E₃ m3 m5
  have T₃ : ItAt c.G h₃ φ₁ PP pv it 0 := T.ext ⟨fun a o e f => ⟨k23 a o e, f.1, m6 a o e f.2⟩, fun _ _ e => e⟩ (fun o e => k23 it o e)
  have g₃ : Gr s φ [] (hs s₁ h₃ s₁.toks) φ₁ := g₁.trans (Gr.keepAll kk)
  have hown : ∀ a ∈ ownA (cenvOf scope c.env C), a ≠ it ∧ a ≠ D := List.forall_mem_cons.mpr ⟨⟨Ne.symm hne.2.1, Ne.symm hne.2.2⟩, fun a ha => by
    obtain ⟨p, hp, rfl⟩ := List.mem_map.mp ha
    have := (closL_mem c.env _ _ hfree p hp).resolve_right (fun q => nomatch q)
    obtain ⟨o, e⟩ := aP _ (F.own _ (List.mem_cons_of_mem _ (lookup_mem_map this)))
    refine ⟨fun z => ?_, fun z => ?_⟩
    · rw [z, nIt] at e; cases e
    · rw [z, nD1] at e; cases e⟩
  have fin := comp_loop (c := c.comp scope C) (P := PP) (P' := D :: C :: P) (tgt := tgt) (elt := elt) (iter := iter) (ifs := ifs) (scope := scope) (pos := pos) (D := D) (s₀ := s) (φ₀ := φ) (R := compPost c.G.M A E use R (.ref D) C) (m := 0)
    hA hz (h₁ C) I₃ Fc T₃ gD g₃ (before _ nIt) (before _ nD1) (before _ nC1) m1 m2 m3 (Ne.symm hne.1) (Ne.symm hne.2.1) hne.2.2 hown m4
    fun s' φ' σ' acc vs m I' e' r' n' g' q => hpost s' φ' σ' acc D C vs m g' I' e' r' n' (before _ nD1) (before _ nC1) hne.2.2 q
  exact codeAny_compStart_list fin (iter_again T₃ fin)

theorem Inv.adopt {D : Addr} {vs : List Value} {m : Nat} {acc : List PV} (I : Inv G s φ (D :: P) σ) (hD : D ∉ P) (e : s.heap.get? D = some (lstObj vs m)) (r : VRels G s.heap φ (D :: P) acc vs) : Inv G s (φ ++ [(D, D)]) P (σ ++ [.list acc]) := I.adoptO hD fun X => ⟨vs, m, e, r.ext X, rfl⟩

/-- a comprehension whose list nothing changes -/
noncomputable abbrev KComp (c : Cx) (scope : Scope) (tgt elt : Expr) (ifs : List Expr) (ρ : Rho) (Q : List PV → Sto → Prop) : Post := fun pv σ₁ => ∃ l, l.length ≤ sizeLine ∧ ∀ C, CompWP (c.comp scope C) tgt ifs elt pv l Q l (rfree scope ρ) σ₁ []
noncomputable abbrev KMk (Q : Post) : List PV → Sto → Prop := fun acc σ₂ => Q (.lst acc) σ₂
noncomputable abbrev KMkN (x : Str) (ρ : Rho) (Qn : Rho → Sto → Prop) : List PV → Sto → Prop := fun acc σ₂ => Qn (rset x (.lst acc) ρ) σ₂
noncomputable abbrev KMkM (x : Str) (ρ : Rho) (Qn : Rho → Sto → Prop) : List PV → Sto → Prop := fun acc σ₂ => Qn (rset x (.ref σ₂.length) ρ) (σ₂ ++ [.list acc])
theorem ewp_comp {tgt elt iter : Expr} {ifs : List Expr} {scope : Scope} {pos : Pos} {Q : Post}
    (h : EWP c iter ρ σ (KComp c scope tgt elt ifs ρ (KMk Q)))
    (K : compOk scope c.env = true := by rfl) (hset : ∀ x, foldedSetIterable iter c.env x = pure x := by intro _; rfl) : EWP c (.ListComp elt [⟨tgt, iter, ifs, 0⟩] scope pos) ρ σ Q := by
  intro P s φ I F A hA R E hR
  rw [eval_ListComp]
  refine comp_core (use := none) hA K h I F hset fun s' φ' σ' acc D C vs m g I' eD r n nD nC hne q => ?_
  obtain ⟨mm, hm⟩ := n
  refine ⟨mm, hm, fun h' hs' => ?_⟩
  have hP : ∀ a ∈ P, a ∈ D :: C :: P ∧ a ≠ C := fun a ha => ⟨by simp [ha], by
    rintro rfl; obtain ⟨o, e⟩ := I.plow _ ha; rw [nC] at e; cases e⟩
  have hDP : D ∉ P := fun ha => by obtain ⟨o, e⟩ := I.plow _ ha; rw [nD] at e; cases e
  have I₂ : Inv c.G (hs s' h' s'.toks) φ' P σ' := I'.drop (by simp) hs'.extBut hP
  exact hR _ (hs s' h' s'.toks) φ' (g.drop nC hs'.extBut) ⟨.lst acc, σ', I₂, .lst ((hs'.2 D hne).trans eD) ⟨fun q => I'.disj D q (by simp), hDP⟩ (r.ext (Ext.drop (by simp) hs'.extBut hP)), q⟩

/-- a comprehension whose list is changed later, stored into a local name (the road of exchanged stores) -/
theorem s1_comp {x : Str} {px : Pos} {tgt elt iter : Expr} {ifs : List Expr} {scope : Scope} {pos spos : Pos} {Qn : Rho → Sto → Prop} {Qr : Post}
    (h : EWP c iter ρ σ (KComp c scope tgt elt ifs ρ (KMkN x ρ Qn)))
    (hk : c.env.kindOf x = some .local := by rfl) (hsw : swapsWith (.ListComp elt [⟨tgt, iter, ifs, 0⟩] scope pos) (some (.Name x px)) spos.line c.env = pure true := by rfl)
    (K : compOk scope c.env = true := by rfl) (hset : ∀ x, foldedSetIterable iter c.env x = pure x := by intro _; rfl) : S1WP c (.Assign [.Name x px] (.ListComp elt [⟨tgt, iter, ifs, 0⟩] scope pos) spos) ρ σ Qn Qr := by
  intro P s φ I F A hA R E hR
  rw [exec_Assign_Name_used _ _ _ _ hsw]
  refine wpAny_bind (wpAny_standAt (wpAny_bind ?_))
  show wpAny _ A (do let _ ← comprehension (.ListComp elt [⟨tgt, iter, ifs, 0⟩] scope pos) scope c.env _ (newList []) false (eval iter c.env) (some (assign (.Name x px) c.env))) _ _ s
  refine wpAny_bind (wpAny_mono (comp_core (use := some (assign (.Name x px) c.env)) (R := fun _ s' => R .next s') (E := E) hA K h I F hset fun s' φ' σ' acc D C vs m g I' eD r n nD nC hne q => ?_) (fun _ s' hq => wpAny_pure (wpAny_pure hq)) fun _ _ e => e)
  obtain ⟨mm, hm⟩ := n
  have hPC : ∀ a ∈ P, a ≠ C := fun a ha => by rintro rfl; obtain ⟨o, e⟩ := I.plow _ ha; rw [nC] at e; cases e
  have hDP : D ∉ P := fun ha => by obtain ⟨o, e⟩ := I.plow _ ha; rw [nD] at e; cases e
  have I₂ : Inv c.G s' φ' (C :: P) σ' := I'.shrink fun a ha => List.mem_cons_of_mem _ ha
  obtain ⟨ψ, hφ, hψ⟩ := g.pre
  have E₂ : Ext s.heap φ P s'.heap φ' (C :: P) := by
    have E₀ : Ext s.heap φ P s'.heap φ' P := g.ext fun _ z => nomatch z
    exact ⟨fun a o e f => ⟨(E₀.keep a o e f).1, (E₀.keep a o e f).2.1, fun q => by
      rcases List.mem_cons.mp q with rfl | q
      · rw [nC] at e; cases e
      · exact f.2 q⟩, E₀.phi⟩
  have F₂ : FrameAt c.G c.env (C :: P) s'.heap φ' ρ := F.keep E₂ (fun a ha o e => g.keep a o e (fun q => I.disj a q (F.own a ha)) fun q => nomatch q) fun _ ha => List.mem_cons_of_mem _ ha
  have rv : VRel c.G s'.heap φ' (C :: P) (.lst acc) (.ref D) := .lst eD ⟨fun q => I'.disj D q (by simp), fun q => by
    rcases List.mem_cons.mp q with q | q
    · exact hne q
    · exact hDP q⟩ (r.ext (Ext.shrink fun a ha => List.mem_cons_of_mem _ ha))
  refine awp_name (c := c) (ρ := ρ) (σ := σ') (Q := Qn) (owns_local hk) q (C :: P) s' φ' (.ref D) I₂ F₂ rv A hA _ E fun _ s₃ φ₃ g₃ ⟨ρ₃, σ₃, I₃, F₃, q₃⟩ => ?_
  have hmC : ∃ m, s₃.heap.Ns C m := ⟨mm, ns_keep hm fun o e => g₃.keep C o e (fun q => I₂.disj C q (by simp)) fun q => by
    have := F.own C q
    exact hPC C this rfl⟩
  obtain ⟨m3, hm3⟩ := hmC
  refine ⟨m3, hm3, fun h' hs' => ?_⟩
  have hP : ∀ a ∈ P, a ∈ C :: P ∧ a ≠ C := fun a ha => ⟨by simp [ha], hPC a ha⟩
  have I₄ : Inv c.G (hs s₃ h' s₃.toks) φ₃ P σ₃ := I₃.drop (by simp) hs'.extBut hP
  have g₄ : Gr s φ (ownA c.env) s₃ φ₃ := (g.weaken fun _ z => nomatch z).trans g₃
  exact hR .next (hs s₃ h' s₃.toks) φ₃ (g₄.drop nC hs'.extBut) ⟨ρ₃, σ₃, I₄, F₃.drop (by simp) hs'.extBut hP F.own, q₃⟩

theorem s1_comp_m {x : Str} {px : Pos} {tgt elt iter : Expr} {ifs : List Expr} {scope : Scope} {pos spos : Pos} {Qn : Rho → Sto → Prop} {Qr : Post}
    (h : EWP c iter ρ σ (KComp c scope tgt elt ifs ρ (KMkM x ρ Qn)))
    (hk : c.env.kindOf x = some .local := by rfl) (hsw : swapsWith (.ListComp elt [⟨tgt, iter, ifs, 0⟩] scope pos) (some (.Name x px)) spos.line c.env = pure true := by rfl)
    (K : compOk scope c.env = true := by rfl) (hset : ∀ x, foldedSetIterable iter c.env x = pure x := by intro _; rfl) : S1WP c (.Assign [.Name x px] (.ListComp elt [⟨tgt, iter, ifs, 0⟩] scope pos) spos) ρ σ Qn Qr := by
  intro P s φ I F A hA R E hR
  rw [exec_Assign_Name_used _ _ _ _ hsw]
  refine wpAny_bind (wpAny_standAt (wpAny_bind ?_))
  show wpAny _ A (do let _ ← comprehension (.ListComp elt [⟨tgt, iter, ifs, 0⟩] scope pos) scope c.env _ (newList []) false (eval iter c.env) (some (assign (.Name x px) c.env))) _ _ s
  refine wpAny_bind (wpAny_mono (comp_core (use := some (assign (.Name x px) c.env)) (R := fun _ s' => R .next s') (E := E) hA K h I F hset fun s' φ' σ' acc D C vs m g I' eD r n nD nC hne q => ?_) (fun _ s' hq => wpAny_pure (wpAny_pure hq)) fun _ _ e => e)
  obtain ⟨mm, hm⟩ := n
  have hPC : ∀ a ∈ P, a ≠ C := fun a ha => by rintro rfl; obtain ⟨o, e⟩ := I.plow _ ha; rw [nC] at e; cases e
  have hDP : D ∉ C :: P := fun ha => by
    rcases List.mem_cons.mp ha with ha | ha
    · exact hne ha
    · obtain ⟨o, e⟩ := I.plow _ ha; rw [nD] at e; cases e
  have I₂ : Inv c.G s' (φ' ++ [(D, D)]) (C :: P) (σ' ++ [.list acc]) := Inv.adopt I' hDP eD r
  have gA : Gr s φ [] s' (φ' ++ [(D, D)]) := by
    obtain ⟨ψ, hφ, hψ⟩ := g.pre
    refine ⟨⟨ψ ++ [(D, D)], by rw [hφ, List.append_assoc], fun a ha => ?_⟩, g.keep, g.alive, g.gens, g.drawn, g.os⟩
    rw [adr_append] at ha
    rcases List.mem_append.mp ha with ha | ha
    · exact hψ a ha
    · simp [adr] at ha; rw [ha]; exact nD
  have E₂ : Ext s.heap φ P s'.heap (φ' ++ [(D, D)]) (C :: P) := by
    have E₀ : Ext s.heap φ P s'.heap (φ' ++ [(D, D)]) P := gA.ext fun _ z => nomatch z
    exact ⟨fun a o e f => ⟨(E₀.keep a o e f).1, (E₀.keep a o e f).2.1, fun q => by
      rcases List.mem_cons.mp q with rfl | q
      · rw [nC] at e; cases e
      · exact f.2 q⟩, E₀.phi⟩
  have F₂ : FrameAt c.G c.env (C :: P) s'.heap (φ' ++ [(D, D)]) ρ := F.keep E₂ (fun a ha o e => g.keep a o e (fun q => I.disj a q (F.own a ha)) fun q => nomatch q) fun _ ha => List.mem_cons_of_mem _ ha
  have rv : VRel c.G s'.heap (φ' ++ [(D, D)]) (C :: P) (.ref σ'.length) (.ref D) := VRel.ref (p := (D, D)) (by rw [← I'.len]; simp)
  refine awp_name (c := c) (ρ := ρ) (σ := σ' ++ [.list acc]) (Q := Qn) (owns_local hk) q (C :: P) s' _ (.ref D) I₂ F₂ rv A hA _ E fun _ s₃ φ₃ g₃ ⟨ρ₃, σ₃, I₃, F₃, q₃⟩ => ?_
  have hmC : ∃ m, s₃.heap.Ns C m := ⟨mm, ns_keep hm fun o e => g₃.keep C o e (fun q => I₂.disj C q (by simp)) fun q => by
    have := F.own C q
    exact hPC C this rfl⟩
  obtain ⟨m3, hm3⟩ := hmC
  refine ⟨m3, hm3, fun h' hs' => ?_⟩
  have hP : ∀ a ∈ P, a ∈ C :: P ∧ a ≠ C := fun a ha => ⟨by simp [ha], hPC a ha⟩
  have I₄ : Inv c.G (hs s₃ h' s₃.toks) φ₃ P σ₃ := I₃.drop (by simp) hs'.extBut hP
  have g₄ : Gr s φ (ownA c.env) s₃ φ₃ := (gA.weaken fun _ z => nomatch z).trans g₃
  exact hR .next (hs s₃ h' s₃.toks) φ₃ (g₄.drop nC hs'.extBut) ⟨ρ₃, σ₃, I₄, F₃.drop (by simp) hs'.extBut hP F.own, q₃⟩
end Mine
namespace Mine
variable {G : Gd} {s : Shared} {φ : Phi} {P : List Addr} {σ : Sto} {c : Cx} {ρ : Rho}

theorem cwp1 {f : Value} {a : PV} {Q : Post} (h : ∀ P s φ v, Inv c.G s φ P σ → VRel c.G s.heap φ P a v → c.Sp [] s φ (call f [v] []) (PostV c.G P Q)) : CWP c (.cst f) [a] σ Q := by
  intro P s φ fv vs I rf rs
  refine rf.cstE fun q _ => rs.consE fun v w q2 r t => t.nilE fun q3 => ?_
  subst q q2 q3
  exact h P s φ v I r
theorem cwp2 {f : Value} {a b : PV} {Q : Post} (h : ∀ P s φ v w, Inv c.G s φ P σ → VRel c.G s.heap φ P a v → VRel c.G s.heap φ P b w → c.Sp [] s φ (call f [v, w] []) (PostV c.G P Q)) : CWP c (.cst f) [a, b] σ Q := by
  intro P s φ fv vs I rf rs
  refine rf.cstE fun q _ => rs.consE fun v w q2 r t => t.consE fun v' w' q3 r' t => t.nilE fun q4 => ?_
  subst q q2 q3 q4
  exact h P s φ v v' I r r'
theorem cwp3 {f : Value} {a b d : PV} {Q : Post} (h : ∀ P s φ v w x, Inv c.G s φ P σ → VRel c.G s.heap φ P a v → VRel c.G s.heap φ P b w → VRel c.G s.heap φ P d x → c.Sp [] s φ (call f [v, w, x] []) (PostV c.G P Q)) : CWP c (.cst f) [a, b, d] σ Q := by
  intro P s φ fv vs I rf rs
  refine rf.cstE fun q _ => rs.consE fun v w q2 r t => t.consE fun v' w' q3 r' t => t.consE fun v'' w'' q4 r'' t => t.nilE fun q5 => ?_
  subst q q2 q3 q4 q5
  exact h P s φ v v' v'' I r r' r''

section
variable {Q : Post}
theorem cwp_len_lst {a : PV} {l : List PV} (V : LstV σ a l) (hz : l.length < 2 ^ 60) (q : Q (.int l.length) σ) : CWP c (.cst (.builtin "len")) [a] σ Q := cwp1 fun P s φ v I r => by
  refine V.open I r fun a vs m vq e rs => ?_
  subst vq
  refine Sp_tok I (fun A R E h => call_len_list (items := vs.toArray) ⟨_, e, rfl, m, rfl⟩ (by rw [List.size_toArray, rs.length]; lia) h) ?_ q
  rw [List.size_toArray, rs.length]; exact .int
theorem cwp_len_tup {l : List PV} (hz : l.length < 2 ^ 60) (q : Q (.int l.length) σ) : CWP c (.cst (.builtin "len")) [.tup l] σ Q := cwp1 fun P s φ v I r => by
  refine r.tupE fun a vs m vq e f rs => ?_
  subst vq
  refine Sp_tok I (fun A R E h => PySem.P.len_tuple (items := vs.toArray) (n := m) e (by rw [List.size_toArray, rs.length]; lia) h) ?_ q
  rw [List.size_toArray, rs.length]; exact .int
theorem cwp_len_dict {a : PV} {d : List (Str × PV)} (ok : c.G.Ok) (V : SdV σ a d) (hz : d.length < 2 ^ 60) (q : Q (.int d.length) σ) : CWP c (.cst (.builtin "len")) [a] σ Q := cwp1 fun P s φ v I r => by
  refine V.open ok I r fun a kvs vq e rs z => ?_
  subst vq
  refine Sp_tok I (fun A R E h => PySem.call_len_dict z e (by rw [rs.length]; lia) h) ?_ q
  rw [rs.length]; exact .int
theorem cwp_range1 {n : Int} (q : Q (.rng 0 n) σ) : CWP c (.cst (.type "range")) [.int n] σ Q := cwp1 fun P s φ v I r => by
  refine r.intE fun t vq => ?_
  subst vq
  have kp := keep_push s.heap { cls := .type "range", data := .fields #[.int 0 s.toks, .int n t, .int 1 (s.toks + 1)] }
  exact Sp_ret (pv := .rng 0 n) (fun A R E h => call_range_1 h) (Gr.keepAll kp) (I.keepAll kp) (.rng (IsRange.new ..) (I.fresh (get_size _))) q
theorem cwp_range2 {a n : Int} (q : Q (.rng a n) σ) : CWP c (.cst (.type "range")) [.int a, .int n] σ Q := cwp2 fun P s φ v w I r r2 => by
  refine r.intE fun t vq => ?_
  subst vq
  refine r2.intE fun u vq => ?_
  subst vq
  have kp := keep_push s.heap { cls := .type "range", data := .fields #[.int a t, .int n u, .int 1 s.toks] }
  exact Sp_ret (pv := .rng a n) (fun A R E h => call_range_2 h) (Gr.keepAll kp) (I.keepAll kp) (.rng (IsRange.new ..) (I.fresh (get_size _))) q

/-- list(x) of a list or a tuple: frozen -/
theorem list_fz {h' : Heap} {n : Nat} {vs : List Value} {l : List PV} (I : Inv G s φ P σ) (kp : ∀ b o, s.heap.get? b = some o → h'.get? b = some o) (e : h'.get? s.heap.objs.size = some (lstObj vs n)) (rs : VRels G s.heap φ P l vs) : VRel G h' φ P (.lst l) (.ref s.heap.objs.size) :=
  .lst e (I.fresh (get_size _)) (rs.ext (Ext.of_keepP (N := []) kp fun _ z => nomatch z))
theorem cwp_list_seq {a : PV} {l : List PV} (V : LstV σ a l ∨ a = .tup l) (hz : l.length ≤ sizeLine) (q : Q (.lst l) σ) : CWP c (.cst (.type "list")) [a] σ Q := cwp1 fun P s φ v I r => by
  have key : ∀ x vs m T, (T = "list" ∨ T = "tuple") → v = .ref x → s.heap.get? x = some { cls := .type T, data := .seq vs.toArray m } → VRels c.G s.heap φ P l vs → c.Sp [] s φ (call (.type "list") [v] []) (PostV c.G P Q) := fun x vs m T hT ev e rs => by
    subst ev
    intro A hA R E hR
    refine call_list_seq x hT e rfl rfl (fun h' c' kp e' => ?_) (by rw [List.size_toArray, rs.length]; exact hz)
    exact hR _ (hs s h' s.toks) φ (Gr.keepAll kp) ⟨.lst l, σ, I.keepAll kp, list_fz I kp e' rs, q⟩
  rcases V with V | rfl
  · refine V.open I r fun x vs m vq e rs => ?_
    subst vq
    exact key x vs m _ (.inl rfl) rfl e rs
  · refine r.tupE fun x vs m vq e f rs => ?_
    subst vq
    exact key x vs m _ (.inr rfl) rfl e rs
/-- the same, a list of the store -/
theorem cwp_list_seq_m {a : PV} {l : List PV} (V : LstV σ a l ∨ a = .tup l) (hz : l.length ≤ sizeLine) (q : Q (.ref σ.length) (σ ++ [.list l])) : CWP c (.cst (.type "list")) [a] σ Q := cwp1 fun P s φ v I r => by
  have key : ∀ x vs m T, (T = "list" ∨ T = "tuple") → v = .ref x → s.heap.get? x = some { cls := .type T, data := .seq vs.toArray m } → VRels c.G s.heap φ P l vs → c.Sp [] s φ (call (.type "list") [v] []) (PostV c.G P Q) := fun x vs m T hT ev e rs => by
    subst ev
    intro A hA R E hR
    refine call_list_seq x hT e rfl rfl (fun h' c' kp e' => ?_) (by rw [List.size_toArray, rs.length]; exact hz)
    have h0 := get_size s.heap
    have I₂ := I.new (t := s.toks) (p := (s.heap.objs.size, s.heap.objs.size)) (o' := .list l) kp h0 h0 fun X => ⟨vs, c', e', rs.ext X, rfl⟩
    refine hR _ (hs s h' s.toks) (φ ++ [(s.heap.objs.size, s.heap.objs.size)]) (Gr.new kp h0 h0) ⟨.ref σ.length, _, I₂, .ref (p := (s.heap.objs.size, s.heap.objs.size)) ?_, q⟩
    rw [← I.len]; simp
  rcases V with V | rfl
  · refine V.open I r fun x vs m vq e rs => ?_
    subst vq
    exact key x vs m _ (.inl rfl) rfl e rs
  · refine r.tupE fun x vs m vq e f rs => ?_
    subst vq
    exact key x vs m _ (.inr rfl) rfl e rs
theorem VRels.of_get {h : Heap} {l : List PV} : ∀ {vs : List Value}, vs.length = l.length → (∀ (i : Nat) (p : PV) (v : Value), l[i]? = some p → vs[i]? = some v → VRel G h φ P p v) → VRels G h φ P l vs := by
  induction l with
  | nil => exact fun e _ => List.eq_nil_of_length_eq_zero e ▸ .nil
  | cons p l ih =>
    intro vs e h
    cases vs with
    | nil => cases e
    | cons v vs => exact .cons (h 0 p v rfl rfl) (ih (Nat.succ.inj e) fun i p v e1 e2 => h (i + 1) p v e1 e2)
theorem items_rng {acc : Array Value} {a : Int} {n : Nat} {h : Heap} (T : ItemsOf (fun i v => ∃ t, v = .int (a + i * 1) t) acc n) : VRels G h φ P ((List.range n).map fun (i : Nat) => PV.int (a + i)) acc.toList := by
  refine VRels.of_get (by simp [T.1]) fun i p v e1 e2 => ?_
  have hi : i < n := by have := (List.getElem?_eq_some_iff.mp e1).1; simpa using this
  have hp : p = .int (a + i) := by simp [List.getElem?_map, List.getElem?_range hi] at e1; exact e1.symm
  obtain ⟨t, rfl⟩ := T.2 i v (by simpa using e2)
  rw [hp, Int.mul_one]; exact .int
theorem cwp_list_rng {a b : Int} (ho : RngOk a b) (hz : (b - a).toNat ≤ 2 ^ 24) (q : Q (.lst (rngL a b)) σ) : CWP c (.cst (.type "list")) [.rng a b] σ Q := cwp1 fun P s φ v I r => by
  refine r.rngE fun rr t u w vq e f => ?_
  subst vq
  intro A hA R E hR
  refine call_list_range (n := (b - a).toNat) hA.1 e (small_one ho.1 ho.2.1 ho.2.2.1 ho.2.2.2) (by rw [rangeSize_one]; split <;> lia) hz fun h' tk acc' c' kp e' T => ?_
  have rs : VRels c.G h' φ P (rngL a b) acc'.toList := items_rng T
  exact hR _ (hs s h' tk) φ (Gr.keepAll kp) ⟨.lst (rngL a b), σ, I.keepAll kp, .lst (by simpa [lstObj] using e') (I.fresh (get_size _)) rs, q⟩
theorem cwp_tuple_list {a : PV} {l : List PV} (V : LstV σ a l) (hz : l.length ≤ sizeLine) (q : Q (.tup l) σ) : CWP c (.cst (.type "tuple")) [a] σ Q := cwp1 fun P s φ v I r => by
  refine V.open I r fun x vs m vq e rs => ?_
  subst vq
  intro A hA R E hR
  refine call_tuple_list (items := vs.toArray) ⟨_, e, rfl, m, rfl⟩ (fun h' kp => ?_) (by rw [List.size_toArray, rs.length]; exact hz)
  have kp' : ∀ b o, s.heap.get? b = some o → (h'.push { cls := .type "tuple", data := .seq vs.toArray }).get? b = some o := fun b o q => keep_push h' _ b o (kp b o q)
  have hn : s.heap.get? h'.objs.size = Option.none := by
    cases q : s.heap.get? h'.objs.size with
    | none => rfl
    | some o => have := kp _ _ q; rw [get_size] at this; cases this
  refine hR _ (hs s _ s.toks) φ (Gr.keepAll kp') ⟨.tup l, σ, I.keepAll kp', .tup (n := 0) (vs := vs) (Heap.get?_push_size h' (o := { cls := .type "tuple", data := .seq vs.toArray }) rfl) (I.fresh hn) (rs.ext (Ext.of_keepP (N := []) kp' fun _ z => nomatch z)), q⟩
theorem cwp_tuple_same {l : List PV} (q : Q (.tup l) σ) : CWP c (.cst (.type "tuple")) [.tup l] σ Q := cwp1 fun P s φ v I r => by
  refine r.tupE fun x vs m vq e f rs => ?_
  subst vq
  exact Sp_tok (tk := s.toks) I (fun A R E h => call_tuple_same (items := vs.toArray) ⟨_, e, rfl, m, rfl⟩ h) (.tup e f rs) q
theorem cwp_str_int {a : Int} (ha : a.natAbs.log2 < 1920) (q : Q (.str (toString a)) σ) : CWP c (.cst (.type "str")) [.int a] σ Q := cwp1 fun P s φ v I r => by
  refine r.intE fun t vq => ?_
  subst vq
  exact Sp_tok I (fun A R E h => PySem.P.str_of_int ha h) .str q
theorem cwp_int {a : Int} (q : Q (.int a) σ) : CWP c (.cst (.type "int")) [.int a] σ Q := cwp1 fun P s φ v I r => by
  refine r.intE fun t vq => ?_
  subst vq
  exact Sp_tok (tk := s.toks) I (fun A R E h => call_int_int h) .int q
theorem cwp_abs {a : Int} (q : Q (.int (if a < 0 then -a else a)) σ) : CWP c (.cst (.builtin "abs")) [.int a] σ Q := cwp1 fun P s φ v I r => by
  refine r.intE fun t vq => ?_
  subst vq
  intro A hA R E hR
  exact call_abs_int fun u tk => hR _ (hs s s.heap tk) φ (Gr.tok tk) ⟨_, σ, I.tok tk, .int, q⟩
theorem cwp_min {a b : Int} (q : Q (.int (min a b)) σ) : CWP c (.cst (.builtin "min")) [.int a, .int b] σ Q := cwp2 fun P s φ v w I r r2 => by
  refine r.intE fun t vq => r2.intE fun t' vq' => ?_
  subst vq vq'
  intro A hA R E hR
  refine min_two_ints hA.1 fun h' tk kp => hR _ (hs s h' tk) φ (Gr.keepAll kp) ⟨_, σ, I.keepAll kp, ?_, q⟩
  rw [show min a b = if b < a then b else a from by split <;> lia]
  split <;> exact .int

/-! ### methods of lists -/
theorem mwp_builtin {o : PV} {name : Str} {id : String} {T : String} {Qm : PV → List PV → Sto → Prop} (pa : PlainAttrs T) (slot : Slot T name id) (ht : typeOf (.builtin id) = pure (.type "method_descriptor"))
    (ho : ∀ P s φ v, Inv c.G s φ P σ → VRel c.G s.heap φ P o v → s.TypeIs v T ∧ ∀ a, v = .ref a → ∃ o, s.heap.get? a = some o ∧ o.dict = none) (q : Qm (.cst (.builtin id)) [o] σ) (hi : handedIn (.builtin id) = true := by rfl) : MWP c o name σ Qm := by
  intro P s φ ov pl I r A hA R E hR
  obtain ⟨h1, h2⟩ := ho P s φ ov I r
  exact getMethod_builtin h1 pa slot ht h2 (hR _ s φ (Gr.refl ..) ⟨.cst (.builtin id), [o], σ, I, .cst hi, .cons r .nil, q⟩)
theorem lst_type {o : PV} {l : List PV} (V : LstV σ o l) : ∀ P s φ v, Inv c.G s φ P σ → VRel c.G s.heap φ P o v → s.TypeIs v "list" ∧ ∀ a, v = .ref a → ∃ o, s.heap.get? a = some o ∧ o.dict = none := by
  intro P s φ v I r
  refine V.open I r fun a vs m vq e rs => ?_
  subst vq
  exact ⟨⟨_, e, rfl⟩, fun b q => by cases q; exact ⟨_, e, rfl⟩⟩
theorem mwp_append {n : Nat} {l : List PV} {Qm : PV → List PV → Sto → Prop} (hn : σ[n]? = some (.list l)) (q : Qm (.cst (.builtin "list.append")) [.ref n] σ) : MWP c (.ref n) "append" σ Qm :=
  mwp_builtin F.plainAttrs_list F.slot_list_append F.type_list_append (lst_type (.r hn)) q
theorem mwp_extend {n : Nat} {l : List PV} {Qm : PV → List PV → Sto → Prop} (hn : σ[n]? = some (.list l)) (q : Qm (.cst (.builtin "list.extend")) [.ref n] σ) : MWP c (.ref n) "extend" σ Qm :=
  mwp_builtin F.plainAttrs_list F.slot_list_extend F.type_list_extend (lst_type (.r hn)) q
theorem mwp_pop {n : Nat} {l : List PV} {Qm : PV → List PV → Sto → Prop} (hn : σ[n]? = some (.list l)) (q : Qm (.cst (.builtin "list.pop")) [.ref n] σ) : MWP c (.ref n) "pop" σ Qm :=
  mwp_builtin F.plainAttrs_list F.slot_list_pop F.type_list_pop (lst_type (.r hn)) q
theorem mwp_remove {n : Nat} {l : List PV} {Qm : PV → List PV → Sto → Prop} (hn : σ[n]? = some (.list l)) (q : Qm (.cst (.builtin "list.remove")) [.ref n] σ) : MWP c (.ref n) "remove" σ Qm :=
  mwp_builtin F.plainAttrs_list F.slot_list_remove F.type_list_remove (lst_type (.r hn)) q
theorem mwp_get {o : PV} {d : List (Str × PV)} {Qm : PV → List PV → Sto → Prop} (ok : c.G.Ok) (V : SdV σ o d) (q : Qm (.cst (.builtin "dict.get")) [o] σ) : MWP c o "get" σ Qm :=
  mwp_builtin F.plainAttrs_dict F.slot_dict_get F.type_dict_get (fun P s φ v I r => by
    refine V.open ok I r fun a kvs vq e rs z => ?_
    subst vq
    exact ⟨e.typeIs, e.mapOf.noDict⟩) q

/-- a list of the store gets other items -/
theorem lst_set {n : Nat} {p : Addr × Addr} {vs : List Value} {m : Nat} {f : Array Value → Array Value} {l' : List PV} {vs' : List Value} (I : Inv c.G s φ P σ) (e1 : φ[n]? = some p) (e : s.heap.get? p.1 = some (lstObj vs m)) (e2 : p.2 = p.1) (hf : f vs.toArray = vs'.toArray)
    (rs : VRels c.G s.heap φ P l' vs') {t : Nat} {F : List Addr} : Inv c.G (hs s (s.heap.update p.1 (Obj.mapSeq f)) t) φ P (σ.set n (.list l')) ∧ Gr s φ F (hs s (s.heap.update p.1 (Obj.mapSeq f)) t) φ := by
  have g : (s.heap.update p.1 (Obj.mapSeq f)).get? p.1 = _ := IsL.update (h := s.heap) (l := p.1) (items := vs.toArray) (n := m) e f
  rw [hf] at g
  exact ⟨I.set e1 (.inl rfl) (Heap.SameBut.update ..) fun X => ⟨vs', _, g, rs.ext X, e2⟩, Gr.set e1 (.inl rfl) (Heap.SameBut.update ..) ⟨_, g⟩⟩

theorem cwp_append {n : Nat} {l : List PV} {x : PV} (hn : σ[n]? = some (.list l)) (hz : l.length ≤ sizeLine) (q : Q .none (σ.set n (.list (l ++ [x])))) : CWP c (.cst (.builtin "list.append")) [.ref n, x] σ Q := cwp2 fun P s φ v w I r rx => by
  refine r.refE fun p vq e1 => ?_
  subst vq
  refine I.lstE e1 hn fun vs m e rs e2 => ?_
  intro A hA R E hR
  obtain ⟨I', g'⟩ := lst_set (c := c) (f := (·.push w)) (l' := l ++ [x]) (vs' := vs ++ [w]) (t := s.toks) (F := []) I e1 e e2 (by simp) (rs.append (.cons rx .nil))
  refine call_meets F.slot_list_append ⟨_, e, rfl⟩ F.entry_list_append (F.args_list_append_2 _ _) (list_append p.1 vs.toArray m w (by rw [List.size_toArray, rs.length]; exact hz)) ⟨e, ?_⟩
  exact hR _ _ φ g' ⟨.none, _, I', .none, q⟩
theorem cwp_extend {n : Nat} {l : List PV} {x : PV} {l2 : List PV} (hn : σ[n]? = some (.list l)) (V : LstV σ x l2 ∨ x = .tup l2) (hz : l.length + l2.length ≤ 1000000) (q : Q .none (σ.set n (.list (l ++ l2)))) : CWP c (.cst (.builtin "list.extend")) [.ref n, x] σ Q := cwp2 fun P s φ v w I r rx => by
  refine r.refE fun p vq e1 => ?_
  subst vq
  refine I.lstE e1 hn fun vs m e rs e2 => ?_
  intro A hA R E hR
  have hsl : sizeLine ≥ 1000000 := by decide
  rcases V with V | rfl
  · refine V.open I rx fun b ws m' vq eb rs2 => ?_
    subst vq
    obtain ⟨I', g'⟩ := lst_set (c := c) (f := (· ++ ws.toArray)) (l' := l ++ l2) (vs' := vs ++ ws) (t := s.toks) (F := []) I e1 e e2 (by simp) (rs.append rs2)
    refine call_meets F.slot_list_extend ⟨_, e, rfl⟩ F.entry_list_extend (F.args_list_extend_2 _ _) (AutoSeq1.list_extend_list_list_0 p.1 vs.toArray m b ws.toArray m' ?_ ?_ ?_) ⟨e, eb, ?_⟩
    · rw [Bool.and_eq_true]; rintro ⟨_, z⟩; rw [List.size_toArray, List.size_toArray, rs.length, rs2.length] at z; simp [Builtin.List.listTooLong] at z; lia
    · rw [List.size_toArray, rs.length]; lia
    · rw [List.size_toArray, List.size_toArray, rs.length, rs2.length]; lia
    · exact hR _ _ φ g' ⟨.none, _, I', .none, q⟩
  · refine rx.tupE fun b ws m' vq eb f rs2 => ?_
    subst vq
    obtain ⟨I', g'⟩ := lst_set (c := c) (f := (· ++ ws.toArray)) (l' := l ++ l2) (vs' := vs ++ ws) (t := s.toks) (F := []) I e1 e e2 (by simp) (rs.append rs2)
    refine call_meets F.slot_list_extend ⟨_, e, rfl⟩ F.entry_list_extend (F.args_list_extend_2 _ _) (AutoSeq1.list_extend_list_tuple_0 p.1 vs.toArray m b ws.toArray m' ?_ ?_ ?_) ⟨e, eb, ?_⟩
    · rw [Bool.and_eq_true]; rintro ⟨_, z⟩; rw [List.size_toArray, List.size_toArray, rs.length, rs2.length] at z; simp [Builtin.List.listTooLong] at z; lia
    · rw [List.size_toArray, rs.length]; lia
    · rw [List.size_toArray, List.size_toArray, rs.length, rs2.length]; lia
    · exact hR _ _ φ g' ⟨.none, _, I', .none, q⟩
theorem VRels.eraseIdx {h : Heap} {l : List PV} : ∀ {vs : List Value} (i : Nat), VRels G h φ P l vs → VRels G h φ P (l.eraseIdx i) (vs.eraseIdx i) := by
  induction l with
  | nil => exact fun i r => r.nilE fun q => q ▸ .nil
  | cons p l ih =>
    refine fun i r => r.consE fun v vs q a t => ?_
    subst q
    cases i with
    | zero => exact t
    | succ i => exact .cons a (ih i t)
theorem cwp_pop {n : Nat} {l : List PV} {i : Int} {j : Nat} {y : PV} (hn : σ[n]? = some (.list l)) (hz : l.length ≤ sizeLine) (hfit : -(2 ^ 63) ≤ i ∧ i < 2 ^ 63) (hj : seqIndex? i l.length = some j) (hy : l[j]? = some y) (q : Q y (σ.set n (.list (l.eraseIdx j)))) : CWP c (.cst (.builtin "list.pop")) [.ref n, .int i] σ Q := cwp2 fun P s φ v w I r rx => by
  refine r.refE fun p vq e1 => ?_
  subst vq
  refine rx.intE fun u vq => ?_
  subst vq
  refine I.lstE e1 hn fun vs m e rs e2 => ?_
  obtain ⟨w, hw, rw'⟩ := rs.get hy
  have hjl : j < vs.length := (List.getElem?_eq_some_iff.mp hw).1
  intro A hA R E hR
  obtain ⟨I', g'⟩ := lst_set (c := c) (f := (·.eraseIdxIfInBounds j)) (l' := l.eraseIdx j) (vs' := vs.eraseIdx j) (t := s.toks) (F := []) I e1 e e2 (by simp [Array.eraseIdxIfInBounds, hjl]) (rs.eraseIdx j)
  refine call_meets F.slot_list_pop ⟨_, e, rfl⟩ F.entry_list_pop (F.args_list_pop_2 _ _) (MeetsSeq.list_pop_at p.1 vs.toArray m i u j w ?_ ?_ ?_ ?_) ⟨e, ?_⟩
  · simp [Builtin.List.listFitsIndex]; lia
  · rw [List.size_toArray, rs.length]; exact hj
  · simpa using hw
  · rw [List.size_toArray, rs.length]; exact hz
  · exact hR _ _ φ g' ⟨y, _, I', rw'.gr g', q⟩
theorem strsAre {h : Heap} {xs : List Str} : ∀ {vs : List Value}, VRels G h φ P (xs.map PV.str) vs → StrsAre vs xs := by
  induction xs with
  | nil => exact fun r => r.nilE fun q => q ▸ .nil
  | cons x xs ih => exact fun r => r.consE fun v vs q a t => a.strE fun _ q2 => q ▸ q2 ▸ .cons _ _ (ih t)
theorem cwp_remove {n : Nat} {x : Str} {xs : List Str} (hn : σ[n]? = some (.list (.str x :: xs.map .str))) (hz : xs.length < sizeLine) (q : Q .none (σ.set n (.list (xs.map .str)))) : CWP c (.cst (.builtin "list.remove")) [.ref n, .str x] σ Q := cwp2 fun P s φ v w I r rx => by
  refine r.refE fun p vq e1 => ?_
  subst vq
  refine rx.strE fun u vq => ?_
  subst vq
  refine I.lstE e1 hn fun vs m e rs e2 => ?_
  have rs' : VRels c.G s.heap φ P ((x :: xs).map PV.str) vs := rs
  have hS := strsAre rs'
  refine VRels.consE rs fun v vs' q r0 rs0 => ?_
  refine r0.strE fun t vq => ?_
  subst vq
  subst q
  intro A hA R E hR
  obtain ⟨I', g'⟩ := lst_set (c := c) (f := (·.eraseIdxIfInBounds 0)) (l' := xs.map .str) (vs' := vs') (t := s.toks) (F := []) I e1 e e2 (by simp [Array.eraseIdxIfInBounds]) rs0
  refine call_meets F.slot_list_remove ⟨_, e, rfl⟩ F.entry_list_remove (F.args_list_remove_2 _ _) (MeetsSeq.list_remove p.1 (Value.str x t :: vs').toArray m (.str x u) (isStrOf x) (fun y hy => eq_isStrOf x u hS y (by simpa using hy)) 0 (by simp) ?_ (fun m _ hm => absurd hm (Nat.not_lt_zero _)) ?_) ⟨e, ?_⟩
  · simp [isStrOf]
  · have := rs.length
    simp at this ⊢; lia
  · exact hR _ _ φ g' ⟨.none, _, I', .none, q⟩
theorem cwp_get {o : PV} {d : List (Str × PV)} {x : Str} {y : PV} (ok : c.G.Ok) (V : SdV σ o d) (q : Q ((d.lookup x).getD y) σ) : CWP c (.cst (.builtin "dict.get")) [o, .str x, y] σ Q := cwp3 fun P s φ v w dv I r rx ry => by
  refine rx.strE fun t vq => ?_
  subst vq
  refine V.open ok I r fun a kvs vq e rs z => ?_
  subst vq
  have hv : VRel c.G s.heap φ P ((d.lookup x).getD y) ((valueAt kvs x).getD dv) := by
    cases h : d.lookup x with
    | none => rw [rs.miss h]; exact ry
    | some p => obtain ⟨w, q1, q2⟩ := rs.get h; rw [q1]; exact q2
  exact Sp_tok (tk := s.toks + 1) I (fun A R E h => call_meetsIn F.slot_dict_get e.typeIs F.entry_dict_get (F.args_dict_get_3 _ _ _) (meets_dict_get_default (strKind c.G.prog c.G.w) a (strKind_is _ _ x t) z dv) ⟨_, e.mapOf, h⟩) hv q
end
end Mine
namespace Mine
variable {G : Gd} {s : Shared} {φ : Phi} {P : List Addr} {σ : Sto} {c : Cx} {ρ : Rho}

/-! ### slices -/
noncomputable def PartWP (c : Cx) (e : Option Expr) (ρ : Rho) (σ : Sto) (Q : Option Int → Sto → Prop) : Prop := match e with
  | none => Q none σ
  | some e => EWP c e ρ σ fun v σ' => ∃ i, v = .int i ∧ Q (some i) σ'
theorem part_run {e : Option Expr} {Q : Option Int → Sto → Prop} (h : PartWP c e ρ σ Q) (I : Inv c.G s φ P σ) (F : FrameAt c.G c.env P s.heap φ ρ) :
    c.Sp [] s φ (evalPart e c.env) (fun v s' φ' => ∃ o σ', IsPart v o ∧ Inv c.G s' φ' P σ' ∧ Q o σ') := by
  cases e with
  | none => exact Sp.pure (a := Value.none) ⟨none, σ, .none, I, h⟩
  | some e =>
    refine (h P s φ I F).mono fun v s' φ' g pp => pp.e fun pv σ' I' r h' => ?_
    obtain ⟨i, e, q⟩ := h'
    subst e
    refine r.intE fun t e => ?_
    subst e
    exact ⟨some i, σ', .int _ _, I', q⟩

noncomputable def pickL {α : Type} (l : List α) (lo hi st : Option Int) : List α :=
  (sliceRange (sliceBounds lo hi st l.length).1 (sliceBounds lo hi st l.length).2.1 (sliceBounds lo hi st l.length).2.2).filterMap (l[·]?)
noncomputable def pickT {α : Type} (l : List α) (lo hi st : Option Int) : List α :=
  let b := Builtin.Slice.sliceAdjust lo hi (st.getD 1) l.length
  (List.range (Builtin.Slice.slicePlaces b.1 b.2 (st.getD 1))).filterMap fun (k : Nat) => l[(b.1 + (k : Int) * st.getD 1).toNat]?
noncomputable def wholeT (n : Nat) (lo hi st : Option Int) : Bool :=
  let b := Builtin.Slice.sliceAdjust lo hi (st.getD 1) n
  b.1 == 0 && st.getD 1 == 1 && Builtin.Slice.slicePlaces b.1 b.2 (st.getD 1) == n
theorem VRels.pick {h : Heap} {l : List PV} {vs : List Value} {α : Type} (r : VRels G h φ P l vs) (f : α → Nat) (is : List α) : VRels G h φ P (is.filterMap fun i => l[f i]?) (is.filterMap fun i => vs[f i]?) := by
  induction is with
  | nil => exact .nil
  | cons i is ih =>
    rw [List.filterMap_cons, List.filterMap_cons]
    cases e : l[f i]? with
    | none =>
      have : vs[f i]? = none := by
        rw [List.getElem?_eq_none_iff] at e ⊢
        rw [r.length]; exact e
      rw [this]; exact ih
    | some p =>
      obtain ⟨v, hv, rv⟩ := r.get e
      rw [hv]; exact .cons rv ih

theorem getItem_tuple_slice {A : Around} {E : Value → Shared → Prop} {prog : Program} {w : World} {t sl : Addr} {items : Array Value} {vl vu vs : Value} {lo hi st : Option Int} {Q : Value → Shared → Prop} (ht : IsTup s.heap t items) (hs : s.heap.IsSliceOf sl vl vu vs)
    (pl : IsPart vl lo) (pu : IsPart vu hi) (ps : IsPart vs st) (h0 : (st.getD 1 == 0) = false) (hw : wholeT items.size lo hi st = false)
    (h : Q (.ref s.heap.objs.size) { s with heap := s.heap.push { cls := .type "tuple", data := .seq (pickT items.toList lo hi st).toArray } })
    (hsz : (pickT items.toList lo hi st).length ≤ sizeLine) : wpAny (model prog w) A (getItem (.ref t) (.ref sl)) Q E s := by
  obtain ⟨os, hos, hcs, hds⟩ := id hs
  have hTs : s.TypeIs (.ref sl) "slice" := ⟨os, hos, hcs⟩
  have sp : ∀ {v : Value} {o : Option Int} {Q : Option Int → Shared → Prop} {E : Value → Shared → Prop} {A : Around}, IsPart v o → Q o s → wpAny (model prog w) A (Builtin.Slice.slicePartIndex v) Q E s := fun p q => by
    cases p with
    | none => exact slicePart_none q
    | int => exact slicePart_int q
  unfold getItem
  try with_reducible refine wpAny_holding ?_
  first | refine wpAny_bind (wpAny_pure ?_) | skip
  refine wpAny_bind (wpAny_sequenceKey ht.typeIs (by decide) ?_)
  refine wpAny_bind (wpAny_callSpecial?_slot (name := Str.ofString "__getitem__") ht.typeIs slot_tuple_getitem
    (wpAny_call_entry slot_tuple_getitem ht.typeIs entry_tuple_getitem ?_ (args_tuple_getitem _ _)))
  show wpAny _ _ (Builtin.Tuple.tupleItemsOf (.ref t) >>= _) _ _ s
  refine wpAny_bind (tupleItemsOf_ ht ?_)
  refine wpAny_bind (wpAny_typeOf hTs ?_)
  rw [if_pos (by decide)]
  refine wpAny_bind ?_
  unfold Builtin.Slice.sliceApplied Builtin.Slice.sliceFields
  refine wpAny_bind (wpAny_bind (wpAny_field hos hds (x := vl) rfl (wpAny_bind (wpAny_field hos hds (x := vu) rfl (wpAny_bind (wpAny_field hos hds (x := vs) rfl (wpAny_pure ?_)))))))
  refine wpAny_bind (sp ps ?_)
  rw [if_neg (by rw [h0]; decide)]
  refine wpAny_bind (sp pl (wpAny_bind (sp pu (wpAny_bind (wpAny_pure ?_)))))
  have e : ∀ b1 b2, Builtin.Slice.sliceAdjust lo hi (st.getD 1) items.size = (b1, b2) → ((List.range (Builtin.Slice.slicePlaces b1 b2 (st.getD 1))).filterMap fun (k : Nat) => items[(b1 + (k : Int) * st.getD 1).toNat]?) = pickT items.toList lo hi st := fun b1 b2 hb => by
    unfold pickT
    simp only [Array.length_toList, Array.getElem?_toList, hb]
  have hw' : ∀ b1 b2, Builtin.Slice.sliceAdjust lo hi (st.getD 1) items.size = (b1, b2) → (b1 == 0 && st.getD 1 == 1 && Builtin.Slice.slicePlaces b1 b2 (st.getD 1) == items.size) = false := fun b1 b2 hb => by
    unfold wholeT at hw
    simp only [hb] at hw; exact hw
  show wpAny _ _ (match Builtin.Slice.sliceAdjust lo hi (st.getD 1) (items.size : Int) with | (lo, hi) => pure (lo, st.getD 1, Builtin.Slice.slicePlaces lo hi (st.getD 1))) _ _ s
  generalize hb : Builtin.Slice.sliceAdjust lo hi (st.getD 1) (items.size : Int) = b
  obtain ⟨b1, b2⟩ := b
  refine wpAny_pure ?_
  show wpAny _ _ (if (b1 == 0 && st.getD 1 == 1 && Builtin.Slice.slicePlaces b1 b2 (st.getD 1) == items.size) = true then _ else _) _ _ s
  rw [if_neg (by rw [hw' b1 b2 hb]; decide), e b1 b2 hb]
  have hdrop : sizeOk (.seq (pickT items.toList lo hi st).toArray) := by
    show (pickT items.toList lo hi st).toArray.size ≤ sizeLine
    rw [List.size_toArray]; exact hsz
  first
    | exact wpAny_bind (m := Builtin.Tuple.tupleExact _) (wpAny_newObj_type (wpAny_pure ⟨_, rfl, wpAny_pure h⟩) hdrop)
    | exact wpAny_bind (m := Builtin.Tuple.tupleExact _) (wpAny_newObj_type (wpAny_bind (wpAny_pure (wpAny_pure ⟨_, rfl, wpAny_pure h⟩))) hdrop)
    | exact wpAny_bind (wpAny_bind (m := Builtin.Tuple.tupleExact _) (wpAny_newObj_type (wpAny_pure (wpAny_pure ⟨_, rfl, wpAny_pure h⟩)) hdrop))
    | exact wpAny_bind (wpAny_bind (m := Builtin.Tuple.tupleExact _) (wpAny_newObj_type (wpAny_pure ⟨_, rfl, wpAny_pure h⟩) hdrop))

theorem slice_run {lower upper step : Option Expr} {sp : Pos} {Q : Option Int → Option Int → Option Int → Sto → Prop}
    (h : PartWP c lower ρ σ fun lo σ₂ => PartWP c upper ρ σ₂ fun hi σ₃ => PartWP c step ρ σ₃ fun st σ₄ => Q lo hi st σ₄) (I : Inv c.G s φ P σ) (F : FrameAt c.G c.env P s.heap φ ρ) :
    c.Sp [] s φ (eval (.Slice lower upper step sp) c.env) (fun iv s' φ' => ∃ a vl vu vs lo hi st σ', iv = .ref a ∧ s'.heap.IsSliceOf a vl vu vs ∧ IsPart vl lo ∧ IsPart vu hi ∧ IsPart vs st ∧ Inv c.G s' φ' P σ' ∧ Q lo hi st σ') := by
  rw [arm_eval_Slice]
  refine (part_run h I F).bind fun vl s₁ φ₁ g₁ pp => ?_
  obtain ⟨lo, σ₁, p₁, I₁, h₁⟩ := pp
  have F₁ := F.gr I g₁
  refine Sp.bind (Sp.hold (part_run h₁ I₁ F₁)) fun vu s₂ φ₂ g₂ pp => ?_
  obtain ⟨hi, σ₂, p₂, I₂, h₂⟩ := pp
  have F₂ := F₁.gr I₁ g₂
  refine Sp.bind (Sp.hold (part_run h₂ I₂ F₂)) fun vs s₃ φ₃ g₃ pp => ?_
  obtain ⟨st, σ₃, p₃, I₃, h₃⟩ := pp
  intro A hA R E hR
  have kp := keep_push s₃.heap { cls := .type "slice", data := .fields #[vl, vu, vs] }
  refine wpAny_newObj_type (hR _ (hs s₃ (s₃.heap.push { cls := .type "slice", data := .fields #[vl, vu, vs] }) s₃.toks) φ₃ (Gr.keepAll kp) ⟨_, vl, vu, vs, lo, hi, st, σ₃, rfl, Heap.IsSliceOf.new .., p₁, p₂, p₃, I₃.keepAll kp, h₃⟩)
noncomputable abbrev KSl4 (o : PV) (lo hi : Option Int) (Q : Post) : Option Int → Sto → Prop := fun st σ₄ => ∃ l, l.length ≤ 100000 ∧ (st.getD 1 == 0) = false ∧
      ((LstV σ₄ o l ∧ Q (.lst (pickL l lo hi st)) σ₄) ∨ (o = .tup l ∧ wholeT l.length lo hi st = false ∧ (pickT l lo hi st).length ≤ sizeLine ∧ Q (.tup (pickT l lo hi st)) σ₄))
noncomputable abbrev KSl3 (c : Cx) (step : Option Expr) (ρ : Rho) (o : PV) (lo : Option Int) (Q : Post) : Option Int → Sto → Prop := fun hi σ₃ => PartWP c step ρ σ₃ (KSl4 o lo hi Q)
noncomputable abbrev KSl2 (c : Cx) (upper step : Option Expr) (ρ : Rho) (o : PV) (Q : Post) : Option Int → Sto → Prop := fun lo σ₂ => PartWP c upper ρ σ₂ (KSl3 c step ρ o lo Q)
noncomputable abbrev KSl (c : Cx) (lower upper step : Option Expr) (ρ : Rho) (Q : Post) : Post := fun o σ₁ => PartWP c lower ρ σ₁ (KSl2 c upper step ρ o Q)
theorem ewp_slice {value : Expr} {lower upper step : Option Expr} {sp pos : Pos} {Q : Post} {ops : Value → Value → List Value}
    (h : EWP c value ρ σ (KSl c lower upper step ρ Q))
    (hsl : ∀ o i, subscripted (.Slice lower upper step sp) false o i = operate (ops o i) (getItem o i) := by with_unfolding_all (intro _ _; rfl)) : EWP c (.Subscript value (.Slice lower upper step sp) pos) ρ σ Q := by
  intro P s φ I F
  rw [eval_Subscript]
  refine (h P s φ I F).bind fun o s₁ φ₁ g₁ pp => pp.e fun po σ₁ I₁ r₁ h₁ => ?_
  have F₁ := F.gr I g₁
  refine Sp.bind (Sp.hold (slice_run h₁ I₁ F₁)) fun iv s₂ φ₂ g₂ pp => Sp.stand ?_
  obtain ⟨a, vl, vu, vs, lo, hi, st, σ₂, e, hsl', p₁, p₂, p₃, I₂, l, hz, h0, hq⟩ := pp
  subst e
  have r₂ := r₁.gr g₂
  have hsz : (100000 : Nat) ≤ sizeLine := by decide
  have h0' : st ≠ some 0 := by rintro rfl; simp at h0
  intro A hA R E hR
  rcases hq with ⟨V, q⟩ | ⟨rfl, hw, hz2, q⟩
  · refine V.open I₂ r₂ fun x ws m vq e rs => ?_
    subst vq
    have hL : s₂.heap.IsList x ws.toArray := ⟨_, e, rfl, m, rfl⟩
    refine tail_any hL.typeIs list_getitem_lookup (wpAny_getItem_list_slice hL hsl' p₁ p₂ p₃ h0' ?_ (by rw [List.size_toArray, rs.length]; lia)) (hsl _ _)
    have kp := keep_push s₂.heap { cls := .type "list", data := .seq (slicePick ws.toArray lo hi st) }
    have e2 : slicePick ws.toArray lo hi st = (pickL ws lo hi st).toArray := by
      unfold slicePick pickL
      simp only [List.size_toArray, List.getElem?_toArray]
    have rp : VRels c.G s₂.heap φ₂ P (pickL l lo hi st) (pickL ws lo hi st) := by
      have := rs.pick (fun i => i) (sliceRange (sliceBounds lo hi st ws.length).1 (sliceBounds lo hi st ws.length).2.1 (sliceBounds lo hi st ws.length).2.2)
      unfold pickL
      rw [← rs.length]; exact this
    refine hR _ (hs s₂ _ s₂.toks) φ₂ (Gr.keepAll kp) ⟨_, σ₂, I₂.keepAll kp, .lst (n := 0) ?_ (I₂.fresh (get_size _)) (rp.ext (Ext.of_keepP (N := []) kp fun _ z => nomatch z)), q⟩
    rw [e2]; exact Heap.get?_push_size s₂.heap (o := { cls := .type "list", data := .seq (pickL ws lo hi st).toArray }) rfl
  · refine r₂.tupE fun x ws m vq e f rs => ?_
    subst vq
    have hT : IsTup s₂.heap x ws.toArray := ⟨_, e, rfl, m, rfl⟩
    have rp : VRels c.G s₂.heap φ₂ P (pickT l lo hi st) (pickT ws lo hi st) := by
      have := rs.pick (fun (k : Nat) => ((Builtin.Slice.sliceAdjust lo hi (st.getD 1) ws.length).1 + (k : Int) * st.getD 1).toNat) (List.range (Builtin.Slice.slicePlaces (Builtin.Slice.sliceAdjust lo hi (st.getD 1) ws.length).1 (Builtin.Slice.sliceAdjust lo hi (st.getD 1) ws.length).2 (st.getD 1)))
      unfold pickT
      rw [← rs.length]; exact this
    refine tail_any hT.typeIs slot_tuple_getitem.lookup (getItem_tuple_slice hT hsl' p₁ p₂ p₃ h0 (by rw [List.size_toArray, rs.length]; exact hw) ?_ (by rw [show ws.toArray.toList = ws from rfl, rp.length]; exact hz2)) (hsl _ _)
    have kp := keep_push s₂.heap { cls := .type "tuple", data := .seq (pickT ws lo hi st).toArray }
    exact hR _ (hs s₂ _ s₂.toks) φ₂ (Gr.keepAll kp) ⟨_, σ₂, I₂.keepAll kp, .tup (n := 0) (Heap.get?_push_size s₂.heap (o := { cls := .type "tuple", data := .seq (pickT ws lo hi st).toArray }) rfl) (I₂.fresh (get_size _)) (rp.ext (Ext.of_keepP (N := []) kp fun _ z => nomatch z)), q⟩

/-! ### texts with fields -/
noncomputable abbrev KFv (Q : Post) : Post := fun v σ₁ => (∃ x, v = .str x ∧ x.length ≤ sizeLine ∧ Q (.str x) σ₁) ∨ (∃ i, v = .int i ∧ i.natAbs.log2 < 1920 ∧ Q (.str (toString i)) σ₁)
theorem ewp_fv {e : Expr} {pos : Pos} {Q : Post} (h : EWP c e ρ σ (KFv Q)) : EWP c (.FormattedValue e (-1) none pos) ρ σ Q := by
  intro P s φ I F A hA R E hR
  refine wpAny_FormattedValue_plain (h P s φ I F A hA _ E fun v s₁ φ₁ g₁ pp => pp.e fun pv σ₁ I₁ r₁ hq => ?_)
  rcases hq with ⟨x, rfl, hz, q⟩ | ⟨i, rfl, hz, q⟩
  · refine r₁.strE fun t vq => ?_
    subst vq
    exact wpAny_formatField_str (hR _ s₁ φ₁ g₁ ⟨_, σ₁, I₁, .str, q⟩) (hR _ (hs s₁ s₁.heap _) φ₁ (g₁.trans (Gr.tok _)) ⟨_, σ₁, I₁.tok _, .str, q⟩) hz
  · refine r₁.intE fun t vq => ?_
    subst vq
    exact wpAny_formatField_int hz (hR _ (hs s₁ s₁.heap _) φ₁ (g₁.trans (Gr.tok _)) ⟨_, σ₁, I₁.tok _, .str, q⟩)
noncomputable def JWP (c : Cx) (ρ : Rho) (Q : Post) : List Expr → Str → Sto → Prop
  | [], acc, σ => acc.length ≤ sizeLine ∧ Q (.str acc) σ
  | e :: r, acc, σ => EWP c e ρ σ fun v σ₁ => ∃ y, v = .str y ∧ (acc ++ y).length ≤ sizeLine ∧ JWP c ρ Q r (acc ++ y) σ₁
theorem jwp_run {A : Around} {E : Value → Shared → Prop} {Q : Post} {R : Value → Shared → Prop} (hA : Room A c.k) (es : List Expr) : ∀ (acc : Str) {s : Shared} {φ : Phi} {σ : Sto}, JWP c ρ Q es acc σ → Inv c.G s φ P σ → FrameAt c.G c.env P s.heap φ ρ →
    (∀ v s' φ', Gr s φ [] s' φ' → PostV c.G P Q v s' φ' → R v s') → Joins c.G.M A E (evalEach es c.env) acc (fun out s₁ => out.length ≤ sizeLine ∧ R (.str out s₁.toks) { s₁ with toks := s₁.toks + 1 }) s := by
  induction es with
  | nil => exact fun acc s φ σ h I F hR => ⟨h.1, hR _ (hs s s.heap (s.toks + 1)) φ (Gr.tok _) ⟨_, σ, I.tok _, .str, h.2⟩⟩
  | cons e r ih =>
    intro acc s φ σ h I F hR
    refine h P s φ I F A hA _ E fun v s₁ φ₁ g₁ pp => pp.e fun pv σ₁ I₁ r₁ h₁ => ?_
    obtain ⟨y, e, hz, q⟩ := h₁
    subst e
    refine r₁.strE fun t vq => ?_
    subst vq
    exact ⟨y, t, rfl, hz, ih (acc ++ y) q I₁ (F.gr I g₁) fun v s' φ' g p => hR v s' φ' (g₁.trans g) p⟩
theorem ewp_fstr {v₁ v₂ : Expr} {rest : List Expr} {pos : Pos} {Q : Post} (h : JWP c ρ Q (v₁ :: v₂ :: rest) Str.empty σ) : EWP c (.JoinedStr (v₁ :: v₂ :: rest) pos) ρ σ Q := by
  intro P s φ I F A hA R E hR
  exact wpAny_JoinedStr (jwp_run hA _ _ h I F hR)

/-! ### isinstance -/
section
variable {Q : Post}
theorem cwp_isi_tup {l : List PV} (q : Q (.bool true) σ) : CWP c (.cst (.builtin "isinstance")) [.tup l, .cst (.type "tuple")] σ Q := cwp2 fun P s φ v w I r r2 => by
  refine r.tupE fun a vs m vq e f rs => r2.cstE fun q2 _ => ?_
  subst vq q2
  exact Sp_tok (tk := s.toks) I (fun A R E h => IsiPair.tuple_tuple e rfl h) .bool q
theorem cwp_isi_int {i : Int} (q : Q (.bool true) σ) : CWP c (.cst (.builtin "isinstance")) [.int i, .cst (.type "int")] σ Q := cwp2 fun P s φ v w I r r2 => by
  refine r.intE fun t vq => r2.cstE fun q2 _ => ?_
  subst vq q2
  exact Sp_tok (tk := s.toks) I (fun A R E h => IsiPair.int_int h) .bool q
theorem cwp_isi_bool {i : Int} (q : Q (.bool false) σ) : CWP c (.cst (.builtin "isinstance")) [.int i, .cst (.type "bool")] σ Q := cwp2 fun P s φ v w I r r2 => by
  refine r.intE fun t vq => r2.cstE fun q2 _ => ?_
  subst vq q2
  exact Sp_tok I (fun A R E h => IsiPair.int_bool h) .bool q
end
end Mine
namespace Mine
variable {G : Gd} {s : Shared} {φ : Phi} {P : List Addr} {σ : Sto} {c : Cx} {ρ : Rho}

/-! ### stores in reverse order -/
noncomputable def rsets : List Str → List PV → Rho → Rho
  | x :: xs, v :: vs, ρ => rsets xs vs (rset x v ρ)
  | _, _, ρ => ρ
theorem names_run {own : List Addr} (hown : ∀ a ∈ own, a ∈ ownA c.env) {Q : Unit → Shared → Phi → Prop} : ∀ (xs : List Str) {ps : List PV} {vs : List Value} {s : Shared} {ρ : Rho}, (∀ x ∈ xs, Owns c.env own x) → xs.length = ps.length → Inv c.G s φ P σ → FrameAt c.G c.env P s.heap φ ρ → VRels c.G s.heap φ P ps vs →
    (∀ s', Inv c.G s' φ P σ → FrameAt c.G c.env P s'.heap φ (rsets xs ps ρ) → Q () s' φ) → c.Sp own s φ (assignInOrder (xs.map fun n => bindName c.env n) vs) Q := by
  intro xs
  induction xs with
  | nil =>
    intro ps vs s ρ _ hl I F r q
    cases ps with
    | nil => exact r.nilE fun q2 => q2 ▸ Sp.pure (q s I F)
    | cons p ps => simp at hl
  | cons x xs ih =>
    intro ps vs s ρ hk hl I F r q
    cases ps with
    | nil => simp at hl
    | cons p ps =>
      refine r.consE fun v vs' q2 a rs => ?_
      subst q2
      refine Sp.bind (Sp.hold (Sp_bindName (Q := fun _ s' φ' => φ' = φ ∧ Inv c.G s' φ P σ ∧ FrameAt c.G c.env P s'.heap φ (rset x p ρ)) I F a (hk x (.head _)) fun s' I' F' => ⟨rfl, I', F'⟩)) fun _ s₁ φ₁ g₁ pp => ?_
      obtain ⟨e, I₁, F₁⟩ := pp
      subst e
      exact ih (fun y hy => hk y (.tail _ hy)) (by simpa using hl) I₁ F₁ (rs.ext (g₁.ext fun a q => F.own a (hown a q))) q
noncomputable abbrev KSwap (names : List Str) (ρ : Rho) (Qn : Rho → Sto → Prop) : Post := fun v σ₁ => ∃ ps, v = .tup ps ∧ names.length = ps.length ∧ Qn (rsets names.reverse ps.reverse ρ) σ₁
theorem s1_swap {elts : List Expr} {k : Nat} {tpos pos : Pos} {e : Expr} {names : List Str} {Qn : Rho → Sto → Prop} {Qr : Post}
    (h : EWP c e ρ σ (KSwap names ρ Qn)) (hk : (names.all fun x => c.env.kindOf x == some .local) = true)
    (hsw : swapsWithSole [.Tuple elts k tpos] e pos.line c.env = pure false := by rfl) (hw : swappedStores [.Tuple elts k tpos] e c.env = pure (some names) := by rfl) : S1WP c (.Assign [.Tuple elts k tpos] e pos) ρ σ Qn Qr := by
  intro P s φ I F A hA R E hR
  refine Assign_Tuple_swapped (names := names) (h P s φ I F A hA _ E fun v s₁ φ₁ g₁ pp => pp.e fun pv σ₁ I₁ r₁ h₁ => ?_) hsw hw
  obtain ⟨ps, e, hl, q⟩ := h₁
  subst e
  have F₁ := F.gr I g₁
  refine r₁.tupE fun a vs m vq e f rs => ?_
  subst vq
  have hT : s₁.heap.IsTuple a vs.toArray := ⟨_, e, rfl, m, rfl⟩
  rw [show names.length = vs.toArray.size from by rw [List.size_toArray, rs.length, hl]]
  refine wpAny_unpackItems_tuple hA.1 hT fun h' ext => ?_
  have kp : ∀ b o, s₁.heap.get? b = some o → h'.get? b = some o := fun b o q => ext b o (Nat.ne_of_lt (Heap.lt_size q)) q
  have kE := Ext.of_keepP (φ := φ₁) (P := P) (N := []) kp fun _ z => nomatch z
  have rr : VRels c.G h' φ₁ P ps.reverse vs.reverse := by
    have hl' := rs.length
    refine VRels.of_get (by simp [hl']) fun i p v e1 e2 => ?_
    have hi : i < ps.length := by have := (List.getElem?_eq_some_iff.mp e1).1; simpa using this
    rw [List.getElem?_reverse hi] at e1
    rw [List.getElem?_reverse (by lia), hl'] at e2
    obtain ⟨w, hw, rw'⟩ := rs.get e1
    rw [e2] at hw; cases hw
    exact rw'.ext kE
  have I₂ : Inv c.G (hs s₁ h' s₁.toks) φ₁ P σ₁ := I₁.keepAll kp
  have F₂ : FrameAt c.G c.env P h' φ₁ ρ := F₁.keep kE (fun a _ => kp a) fun _ z => z
  refine names_run (c := c) (own := ownA c.env) (fun _ z => z) names.reverse (Q := fun _ s' φ' => φ' = φ₁ ∧ Inv c.G s' φ₁ P σ₁ ∧ FrameAt c.G c.env P s'.heap φ₁ (rsets names.reverse ps.reverse ρ)) (fun x hx => ?_) (by simpa using hl) I₂ F₂ rr (fun s' I' F' => ⟨rfl, I', F'⟩) A hA _ E fun _ s₃ φ₃ g₃ pp => ?_
  · have := List.all_eq_true.mp hk x (by simpa using hx)
    exact owns_local (by simpa using this)
  · obtain ⟨ee, I₃, F₃⟩ := pp
    subst ee
    exact hR .next s₃ φ₃ (((g₁.weaken fun _ z => nomatch z).trans (Gr.keepAll (t := s₁.toks) kp)).trans g₃) ⟨_, σ₁, I₃, F₃, q⟩

/-! ### a list taken apart -/
theorem draw_run {A : Around} {E : Value → Shared → Prop} {pv : PV} {l : List PV} {it : Addr} (S : Src σ pv l) (hit : it ∈ P) (n : Nat) : ∀ (i : Nat) {s : Shared} {R : List Value → Shared → Prop}, Inv c.G s φ P σ → ItAt c.G s.heap φ P pv it i → i + n ≤ l.length →
    (∀ vs s', Inv c.G s' φ P σ → (∀ F, it ∈ F → Gr s φ F s' φ) → VRels c.G s'.heap φ P ((l.drop i).take n) vs → ItAt c.G s'.heap φ P pv it (i + n) → R vs s') → wpAny c.G.M A (draw (.ref it) n) R E s := by
  induction n with
  | zero =>
    intro i s R I T hle hR
    show wpAny _ _ (pure []) R E s
    exact wpAny_pure (hR [] s I (fun F _ => Gr.refl ..) (by rw [List.take_zero]; exact .nil) T)
  | succ n ih =>
    intro i s R I T hle hR
    have hlt : i < l.length := by lia
    show wpAny _ _ (pyNext (.ref it) >>= _) R E s
    refine wpAny_bind (next_item S I T hit (List.getElem?_eq_getElem hlt) fun s₁ v I₁ g₁ r₁ T₁ => ?_)
    refine wpAny_bind (wpAny_holding (ih (i + 1) I₁ T₁ (by lia) fun vs s₂ I₂ g₂ rs T₂ => wpAny_pure ?_))
    refine hR (v :: vs) s₂ I₂ (fun F hF => (g₁ F hF).trans (g₂ F hF)) ?_ (by rw [show i + (n + 1) = i + 1 + n by lia]; exact T₂)
    rw [List.drop_eq_getElem_cons hlt, List.take_succ_cons]
    exact .cons (r₁.ext ((g₂ [it] (by simp)).ext fun a h => by rw [List.mem_singleton.mp h]; exact hit)) rs

theorem awp_unlist {own : List Addr} (hown : ∀ a ∈ own, a ∈ ownA c.env) {ts : List Expr} {n : Nat} {pos : Pos} {pv : PV} {ps : List PV} {Q : Rho → Sto → Prop} (V : LstV σ pv ps) (h : ALs c own ts ps ρ σ Q) (hl : ts.length = ps.length)
    (he : assignEach ts c.env = ts.map fun t => (false, assign t c.env)) : AWP c own (.Tuple ts n pos) pv ρ σ Q := by
  intro P s φ val I F r A hA R E hR
  refine V.open I r fun a vs m vq e rs => ?_
  subst vq
  rw [arm_assign_Tuple]
  refine wpAny_bind (wpAny_standAt ?_)
  unfold unpack
  have hstar : (assignEach ts c.env).findIdx? (·.1) = none := by rw [he, List.findIdx?_eq_none_iff]; intro x hx; obtain ⟨t, _, rfl⟩ := List.mem_map.mp hx; rfl
  rw [hstar]
  refine wpAny_bind (wpAny_holding ?_)
  have hT : s.TypeIs (.ref a) "list" := ⟨_, e, rfl⟩
  unfold unpackItems
  refine wpAny_bind ?_
  unfold notIterableAtAll
  refine wpAny_bind (wpAny_specialOf hT PySem.F.slot_list_iter.lookup ?_)
  refine wpAny_pure ?_
  simp only [Bool.false_eq_true, if_false]
  refine wpAny_bind (wpAny_holding (iter_start (.lst V) I r fun h' it eit keep al T => ?_))
  have hN : ∀ a ∈ [it], s.heap.get? a = Option.none := fun a h => by rw [List.mem_singleton.mp h, eit]; exact get_size _
  have hAl : ∀ a ∈ [it], ∃ o, h'.get? a = some o := fun a h => by rw [List.mem_singleton.mp h]; exact al
  have I₂ : Inv c.G (hs s h' s.toks) φ (it :: P) σ := I.keepAllP (N := [it]) keep hN hAl
  have hlen : (assignEach ts c.env).length = ps.length := by rw [he, List.length_map, hl]
  rw [hlen]
  refine wpAny_bind (wpAny_holding (draw_run (c := c) (.lst V) (by simp) ps.length 0 I₂ T (by lia) fun ws s₃ I₃ g₃ rs₃ T₃ => ?_))
  rw [List.drop_zero, List.take_length] at rs₃
  rw [if_neg (by rw [rs₃.length]; lia)]
  have hP : ∀ a ∈ P, a ∈ it :: P ∧ a ≠ it := fun a ha => ⟨List.mem_cons_of_mem _ ha, by
    rintro rfl
    obtain ⟨o, e⟩ := I.plow a ha
    rw [hN a (by simp)] at e; cases e⟩
  refine wpAny_bind (wpAny_holding (next_end hA.1 (.lst V) I₃ T₃ (by rw [List.getElem?_eq_none_iff]; lia) fun h'' ext => ?_))
  simp only [Option.isSome_none, Bool.false_eq_true, if_false]
  refine wpAny_pure ?_
  have I₄ : Inv c.G (hs s₃ h'' s₃.toks) φ P σ := I₃.drop (by simp) ext hP
  have gF : Gr s φ own (hs s h' s.toks) φ := Gr.keepAll keep
  have g3 : Gr s φ own s₃ φ := gF.made (N := [it]) (g₃ _ (by simp)) hN
  have g4 : Gr s φ own (hs s₃ h'' s₃.toks) φ := g3.drop (hN it (by simp)) ext
  have g4' : Gr s φ [] (hs s₃ h'' s₃.toks) φ := ((Gr.keepAll (t := s.toks) keep).made (N := [it]) (g₃ _ (by simp)) hN).drop (hN it (by simp)) ext
  have rs₄ : VRels c.G h'' φ P ps ws := rs₃.ext (Ext.drop (by simp) ext hP)
  have F₄ : FrameAt c.G c.env P h'' φ ρ := F.gr (s' := hs s₃ h'' s₃.toks) I g4'
  rw [he, List.map_map]
  exact als_run hown ts (s := hs s₃ h'' s₃.toks) h I₄ F₄ rs₄ A hA R E fun x s' φ' g q => hR x s' φ' (g4.trans g) q
end Mine
namespace Mine

/-! ### a list has no keys -/
section
theorem lk_list_keys : typeLookup (.type "list") "keys" = pure none := by rw [typeLookup_type, builtinLookup_eq_fast]; kernel_rfl
theorem lk_list_getattr : typeLookup (.type "list") "__getattr__" = pure none := by rw [typeLookup_type, builtinLookup_eq_fast]; kernel_rfl
variable {prog : Program} {w : World} {A : Around} {E : Value → Shared → Prop} {h : Heap} {g : Array GenState} {d : Drawn} {t : Nat} {os : OsState} {a : Addr} {vs : List Value} {n : Nat}
theorem keys_entry {tk : Tok} {Q : Fin → Shared → Prop} (hh : A.handled = none) (hx : h.get? a = some (lstObj vs n))
  (hq : ∀ h' tk' e, (∀ b o, h.get? b = some o → h'.get? b = some o) → (∃ o, h'.get? e = some o ∧ o.cls = .type "AttributeError") → E (.ref e) ⟨h', g, d, tk', os⟩) :
    wpAny (model prog w) A (Builtin.«object.__getattribute__» ⟨[.ref a, .str "keys" tk], []⟩) Q E ⟨h, g, d, t, os⟩ := by
  have hT : (⟨h, g, d, t, os⟩ : Shared).TypeIs (.ref a) "list" := ⟨_, hx, rfl⟩
  have f4 := lk_list_keys
  repeat (any_goals (first | assumption | wp_step))
  have hz : (Str.ofString (toString "'" ++ toString ((Manifest.find? "list").elim "list" fun x => x.tpName) ++ toString "' object has no attribute '") ++ Str.ofString "keys" ++ Str.ofString "'").length ≤ sizeLine := by decide +kernel
  generalize (Str.ofString _ ++ Str.ofString "keys" ++ Str.ofString "'") = msg at *
  unfold raiseAttrError
  refine wpAny_bind (wpAny_mkStr ?_ hz)
  refine wpAny_bind ?_
  unfold newExc newTuple
  refine wpAny_bind (wpAny_newObj_type ?_ (by show (1 : Nat) ≤ sizeLine; decide))
  refine wpAny_bind (m := firstArgMember _ _) (wpAny_of_eq (a := Value.none) (by rfl) ?_)
  refine wpAny_newObj_type ?_ (by size_fits)
  dsimp only
  generalize hh1 : h.push _ = h1
  have k1 : ∀ b o, h.get? b = some o → h1.get? b = some o := hh1 ▸ keep_push h _
  generalize hob : ({ cls := Value.type "AttributeError", data := _ } : Obj) = ob
  generalize hh2 : h1.push ob = h2
  have k2 : ∀ b o, h.get? b = some o → h2.get? b = some o := fun b o e => hh2 ▸ keep_push h1 _ b o (k1 b o e)
  have e2 : h2.get? h1.objs.size = some ob := hh2 ▸ Heap.get?_push_size h1 (by rw [← hob]; rfl)
  have n2 : h.get? h1.objs.size = none := by
    cases q : h.get? h1.objs.size with
    | none => rfl
    | some o => have := k1 _ _ q; rw [get_size] at this; cases this
  clear hh1
  subst hob
  refine wpAny_bind (wpAny_mkText ?_)
  have hT2 : ∀ tk, (⟨h2, g, d, tk, os⟩ : Shared).TypeIs (.ref h1.objs.size) "AttributeError" := fun _ => ⟨_, e2, rfl⟩
  have hsub : isSubtype (.type "AttributeError") (.type "AttributeError") = pure true := by rw [isSubtype_type]; kernel_rfl
  unfold noteAttr
  refine wpAny_bind (wpAny_bind ?_)
  unfold lacksNameAndObj
  refine wpAny_bind (wpAny_isInstance (hT2 _) hsub ?_)
  rw [if_neg (by decide)]
  refine wpAny_bind (wpAny_load e2 ?_)
  rw [show ownMembersOf (Value.type "AttributeError") [Value.str msg t] = #[unsetMember, unsetMember] from rfl]
  show wpAny _ _ (if (false || false) = true then _ else _) _ _ _
  rw [if_neg (show ¬ ((false || false) = true) by decide)]
  show wpAny _ _ (if (some unsetMember == some doubtfulMember || some unsetMember == some doubtfulMember) = true then _ else _) _ _ _
  rw [if_neg (show ¬ ((some unsetMember == some doubtfulMember || some unsetMember == some doubtfulMember) = true) by decide)]
  refine wpAny_pure ?_
  rw [if_pos (by rfl)]
  refine wpAny_bind (wpAny_rule (wpAny_bind (wpAny_typeOf (hT2 _) ?_)))
  dsimp only
  unfold layMembers
  refine wpAny_bind (wpAny_load e2 ?_)
  dsimp only
  refine wpAny_update e2 ?_
  refine wpAny_raiseNew_none hh ?_
  refine hq _ _ _ (fun b o e => (Heap.get?_update_other _ _ (by rintro rfl; rw [n2] at e; cases e)).trans (k2 b o e)) ⟨_, Heap.get?_update_self _ e2 rfl, rfl⟩

theorem keys_call {tk : Tok} {R : Result → Shared → Prop} (hh : A.handled = none) (hx : h.get? a = some (lstObj vs n))
  (hq : ∀ h' tk' e, (∀ b o, h.get? b = some o → h'.get? b = some o) → (∃ o, h'.get? e = some o ∧ o.cls = .type "AttributeError") → R (.error (.ref e)) ⟨h', g, d, tk', os⟩) :
    codeAny (model prog w) A (.call (.builtin "list.__getattribute__") ⟨[.ref a, .str "keys" tk], []⟩) R ⟨h, g, d, t, os⟩ :=
  codeAny_call_builtin F.slot_list_getattribute.plain F.entry_list_ga (F.slot_list_getattribute.check _ _ _ _ _ _ _ _ (show (⟨h, g, d, t, os⟩ : Shared).TypeIs (.ref a) "list" from ⟨_, hx, rfl⟩) (F.args_list_getattribute_2 _ _) (keys_entry hh hx hq))
theorem keys_by {tk : Tok} {Q : Value → Shared → Prop} (hh : A.handled = none) (hx : h.get? a = some (lstObj vs n))
  (hq : ∀ h' tk' e, (∀ b o, h.get? b = some o → h'.get? b = some o) → (∃ o, h'.get? e = some o ∧ o.cls = .type "AttributeError") → E (.ref e) ⟨h', g, d, tk', os⟩) : wpAny (model prog w) A (getAttrBy (.ref a) (.str "keys" tk) false) Q E ⟨h, g, d, t, os⟩ := by
  have hT : (⟨h, g, d, t, os⟩ : Shared).TypeIs (.ref a) "list" := ⟨_, hx, rfl⟩
  have f2 := F.slot_list_getattribute.lookup
  have f3 := F.slot_list_getattribute.bind (.ref a)
  have f5 := lk_list_getattr
  repeat (any_goals (first | assumption | wp_step))
  refine keys_call hh hx fun h' tk' e kp he => ?_
  obtain ⟨oe, e1, e2⟩ := he
  have hTe : ∀ tk, (⟨h', g, d, tk, os⟩ : Shared).TypeIs (.ref e) "AttributeError" := fun _ => ⟨_, e1, e2⟩
  have hsub : isSubtype (.type "AttributeError") (.type "AttributeError") = pure true := by rw [isSubtype_type]; kernel_rfl
  show wpAny _ _ (getattributeRaised _ _ _ _ _ _ _) _ _ _
  unfold getattributeRaised
  refine wpAny_bind (wpAny_isInstance (hTe _) hsub ?_)
  rw [if_pos rfl]
  unfold hookBehind
  rw [if_neg (by decide), f5]
  refine wpAny_bind (wpAny_pure ?_)
  unfold hookOrError attributeErrorLeaves
  rw [if_pos (by decide)]
  exact wpAny_bind (wpAny_throw (hq _ _ _ kp ⟨oe, e1, e2⟩))
theorem keys_none {Q : Option Value → Shared → Prop} (hh : A.handled = none) (hx : h.get? a = some (lstObj vs n))
  (hq : ∀ h' tk', (∀ b o, h.get? b = some o → h'.get? b = some o) → Q none ⟨h', g, d, tk', os⟩) : wpAny (model prog w) A (getAttr? (.ref a) "keys") Q E ⟨h, g, d, t, os⟩ := by
  unfold getAttr? getAttrBy?
  refine wpAny_bind (wpAny_mkText (wpAny_bind (wpAny_attempt (keys_by hh hx fun h' tk' e kp he => ?_))))
  obtain ⟨oe, e1, e2⟩ := he
  have hTe : ∀ tk, (⟨h', g, d, tk, os⟩ : Shared).TypeIs (.ref e) "AttributeError" := fun _ => ⟨_, e1, e2⟩
  have hsub : isSubtype (.type "AttributeError") (.type "AttributeError") = pure true := by rw [isSubtype_type]; kernel_rfl
  dsimp only
  refine wpAny_bind (wpAny_isInstance (hTe _) hsub ?_)
  rw [if_pos rfl]
  exact wpAny_pure (hq _ _ kp)
end

/-! ### dict(list of pairs) -/
theorem entry_upd : entryFor table "dict.update.loop" = some Builtin.«dict.update.loop» := entryFor_of_tree (by kernel_rfl)
theorem plain_upd : plainId "dict.update.loop" = true := by decide +kernel
variable {G : Gd} {s : Shared} {φ : Phi} {P : List Addr} {σ : Sto} {c : Cx} {ρ : Rho}

theorem upd_loop {A : Around} {pv : PV} {l : List PV} {it D : Addr} {DS : Nat → Shared → Prop} {R : Result → Shared → Prop} {s₀ : Shared} (hh : A.handled = none) (S : Src σ pv l) (hit : it ∈ P) (hD : D ∈ P) (hne : D ≠ it) (hp : ∀ (i : Nat) (p : PV), l[i]? = some p → ∃ a b, p = .tup [a, b])
    (stable : ∀ i s s', DS i s → Gr s φ [it] s' φ → DS i s')
    (step : ∀ (i : Nat) a b s va vb (Q : Unit → Shared → Prop) (E : Value → Shared → Prop), l[i]? = some (.tup [a, b]) → i < l.length → Inv G s φ P σ → VRel G s.heap φ P a va → VRel G s.heap φ P b vb → DS i s →
      (∀ h' tk, Heap.SameBut D s.heap h' → (∃ o, h'.get? D = some o) → DS (i + 1) (hs s h' tk) → Q () (hs s h' tk)) → wpAny G.M A.in1 (dictSet D va vb) Q E s) :
    ∀ (k i : Nat) (s : Shared), l.length - i = k → i ≤ l.length → Inv G s φ P σ → ItAt G s.heap φ P pv it i → DS i s → Gr s₀ φ [it, D] s φ →
      (∀ s' h', Inv G s' φ P σ → DS l.length s' → Gr s₀ φ [it, D] s' φ → Heap.ExtBut it s'.heap h' → R (.ok (.ret .none)) (hs s' h' s'.toks)) →
      codeAny G.M A (.builtin "dict.update.loop" ⟨[.ref D, .ref it, rawInt i, .none], []⟩) R s := by
  intro k
  induction k with
  | zero =>
    intro i s hk hi I T d g hR
    have : i = l.length := by lia
    subst this
    refine codeAny_builtin entry_upd ?_
    rw [Around.under_plainId plain_upd _]
    show wpAny _ A.in1 (pyNext (.ref it) >>= _) _ _ s
    refine wpAny_bind (next_end hh S I T (by rw [List.getElem?_eq_none_iff]; lia) fun h' ext => ?_)
    show wpAny _ A.in1 (Builtin.Dict.addKeywords D [] >>= fun _ => ret Value.none) _ _ _
    exact wpAny_bind (wpAny_pure (wpAny_pure (hR s h' I d g ext)))
  | succ k ih =>
    intro i s hk hi I T d g hR
    have hlt : i < l.length := by lia
    refine codeAny_builtin entry_upd ?_
    rw [Around.under_plainId plain_upd _]
    show wpAny _ A.in1 (pyNext (.ref it) >>= _) _ _ s
    obtain ⟨a, b, hab⟩ := hp i _ (List.getElem?_eq_getElem hlt)
    have hl := List.getElem?_eq_getElem hlt
    rw [hab] at hl
    refine wpAny_bind (next_item S I T hit hl fun s₁ v I₁ g₁ r₁ T₁ => ?_)
    have d₁ := stable i s s₁ d (g₁ [it] (by simp))
    refine r₁.tupE fun x vs m vq e f rs => ?_
    subst vq
    refine rs.twoE fun va vb q ra rb => ?_
    subst q
    have hT : s₁.TypeIs (.ref x) "tuple" := ⟨_, e, rfl⟩
    show wpAny _ A.in1 (holding [Value.ref x] _ >>= _) _ _ s₁
    refine wpAny_bind (wpAny_holding ?_)
    refine wpAny_bind (wpAny_tryCatch ?_)
    unfold Builtin.Dict.pairItems
    refine wpAny_bind (wpAny_typeOf hT ?_)
    rw [if_pos (by decide)]
    refine wpAny_bind (wpAny_seqItems e rfl (wpAny_pure ?_))
    show wpAny _ A.in1 (holding [va, vb] (dictSet D va vb)) _ _ s₁
    refine wpAny_holding (step i a b s₁ va vb _ _ hl hlt I₁ ra rb d₁ fun h' tk hsb al d₂ => ?_)
    refine wpAny_pure ⟨plainId_quiet plain_upd _, ?_⟩
    have e1 : rawInt ((i : Int) + 1) = rawInt ((i + 1 : Nat) : Int) := by push_cast; rfl
    show codeAny _ A (.builtin "dict.update.loop" ⟨[.ref D, .ref it, rawInt ((i : Int) + 1), .none], []⟩) R _
    rw [e1]
    have gD : Gr s₁ φ [it, D] (hs s₁ h' tk) φ := Gr.other hsb (.inl (by simp)) al
    refine ih (i + 1) (hs s₁ h' tk) (by lia) hlt (I₁.other hsb hD al) (T₁.ext ⟨fun a o e f => ⟨(hsb.2 a fun q => f.2 (q ▸ hD)).trans e, f⟩, fun _ _ e => e⟩ fun o e => (hsb.2 it (Ne.symm hne)).trans e) d₂ ((g.trans (g₁ [it, D] (by simp))).trans gD) hR
structure DSpec (G : Gd) (l : List PV) (r : PV) (DS : Phi → List Addr → Addr → Nat → Shared → Prop) : Prop where
  pairs : ∀ (i : Nat) (p : PV), l[i]? = some p → ∃ a b, p = .tup [a, b]
  new : ∀ φ P (s : Shared), DS φ P s.heap.objs.size 0 { s with heap := s.heap.push { cls := .type "dict", data := .dict #[] } }
  stable : ∀ φ P D i s s' F, DS φ P D i s → Gr s φ F s' φ → D ∉ F → D ∉ adr φ → (∀ a ∈ F, a ∈ P) → DS φ P D i s'
  step : ∀ φ P D σ (i : Nat) a b s va vb (Q : Unit → Shared → Prop) (E : Value → Shared → Prop) (A : Around), A.units + 20 < cLine → D ∈ P → l[i]? = some (.tup [a, b]) → i < l.length → Inv G s φ P σ → VRel G s.heap φ P a va → VRel G s.heap φ P b vb → DS φ P D i s →
      (∀ h' tk, Heap.SameBut D s.heap h' → (∃ o, h'.get? D = some o) → DS φ P D (i + 1) (hs s h' tk) → Q () (hs s h' tk)) → wpAny G.M A (dictSet D va vb) Q E s
  fin : ∀ φ P P' D s σ, DS φ P' D l.length s → Inv G s φ P' σ → D ∈ P' → (∀ a ∈ P, a ∈ P') → D ∉ P → VRel G s.heap φ P r (.ref D)

theorem cwp_dict_of {pv r : PV} {l : List PV} {DS : Phi → List Addr → Addr → Nat → Shared → Prop} {Q : Post} (V : LstV σ pv l) (S : DSpec c.G l r DS) (q : Q r σ) : CWP c (.cst (.type "dict")) [pv] σ Q := cwp1 fun P s φ v I r₀ => by
  intro A hA R E hR
  refine V.open I r₀ fun a vs m vq e rs => ?_
  subst vq
  refine callType_codes (Q₁ := fun obj s₁ => obj = .ref s.heap.objs.size ∧ s₁ = { s with heap := s.heap.push { cls := .type "dict", data := .dict #[] } }) PySem.F.kt_called_dict (PySem.F.kt_typeCall_dict_1 _) PySem.F.entry_dict_init (kt_code_dict_new _ ⟨rfl, rfl⟩) ?_
  rintro obj s₁ ⟨rfl, rfl⟩
  have kp := keep_push s.heap { cls := .type "dict", data := .dict #[] }
  have hTD : (hs s (s.heap.push { cls := .type "dict", data := .dict #[] }) s.toks).TypeIs (.ref s.heap.objs.size) "dict" := ⟨_, Heap.get?_push_size s.heap (o := { cls := .type "dict", data := .dict #[] }) rfl, rfl⟩
  refine ⟨hTD, PySem.F.args_dict_init_2 _ _, ?_⟩
  generalize hD : s.heap.objs.size = D at hTD ⊢
  have nD : s.heap.get? D = Option.none := hD ▸ get_size _
  have eD : (s.heap.push { cls := .type "dict", data := .dict #[] }).get? D = some { cls := .type "dict", data := .dict #[] } := hD ▸ Heap.get?_push_size s.heap (o := { cls := .type "dict", data := .dict #[] }) rfl
  have I₁ : Inv c.G (hs s (s.heap.push { cls := .type "dict", data := .dict #[] }) s.toks) φ (D :: P) σ := I.keepAllP (N := [D]) kp (fun a h => by rw [List.mem_singleton.mp h]; exact nD) fun a h => by rw [List.mem_singleton.mp h]; exact ⟨_, eD⟩
  have d₁ : ∀ P', DS φ P' D 0 (hs s (s.heap.push { cls := .type "dict", data := .dict #[] }) s.toks) := fun P' => hD ▸ S.new φ P' s
  have r₁ : VRel c.G (s.heap.push { cls := .type "dict", data := .dict #[] }) φ (D :: P) pv (.ref a) := r₀.ext (Ext.of_keepP (N := [D]) kp fun a h => by rw [List.mem_singleton.mp h]; exact nD)
  have ea := kp _ _ e
  have g₁ : Gr s φ [] (hs s (s.heap.push { cls := .type "dict", data := .dict #[] }) s.toks) φ := Gr.keepAll kp
  change wpAny _ _ _ _ _ (hs s (s.heap.push { cls := .type "dict", data := .dict #[] }) s.toks)
  generalize hs₁ : hs s (s.heap.push { cls := .type "dict", data := .dict #[] }) s.toks = s₁ at *
  have ea' : s₁.heap.get? a = some (lstObj vs m) := by rw [← hs₁]; exact ea
  have r₁' : VRel c.G s₁.heap φ (D :: P) pv (.ref a) := by rw [← hs₁]; exact r₁
  have aD : ∃ o, s₁.heap.get? D = some o := by rw [← hs₁]; exact ⟨_, eD⟩
  clear hs₁ ea r₁ eD kp
  unfold Builtin.«dict.__init__»
  refine wpAny_bind ?_
  unfold Builtin.Dict.selfAndRest
  refine wpAny_bind (wpAny_notOrdered_dict hTD ?_)
  show wpAny _ _ (pure (D, [Value.ref a])) _ _ _
  refine wpAny_pure ?_
  show wpAny _ _ (Builtin.Dict.updateFrom "dict.__init__" D (.ref a) [] .none) _ _ _
  unfold Builtin.Dict.updateFrom
  have hTa : s₁.TypeIs (.ref a) "list" := ⟨_, ea', rfl⟩
  refine wpAny_bind (wpAny_typeOf hTa ?_)
  rw [if_pos (by decide)]
  refine wpAny_bind (keys_none hA.1 ea' fun h₂ tk₂ k₂ => ?_)
  have I₂ : Inv c.G (hs s₁ h₂ tk₂) φ (D :: P) σ := I₁.keepAll k₂
  have r₂ : VRel c.G h₂ φ (D :: P) pv (.ref a) := r₁'.ext (Ext.of_keepP (N := []) k₂ fun _ z => nomatch z)
  have hPn : ∀ a ∈ D :: P, (∃ o, h₂.get? a = some o) := fun a ha => I₂.plow a ha
  rw [if_pos (by rfl)]
  refine wpAny_bind (wpAny_rule (wpAny_bind ?_))
  refine iter_start (s := hs s₁ h₂ tk₂) (.lst V) I₂ r₂ fun h₃ it eit k₃ al₃ T => ?_
  have nit : h₂.get? it = Option.none := by rw [eit]; exact get_size _
  have I₃ : Inv c.G (hs (hs s₁ h₂ tk₂) h₃ tk₂) φ (it :: D :: P) σ := I₂.keepAllP (N := [it]) k₃ (fun a h => by rw [List.mem_singleton.mp h]; exact nit) fun a h => by rw [List.mem_singleton.mp h]; exact al₃
  have hne : D ≠ it := by rintro rfl; obtain ⟨o, e⟩ := hPn D (by simp); rw [nit] at e; cases e
  have hDP : D ∉ P := fun ha => by obtain ⟨o, e⟩ := I.plow _ ha; rw [nD] at e; cases e
  have hitP : ∀ b ∈ P, b ≠ it := fun b ha => by rintro rfl; obtain ⟨o, e⟩ := hPn b (by simp [ha]); rw [nit] at e; cases e
  have hDa : D ∉ adr φ := fun q => I₃.disj D q (by simp)
  have d₃ : DS φ (it :: D :: P) D 0 (hs (hs s₁ h₂ tk₂) h₃ tk₂) := S.stable _ _ _ _ _ _ [] (d₁ _) ((Gr.keepAll (t := tk₂) k₂).trans (Gr.keepAll (s := hs s₁ h₂ tk₂) k₃)) (by simp) hDa (by simp)
  have g₃ : Gr s φ [it, D] (hs (hs s₁ h₂ tk₂) h₃ tk₂) φ := ((g₁.weaken fun _ z => nomatch z).trans (Gr.keepAll k₂)).trans (Gr.keepAll (s := hs s₁ h₂ tk₂) k₃)
  have hroom : A.in1.in1.units + 20 < cLine := by have := hA.2.2; show A.units + 1 + 1 + 20 < 9900; lia
  refine wpAny_pure ⟨plainId_quiet plain_upd _, ?_⟩
  refine upd_loop (G := c.G) (A := A.in1) hA.1 (.lst V) (by simp) (by simp) hne S.pairs (DS := fun i s => DS φ (it :: D :: P) D i s) (fun i s s' d g => S.stable _ _ _ _ _ _ [it] d g (by simpa using hne) hDa (by simp))
    (fun i a b s va vb Q E hl hlt I ra rb d hq => S.step φ _ D σ i a b s va vb Q E _ hroom (by simp) hl hlt I ra rb d hq) l.length 0 _ (by lia) (Nat.zero_le _) I₃ T d₃ g₃ fun s₄ h₄ I₄ d₄ g₄ ext => ⟨rfl, ?_⟩
  have hP : ∀ b ∈ P, b ∈ it :: D :: P ∧ b ≠ it := fun b hb => ⟨by simp [hb], hitP b hb⟩
  have hPD : ∀ b ∈ D :: P, b ∈ it :: D :: P ∧ b ≠ it := fun b hb => by
    rcases List.mem_cons.mp hb with rfl | hb
    · exact ⟨by simp, hne⟩
    · exact hP b hb
  have n0 : s.heap.get? it = Option.none := by
    cases q : s.heap.get? it with
    | none => rfl
    | some o => obtain ⟨o', e'⟩ := g₁.alive it o q; have := k₂ _ _ e'; rw [nit] at this; cases this
  have I₅ : Inv c.G (hs s₄ h₄ s₄.toks) φ P σ := I₄.drop (by simp) ext hP
  have g₄' : Gr s φ [] s₄ φ := (Gr.refl s φ []).made (N := [it, D]) g₄ fun a h => by
    rcases List.mem_cons.mp h with rfl | h
    · exact n0
    · rw [List.mem_singleton.mp h]; exact nD
  have rf : VRel c.G s₄.heap φ (it :: P) r (.ref D) := S.fin φ (it :: P) _ D s₄ σ d₄ I₄ (by simp) (fun b hb => by
    rcases List.mem_cons.mp hb with rfl | hb
    · simp
    · simp [hb]) fun q => by
      rcases List.mem_cons.mp q with q | q
      · exact hne q
      · exact hDP q
  refine hR _ (hs s₄ h₄ s₄.toks) φ (g₄'.drop n0 ext) ⟨r, σ, I₅, ?_, q⟩
  exact rf.ext (Ext.drop (by simp) ext fun b hb => ⟨by simp [hb], hitP b hb⟩)
noncomputable def foldS (kvs : List (Str × PV)) : List (Str × PV) := kvs.foldl (fun d kv => rset kv.1 kv.2 d) []
noncomputable def pairS (kv : Str × PV) : PV := .tup [.str kv.1, kv.2]
theorem rset_length (x : Str) (v : PV) (d : List (Str × PV)) : (rset x v d).length ≤ d.length + 1 := by
  induction d with
  | nil => exact Nat.le_refl _
  | cons f r ih =>
    obtain ⟨k, w⟩ := f
    by_cases hk : k = x
    · subst hk; rw [rset_eq]; exact Nat.le_succ _
    · rw [rset_no hk]; exact Nat.succ_le_succ ih
theorem fold_length {α β : Type} {f : List α → β → List α} (hf : ∀ d x, (f d x).length ≤ d.length + 1) (kvs : List β) : ∀ d : List α, (kvs.foldl f d).length ≤ d.length + kvs.length := by
  induction kvs with
  | nil => exact fun d => Nat.le_refl _
  | cons x r ih =>
    intro d
    rw [List.length_cons, ← Nat.add_assoc, Nat.add_right_comm]
    exact Nat.le_trans (ih _) (Nat.add_le_add_right (hf d x) _)
theorem foldl_length (kvs d : List (Str × PV)) : (kvs.foldl (fun d kv => rset kv.1 kv.2 d) d).length ≤ d.length + kvs.length := fold_length (fun d kv => rset_length kv.1 kv.2 d) kvs d
theorem foldS_succ {kvs : List (Str × PV)} {i : Nat} {kv : Str × PV} (h : kvs[i]? = some kv) : foldS (kvs.take (i + 1)) = rset kv.1 kv.2 (foldS (kvs.take i)) := by
  have hi := (List.getElem?_eq_some_iff.mp h).1
  have e : kvs.take (i + 1) = kvs.take i ++ [kv] := by
    rw [List.take_add_one, h]; rfl
  unfold foldS
  rw [e, List.foldl_append]; rfl
theorem Inv.notSys (ok : G.Ok) (I : Inv G s φ P σ) {D : Addr} (h : D ∈ adr φ ∨ D ∈ P) : (D == sysModules) = false := by
  obtain ⟨o, ho⟩ := ok.sysm
  rw [beq_eq_false_iff_ne]; rintro rfl
  rw [I.apart _ h] at ho; cases ho
theorem dspecS (ok : G.Ok) (kvs : List (Str × PV)) (hz : kvs.length ≤ sizeLine) : DSpec G (kvs.map pairS) (.sd (foldS kvs)) (fun φ P D i s => ∃ ks, s.heap.DictOf (strKind G.prog G.w) D ks ∧ VSP G s.heap φ P (foldS (kvs.take i)) ks) where
  pairs := fun i p h => by
    rw [List.getElem?_map] at h
    cases e : kvs[i]? with
    | none => rw [e] at h; cases h
    | some kv => rw [e] at h; cases h; exact ⟨_, _, rfl⟩
  new := fun φ P s => ⟨[], Heap.DictOf.new s.heap, by rw [List.take_zero]; exact .nil⟩
  stable := fun φ P D i s s' F pp g hF hA hP => by
    obtain ⟨ks, d, r⟩ := pp
    exact ⟨ks, dictOf_keep d fun o e => g.keep D o e hA hF, r.ext (g.ext hP)⟩
  step := fun φ P D σ i a b s va vb Q E A hu hD hl hlt I ra rb pp hq => by
    obtain ⟨ks, d, r⟩ := pp
    rw [List.getElem?_map] at hl
    cases e : kvs[i]? with
    | none => rw [e] at hl; cases hl
    | some kv =>
      rw [e] at hl
      cases hl
      refine ra.strE fun t vq => ?_
      subst vq
      have hln : ks.length ≤ sizeLine := by
        rw [r.length]
        have := foldl_length (kvs.take i) []
        have h2 : (kvs.take i).length ≤ kvs.length := by rw [List.length_take]; lia
        have h3 : (foldS (kvs.take i)).length ≤ 0 + (kvs.take i).length := this
        lia
      refine wpAny_dictSet_pairs (strKind_is _ _ kv.1 t) d (fun h' hd hs' => ?_) hln
      rw [stored_rsetV _ _ _ (dictOf_nodup d)] at hd
      have X : Ext s.heap φ P h' φ P := ⟨fun a o e f => ⟨(hs'.2 a fun q => f.2 (q ▸ hD)).trans e, f⟩, fun _ _ e => e⟩
      refine hq h' (s.toks + 1) hs' ((dictOf_some hd).imp fun _ q => q.1) ⟨_, hd, ?_⟩
      rw [foldS_succ e]
      exact (r.ext X).putV (rb.ext X)
  fin := fun φ P P' D s σ pp I hD hP hDP => by
    obtain ⟨ks, d, r⟩ := pp
    rw [List.length_map, List.take_length] at r
    exact .sd d ⟨fun q => I.disj D q hD, hDP⟩ (I.notSys ok (.inr hD)) (r.ext (Ext.shrink hP))
theorem cwp_dict_strs {pv : PV} {kvs : List (Str × PV)} {Q : Post} (ok : c.G.Ok) (V : LstV σ pv (kvs.map pairS)) (hz : kvs.length ≤ sizeLine) (q : Q (.sd (foldS kvs)) σ) : CWP c (.cst (.type "dict")) [pv] σ Q :=
  cwp_dict_of V (dspecS ok kvs hz) q

/-! keys that are tuples of tupI -/
noncomputable def rsetT (k : List Int) (v : PV) (d : List (List Int × PV)) : List (List Int × PV) :=
  if (d.find? fun x => decide (x.1 = k)).isSome then d.map fun x => if x.1 = k then (x.1, v) else x else d ++ [(k, v)]
noncomputable def foldT (kvs : List (List Int × PV)) : List (List Int × PV) := kvs.foldl (fun d kv => rsetT kv.1 kv.2 d) []
noncomputable def tupI (k : List Int) : PV := .tup (k.map .int)
noncomputable def pairT (kv : List Int × PV) : PV := .tup [tupI kv.1, kv.2]
theorem atKey_eq {k : List Int} {a : Addr} {v : Value} {xs : List (List Int × Addr × Value)} : (atKey ((k, a, v) :: xs) k).isSome = true := by
  unfold atKey; rw [List.find?_cons_of_pos (by exact decide_eq_true rfl)]; rfl
theorem atKey_ne {k k' : List Int} {a : Addr} {v : Value} {xs : List (List Int × Addr × Value)} (h : k' ≠ k) : atKey ((k', a, v) :: xs) k = atKey xs k := by
  unfold atKey; rw [List.find?_cons_of_neg (by exact fun z => h (of_decide_eq_true z))]
theorem VTP.look {h : Heap} (k : List Int) {d : List (List Int × PV)} : ∀ {xs : List (List Int × Addr × Value)}, VTP G h φ P d xs → xs.length = d.length ∧ (atKey xs k).isSome = (d.find? fun x => decide (x.1 = k)).isSome ∧
    (∀ p v, VRel G h φ P p v → VTP G h φ P (d.map fun x => if x.1 = k then (x.1, p) else x) (xs.map (putAt k v))) ∧ ∀ p x v, VRel G h φ P p v → VTP G h φ P (d ++ [(k, p)]) (xs ++ [(k, x, v)]) := by
  induction d with
  | nil => exact fun r => r.nilE fun q => by subst q; exact ⟨rfl, rfl, fun p v _ => .nil, fun p x v a => .cons a .nil⟩
  | cons f d ih =>
    obtain ⟨k', w⟩ := f
    refine fun r => r.consE fun y v' xs q b rs => ?_
    subst q
    have i := ih rs
    refine ⟨congrArg (· + 1) i.1, ?_, fun p v a => ?_, fun p x v a => .cons b (i.2.2.2 p x v a)⟩
    · by_cases hk : k' = k
      · subst hk; rw [atKey_eq, List.find?_cons_of_pos (by exact decide_eq_true rfl)]; rfl
      · rw [atKey_ne hk, List.find?_cons_of_neg (by exact fun z => hk (of_decide_eq_true z))]; exact i.2.1
    · rw [List.map_cons, List.map_cons]
      unfold putAt
      by_cases hk : k' = k
      · rw [if_pos hk, if_pos hk]; exact .cons a (i.2.2.1 p v a)
      · rw [if_neg hk, if_neg hk]; exact .cons b (i.2.2.1 p v a)
theorem VTP.isSome {h : Heap} (k : List Int) {d : List (List Int × PV)} {xs : List (List Int × Addr × Value)} (r : VTP G h φ P d xs) : (atKey xs k).isSome = (d.find? fun x => decide (x.1 = k)).isSome := (r.look k).2.1
theorem VTP.length {h : Heap} {d : List (List Int × PV)} {xs : List (List Int × Addr × Value)} (r : VTP G h φ P d xs) : xs.length = d.length := (r.look []).1
theorem VTP.put {h : Heap} {k : List Int} {p : PV} {x : Addr} {v : Value} (a : VRel G h φ P p v) {d : List (List Int × PV)} {xs : List (List Int × Addr × Value)} (r : VTP G h φ P d xs) : VTP G h φ P (rsetT k p d) (storedH xs k x v) := by
  unfold rsetT storedH
  rw [r.isSome k]
  split
  · exact (r.look k).2.2.1 p v a
  · exact (r.look k).2.2.2 p x v a
theorem storedH_keys {k : List Int} {x : Addr} {v : Value} {xs : List (List Int × Addr × Value)} {p : Addr → Prop} (h : ∀ y ∈ xs, p y.2.1) (hx : p x) : ∀ y ∈ storedH xs k x v, p y.2.1 := by
  unfold storedH
  split
  · intro y hy
    obtain ⟨z, hz, rfl⟩ := List.mem_map.mp hy
    unfold putAt
    split <;> exact h z hz
  · intro y hy
    rcases List.mem_append.mp hy with hy | hy
    · exact h y hy
    · rw [List.mem_singleton.mp hy]; exact hx
theorem rsetT_length (x : List Int) (v : PV) (d : List (List Int × PV)) : (rsetT x v d).length ≤ d.length + 1 := by
  unfold rsetT; split <;> simp
theorem foldlT_length (kvs d : List (List Int × PV)) : (kvs.foldl (fun d kv => rsetT kv.1 kv.2 d) d).length ≤ d.length + kvs.length := fold_length (fun d kv => rsetT_length kv.1 kv.2 d) kvs d
theorem foldT_succ {kvs : List (List Int × PV)} {i : Nat} {kv : List Int × PV} (h : kvs[i]? = some kv) : foldT (kvs.take (i + 1)) = rsetT kv.1 kv.2 (foldT (kvs.take i)) := by
  have e : kvs.take (i + 1) = kvs.take i ++ [kv] := by
    rw [List.take_add_one, h]; rfl
  unfold foldT
  rw [e, List.foldl_append]; rfl
theorem itemsAre {h : Heap} {k : List Int} : ∀ {vs : List Value}, VRels G h φ P (k.map PV.int) vs → ItemsAre (intKind G.prog G.w) k vs := by
  induction k with
  | nil => exact fun r => r.nilE fun q => q ▸ .nil
  | cons x xs ih => exact fun r => r.consE fun v vs q a t => a.intE fun _ q2 => q ▸ q2 ▸ .cons (intKind_is _ _ _ _) (ih t)
theorem isKey {h : Heap} {k : List Int} {v : Value} (r : VRel G h φ P (tupI k) v) : ∃ a, v = .ref a ∧ (tkind G).is h k a ∧ Frz φ P a := by
  exact VRel.tupE r fun a vs n q e f r => ⟨_, q, ⟨_, _, _, e, rfl, rfl, itemsAre r⟩, f⟩
theorem dspecT (ok : G.Ok) (kvs : List (List Int × PV)) (hz : kvs.length ≤ sizeLine) : DSpec G (kvs.map pairT) (.td (foldT kvs)) (fun φ P D i s => ∃ xs, s.heap.DictOfH (tkind G) D xs ∧ (∀ x ∈ xs, Frz φ P x.2.1 ∧ x.2.1 ≠ D) ∧ VTP G s.heap φ P (foldT (kvs.take i)) xs) where
  pairs := fun i p h => by
    rw [List.getElem?_map] at h
    cases e : kvs[i]? with
    | none => rw [e] at h; cases h
    | some kv => rw [e] at h; cases h; exact ⟨_, _, rfl⟩
  new := fun φ P s => ⟨[], Heap.DictOfH.new s.heap, (fun _ h => nomatch h), by rw [List.take_zero]; exact .nil⟩
  stable := fun φ P D i s s' F pp g hF hA hP => by
    obtain ⟨xs, d, f, r⟩ := pp
    exact ⟨xs, dictOfH_keep d (fun o e => g.keep D o e hA hF) (fun y hy o e => ((g.ext hP).keep y.2.1 o e (f y hy).1).1), (fun y hy => ⟨Exists.elim (dictOfH_key d y hy) fun o e => ((g.ext hP).keep y.2.1 o e (f y hy).1).2, (f y hy).2⟩), r.ext (g.ext hP)⟩
  step := fun φ P D σ i a b s va vb Q E A hu hD hl hlt I ra rb pp hq => by
    obtain ⟨xs, d, f, r⟩ := pp
    rw [List.getElem?_map] at hl
    cases e : kvs[i]? with
    | none => rw [e] at hl; cases hl
    | some kv =>
      rw [e] at hl
      cases hl
      obtain ⟨x, rfl, hk, fx⟩ := isKey ra
      have hln : xs.length ≤ sizeLine := by
        rw [r.length]
        have h2 : (kvs.take i).length ≤ kvs.length := by rw [List.length_take]; lia
        have h3 : (foldT (kvs.take i)).length ≤ 0 + (kvs.take i).length := foldlT_length (kvs.take i) []
        lia
      have hroom : (tkind G).room A := by show A.units < cLine; lia
      refine wpAny_dictSet_heap hroom hk d (fun h' hd hs' => ?_) hln
      have X : Ext s.heap φ P h' φ P := ⟨fun a o e f => ⟨(hs'.2 a fun q => f.2 (q ▸ hD)).trans e, f⟩, fun _ _ e => e⟩
      have hxD : x ≠ D := fun q => fx.2 (q ▸ hD)
      refine hq h' _ hs' ((dictOfH_some hd).imp fun _ q => q.1) ⟨_, hd, storedH_keys (p := fun a => Frz φ P a ∧ a ≠ D) f ⟨fx, hxD⟩, ?_⟩
      rw [foldT_succ e]
      exact (r.ext X).put (rb.ext X)
  fin := fun φ P P' D s σ pp I hD hP hDP => by
    obtain ⟨xs, d, f, r⟩ := pp
    rw [List.length_map, List.take_length] at r
    exact .td d ⟨fun q => I.disj D q hD, hDP⟩ (I.notSys ok (.inr hD)) (fun y hy => ⟨(f y hy).1.1, fun q => (f y hy).1.2 (hP _ q)⟩) (r.ext (Ext.shrink hP))
theorem cwp_dict_tups {pv : PV} {kvs : List (List Int × PV)} {Q : Post} (ok : c.G.Ok) (V : LstV σ pv (kvs.map pairT)) (hz : kvs.length ≤ sizeLine) (q : Q (.td (foldT kvs)) σ) : CWP c (.cst (.type "dict")) [pv] σ Q :=
  cwp_dict_of V (dspecT ok kvs hz) q
/-- not in a dict by tuples -/
theorem o2_notin_td {k : List Int} {d : List (List Int × PV)} {Q : Post} (q : Q (.bool (!(d.find? fun x => decide (x.1 = k)).isSome)) σ) : O2 c (fun v w => operate [v, w] (compareOp .NotIn v w)) (tupI k) (.td d) σ Q := o2_of fun P s φ v w I r1 r2 => by
  obtain ⟨a, vq, hk, _⟩ := isKey r1
  subst vq
  refine r2.tdE fun D xs vq e f z g r => ?_
  subst vq
  intro A hA R E hR
  refine wpAny_notIn_heap (by show A.units + 1 < 9900; have := hA.2.2; lia) hk z e ?_
  rw [r.isSome k]
  exact hR _ (hs s s.heap _) φ (Gr.tok _) ⟨_, σ, I.tok _, .bool, q⟩
/-- a copy of a dict by strs -/
theorem cwp_dict_copy {pv : PV} {d : List (Str × PV)} {Q : Post} (ok : c.G.Ok) (V : SdV σ pv d) (hz : d.length ≤ sizeLine) (q : Q (.sd d) σ) : CWP c (.cst (.type "dict")) [pv] σ Q := cwp1 fun P s φ v I r => by
  refine V.open ok I r fun a kvs vq e rs z => ?_
  subst vq
  intro A hA R E hR
  refine kt_call_dict z e (by rw [rs.length]; exact hz) fun h' hd hs' => ?_
  have kp : ∀ b o, s.heap.get? b = some o → h'.get? b = some o := fun b o q => (hs'.2 b (Nat.ne_of_lt (Heap.lt_size q))).trans (keep_push _ _ b o q)
  have I' : Inv c.G (hs s h' s.toks) φ P σ := I.keepAll kp
  have al : ∃ o, h'.get? s.heap.objs.size = some o := (dictOf_some hd).imp fun _ q => q.1
  refine hR _ (hs s h' s.toks) φ (Gr.keepAll kp) ⟨.sd d, σ, I', .sd hd (I.fresh (get_size _)) ?_ (rs.ext (Ext.of_keepP (N := []) kp fun _ z => nomatch z)), q⟩
  rw [beq_eq_false_iff_ne]; intro q
  obtain ⟨o, ho⟩ := ok.sysm
  have := I.base _ _ ho
  rw [← q, get_size] at this; cases this
/-- the empty display -/
theorem ewp_dict0 {pos : Pos} {Q : Post} (q : Q (.ref σ.length) (σ ++ [.sdict []])) : EWP c (.Dict [] [] pos) ρ σ Q := by
  intro P s φ I F A hA R E hR
  refine wpAny_Dict_empty ?_
  have kp := keep_push s.heap { cls := .type "dict", data := .dict #[] }
  have h0 := get_size s.heap
  have I₂ := I.new (t := s.toks) (p := (s.heap.objs.size, s.heap.objs.size)) (o' := .sdict []) kp h0 h0 fun X => ⟨[], Heap.DictOf.new s.heap, .nil, rfl⟩
  refine hR _ (hs s _ s.toks) (φ ++ [(s.heap.objs.size, s.heap.objs.size)]) (Gr.new kp h0 h0) ⟨.ref σ.length, _, I₂, .ref (p := (s.heap.objs.size, s.heap.objs.size)) ?_, q⟩
  rw [← I.len]; simp
end Mine
namespace Mine

/-! ### sequences of ints in order -/
noncomputable def ltL : List Int → List Int → Bool
  | [], [] => false
  | [], _ :: _ => true
  | _ :: _, [] => false
  | x :: xs, y :: ys => if x == y then ltL xs ys else decide (x < y)
section
variable {prog : Program} {w : World} {A : Around} {E : Value → Shared → Prop} {s : Shared}
theorem plain_eqloop : plainId "list.__eq__.loop" = true := by decide +kernel
theorem entry_eqloop : entryFor table "list.__eq__.loop" = some Builtin.«list.__eq__.loop» := entryFor_of_tree (by kernel_rfl)
theorem intsAre_get {vs : List Value} {ns : List Int} (h : IntsAre vs ns) : vs.length = ns.length ∧ ∀ {i : Nat} {n : Int}, ns[i]? = some n → ∃ t, vs[i]? = some (.int n t) := by
  induction h with
  | nil => exact ⟨rfl, fun e => nomatch e⟩
  | cons m t r ih =>
    refine ⟨congrArg (· + 1) ih.1, fun {i n} e => ?_⟩
    cases i with
    | zero => cases e; exact ⟨t, rfl⟩
    | succ i => exact ih.2 e
theorem intsAre_len {vs : List Value} {ns : List Int} (h : IntsAre vs ns) : vs.length = ns.length := (intsAre_get h).1
theorem intsAre_none {vs : List Value} {ns : List Int} (h : IntsAre vs ns) {i : Nat} (e : ns[i]? = none) : vs[i]? = none := by
  rw [List.getElem?_eq_none_iff] at e ⊢; rw [intsAre_len h]; exact e
theorem drop_get {α : Type} {l : List α} {i : Nat} {x : α} (e : l[i]? = some x) : l.drop i = x :: l.drop (i + 1) := by
  obtain ⟨h, rfl⟩ := List.getElem?_eq_some_iff.mp e
  exact List.drop_eq_getElem_cons h
theorem drop_none {α : Type} {l : List α} {i : Nat} (e : l[i]? = none) : l.drop i = [] := by
  rw [List.drop_eq_nil_iff]; exact List.getElem?_eq_none_iff.mp e
theorem eqloop {l b : Addr} {vs ws : List Value} {xs ys : List Int} {n m : Nat} (hv : IntsAre vs xs) (hw : IntsAre ws ys) : ∀ (k i : Nat), xs.length - i = k → i ≤ xs.length → i ≤ ys.length →
    Meets (Builtin.«list.__eq__.loop» ⟨[.ref l, .ref b, rawInt i, rawInt 0], []⟩)
      (fun A R s => s.heap.get? l = some (lstObj vs n) ∧ s.heap.get? b = some (lstObj ws m) ∧ R (.ok (.ret (.bool (ltL (xs.drop i) (ys.drop i))))) s) := by
  intro k
  induction k with
  | zero =>
    intro i hk hx hy prog w A R s h
    obtain ⟨hp, g, d, tk, os⟩ := s; obtain ⟨hl, hb, h⟩ := h
    have hl' : hp.get? l = some { cls := .type "list", dict := none, data := .seq vs.toArray n, slots := #[] } := hl
    have hb' : hp.get? b = some { cls := .type "list", dict := none, data := .seq ws.toArray m, slots := #[] } := hb
    wp_walk using wpAny_loadPart' hl', wpAny_loadPart' hb'
    have e1 : xs[i]? = none := by rw [List.getElem?_eq_none_iff]; lia
    have e2 : vs.toArray[((i : Nat) : Int).toNat]? = none := by simpa using intsAre_none hv e1
    rw [e2]
    have hs1 := intsAre_len hv
    have hs2 := intsAre_len hw
    rw [drop_none e1] at h
    have go : ∀ (z : Bool), z = decide (vs.length < ws.length) → R (.ok (.ret (.bool z))) ⟨hp, g, d, tk, os⟩ := by
      intro z hz
      rw [hz, hs1, hs2]
      have hi := List.getElem?_eq_none_iff.mp e1
      cases e3 : ys[i]? with
      | none =>
        rw [drop_none e3] at h
        have hj := List.getElem?_eq_none_iff.mp e3
        rw [show decide (xs.length < ys.length) = false from by rw [decide_eq_false_iff_not]; lia]
        exact h
      | some y =>
        rw [drop_get e3] at h
        have hj := (List.getElem?_eq_some_iff.mp e3).1
        rw [show decide (xs.length < ys.length) = true from by rw [decide_eq_true_eq]; lia]
        exact h
    wp_walk using wpAny_loadPart' hl', wpAny_loadPart' hb'
    exact go _ (by show decide (vs.toArray.size < ws.toArray.size) = _; rw [List.size_toArray, List.size_toArray])
  | succ k ih =>
    intro i hk hx hy prog w A R s h
    obtain ⟨hp, g, d, tk, os⟩ := s; obtain ⟨hl, hb, h⟩ := h
    have hl' : hp.get? l = some { cls := .type "list", dict := none, data := .seq vs.toArray n, slots := #[] } := hl
    have hb' : hp.get? b = some { cls := .type "list", dict := none, data := .seq ws.toArray m, slots := #[] } := hb
    wp_walk using wpAny_loadPart' hl', wpAny_loadPart' hb'
    have hlt : i < xs.length := by lia
    obtain ⟨t, ev⟩ := (intsAre_get hv).2 (List.getElem?_eq_getElem hlt)
    have e2 : vs.toArray[((i : Nat) : Int).toNat]? = some (.int xs[i] t) := by simpa using ev
    rw [e2]
    rw [drop_get (List.getElem?_eq_getElem hlt)] at h
    cases e3 : ys[i]? with
    | none =>
      have e4 : ws.toArray[((i : Nat) : Int).toNat]? = none := by simpa using intsAre_none hw e3
      rw [e4]
      rw [drop_none e3] at h
      wp_walk using wpAny_loadPart' hl', wpAny_loadPart' hb'
      have hj := List.getElem?_eq_none_iff.mp e3
      show R (.ok (.ret (.bool (decide (vs.toArray.size < ws.toArray.size))))) _
      rw [List.size_toArray, List.size_toArray, intsAre_len hv, intsAre_len hw, show decide (xs.length < ys.length) = false from by rw [decide_eq_false_iff_not]; lia]
      exact h
    | some y =>
      obtain ⟨u, ew⟩ := (intsAre_get hw).2 e3
      have e4 : ws.toArray[((i : Nat) : Int).toNat]? = some (.int y u) := by simpa using ew
      rw [e4]
      rw [drop_get e3] at h
      dsimp only
      refine wpAny_bind (wpAny_eqBool_int ?_)
      unfold ltL at h
      cases hq : (xs[i] == y) with
      | true =>
        rw [hq] at h
        rw [if_pos rfl]
        have hc : ((i : Int) + 1) = ((i + 1 : Nat) : Int) := by push_cast; rfl
        rw [hc]
        exact wpAny_pure ⟨plainId_quiet plain_eqloop _, codeAny_builtin entry_eqloop (by
          rw [Around.under_plainId plain_eqloop _]
          exact ih (i + 1) (by lia) (by lia) (by have := (List.getElem?_eq_some_iff.mp e3).1; lia) prog w A R _ ⟨hl, hb, h⟩)⟩
      | false =>
        rw [hq] at h
        rw [if_neg (by decide)]
        wp_walk using wpAny_loadPart' hl', wpAny_loadPart' hb'
        rw [e2, e4]
        dsimp only
        refine wpAny_bind (PySem.P.lt_int ?_)
        exact wpAny_pure h
theorem list_lt {l b : Addr} {vs ws : List Value} {xs ys : List Int} {n m : Nat} (hv : IntsAre vs xs) (hw : IntsAre ws ys) :
    Meets (Builtin.«list.__lt__» ⟨[.ref l, .ref b], []⟩)
      (fun A R s => s.heap.get? l = some (lstObj vs n) ∧ s.heap.get? b = some (lstObj ws m) ∧ R (.ok (.ret (.bool (ltL xs ys)))) s) := by
  intro prog w A R s h
  obtain ⟨hp, g, d, tk, os⟩ := s; obtain ⟨hl, hb, h⟩ := h
  have hl' : hp.get? l = some { cls := .type "list", dict := none, data := .seq vs.toArray n, slots := #[] } := hl
  have hb' : hp.get? b = some { cls := .type "list", dict := none, data := .seq ws.toArray m, slots := #[] } := hb
  have hT : (⟨hp, g, d, tk, os⟩ : Shared).TypeIs (.ref b) "list" := ⟨_, hb', rfl⟩
  have hsub : isSubtype (.type "list") (.type "list") = pure true := by rw [isSubtype_type]; kernel_rfl
  wp_walk using wpAny_loadPart' hl', wpAny_loadPart' hb', wpAny_isInstance hT hsub
  exact ⟨plainId_quiet plain_eqloop _, codeAny_builtin entry_eqloop (by
    rw [Around.under_plainId plain_eqloop _]
    exact eqloop hv hw _ 0 rfl (Nat.zero_le _) (Nat.zero_le _) prog w A R _ ⟨hl, hb, h⟩)⟩
theorem oneLt_list {l b : Addr} {vs ws : List Value} {xs ys : List Int} {n m : Nat} {Q : Bool → Shared → Prop} (hv : IntsAre vs xs) (hw : IntsAre ws ys) (hl : s.heap.get? l = some (lstObj vs n)) (hb : s.heap.get? b = some (lstObj ws m)) (hu : A.units < cLine)
    (h : Q (ltL xs ys) s) : wpAny (model prog w) A (oneLt' true (.ref l) (.ref b)) Q E s := by
  rw [oneLt'_eq]
  simp only [if_true]
  refine wpAny_bind (wpAny_cRoomFor hu ?_)
  refine wpAny_bind (wpAny_callSpecialIfBound?_slot ⟨_, hl, rfl⟩ F.slot_list_lt (call_meets F.slot_list_lt ⟨_, hl, rfl⟩ F.entry_list_lt (F.args_list_lt_2 _ _) (list_lt (n := n) (m := m) hv hw) ⟨hl, hb, ?_⟩))
  exact wpAny_truthy_bool h
noncomputable def firstDiff : List Int → List Int → Option Bool
  | x :: xs, y :: ys => if x == y then firstDiff xs ys else some (decide (x < y))
  | _, _ => none
theorem ltL_diff : ∀ (xs ys : List Int), ltL xs ys = (firstDiff xs ys).getD (decide (xs.length < ys.length))
  | [], [] => rfl
  | [], _ :: _ => by simp [ltL, firstDiff]
  | _ :: _, [] => by simp [ltL, firstDiff]
  | x :: xs, y :: ys => by
    unfold ltL firstDiff
    split
    · rw [ltL_diff xs ys]; simp
    · rfl
theorem lt_forIn {R' : Option Fin × Unit → Shared → Prop} {body : Value × Value → Option Fin × Unit → Sem (ForInStep (Option Fin × Unit))}
    (hb : ∀ x y t u (R'' : ForInStep (Option Fin × Unit) → Shared → Prop), (x = y → R'' (.yield (none, ())) s) → (x ≠ y → R'' (.done (some (.done (.ret (.bool (decide (x < y))))), ())) s) → wpAny (model prog w) A (body (.int x t, .int y u) (none, ())) R'' E s) :
    ∀ {vs ws : List Value} {xs ys : List Int}, IntsAre vs xs → IntsAre ws ys → R' ((firstDiff xs ys).map (fun b => Fin.done (.ret (.bool b))), ()) s → wpAny (model prog w) A (forIn (vs.zip ws) (none, ()) body) R' E s
  | _, _, _, _, .nil, _, h => by
    rw [List.zip_nil_left, List.forIn_nil]
    exact wpAny_pure (by simpa [firstDiff] using h)
  | _, _, _, _, .cons _ _ _, .nil, h => by
    rw [List.zip_nil_right, List.forIn_nil]
    exact wpAny_pure (by simpa [firstDiff] using h)
  | _, _, _, _, .cons x t r, .cons y u r', h => by
    rw [List.zip_cons_cons, List.forIn_cons]
    unfold firstDiff at h
    refine wpAny_bind (hb x y t u _ (fun e => ?_) fun e => ?_)
    · rw [if_pos (by simpa using e)] at h
      exact lt_forIn hb r r' h
    · rw [if_neg (by simpa using e)] at h
      exact wpAny_pure h
theorem tuple_lt {l b : Addr} {vs ws : List Value} {xs ys : List Int} {n m : Nat} (hv : IntsAre vs xs) (hw : IntsAre ws ys) :
    Meets (Builtin.«tuple.__lt__» ⟨[.ref l, .ref b], []⟩)
      (fun A R s => s.heap.get? l = some (tupObj vs n) ∧ s.heap.get? b = some (tupObj ws m) ∧ R (.ok (.ret (.bool (ltL xs ys)))) s) := by
  intro prog w A R s h
  obtain ⟨hp, g, d, tk, os⟩ := s; obtain ⟨hl, hb, h⟩ := h
  have hl' : hp.get? l = some { cls := .type "tuple", dict := none, data := .seq vs.toArray n, slots := #[] } := hl
  have hb' : hp.get? b = some { cls := .type "tuple", dict := none, data := .seq ws.toArray m, slots := #[] } := hb
  have hT : (⟨hp, g, d, tk, os⟩ : Shared).TypeIs (.ref b) "tuple" := ⟨_, hb', rfl⟩
  have hsub : isSubtype (.type "tuple") (.type "tuple") = pure true := by rw [isSubtype_type]; kernel_rfl
  wp_walk using wpAny_loadPart' hl', wpAny_loadPart' hb', wpAny_isInstance hT hsub
  have hsz1 : vs.toArray.size = xs.length := by rw [List.size_toArray, intsAre_len hv]
  have hsz2 : ws.toArray.size = ys.length := by rw [List.size_toArray, intsAre_len hw]
  show wpAny _ _ (forIn (vs.zip ws) ((none, ()) : Option Fin × Unit) _) _ _ _
  refine lt_forIn (fun x y t u R'' h1 h2 => ?_) hv hw ?_
  · dsimp only
    refine wpAny_bind (wpAny_eqBool_int ?_)
    cases hq : (x == y) with
    | true => exact wpAny_pure (h1 (by simpa using hq))
    | false =>
      have hne : x ≠ y := by simpa using hq
      rw [if_pos (by decide)]
      refine wpAny_bind (wpAny_rule (wpAny_bind (PySem.P.lt_int (wpAny_bind (wpAny_pure (wpAny_pure (h2 hne)))))))
  · rw [ltL_diff] at h
    dsimp only
    cases hf : firstDiff xs ys with
    | some r =>
      rw [hf] at h
      exact wpAny_pure h
    | none =>
      rw [hf] at h
      refine wpAny_pure ?_
      show R (.ok (.ret (.bool (decide (vs.toArray.size < ws.toArray.size))))) _
      rw [hsz1, hsz2]
      exact h
theorem lt_tups {l b : Addr} {vs ws : List Value} {xs ys : List Int} {n m : Nat} {Q : Value → Shared → Prop} (hv : IntsAre vs xs) (hw : IntsAre ws ys) (hl : s.heap.get? l = some (tupObj vs n)) (hb : s.heap.get? b = some (tupObj ws m)) (hu : A.units < cLine)
    (h : Q (.bool (ltL xs ys)) s) : wpAny (model prog w) A (compareOp .Lt (.ref l) (.ref b)) Q E s :=
  richCompare_meets_room (op := .Lt) ⟨_, hl, rfl⟩ ⟨_, hb, rfl⟩ F.slot_tuple_lt F.entry_tuple_lt (F.args_tuple_lt_2 _ _) (tuple_lt (n := n) (m := m) hv hw)
    ⟨hl, hb, show Value.bool (ltL xs ys) ≠ Value.notImplemented ∧ Q (.bool (ltL xs ys)) s from ⟨(fun x => nomatch x), h⟩⟩ hu
end

/-! ### sorted(list of lists of ints) -/
noncomputable def kasRun {α : Type} (lt : Nat → Nat → Bool) : KasT α → α
  | .ret a => a
  | .ask i j k => kasRun lt (k (lt i j))
noncomputable def kasOk {α : Type} (n : Nat) : KasT α → Bool
  | .ret _ => true
  | .ask i j k => decide (i < n) && decide (j < n) && kasOk n (k true) && kasOk n (k false)
theorem kas_runB {α : Type} {cmp : Nat → Nat → (Bool → Shared → Prop) → Shared → Prop} {lt : Nat → Nat → Bool} {n : Nat} {Q : α → Shared → Prop} {s : Shared}
    (hc : ∀ i j C, i < n → j < n → C (lt i j) s → cmp i j C s) : ∀ t : KasT α, kasOk n t = true → Q (kasRun lt t) s → t.kasWp cmp Q s
  | .ret a, _, h => h
  | .ask i j k, ok, h => by
    simp only [kasOk, Bool.and_eq_true, decide_eq_true_eq] at ok
    refine hc i j _ ok.1.1.1 ok.1.1.2 (kas_runB hc (k (lt i j)) ?_ h)
    cases lt i j
    · exact ok.2
    · exact ok.1.2
noncomputable def sortP (ls : List (List Int)) : List Nat := if ls.length < 2 then List.range ls.length else (kasRun (fun i j => ltL (ls.getD i []) (ls.getD j [])) (kas_sort ls.length)).toList
noncomputable def sortM (ls : List (List Int)) : List (List Int) := (sortP ls).map fun i => ls.getD i []
theorem kasOk_small : ∀ n : Nat, 2 ≤ n → n ≤ 4 → kasOk n (kas_sort n) = true
  | 2, _, _ => by decide +kernel
  | 3, _, _ => by decide +kernel
  | 4, _, _ => by decide +kernel
  | 0, h, _ => by lia
  | 1, h, _ => by lia
  | n + 5, _, h => by lia

section
variable {prog : Program} {w : World} {A : Around} {E : Value → Shared → Prop} {s : Shared}
noncomputable def ListsAre (h : Heap) (vs : List Value) (ls : List (List Int)) : Prop := vs.length = ls.length ∧ ∀ (i : Nat) (l : List Int), ls[i]? = some l → ∃ a ws n, vs[i]? = some (.ref a) ∧ h.get? a = some (lstObj ws n) ∧ IntsAre ws l
theorem listSort {a : Addr} {vs : List Value} {ls : List (List Int)} {n : Nat} {P : PySem.Fin → Shared → Prop} (ho : s.heap.get? a = some (seqObj "list" vs.toArray n)) (hls : ListsAre s.heap vs ls) (hna : ∀ v ∈ vs, v ≠ .ref a) (h4 : ls.length ≤ 4) (hu : A.units < cLine)
    (h : ∀ h' c, (∀ b o, b ≠ a → s.heap.get? b = some o → h'.get? b = some o) → h'.get? a = some (seqObj "list" ((sortP ls).map fun i => vs.getD i Value.none).toArray c) → P (.done (.ret .none)) { s with heap := h' }) :
    wpAny (model prog w) A (Builtin.«list.sort» ⟨[.ref a], []⟩) P E s := by
  have hlen := hls.1
  have ha : a < s.heap.objs.size := Heap.lt_size ho
  obtain ⟨e1, ho1⟩ : ∃ e1, (s.heap.update a (Obj.mapSeq fun _ => (#[] : Array Value))).get? a = some (seqObj "list" #[] e1) := ⟨_, get?_update_seq ho fun _ => #[]⟩
  rw [list_sort_plain]
  refine wpAny_bind (listItems_at ho rfl ?_)
  refine wpAny_bind (listUpdate_at ho rfl ?_ (by rw [List.size_toArray, sizeLine_eq]; lia) (Nat.zero_le _))
  refine wpAny_bind (seqEpoch_at ho1 rfl ?_)
  refine wpAny_bind (wpAny_newTuple ?_ (by show vs.length ≤ _; rw [sizeLine_eq]; lia))
  refine wpAny_bind (wpAny_newList ?_ (Nat.zero_le _))
  refine wpAny_holding ?_
  show wpAny (model prog w) A _ P E { s with heap := ((s.heap.update a (Obj.mapSeq fun _ => (#[] : Array Value))).push (seqObj "tuple" vs.toArray 0)).push (seqObj "list" #[] 0) }
  dsimp only
  have kp : ∀ b o, b ≠ a → s.heap.get? b = some o → (((s.heap.update a (Obj.mapSeq fun _ => (#[] : Array Value))).push (seqObj "tuple" vs.toArray 0)).push (seqObj "list" #[] 0)).get? b = some o := fun b o hb e =>
    Heap.get?_push_of_some _ (Heap.get?_push_of_some _ ((Heap.get?_update_other _ _ (Ne.symm hb)).trans e))
  have ho3 : (((s.heap.update a (Obj.mapSeq fun _ => (#[] : Array Value))).push (seqObj "tuple" vs.toArray 0)).push (seqObj "list" #[] 0)).get? a = some (seqObj "list" #[] e1) := Heap.get?_push_of_some _ (Heap.get?_push_of_some _ ho1)
  generalize ((s.heap.update a (Obj.mapSeq fun _ => (#[] : Array Value))).push (seqObj "tuple" vs.toArray 0)).push (seqObj "list" #[] 0) = h3 at kp ho3 ⊢
  have fin : ∀ out : Array Value, out = ((sortP ls).map fun i => vs.getD i Value.none).toArray → P (.done (.ret .none)) { s with heap := h3.update a (Obj.mapSeq fun _ => out) } := fun out eo => by
    obtain ⟨c2, hc2⟩ : ∃ c2, (h3.update a (Obj.mapSeq fun _ => out)).get? a = some (seqObj "list" out c2) := ⟨_, get?_update_seq ho3 fun _ => out⟩
    subst eo
    exact h _ c2 (fun b o hb e => (Heap.get?_update_other _ _ (Ne.symm hb)).trans (kp b o hb e)) hc2
  by_cases h2 : vs.toArray.size < 2
  · rw [if_pos h2, if_pos h2]
    refine wpAny_bind (wpAny_pure ?_)
    rw [StateT.run_pure]
    refine wpAny_bind (wpAny_pure ?_)
    dsimp only
    refine wpAny_bind (seqEpoch_at (s := { s with heap := h3 }) ho3 rfl ?_)
    have hv2 : vs.length < 2 := by simpa using h2
    have eo : Array.map (·.2) (arrOf (SortSt.mk' general' (vs.toArray.zip vs.toArray) #[] 7 none)) = ((sortP ls).map fun i => vs.getD i Value.none).toArray := by
      unfold sortP
      rw [if_pos (by lia)]
      match vs, ls, hlen, hv2 with
      | [], [], _, _ =>
        show Array.map (·.2) ((#[] : Array Value).zip #[]) = _
        simp
      | [v], [l], _, _ =>
        show Array.map (·.2) ((#[v] : Array Value).zip #[v]) = _
        simp [show List.range 1 = [0] from rfl]
      | _ :: _ :: _, _, _, h => simp at h; lia
    refine wpAny_bind (listUpdate_at (s := { s with heap := h3 }) ho3 rfl ?_ (Nat.zero_le _) (by rw [eo, List.size_toArray, List.length_map, sizeLine_eq]; unfold sortP; rw [if_pos (by lia), List.length_range]; lia))
    simp only [bne_self_eq_false, Bool.false_eq_true, if_false]
    exact wpAny_pure (fin _ eo)
  · rw [if_neg h2, if_neg h2]
    have hv2 : 2 ≤ vs.length := by simp at h2; lia
    have hls' : ∀ (i : Nat) (l : List Int), ls[i]? = some l → ∃ a ws n, vs[i]? = some (.ref a) ∧ h3.get? a = some (lstObj ws n) ∧ IntsAre ws l := fun i l e => by
      obtain ⟨b, ws, k, q1, q2, q3⟩ := hls.2 i l e
      exact ⟨b, ws, k, q1, kp b _ (fun q => hna _ (List.mem_of_getElem? q1) (by rw [q])) q2, q3⟩
    have hT : ∀ v ∈ vs, Looks (model prog w) ({ s with heap := h3 } : Shared).heap (typeOf v) (.type "list") := fun v hv => by
      obtain ⟨i, hi, rfl⟩ := List.getElem_of_mem hv
      obtain ⟨b, ws, k, q1, q2, q3⟩ := hls' i _ (List.getElem?_eq_getElem (by lia))
      rw [List.getElem?_eq_getElem hi] at q1
      rw [Option.some.inj q1]
      exact (show Looks _ _ (typeOf (.ref b)) (lstObj ws k).cls from (Looks.ld q2).andThen .now)
    refine wpAny_bind (kas_kind (s := { s with heap := h3 }) hv2 hT (by decide) (by decide) ?_)
    have hcmp : ∀ i j C, i < ls.length → j < ls.length → C (ltL (ls.getD i []) (ls.getD j [])) ({ s with heap := h3 } : Shared) → kas_ask prog w A oneType' vs i j C ({ s with heap := h3 } : Shared) := fun i j C hi hj hC => by
      obtain ⟨b, ws, k, q1, q2, q3⟩ := hls' i _ (List.getElem?_eq_getElem hi)
      obtain ⟨b', ws', k', q1', q2', q3'⟩ := hls' j _ (List.getElem?_eq_getElem hj)
      unfold kas_ask
      rw [keyLt'_oneType]
      rw [List.getD_eq_getElem?_getD, List.getD_eq_getElem?_getD, q1, q1']
      refine oneLt_list (s := { s with heap := h3 }) q3 q3' q2 q2' hu ?_
      rw [List.getD_eq_getElem?_getD, List.getD_eq_getElem?_getD, List.getElem?_eq_getElem hi, List.getElem?_eq_getElem hj] at hC
      exact hC
    have hrun : (kas_sort vs.length).kasWp (kas_ask prog w A oneType' vs) (fun p s' => p.toList = sortP ls ∧ s' = { s with heap := h3 }) { s with heap := h3 } := by
      rw [hlen]
      refine kas_runB hcmp _ (kasOk_small _ (by lia) h4) ⟨?_, rfl⟩
      unfold sortP
      rw [if_neg (by lia)]
    refine wpAny_bind (wpAny_mono (kat_run (Q := fun st' s' => ∃ p : Array Nat, p.size = vs.length ∧ arrOf st' = p.map (kas_item (vs.toArray.zip vs.toArray)) ∧ failedOf st' = none ∧ p.toList = sortP ls ∧ s' = { s with heap := h3 })
      rfl hv2 (by lia) (fun p' st' s' a1 a2 a3 a4 => ⟨p', a1, a2, a3, a4⟩) hrun) ?_ fun _ _ e => e)
    rintro ⟨⟨⟩, st'⟩ s' ⟨p, hp, har, hf, hpl, rfl⟩
    dsimp only
    have hout := kat_snds rfl har
    rw [hpl] at hout
    have hsz : ((sortP ls).map fun i => vs.getD i Value.none).toArray.size ≤ sizeLine + 1 := by
      rw [List.size_toArray, List.length_map, ← hpl, Array.length_toList, hp, sizeLine_eq]; lia
    refine wpAny_bind (seqEpoch_at (s := { s with heap := h3 }) ho3 rfl ?_)
    refine wpAny_bind (listUpdate_at (s := { s with heap := h3 }) ho3 rfl ?_ (Nat.zero_le _) (by rw [hout]; exact hsz))
    rw [hf]
    simp only [bne_self_eq_false, Bool.false_eq_true, if_false]
    exact wpAny_pure (fin _ hout)
theorem call_sorted {l : Addr} {vs : List Value} {ls : List (List Int)} {m : Nat} {Q : Value → Shared → Prop} (hl : s.heap.get? l = some (lstObj vs m)) (hls : ListsAre s.heap vs ls) (h4 : ls.length ≤ 4) (hu : A.units + 2 < cLine)
    (h : ∀ h' c D, (∀ b o, s.heap.get? b = some o → h'.get? b = some o) → s.heap.get? D = none → h'.get? D = some (seqObj "list" ((sortP ls).map fun i => vs.getD i Value.none).toArray c) → Q (.ref D) { s with heap := h' }) :
    wpAny (model prog w) A (call (.builtin "sorted") [.ref l]) Q E s := by
  have hlen := hls.1
  refine Calls.call_function_entry kind_sorted plain_sorted entry_sorted (args_sorted1 _) ?_
  unfold Builtin.«sorted»
  refine wpAny_bind (m := checkCount "sorted" 1 1 _) (wpAny_pure ?_)
  refine wpAny_bind (collect_list ⟨_, hl, rfl, m, rfl⟩ ?_ (by rw [sizeLine_eq]; lia))
  refine wpAny_bind (wpAny_newList ?_ (by rw [sizeLine_eq]; lia))
  have hsz : ((s.heap.push (seqObj "list" #[] 0)).update s.heap.objs.size (Obj.mapSeq (· ++ vs.toArray))).objs.size = s.heap.objs.size + 1 := by
    rw [Heap.size_update, size_push']
  have hoL : (((s.heap.push (seqObj "list" #[] 0)).update s.heap.objs.size (Obj.mapSeq (· ++ vs.toArray))).push (seqObj "list" vs.toArray 0)).get? (s.heap.objs.size + 1) = some (seqObj "list" vs.toArray 0) := by
    rw [← hsz]; exact Heap.get?_push_size _ rfl
  have keep : ∀ b o, s.heap.get? b = some o → (((s.heap.push (seqObj "list" #[] 0)).update s.heap.objs.size (Obj.mapSeq (· ++ vs.toArray))).push (seqObj "list" vs.toArray 0)).get? b = some o := fun b o q =>
    Heap.get?_push_of_some _ ((Heap.get?_update_other _ _ (Ne.symm (Nat.ne_of_lt (Heap.lt_size q)))).trans (Heap.get?_push_of_some _ q))
  have nD : s.heap.get? (s.heap.objs.size + 1) = none := get_over (Nat.le_succ _)
  show wpAny _ _ _ _ _ { s with heap := ((s.heap.push (seqObj "list" #[] 0)).update s.heap.objs.size (Obj.mapSeq (· ++ vs.toArray))).push (seqObj "list" vs.toArray 0) }
  rw [hsz]
  refine wpAny_bind (wpAny_holding (wpAny_call_entry slot_list_sort ⟨_, hoL, rfl⟩ entry_list_sort ?body (args_list_sort _)))
  case body =>
    refine listSort (s := { s with heap := ((s.heap.push (seqObj "list" #[] 0)).update s.heap.objs.size (Obj.mapSeq (· ++ vs.toArray))).push (seqObj "list" vs.toArray 0) }) (ls := ls) hoL
      ⟨hlen, fun i l e => let ⟨b, ws, k, q1, q2, q3⟩ := hls.2 i l e; ⟨b, ws, k, q1, keep _ _ q2, q3⟩⟩ (fun v hv => ?_) h4 (by show A.units + 1 + 1 < _; lia) fun h' c k2 e2 => ?_
    · obtain ⟨i, hi, rfl⟩ := List.getElem_of_mem hv
      obtain ⟨b, ws, k, q1, q2, q3⟩ := hls.2 i _ (List.getElem?_eq_getElem (by lia))
      rw [List.getElem?_eq_getElem hi] at q1
      rw [Option.some.inj q1]
      intro q
      cases q
      rw [nD] at q2; cases q2
    · refine ⟨_, rfl, wpAny_pure ⟨_, rfl, ?_⟩⟩
      exact h h' c _ (fun b o q => k2 b o (by rintro rfl; rw [nD] at q; cases q) (keep b o q)) nD e2
end
end Mine
namespace Mine
variable {G : Gd} {s : Shared} {φ : Phi} {P : List Addr} {σ : Sto} {c : Cx} {ρ : Rho}

theorem intsAreV {h : Heap} {k : List Int} : ∀ {vs : List Value}, VRels G h φ P (k.map PV.int) vs → IntsAre vs k := by
  induction k with
  | nil => exact fun r => r.nilE fun q => q ▸ .nil
  | cons x xs ih => exact fun r => r.consE fun v vs q a t => a.intE fun _ q2 => q ▸ q2 ▸ .cons _ _ (ih t)
theorem o2_lt_tup {xs ys : List Int} {Q : Post} (q : Q (.bool (ltL xs ys)) σ) : O2 c (fun v w => operate [v, w] (compareOp .Lt v w)) (tupI xs) (tupI ys) σ Q := o2_of fun P s φ v w I r1 r2 => by
  refine r1.tupE fun a vs m vq e1 f1 rs1 => ?_
  subst vq
  refine r2.tupE fun b ws m' vq e2 f2 rs2 => ?_
  subst vq
  intro A hA R E hR
  exact lt_tups (intsAreV rs1) (intsAreV rs2) e1 e2 (by show A.units < 9900; have := hA.2.2; lia) (hR _ s φ (Gr.refl ..) ⟨_, σ, I, .bool, q⟩)
noncomputable def lstI (k : List Int) : PV := .lst (k.map .int)
theorem listsAre {h : Heap} {ls : List (List Int)} {vs : List Value} (r : VRels G h φ P (ls.map lstI) vs) : ListsAre h vs ls := by
  refine ⟨by rw [r.length, List.length_map], fun i l e => ?_⟩
  obtain ⟨v, hv, rv⟩ := r.get (p := lstI l) (i := i) (by rw [List.getElem?_map, e]; rfl)
  refine rv.lstE fun a ws n vq e f rs => ?_
  subst vq
  exact ⟨a, ws, n, hv, e, intsAreV rs⟩
noncomputable def kasAll (n : Nat) : KasT (Array Nat) → Bool
  | .ret p => p.toList.all fun i => decide (i < n)
  | .ask _ _ k => kasAll n (k true) && kasAll n (k false)
theorem kasAll_run {n : Nat} {lt : Nat → Nat → Bool} : ∀ t : KasT (Array Nat), kasAll n t = true → ∀ i ∈ (kasRun lt t).toList, i < n
  | .ret p, h, i, hi => by
    have := List.all_eq_true.mp h i hi
    simpa using this
  | .ask a b k, h, i, hi => by
    simp only [kasAll, Bool.and_eq_true] at h
    unfold kasRun at hi
    cases e : lt a b with
    | true => rw [e] at hi; exact kasAll_run _ h.1 i hi
    | false => rw [e] at hi; exact kasAll_run _ h.2 i hi
theorem kasAll_small : ∀ n : Nat, 2 ≤ n → n ≤ 4 → kasAll n (kas_sort n) = true
  | 2, _, _ => by decide +kernel
  | 3, _, _ => by decide +kernel
  | 4, _, _ => by decide +kernel
  | 0, h, _ => by lia
  | 1, h, _ => by lia
  | n + 5, _, h => by lia
theorem sortP_lt (ls : List (List Int)) (h4 : ls.length ≤ 4) (i : Nat) (hi : i ∈ sortP ls) : i < ls.length := by
  unfold sortP at hi
  split at hi
  · exact List.mem_range.mp hi
  · exact kasAll_run _ (kasAll_small _ (by lia) h4) i hi
theorem cwp_sorted {a : PV} {ls : List (List Int)} {Q : Post} (V : LstV σ a (ls.map lstI)) (h4 : ls.length ≤ 4) (q : Q (.lst ((sortM ls).map lstI)) σ) : CWP c (.cst (.builtin "sorted")) [a] σ Q := cwp1 fun P s φ v I r => by
  refine V.open I r fun x vs m vq e rs => ?_
  subst vq
  intro A hA R E hR
  refine call_sorted e (listsAre rs) h4 (by show A.units + 2 < 9900; have := hA.2.2; lia) fun h' cc D kp nD eD => ?_
  refine hR _ (hs s h' s.toks) φ (Gr.keepAll kp) ⟨_, σ, I.keepAll kp, .lst (n := cc) (vs := (sortP ls).map fun i => vs.getD i Value.none) eD (I.fresh nD) (VRels.ext (Ext.of_keepP (N := []) kp fun _ z => nomatch z) (VRels.of_get (by simp [sortM]) fun i p v e1 e2 => ?_)), q⟩
  unfold sortM at e1
  rw [List.map_map, List.getElem?_map] at e1
  rw [List.getElem?_map] at e2
  cases hi : (sortP ls)[i]? with
  | none => rw [hi] at e1; cases e1
  | some j =>
    rw [hi] at e1 e2
    cases e1
    have hj := sortP_lt ls h4 j (List.mem_of_getElem? hi)
    obtain ⟨w, hw, rw'⟩ := rs.get (p := lstI ls[j]) (i := j) (by rw [List.getElem?_map, List.getElem?_eq_getElem hj]; rfl)
    have e3 : v = w := by
      have : vs.getD j Value.none = v := Option.some.inj e2
      rw [List.getD_eq_getElem?_getD, hw] at this
      exact this.symm
    rw [e3, Function.comp_apply, List.getD_eq_getElem?_getD, List.getElem?_eq_getElem hj]
    exact rw'

/-! ### a chain of two comparisons as a condition -/
theorem o2r_le {a b : Int} {Q : Post} (q : Q (.bool (decide (a ≤ b))) σ) : O2 c (fun v w => compareOp .LtE v w) (.int a) (.int b) σ Q := fun P s φ v w I r1 r2 => by
  refine r1.intE fun _ e1 => r2.intE fun _ e2 => ?_
  subst e1 e2
  exact Sp_tok (tk := s.toks) I (fun A R E h => PySem.P.le_int h) .bool q
noncomputable abbrev KCh3 (c : Cx) (r : Expr) (ρ : Rho) (o₂ : CmpOp) (b : PV) (Q : Bool → Sto → Prop) : Bool → Sto → Prop := fun y σ₄ => if y then EWP c r ρ σ₄ (KO2 c (fun v w => operate [v, w] (compareOp o₂ v w)) b (KT c Q)) else Q false σ₄
noncomputable abbrev KCh2 (c : Cx) (r : Expr) (ρ : Rho) (o₁ o₂ : CmpOp) (a : PV) (Q : Bool → Sto → Prop) : Post := fun b σ₂ => O2 c (fun v w => compareOp o₁ v w) a b σ₂ (KT c (KCh3 c r ρ o₂ b Q))
noncomputable abbrev KCh (c : Cx) (m r : Expr) (ρ : Rho) (o₁ o₂ : CmpOp) (Q : Bool → Sto → Prop) : Post := fun a σ₁ => EWP c m ρ σ₁ (KCh2 c r ρ o₁ o₂ a Q)
theorem bwp_compare2 {l m r : Expr} {o₁ o₂ : CmpOp} {pos : Pos} {Q : Bool → Sto → Prop}
    (h : EWP c l ρ σ (KCh c m r ρ o₁ o₂ Q))
    (hm2 : behindInMarks o₂ r = false := by with_unfolding_all rfl) : BWP c (.Compare l [o₁, o₂] [m, r] pos) ρ σ Q := by
  intro P s φ I F
  have e : isTrue (.Compare l [o₁, o₂] [m, r] pos) c.env (eval (.Compare l [o₁, o₂] [m, r] pos) c.env) = (eval l c.env >>= fun a => holding [a] (eval m c.env) >>= fun b => standAt pos >>= fun _ => holding [a, b] (compareOp o₁ a b) >>= fun x => release [a, b] [x] >>= fun _ => holding [x, b] (truthy x) >>= fun y => if y = true then (holding [b] (eval r c.env) >>= fun d => standAt pos >>= fun _ => operate [b, d] (compareOp o₂ b d) >>= fun x => holding [x] (truthy x)) else pure false) := by
    show (eval l c.env >>= fun a => testChain pos a [o₁, o₂] [eval m c.env, markedBehindIn o₂ r (eval r c.env)]) = _
    unfold markedBehindIn; rw [hm2]; rfl
  rw [e]
  refine (h P s φ I F).bind fun a s₁ φ₁ g₁ pp => pp.e fun pa σ₁ I₁ r₁ h₁ => ?_
  have F₁ := F.gr I g₁
  refine Sp.bind (Sp.hold (h₁ P s₁ φ₁ I₁ F₁)) fun b s₂ φ₂ g₂ pp => pp.e fun pb σ₂ I₂ r₂ h₂ => Sp.stand ?_
  have F₂ := F₁.gr I₁ g₂
  refine Sp.bind (Sp.hold (h₂ P s₂ φ₂ a b I₂ (r₁.gr g₂) r₂)) fun x s₃ φ₃ g₃ pp => pp.e fun px σ₃ I₃ r₃ h₃ => ?_
  have F₃ := F₂.gr I₂ g₃
  refine Sp.bind (Q₁ := fun _ s' φ' => s' = s₃ ∧ φ' = φ₃) (fun A hA R E hR => wpAny_release (hR () s₃ φ₃ (Gr.refl ..) ⟨rfl, rfl⟩)) fun _ s' φ' _ pp => ?_
  obtain ⟨e1, e2⟩ := pp
  subst e1 e2
  refine Sp.bind (Sp.hold (h₃ P s' φ' x I₃ r₃)) fun y s₄ φ₄ g₄ pp => exB pp fun σ₄ I₄ h₄ => ?_
  have F₄ := F₃.gr I₃ g₄
  cases y with
  | false => exact Sp.pure ⟨σ₄, I₄, h₄⟩
  | true =>
    have h₄' : EWP c r ρ σ₄ _ := h₄
    refine Sp.bind (Sp.hold (h₄' P s₄ φ₄ I₄ F₄)) fun d s₅ φ₅ g₅ pp => pp.e fun pd σ₅ I₅ r₅ h₅ => Sp.stand ?_
    refine Sp.bind (h₅ P s₅ φ₅ b d I₅ (((r₂.gr g₃).gr g₄).gr g₅) r₅) fun z s₆ φ₆ g₆ pp => pp.e fun pz σ₆ I₆ r₆ h₆ => ?_
    exact Sp.hold (h₆ P s₆ φ₆ z I₆ r₆)

/-! ### a sign of a text -/
theorem sub_str {value slice : Expr} {x : Str} {k : Int} {cp : Nat} {Q : Post} (hk : (decide (k < -(2 ^ 63 : Int)) || decide (k ≥ 2 ^ 63)) = false) (hc : (seqIndex? k x.length).bind (x.cps[·]?) = some cp) (q : Q (.str ⟨#[cp]⟩) σ)
    (hsl : ∀ o i, subscripted slice false o i = operate [o, i] (getItem o i) := by with_unfolding_all (intro _ _; rfl)) : SubA c value slice (.str x) (.int k) σ Q := by
  intro P s φ ov iv I r ri A hA R E hR
  refine r.strE fun t vq => ?_
  subst vq
  refine ri.intE fun u vq => ?_
  subst vq
  exact tail_any (typeIs_str s x t) PySem.F.slot_str_getitem.lookup (PySem.P.getItem_str hk hc (hR _ (hs s s.heap _) φ (Gr.tok _) ⟨_, σ, I.tok _, .str, q⟩)) (hsl _ _)

/-! ### sums of tuples, one of them empty -/
theorem o2_add_tup0 {l l' : List PV} {Q : Post} (hz : l.length + l'.length ≤ sizeLine) (q : Q (.tup (l ++ l')) σ) : O2 c (fun v w => operate [v, w] (binaryOp .Add v w)) (.tup l) (.tup l') σ Q := by
  by_cases h1 : l = []
  · subst h1
    refine o2_of fun P s φ v w I r1 r2 => ?_
    refine r1.tupE fun a vs m vq e1 f1 rs1 => ?_
    subst vq
    refine r2.tupE fun b ws m' vq e2 f2 rs2 => ?_
    subst vq
    refine rs1.nilE fun q1 => ?_
    subst q1
    exact Sp_tok (tk := s.toks) I (fun A R E h => concat_meets ⟨_, e1, rfl⟩ ⟨_, e2, rfl⟩ noFill_tuple_add seq_tuple_add PySem.F.slot_tuple_add PySem.F.entry_tuple_add (PySem.F.args_tuple_add_2 _ _) (AutoSeq1.tuple___add___tuple_tuple_0 a _ m b ws.toArray m' (by rfl)) ⟨e1, e2, h⟩) (.tup e2 f2 rs2) q
  · by_cases h2 : l' = []
    · subst h2
      refine o2_of fun P s φ v w I r1 r2 => ?_
      refine r1.tupE fun a vs m vq e1 f1 rs1 => ?_
      subst vq
      refine r2.tupE fun b ws m' vq e2 f2 rs2 => ?_
      subst vq
      refine rs2.nilE fun q1 => ?_
      subst q1
      have hvs : vs ≠ [] := fun e => h1 (by have := rs1.length; rw [e] at this; exact List.eq_nil_of_length_eq_zero this.symm)
      rw [List.append_nil] at q
      exact Sp_tok (tk := s.toks) I (fun A R E h => concat_meets ⟨_, e1, rfl⟩ ⟨_, e2, rfl⟩ noFill_tuple_add seq_tuple_add PySem.F.slot_tuple_add PySem.F.entry_tuple_add (PySem.F.args_tuple_add_2 _ _) (AutoSeq1.tuple___add___tuple_tuple_1 a vs.toArray m b _ m' (by simpa using hvs) (by rfl)) ⟨e1, e2, h⟩) (.tup e1 f1 rs1) q
    · exact o2_add_tup h1 h2 hz q

/-! ### a display of two strs -/
noncomputable abbrev KD22 (x y : Str) (v : PV) (Q : Post) : Post := fun w σ₂ => Q (.ref σ₂.length) (σ₂ ++ [.sdict [(x, v), (y, w)]])
noncomputable abbrev KD2 (c : Cx) (b : Expr) (ρ : Rho) (x y : Str) (Q : Post) : Post := fun v σ₁ => EWP c b ρ σ₁ (KD22 x y v Q)
theorem ewp_dict2 {x y : Str} {n1 n2 : Nat} {p1 p2 pos : Pos} {a b : Expr} {Q : Post} (hxy : x ≠ y) (h : EWP c a ρ σ (KD2 c b ρ x y Q)) :
    EWP c (.Dict [some (.Constant (.str x) n1 p1), some (.Constant (.str y) n2 p2)] [a, b] pos) ρ σ Q := by
  intro P s φ I F A hA R E hR
  have kp := keep_push s.heap { cls := .type "dict", data := .dict #[] }
  have nD : s.heap.get? s.heap.objs.size = Option.none := get_size _
  have dD : (s.heap.push { cls := .type "dict", data := .dict #[] }).DictOf (strKind c.G.prog c.G.w) s.heap.objs.size [] := Heap.DictOf.new s.heap
  have I₁ : Inv c.G (hs s (s.heap.push { cls := .type "dict", data := .dict #[] }) s.toks) φ (s.heap.objs.size :: P) σ := I.keepAllP (N := [s.heap.objs.size]) kp (fun a h => by rw [List.mem_singleton.mp h]; exact nD) fun a h => by rw [List.mem_singleton.mp h]; exact (dictOf_some dD).imp fun _ q => q.1
  have F₁ : FrameAt c.G c.env (s.heap.objs.size :: P) (s.heap.push { cls := .type "dict", data := .dict #[] }) φ ρ := F.keep (Ext.of_keepP (N := [s.heap.objs.size]) kp fun a h => by rw [List.mem_singleton.mp h]; exact nD) (fun a _ => kp a) fun a h => List.mem_cons_of_mem _ h
  have g₁ : Gr s φ [] (hs s (s.heap.push { cls := .type "dict", data := .dict #[] }) s.toks) φ := Gr.keepAll kp
  have hDP : s.heap.objs.size ∉ P := fun ha => by obtain ⟨o, e⟩ := I.plow _ ha; rw [nD] at e; cases e
  refine wpAny_Dict_walk (knd := strKind c.G.prog c.G.w) rfl rfl (by simp) (Nat.le_of_ble_eq_true rfl) ?_
  generalize s.heap.objs.size = D at *
  refine wpAny_bind (m := eval _ c.env) (wpAny_Constant_str (wpAny_bind (wpAny_holding (wpAny_bind ?_))))
  refine h _ _ _ (I₁.tok _) F₁ A hA _ E fun v s₂ φ₂ g₂ pp => pp.e fun pv σ₂ I₂ r₂ h₂ => wpAny_bind (wpAny_standAt (wpAny_pure ?_))
  refine wpAny_bind (wpAny_holding (wpAny_bind (m := eval _ c.env) (wpAny_Constant_str (wpAny_bind (wpAny_holding (wpAny_bind ?_))))))
  have F₂ : FrameAt c.G c.env (D :: P) s₂.heap φ₂ ρ := FrameAt.gr (s := hs _ _ _) F₁ (I₁.tok _) g₂
  refine h₂ _ (hs s₂ s₂.heap (s₂.toks + 1)) φ₂ (I₂.tok _) F₂ A hA _ E fun w s₃ φ₃ g₃ pp => pp.e fun pw σ₃ I₃ r₃ h₃ => wpAny_bind (wpAny_standAt (wpAny_pure ?_))
  refine wpAny_bind (wpAny_holding (wpAny_pure (wpAny_pure (wpAny_pure ?_))))
  have g₂' := (Gr.tok (s := s₂) (φ := φ₂) (F := []) (s₂.toks + 1)).trans g₃
  have gA : Gr s φ [] s₃ φ₃ := g₁.trans ((Gr.tok (F := []) _).trans (g₂.trans g₂'))
  have dD₂ : s₂.heap.DictOf (strKind c.G.prog c.G.w) D [] := dictOf_keep dD fun o e => g₂.keep D o e (fun q => I₁.disj D q (by simp)) (by simp)
  have dD₃ : s₃.heap.DictOf (strKind c.G.prog c.G.w) D [] := dictOf_keep dD₂ fun o e => g₂'.keep D o e (fun q => I₂.disj D q (by simp)) (by simp)
  have r₂' : VRel c.G s₃.heap φ₃ (D :: P) pv v := r₂.gr g₂'
  refine ⟨[(x, v), (y, w)], ⟨strKind_is _ _ x _, rfl, strKind_is _ _ y _, rfl, trivial⟩, dD₃, fun h' hd hs' => ?_⟩
  have al : ∃ o, h'.get? D = some o := (dictOf_some hd).imp fun _ q => q.1
  have I₄ : Inv c.G (hs s₃ h' (s₃.toks + 2)) φ₃ (D :: P) σ₃ := I₃.other hs' (by simp) al
  have X : Ext s₃.heap φ₃ (D :: P) h' φ₃ (D :: P) := ⟨fun a o e f => ⟨(hs'.2 a fun q => f.2 (q ▸ List.mem_cons_self)).trans e, f⟩, fun _ _ e => e⟩
  have hm : merged [] [(x, v), (y, w)] = [(x, v), (y, w)] := by
    simp [merged, stored, hxy]
  rw [hm] at hd
  have rs : VSP c.G h' φ₃ (D :: P) [(x, pv), (y, pw)] [(x, v), (y, w)] := .cons (r₂'.ext X) (.cons (r₃.ext X) .nil)
  have I₅ := I₄.adoptO (o := .sdict [(x, pv), (y, pw)]) hDP fun Y => ⟨_, hd, rs.ext Y, rfl⟩
  have gB : Gr s φ [] (hs s₃ h' (s₃.toks + 2)) (φ₃ ++ [(D, D)]) := by
    have g4 : Gr s φ [] (hs s₃ h' (s₃.toks + 2)) φ₃ := (gA.weaken (F' := []) fun _ z => z).made (N := [D]) (Gr.other hs' (.inl (by simp)) al) fun a h => by rw [List.mem_singleton.mp h]; exact nD
    obtain ⟨ψ, hφ, hψ⟩ := g4.pre
    refine ⟨⟨ψ ++ [(D, D)], by rw [hφ, List.append_assoc], fun a ha => ?_⟩, g4.keep, g4.alive, g4.gens, g4.drawn, g4.os⟩
    rw [adr_append] at ha
    rcases List.mem_append.mp ha with ha | ha
    · exact hψ a ha
    · simp [adr] at ha; rw [ha]; exact nD
  exact hR _ _ _ gB ⟨.ref σ₃.length, _, I₅, .ref (p := (D, D)) (by rw [← I₃.len]; simp), h₃⟩
end Mine
namespace Mine
section
variable {prog : Program} {w : World} {A : Around} {E : Value → Shared → Prop} {s : Shared}
theorem wpAny_loadIfAlive {a : Addr} {Q : Option Obj → Shared → Prop} (h : Q (s.heap.get? a) s) : wpAny (model prog w) A (loadIfAlive a) Q E s := fun Γ p hΓ => by
  show Sem.wp _ _ (.loadIfAlive a .pure) _ _ _ _
  rw [Sem.wp_loadIfAlive]
  exact h
/-- the end of a zip whose last tuple lives -/
theorem zip_end {z TI TO i1 i2 l1 l2 T : Addr} {k1 k2 : Nat} {xs ys : Array Value} {x : Value} {oT : Obj} {Q : Fin → Shared → Prop} (hh : A.handled = none) (D : ZipApart z TI TO i1 i2 l1 l2)
    (hz : IsZip s.heap z TI TO (rawInt T)) (hT : s.heap.get? T = some oT) (hTI : IsPair s.heap TI (.ref i1) (.ref i2))
    (h1 : s.heap.IsListIter i1 l1 k1) (h2 : s.heap.IsListIter i2 l2 k2) (hl1 : s.heap.IsList l1 xs) (hl2 : s.heap.IsList l2 ys) (hx : xs[k1]? = some x) (hy : ys[k2]? = none)
    (hE : ∀ h' e, (∀ c o, c ≠ z → c ≠ TO → c ≠ i1 → c ≠ i2 → s.heap.get? c = some o → h'.get? c = some o) → (∃ o, h'.get? e = some o ∧ o.cls = .type "StopIteration") → E (.ref e) { s with heap := h' }) :
    wpAny (model prog w) A (Builtin.«zip.__next__» ⟨[.ref z], []⟩) Q E s := by
  show wpAny _ _ (field (.ref z) 2 >>= _) _ _ _
  refine wpAny_bind (wpAny_field hz rfl (x := .bool false) rfl ?_)
  show wpAny _ _ (field (.ref z) 3 >>= _) _ _ _
  refine wpAny_bind (wpAny_field hz rfl (x := .ref TI) rfl ?_)
  refine wpAny_bind (wpAny_seqItems hTI rfl ?_)
  show wpAny _ _ (Builtin.SmallTypes.ownedTupleIsFree (.ref z) >>= _) _ _ _
  refine wpAny_bind ?_
  unfold Builtin.SmallTypes.ownedTupleIsFree
  refine wpAny_bind (wpAny_field hz rfl (x := rawInt T) rfl ?_)
  show wpAny _ _ (loadIfAlive ((T : Int).toNat) >>= _) _ _ _
  refine wpAny_bind (wpAny_loadIfAlive ?_)
  rw [show ((T : Int).toNat) = T from rfl, hT]
  show wpAny _ _ (field (.ref z) 1 >>= _) _ _ _
  refine wpAny_bind (wpAny_field hz rfl (x := .bool false) rfl ?_)
  rw [if_pos (by decide)]
  refine wpAny_bind (wpAny_setField_rec hz (by simp) fun h₁ hz₁ hs₁ => ?_)
  refine wpAny_pure ?_
  rw [if_neg (by decide)]
  refine wpAny_bind ?_
  rw [← Array.forIn_toList]
  simp only [List.forIn_cons, List.forIn_nil]
  refine wpAny_bind (wpAny_bind (wpAny_holding ?_))
  show wpAny _ _ (Builtin.SmallTypes.nextOf (.ref i1) >>= _) _ _ _
  refine wpAny_bind (wpAny_nextOf_list_item (h1.extBut hs₁.extBut D.i1z) (hl1.extBut hs₁.extBut D.l1z) hx fun h₂ h1₂ hs₂ => wpAny_pure (wpAny_pure ?_))
  refine wpAny_bind (wpAny_bind (wpAny_holding ?_))
  show wpAny _ _ (Builtin.SmallTypes.nextOf (.ref i2) >>= _) _ _ _
  refine wpAny_bind (wpAny_nextOf_list_end hh (((h2.extBut hs₁.extBut D.i2z).extBut hs₂.extBut D.i12.symm))
      (((hl2.extBut hs₁.extBut D.l2z).extBut hs₂.extBut D.l2i1)) hy fun h₄ e hs₄ he => ?_)
  exact hE h₄ e (fun c o c1 c2 c3 c4 x => hs₄ _ _ c4 (hs₂.extBut _ _ c3 (hs₁.extBut _ _ c1 x))) he
theorem next_zip_end {z TI TO i1 i2 l1 l2 T : Addr} {k1 k2 : Nat} {xs ys : Array Value} {x : Value} {oT : Obj} {Q : Option Value → Shared → Prop} (hh : A.handled = none) (D : ZipApart z TI TO i1 i2 l1 l2)
    (hz : IsZip s.heap z TI TO (rawInt T)) (hT : s.heap.get? T = some oT) (hTI : IsPair s.heap TI (.ref i1) (.ref i2))
    (h1 : s.heap.IsListIter i1 l1 k1) (h2 : s.heap.IsListIter i2 l2 k2) (hl1 : s.heap.IsList l1 xs) (hl2 : s.heap.IsList l2 ys) (hx : xs[k1]? = some x) (hy : ys[k2]? = none)
    (hQ : ∀ h', (∀ c o, c ≠ z → c ≠ TO → c ≠ i1 → c ≠ i2 → s.heap.get? c = some o → h'.get? c = some o) → Q none { s with heap := h' }) : wpAny (model prog w) A (pyNext (.ref z)) Q E s := by
  have hT' : s.TypeIs (.ref z) "zip" := ⟨_, hz, rfl⟩
  unfold pyNext
  refine wpAny_bind (wpAny_attempt (wpAny_callSpecial?_slot (name := Str.ofString "__next__") hT' PySem.F.slot_zip_next
    (wpAny_call_entry PySem.F.slot_zip_next hT' PySem.F.entry_zip_next (zip_end (A := A.in1) hh D hz hT hTI h1 h2 hl1 hl2 hx hy fun h' e hk he => ?_) (PySem.F.args_zip_next_1 _))))
  obtain ⟨o, ho, hc⟩ := he
  have isub : isSubtype (.type "StopIteration") (.type "StopIteration") = pure true := by rw [isSubtype_type]; kernel_rfl
  refine wpAny_bind (wpAny_isInstance (T := "StopIteration") (b := true) ⟨o, ho, hc⟩ isub ?_)
  exact wpAny_pure (hQ _ hk)
theorem zip_no_len : typeLookup (.type "zip") "__len__" = pure none := by rw [typeLookup_type, builtinLookup_eq_fast]; kernel_rfl
theorem zip_no_hint : typeLookup (.type "zip") "__length_hint__" = pure none := by rw [typeLookup_type, builtinLookup_eq_fast]; kernel_rfl
/-- what is drawn from a zip goes into a new list -/
theorem collect_zip {z TI TO : Addr} {f0 : Value} {Q : List Value → Shared → Prop} (hz : IsZip s.heap z TI TO f0)
    (hloop : ∀ h' S c, (∀ b o, s.heap.get? b = some o → h'.get? b = some o) → s.heap.get? S = none → h'.get? S = some { cls := .type "list", dict := none, data := .seq #[] c, slots := #[] } →
      codeAny (model prog w) A (.builtin "list.extend.loop" ⟨[.ref S, .ref z, .ref S], []⟩)
        (fun r s' => r = .ok (.ret (.ref S)) ∧ ∃ acc c', s'.heap.get? S = some { cls := .type "list", dict := none, data := .seq acc c', slots := #[] } ∧ Q acc.toList s') { s with heap := h' }) : wpAny (model prog w) A (collect (.ref z)) Q E s := by
  have hT : s.TypeIs (.ref z) "zip" := ⟨_, hz, rfl⟩
  have hSz : s.heap.objs.size ≠ z := fun e => Nat.lt_irrefl _ (e ▸ Heap.lt_size hz)
  unfold collect
  refine wpAny_bind (wpAny_runValue (codeAny_builtin PySem.F.entry_proto_collect ?_))
  rw [Around.under_plainId PySem.F.plain_proto_collect _]
  show wpAny _ A.in1 (newList [] >>= fun l => again (.builtin "list.__iadd__" ⟨[l, .ref z], []⟩)) _ _ s
  refine wpAny_bind (wpAny_newObj_type ?_)
  refine wpAny_pure ⟨plainId_quiet PySem.F.plain_list_iadd _, codeAny_builtin PySem.F.entry_list_iadd ?_⟩
  rw [Around.under_plainId PySem.F.plain_list_iadd _]
  have hz₁ : IsZip (s.heap.push { cls := .type "list", data := .seq ([] : List Value).toArray }) z TI TO f0 := Heap.get?_push_of_some _ hz
  have hT₁ : Shared.TypeIs { s with heap := s.heap.push { cls := .type "list", data := .seq ([] : List Value).toArray } } (.ref z) "zip" := ⟨_, hz₁, rfl⟩
  show wpAny _ A.in1 (Builtin.List.listExtendWith (.ref s.heap.objs.size) (.ref z) (.ref s.heap.objs.size)) _ _ _
  unfold Builtin.List.listExtendWith
  refine wpAny_bind (wpAny_typeOf hT₁ ?_)
  have h1 : Builtin.List.listSameRef (.ref s.heap.objs.size) (.ref z) = false := by simp [Builtin.List.listSameRef, hSz]
  have h2 : (Value.type "zip" == Value.type "list") = false := by decide
  have h3 : (Value.type "zip" == Value.type "tuple") = false := by decide
  simp only [h1, h2, h3, Bool.or_false, Bool.false_eq_true, if_false]
  refine wpAny_bind (wpAny_pyIter_zip hz₁ ?_)
  refine wpAny_bind (wpAny_holding ?_)
  unfold Builtin.List.listLengthHint
  refine wpAny_bind (wpAny_specialOf hT₁ zip_no_len ?_)
  show wpAny _ A.in1 (specialOf (Value.ref z) (Str.ofString "__length_hint__") >>= _) _ _ _
  refine wpAny_bind (wpAny_specialOf hT₁ zip_no_hint ?_)
  refine wpAny_pure ?_
  show wpAny _ A.in1 (rule "list.extend.makes-room" >>= fun _ => Builtin.List.listTouch (.ref s.heap.objs.size) >>= fun _ =>
    again (.builtin "list.extend.loop" ⟨[.ref s.heap.objs.size, .ref z, .ref s.heap.objs.size], []⟩)) _ _ _
  refine wpAny_bind (wpAny_rule ?_)
  have hS₁ : (s.heap.push { cls := .type "list", data := .seq ([] : List Value).toArray }).get? s.heap.objs.size = some { cls := .type "list", data := .seq ([] : List Value).toArray } := Heap.get?_push_size _ rfl
  refine wpAny_bind ?_
  show wpAny _ A.in1 (updateSeq s.heap.objs.size (·.push .none) >>= fun _ => updateSeq s.heap.objs.size (·.pop)) _ _ _
  refine wpAny_bind (wpAny_updateSeq hS₁ rfl ?_)
  have hS₂ := Heap.get?_update_self (Obj.mapSeq (·.push Value.none)) hS₁ rfl
  refine wpAny_updateSeq hS₂ rfl ?_
  have hS₃ := Heap.get?_update_self (Obj.mapSeq (·.pop)) hS₂ rfl
  refine wpAny_pure ⟨plainId_quiet PySem.F.plain_extend_loop _, codeAny_mono (hloop _ _ _ (fun b o e => ?_) (get_size _) hS₃) fun r s' hr => ?_⟩
  · have hb := Nat.ne_of_lt (Heap.lt_size e)
    exact (Heap.get?_update_other _ _ (Ne.symm hb)).trans ((Heap.get?_update_other _ _ (Ne.symm hb)).trans (Heap.get?_push_of_some _ e))
  · obtain ⟨rfl, acc, c', hS', hq⟩ := hr
    show wpAny _ A (load s.heap.objs.size >>= _) _ _ s'
    refine wpAny_bind (wpAny_load hS' ?_)
    exact wpAny_pure hq
theorem call_tuple_zip {z TI TO : Addr} {f0 : Value} {Q : Value → Shared → Prop} (hz : IsZip s.heap z TI TO f0)
    (hloop : ∀ h' S c, (∀ b o, s.heap.get? b = some o → h'.get? b = some o) → s.heap.get? S = none → h'.get? S = some { cls := .type "list", dict := none, data := .seq #[] c, slots := #[] } →
      codeAny (model prog w) A.in1.in1 (.builtin "list.extend.loop" ⟨[.ref S, .ref z, .ref S], []⟩)
        (fun r s' => r = .ok (.ret (.ref S)) ∧ ∃ acc c', s'.heap.get? S = some { cls := .type "list", dict := none, data := .seq acc c', slots := #[] } ∧ acc.size ≤ 100 ∧ Q (.ref s'.heap.objs.size) { s' with heap := s'.heap.push { cls := .type "tuple", data := .seq acc } }) { s with heap := h' }) :
    wpAny (model prog w) A (call (.type "tuple") [.ref z]) Q E s := by
  refine callType_codes (Q₁ := fun obj s₁ => s₁.TypeIs obj "tuple" ∧ Q obj s₁) PySem.F.called_tuple (PySem.F.typeCall_tuple_1 _) PySem.F.entry_object_init ?_ fun obj s₁ h₁ => ?_
  · refine codeAny_of_tree ?_
    show wpAny _ A.in1.in1 (do checkBuiltinCall "tuple.__new__" ⟨[.type "tuple", .ref z], []⟩; again (.builtin "tuple.__new__" ⟨[.type "tuple", .ref z], []⟩)) _ _ s
    refine wpAny_bind (wpAny_of_eq (PySem.F.newCall_tuple_1 _) (wpAny_pure ⟨plainId_quiet PySem.F.plain_tuple_new _, codeAny_builtin PySem.F.entry_tuple_new ?_⟩))
    rw [Around.under_plainId PySem.F.plain_tuple_new _]
    have hsub := sub_tuple_self
    have hinit := init_tuple_lookup
    have hmh := madeHere_tuple
    have hTI : s.TypeIs (.ref z) "zip" := ⟨_, hz, rfl⟩
    obtain ⟨hp, g, d, tk, os⟩ := s
    wp_walk using wpAny_typeOf hTI, collect_zip hz
    intro h' S c k0 n0 e0
    refine codeAny_mono (hloop h' S c k0 n0 e0) fun r s' z => ?_
    obtain ⟨hr, acc, c', e, hsz, hq⟩ := z
    refine ⟨hr, acc, c', e, ?_⟩
    show wpAny _ _ (Builtin.Tuple.tupleExact acc.toList.toArray >>= fun v => ret v) _ _ _
    unfold Builtin.Tuple.tupleExact
    have hsl : (100 : Nat) ≤ sizeLine := by decide
    refine wpAny_bind (wpAny_newObj_type ?_ (by show acc.toList.toArray.size ≤ sizeLine; simp only [Array.toArray_toList]; lia))
    refine wpAny_pure ?_
    have e : acc.toList.toArray = acc := by simp
    rw [e]
    exact ⟨⟨_, Heap.get?_push_size _ rfl, rfl⟩, hq⟩
  · exact ⟨h₁.1, PySem.F.args_object_init_2 obj _, object_init_meets PySem.F.called_tuple.init.lookup PySem.F.called_tuple.made (by decide) prog w A.in1 _ s₁ ⟨h₁.1, rfl, h₁.2⟩⟩
theorem zipApart_of {n a b : Nat} (ha : a < n) (hb : b < n) : ZipApart (n + 4) (n + 2) (n + 3) n (n + 1) a b := by
  constructor <;> (first | exact (by lia : (n + 2 : Nat) ≠ n + 4) | skip)
  all_goals first | exact Nat.ne_of_lt (by lia) | exact Nat.ne_of_gt (by lia)
theorem far {c n : Nat} (h : c < n) : c ≠ n + 4 ∧ c ≠ n + 3 ∧ c ≠ n ∧ c ≠ n + 1 := by lia
/-- tuple(zip(l1, l2)): nothing -/
theorem tuple_zip0 {l1 l2 : Addr} {xs ys : Array Value} {Q : Value → Shared → Prop} (hh : A.handled = none) (hl1 : s.heap.IsList l1 xs) (hl2 : s.heap.IsList l2 ys) (hend : xs[0]? = none ∨ ys[0]? = none)
    (hQ : ∀ h' T, (∀ c o, s.heap.get? c = some o → h'.get? c = some o) → s.heap.get? T = none → h'.get? T = some (tupObj [] 0) → Q (.ref T) { s with heap := h' }) :
    wpAny (model prog w) A (call (.type "zip") [.ref l1, .ref l2]) (fun z s' => (∀ c o, s.heap.get? c = some o → s'.heap.get? c = some o) ∧ s' = { s with heap := s'.heap } ∧ wpAny (model prog w) A (call (.type "tuple") [z]) Q E s') E s := by
  have b1 : l1 < s.heap.objs.size := by obtain ⟨o, e, _⟩ := hl1; exact Heap.lt_size e
  have b2 : l2 < s.heap.objs.size := by obtain ⟨o, e, _⟩ := hl2; exact Heap.lt_size e
  refine call_zip_2 hl1 hl2 fun h' hz hTI hTO hi1 hi2 hsz kp => ⟨kp, rfl, ?_⟩
  refine call_tuple_zip (s := { s with heap := h' }) hz fun h2 S c k2 nS eS => ?_
  have hS : h'.get? S = none := nS
  have hne : ∀ a o, h'.get? a = some o → S ≠ a := fun a o e q => by rw [q, e] at hS; cases hS
  have D : ZipApart (s.heap.objs.size + 4) (s.heap.objs.size + 2) (s.heap.objs.size + 3) s.heap.objs.size (s.heap.objs.size + 1) l1 l2 := zipApart_of b1 b2
  refine codeAny_builtin PySem.F.entry_extend_loop ?_
  rw [Around.under_plainId PySem.F.plain_extend_loop _]
  show wpAny _ _ (pyNext (.ref (s.heap.objs.size + 4)) >>= _) _ _ _
  have hl1' : h2.IsList l1 xs := hl1.at fun o e => k2 _ _ (kp _ _ e)
  have hl2' : h2.IsList l2 ys := hl2.at fun o e => k2 _ _ (kp _ _ e)
  have hi1' : h2.IsListIter s.heap.objs.size l1 0 := hi1.at fun o e => k2 _ _ e
  have hi2' : h2.IsListIter (s.heap.objs.size + 1) l2 0 := hi2.at fun o e => k2 _ _ e
  refine wpAny_bind (wpAny_pyNext_zip_end (s := { s with heap := h2 }) hh D (k2 _ _ hz) (k2 _ _ hTI) (k2 _ _ hTO) hi1' hi2' hl1' hl2' hend fun h3 k3 => ?_)
  have k3' : ∀ c o, c < s.heap.objs.size ∨ c = S → h2.get? c = some o → h3.get? c = some o := fun c o hc e => by
    rcases hc with hc | rfl
    · exact k3 c o (far hc).1 (far hc).2.1 (far hc).2.2.1 (far hc).2.2.2 e
    · exact k3 _ o (hne _ _ hz) (hne _ _ hTO) (by obtain ⟨o, e, _⟩ := hi1; exact hne _ _ e) (by obtain ⟨o, e, _⟩ := hi2; exact hne _ _ e) e
  refine wpAny_pure ⟨rfl, #[], c, k3' S _ (.inr rfl) eS, by decide, ?_⟩
  have kf : ∀ c o, s.heap.get? c = some o → h3.get? c = some o := fun c o e => k3' c o (.inl (Heap.lt_size e)) (k2 _ _ (kp _ _ e))
  refine hQ (h3.push { cls := .type "tuple", data := .seq #[] }) _ (fun c o e => keep_push _ _ _ _ (kf c o e)) ?_ (Heap.get?_push_size _ rfl)
  cases q : s.heap.get? h3.objs.size with
  | none => rfl
  | some o => have := kf _ _ q; rw [get_size] at this; cases this
/-- one pair -/
theorem tuple_zip1 {l1 l2 : Addr} {xs ys : Array Value} {x x' y : Value} {Q : Value → Shared → Prop} (hh : A.handled = none) (hl1 : s.heap.IsList l1 xs) (hl2 : s.heap.IsList l2 ys) (hx : xs[0]? = some x) (hy : ys[0]? = some y) (hx' : xs[1]? = some x') (hy' : ys[1]? = none)
    (hQ : ∀ h' T U, (∀ c o, s.heap.get? c = some o → h'.get? c = some o) → s.heap.get? T = none → s.heap.get? U = none → h'.get? U = some (tupObj [x, y] 0) → h'.get? T = some (tupObj [.ref U] 0) → Q (.ref T) { s with heap := h' }) :
    wpAny (model prog w) A (call (.type "zip") [.ref l1, .ref l2]) (fun z s' => (∀ c o, s.heap.get? c = some o → s'.heap.get? c = some o) ∧ s' = { s with heap := s'.heap } ∧ wpAny (model prog w) A (call (.type "tuple") [z]) Q E s') E s := by
  have b1 : l1 < s.heap.objs.size := by obtain ⟨o, e, _⟩ := hl1; exact Heap.lt_size e
  have b2 : l2 < s.heap.objs.size := by obtain ⟨o, e, _⟩ := hl2; exact Heap.lt_size e
  refine call_zip_2 hl1 hl2 fun h' hz hTI hTO hi1 hi2 hsz kp => ⟨kp, rfl, ?_⟩
  refine call_tuple_zip (s := { s with heap := h' }) hz fun h2 S c k2 nS eS => ?_
  have hS : h'.get? S = none := nS
  have hne : ∀ a o, h'.get? a = some o → S ≠ a := fun a o e q => by rw [q, e] at hS; cases hS
  have D : ZipApart (s.heap.objs.size + 4) (s.heap.objs.size + 2) (s.heap.objs.size + 3) s.heap.objs.size (s.heap.objs.size + 1) l1 l2 := zipApart_of b1 b2
  have sI1 : S ≠ s.heap.objs.size := by obtain ⟨o, e, _⟩ := hi1; exact hne _ _ e
  have sI2 : S ≠ s.heap.objs.size + 1 := by obtain ⟨o, e, _⟩ := hi2; exact hne _ _ e
  refine codeAny_builtin PySem.F.entry_extend_loop ?_
  rw [Around.under_plainId PySem.F.plain_extend_loop _]
  show wpAny _ _ (pyNext (.ref (s.heap.objs.size + 4)) >>= _) _ _ _
  have hl1' : h2.IsList l1 xs := hl1.at fun o e => k2 _ _ (kp _ _ e)
  have hl2' : h2.IsList l2 ys := hl2.at fun o e => k2 _ _ (kp _ _ e)
  have hi1' : h2.IsListIter s.heap.objs.size l1 0 := hi1.at fun o e => k2 _ _ e
  have hi2' : h2.IsListIter (s.heap.objs.size + 1) l2 0 := hi2.at fun o e => k2 _ _ e
  have hszS : s.heap.objs.size + 5 ≤ h2.objs.size := by
    exact Heap.lt_size (k2 _ _ hz)
  refine wpAny_bind (wpAny_pyNext_zip_item (s := { s with heap := h2 }) D (k2 _ _ hz) (k2 _ _ hTI) (k2 _ _ hTO) hi1' hi2' hl1' hl2' hx hy fun h3 hz3 hTO3 hi13 hi23 hU hsz3 k3 => ?_)
  have eS3 := k3 S _ (hne _ _ hz) (hne _ _ hTO) sI1 sI2 eS
  have hU3 : h3.get? h2.objs.size = some (tupObj [x, y] 0) := hU
  show wpAny _ _ (updateSeq S (·.push (.ref h2.objs.size)) >>= _) _ _ _
  refine wpAny_bind (wpAny_updateSeq eS3 rfl ?_)
  have eS4 : (h3.update S (Obj.mapSeq (·.push (.ref h2.objs.size)))).get? S = _ := Heap.get?_update_self (Obj.mapSeq (·.push (.ref h2.objs.size))) eS3 rfl
  have hs4 := Heap.SameBut.update h3 S (Obj.mapSeq (·.push (.ref h2.objs.size)))
  generalize h3.update S (Obj.mapSeq (·.push (.ref h2.objs.size))) = h4 at eS4 hs4 ⊢
  have SU : h2.objs.size ≠ S := fun q => by rw [← q] at eS; rw [get_size] at eS; cases eS
  have k4 : ∀ a o, a ≠ S → h3.get? a = some o → h4.get? a = some o := fun a o ha e => (hs4.2 a ha).trans e
  refine wpAny_pure ⟨plainId_quiet PySem.F.plain_extend_loop _, ?_⟩
  refine codeAny_builtin PySem.F.entry_extend_loop ?_
  rw [Around.under_plainId PySem.F.plain_extend_loop _]
  show wpAny _ _ (pyNext (.ref (s.heap.objs.size + 4)) >>= _) _ _ _
  have kl : ∀ a, a < s.heap.objs.size → ∀ o, s.heap.get? a = some o → h4.get? a = some o := fun a ha o e =>
    k4 a o (Ne.symm (hne _ _ (kp _ _ e))) (k3 a o (far ha).1 (far ha).2.1 (far ha).2.2.1 (far ha).2.2.2 (k2 _ _ (kp _ _ e)))
  have hz4 : IsZip h4 (s.heap.objs.size + 4) (s.heap.objs.size + 2) (s.heap.objs.size + 3) (rawInt h2.objs.size) := k4 _ _ (Ne.symm (hne _ _ hz)) hz3
  have hTI4 : IsPair h4 (s.heap.objs.size + 2) (.ref s.heap.objs.size) (.ref (s.heap.objs.size + 1)) := k4 _ _ (Ne.symm (hne _ _ hTI)) (k3 _ _ D.TIz D.TITO D.TIi1 D.TIi2 (k2 _ _ hTI))
  have hi14 : h4.IsListIter s.heap.objs.size l1 1 := hi13.at fun o e => k4 _ _ (Ne.symm sI1) e
  have hi24 : h4.IsListIter (s.heap.objs.size + 1) l2 1 := hi23.at fun o e => k4 _ _ (Ne.symm sI2) e
  have hl14 : h4.IsList l1 xs := hl1.at fun o e => kl _ b1 o e
  have hl24 : h4.IsList l2 ys := hl2.at fun o e => kl _ b2 o e
  have hU4 := k4 _ _ SU hU3
  refine wpAny_bind (next_zip_end (s := { s with heap := h4 }) hh D hz4 hU4 hTI4 hi14 hi24 hl14 hl24 hx' hy' fun h5 k5 => ?_)
  have eS5 := k5 S _ (hne _ _ hz) (hne _ _ hTO) sI1 sI2 eS4
  have hbig : ∀ m n : Nat, n + 5 ≤ m → m ≠ n + 4 ∧ m ≠ n + 3 ∧ m ≠ n ∧ m ≠ n + 1 := by lia
  have hb := hbig _ _ hszS
  have hU5 := k5 _ _ hb.1 hb.2.1 hb.2.2.1 hb.2.2.2 hU4
  refine wpAny_pure ⟨rfl, #[.ref h2.objs.size], _, eS5, Nat.le_of_ble_eq_true rfl, ?_⟩
  have kf : ∀ c o, s.heap.get? c = some o → h5.get? c = some o := fun c o e => by
    have hc := Heap.lt_size e
    exact k5 c o (far hc).1 (far hc).2.1 (far hc).2.2.1 (far hc).2.2.2 (kl c hc o e)
  refine hQ (h5.push { cls := .type "tuple", data := .seq #[.ref h2.objs.size] }) _ h2.objs.size (fun c o e => keep_push _ _ _ _ (kf c o e)) ?_ (get_over (Nat.le_trans (Nat.le_add_right _ 5) hszS)) (keep_push _ _ _ _ hU5) (Heap.get?_push_size _ rfl)
  cases q : s.heap.get? h5.objs.size with
  | none => rfl
  | some o => have := kf _ _ q; rw [get_size] at this; cases this
end
section
variable {G : Gd} {s : Shared} {φ : Phi} {P : List Addr} {σ : Sto} {c : Cx} {ρ : Rho}
noncomputable def zipP : List PV → List PV
  | [x, y] => [.tup [x, y]]
  | _ => []
noncomputable abbrev KZip (Q : Post) : List PV → Sto → Prop := fun vs σ₂ => ∃ a b l, vs = [a, b] ∧ LstV σ₂ a l ∧ LstV σ₂ b l.tail ∧ l.length ≤ 2 ∧ Q (.tup (zipP l)) σ₂
theorem ewp_tuple_zip {ft fz : Expr} {args : List Expr} {p1 p2 : Pos} {Q : Post} (ok : c.G.Ok) (ht : ∀ (σ' : Sto) (Q : Post), Q (.cst (.type "tuple")) σ' → EWP c ft ρ σ' Q) (hz : ∀ (σ' : Sto) (Q : Post), Q (.cst (.type "zip")) σ' → EWP c fz ρ σ' Q)
    (h : LWP c args ρ σ (KZip Q))
    (ha : (backTo p2 (starEach args c.env)).any (·.1) = false := by rfl)
    (he : eval (.Call ft [.Call fz args [] p2] [] p1) c.env = (eval ft c.env >>= fun f => callWith p1 f [] [(false, Bind.bind (eval fz c.env) fun f => callWith p2 f [] (backTo p2 (starEach args c.env)) [])] []) := by rfl) :
    EWP c (.Call ft [.Call fz args [] p2] [] p1) ρ σ Q := by
  intro P s φ I F A hA R E hR
  rw [he]
  refine wpAny_bind (ht σ (fun f σ' => f = .cst (.type "tuple") ∧ σ' = σ) ⟨rfl, rfl⟩ P s φ I F A hA _ E fun fv s₁ φ₁ g₁ pp => pp.e fun f σ₁ I₁ r₁ h₁ => ?_)
  obtain ⟨e1, e2⟩ := h₁
  subst e1 e2
  refine r₁.cstE fun e1 _ => ?_
  subst e1
  have F₁ := F.gr I g₁
  refine callWith_of (P := fun h => c.G.K.In h) (by rfl) (fun h X => keeps_of (f := .cst (.type "tuple")) rfl rfl h X) (evalArgs_all (by rfl) ?_)
  show wpAny _ A (Bind.bind (Bind.bind (eval fz c.env) fun f => callWith p2 f [] (backTo p2 (starEach args c.env)) []) fun v => pure [v] >>= fun here => holding here (spliced []) >>= fun r => pure (here ++ r)) _ _ _
  refine wpAny_bind (wpAny_bind (hz σ₁ (fun f σ' => f = .cst (.type "zip") ∧ σ' = σ₁) ⟨rfl, rfl⟩ P s₁ φ₁ I₁ F₁ A hA _ E fun fv s₂ φ₂ g₂ pp => pp.e fun f σ₂ I₂ r₂ h₂ => ?_))
  obtain ⟨e1, e2⟩ := h₂
  subst e1 e2
  refine r₂.cstE fun e1 _ => ?_
  subst e1
  have F₂ := F₁.gr I₁ g₂
  refine callWith_of (P := fun h => c.G.K.In h) (by rw [ha]; rfl) (fun h X => keeps_of (f := .cst (.type "zip")) rfl rfl h X) (evalArgs_all ha ?_)
  refine h P s₂ φ₂ p2 I₂ F₂ A hA _ E fun vs s₃ φ₃ g₃ pp => pp.e fun pvs σ₃ I₃ r₃ h₃ => ⟨I₃.X ok, ?_⟩
  obtain ⟨a, b, l, ev, Va, Vb, h2, q⟩ := h₃
  subst ev
  refine r₃.twoE fun va vb e3 ra rb => ?_
  subst e3
  have gA : Gr s φ [] s₃ φ₃ := (g₁.trans g₂).trans g₃
  refine Va.open I₃ ra fun x vs m vq ex rx => ?_
  subst vq
  refine Vb.open I₃ rb fun y ws n vq ey ry => ?_
  subst vq
  show wpAny _ A (call (.type "zip") [.ref x, .ref y]) _ _ _
  have hl1 : s₃.heap.IsList x vs.toArray := ⟨_, ex, rfl, m, rfl⟩
  have hl2 : s₃.heap.IsList y ws.toArray := ⟨_, ey, rfl, n, rfl⟩
  have fin : ∀ h' T, (∀ c o, s₃.heap.get? c = some o → h'.get? c = some o) → s₃.heap.get? T = none → VRel c.G h' φ₃ P (.tup (zipP l)) (.ref T) → R (.ref T) { s₃ with heap := h' } := fun h' T kp nT r =>
    hR _ (hs s₃ h' s₃.toks) φ₃ (gA.trans (Gr.keepAll kp)) ⟨_, σ₃, I₃.keepAll kp, r, q⟩
  have Y : ∀ h', (∀ c o, s₃.heap.get? c = some o → h'.get? c = some o) → c.G.K.In h' := fun h' kp => (I₃.keepAll (t := s₃.toks) kp).X ok
  have put : ∀ (zv : Value) (s' : Shared), ((∀ c o, s₃.heap.get? c = some o → s'.heap.get? c = some o) ∧ s' = { s₃ with heap := s'.heap } ∧ wpAny c.G.M A (call (.type "tuple") [zv]) R E s') → wpAny c.G.M A (pure [zv] >>= fun here => holding here (spliced []) >>= fun r => pure (here ++ r)) (fun vs s' => c.G.K.In s'.heap ∧ wpAny c.G.M A (call (.type "tuple") ([] ++ vs) []) R E s') E s' := fun zv s' z =>
    wpAny_bind (wpAny_pure (wpAny_bind (wpAny_holding (wpAny_pure (wpAny_pure ⟨Y _ z.1, z.2.2⟩)))))
  have shape : l = [] ∨ (∃ u, l = [u]) ∨ ∃ u w, l = [u, w] := by
    cases l with
    | nil => exact .inl rfl
    | cons u l =>
    cases l with
    | nil => exact .inr (.inl ⟨u, rfl⟩)
    | cons w l =>
    cases l with
    | nil => exact .inr (.inr ⟨u, w, rfl⟩)
    | cons _ l => exact absurd (Nat.le_of_succ_le_succ (Nat.le_of_succ_le_succ h2)) (Nat.not_succ_le_zero _)
  rcases shape with rfl | ⟨u, rfl⟩ | ⟨u, w, rfl⟩
  · refine rx.nilE fun e => ?_
    subst e
    refine wpAny_mono (tuple_zip0 (Q := R) hA.1 hl1 hl2 (.inl rfl) fun h' T kp nT eT => fin h' T kp nT ?_) put fun _ _ e => e
    exact .tup eT (I₃.fresh nT) .nil
  · refine VRels.nilE ry fun e => ?_
    subst e
    refine wpAny_mono (tuple_zip0 (Q := R) hA.1 hl1 hl2 (.inr rfl) fun h' T kp nT eT => fin h' T kp nT ?_) put fun _ _ e => e
    exact .tup eT (I₃.fresh nT) .nil
  · refine rx.twoE fun v1 v2 e q1 q2 => VRels.oneE ry fun v3 e' q3 => ?_
    subst e e'
    refine wpAny_mono (tuple_zip1 (Q := R) (x := v1) (x' := v2) (y := v3) hA.1 hl1 hl2 rfl rfl rfl rfl fun h' T U kp nT nU eU eT => fin h' T kp nT ?_) put fun _ _ e => e
    have X : Ext s₃.heap φ₃ P h' φ₃ P := Ext.of_keepP (N := []) kp fun _ z => nomatch z
    exact .tup (vs := [.ref U]) eT (I₃.fresh nT) (.cons (.tup (vs := [v1, v3]) eU (I₃.fresh nU) (.cons (q1.ext X) (.cons (q3.ext X) .nil))) .nil)
end
end Mine
namespace Mine
section
variable {prog : Program} {w : World} {A : Around} {E : Value → Shared → Prop} {s : Shared}
theorem eq_forIn {R' : Option Fin × Unit → Shared → Prop} {body : Value × Value → Option Fin × Unit → Sem (ForInStep (Option Fin × Unit))}
    (hb : ∀ x y (R'' : ForInStep (Option Fin × Unit) → Shared → Prop), (∀ (R : Bool → Shared → Prop) (E : Value → Shared → Prop), R true s → wpAny (model prog w) A (eqBool x y) R E s) → R'' (.yield (none, ())) s → wpAny (model prog w) A (body (x, y) (none, ())) R'' E s) :
    ∀ {vs : List Value} {ws : List Value}, (∀ (i : Nat) x y, vs[i]? = some x → ws[i]? = some y → ∀ (R : Bool → Shared → Prop) (E : Value → Shared → Prop), R true s → wpAny (model prog w) A (eqBool x y) R E s) → R' (none, ()) s → wpAny (model prog w) A (forIn (vs.zip ws) (none, ()) body) R' E s := by
  intro vs
  induction vs with
  | nil =>
    intro ws _ h
    rw [List.zip_nil_left, List.forIn_nil]
    exact wpAny_pure h
  | cons x vs ih =>
    intro ws he h
    cases ws with
    | nil =>
      rw [List.zip_nil_right, List.forIn_nil]
      exact wpAny_pure h
    | cons y ws =>
      rw [List.zip_cons_cons, List.forIn_cons]
      refine wpAny_bind (hb x y _ (he 0 x y rfl rfl) ?_)
      exact ih (fun i x y e1 e2 => he (i + 1) x y e1 e2) h
theorem tups_eq {l b : Addr} {vs ws : List Value} {n m : Nat} {Q : Value → Shared → Prop} (hl : s.heap.get? l = some (tupObj vs n)) (hb : s.heap.get? b = some (tupObj ws m)) (hlen : vs.length = ws.length) (hu : A.units < cLine)
    (he : ∀ (i : Nat) x y, vs[i]? = some x → ws[i]? = some y → ∀ (R : Bool → Shared → Prop) (E : Value → Shared → Prop), R true s → wpAny (model prog w) A.in1 (eqBool x y) R E s) (h : Q (.bool true) s) : wpAny (model prog w) A (compareOp .Eq (.ref l) (.ref b)) Q E s := by
  have hTl : s.TypeIs (.ref l) "tuple" := ⟨_, hl, rfl⟩
  have hTb : s.TypeIs (.ref b) "tuple" := ⟨_, hb, rfl⟩
  refine wpAny_richCompare_same_room (op := .Eq) hTl hTb PySem.F.slot_tuple_eq (wpAny_call_entry PySem.F.slot_tuple_eq hTl PySem.F.entry_tuple_eq ?_ (PySem.F.args_tuple_eq_2 _ _)) hu
  obtain ⟨hp, g, d, tk, os⟩ := s
  have hl' : hp.get? l = some { cls := .type "tuple", dict := none, data := .seq vs.toArray n, slots := #[] } := hl
  have hb' : hp.get? b = some { cls := .type "tuple", dict := none, data := .seq ws.toArray m, slots := #[] } := hb
  have hsub : isSubtype (.type "tuple") (.type "tuple") = pure true := by rw [isSubtype_type]; kernel_rfl
  wp_walk using wpAny_loadPart' hl', wpAny_loadPart' hb', wpAny_isInstance hTb hsub
  show wpAny _ _ (forIn (vs.zip ws) ((none, ()) : Option Fin × Unit) _) _ _ _
  refine eq_forIn (fun x y R'' h1 h2 => ?_) he ?_
  · dsimp only
    refine wpAny_bind (h1 _ _ ?_)
    rw [if_neg (by decide)]
    exact wpAny_pure h2
  · dsimp only
    have hs1 : vs.toArray.size = vs.length := List.size_toArray ..
    have hs2 : ws.toArray.size = ws.length := List.size_toArray ..
    refine wpAny_pure ⟨Value.bool (vs.toArray.size == ws.toArray.size), rfl, (fun x => nomatch x), ?_⟩
    rw [hs1, hs2, hlen]
    simpa using h
theorem eqBool_ref {a b : Addr} {R : Bool → Shared → Prop} (h : a ≠ b → ∀ (Q : Value → Shared → Prop), Q (.bool true) s → wpAny (model prog w) A (compareOp .Eq (.ref a) (.ref b)) Q E s) (hR : R true s) : wpAny (model prog w) A (eqBool (.ref a) (.ref b)) R E s := by
  unfold eqBool
  refine wpAny_holding ?_
  by_cases hab : a = b
  · subst hab
    rw [if_pos (by simp)]
    exact wpAny_bind (wpAny_rule (wpAny_pure hR))
  · rw [if_neg (by simpa using hab)]
    exact wpAny_bind (h hab _ (wpAny_truthy_bool hR))
end
section
variable {G : Gd} {s : Shared} {φ : Phi} {P : List Addr} {σ : Sto} {c : Cx} {ρ : Rho}
noncomputable def EqP (σ : Sto) (p q : PV) : Prop := ∃ d e, DatV σ p d ∧ DatV σ q e ∧ SeqAt.shaped d = true ∧ SeqAt.shaped e = true ∧ PyData.eqv d e = true
theorem EqP.at {A : Around} {p q : PV} {v w : Value} (h : EqP σ p q) (I : Inv G s φ P σ) (r1 : VRel G s.heap φ P p v) (r2 : VRel G s.heap φ P q w) (hu : A.in1.units + 64 < cLine) : SeqAt.EqAt A.in1 s v w true := by
  obtain ⟨d, e, d1, d2, h1, h2, h3⟩ := h
  obtain ⟨_, q1⟩ := d1.reads I r1
  obtain ⟨_, q2⟩ := d2.reads I r2
  rw [← h3]
  exact keq_at q1 q2 h1 h2 hu
theorem keqHits {A : Around} (I : Inv G s φ P σ) {d2 : List (Str × PV)} {kb : List (Str × Value)} (r2 : VSP G s.heap φ P d2 kb) (hu : A.in1.units + 64 < cLine) {d1 : List (Str × PV)} : ∀ {ka : List (Str × Value)}, VSP G s.heap φ P d1 ka → (∀ k p, (k, p) ∈ d1 → ∃ q, d2.lookup k = some q ∧ EqP σ p q) → KeqHits A.in1 s kb ka true := by
  induction d1 with
  | nil => exact fun r _ => r.nilE fun q => q ▸ .nil
  | cons f d1 ih =>
    obtain ⟨k, p⟩ := f
    refine fun r h => r.consE fun v vs e a rs => ?_
    subst e
    obtain ⟨q, hq, he⟩ := h k p (.head _)
    obtain ⟨w, hw, rw'⟩ := r2.get hq
    exact KeqHits.hit (e := true) (b := true) hw (he.at I a rw' hu) (ih rs fun k p hm => h k p (.tail _ hm))
theorem o2_eq_tbl {d1 d2 : List (Str × PV)} {xs ys : List PV} {Q : Post} (hd : d1.length = d2.length) (hk : ∀ k p, (k, p) ∈ d1 → ∃ q, d2.lookup k = some q ∧ EqP σ p q) (hx : xs.length = ys.length) (he : ∀ (i : Nat) p q, xs[i]? = some p → ys[i]? = some q → EqP σ p q)
    (q : Q (.bool true) σ) : O2 c (fun v w => operate [v, w] (compareOp .Eq v w)) (.tup (.sd d1 :: xs)) (.tup (.sd d2 :: ys)) σ Q := o2_of fun P s φ v w I r1 r2 => by
  refine r1.tupE fun a vs n q1 e1 f1 rs1 => r2.tupE fun b ws m q2 e2 f2 rs2 => ?_
  subst q1 q2
  intro A hA R E hR
  have hu : A.units + 70 < cLine := by have := hA.2.2; show A.units + 70 < 9900; lia
  refine tups_eq e1 e2 (by rw [rs1.length, rs2.length, List.length_cons, List.length_cons, hx]) (by lia) (fun i x y ex ey R E hR => ?_) (hR _ s φ (Gr.refl ..) ⟨_, σ, I, .bool, q⟩)
  refine VRels.consE rs1 fun v1 vs1 q1 r1' t1 => VRels.consE rs2 fun v2 vs2 q2 r2' t2 => ?_
  subst q1 q2
  cases i with
  | zero =>
    cases ex; cases ey
    refine r1'.sdE fun a1 ka vq m1 g1 z1 q1 => ?_
    subst vq
    refine r2'.sdE fun a2 kb vq m2 g2 z2 q2 => ?_
    subst vq
    refine eqBool_ref (fun hne Q hQ => ?_) hR
    refine keq_eq (r := true) z1 z2 m1 m2 (by show A.units + 1 < cLine; lia) (fun _ => keqHits I q2 (by show A.units + 1 + 1 + 64 < cLine; lia) q1 hk) ?_
    rw [q1.length, q2.length, hd]
    simpa using hQ
  | succ i =>
    have hi : i < xs.length := by
      have := (List.getElem?_eq_some_iff.mp ex).1
      simp only [List.length_cons] at this
      rw [t1.length] at this; lia
    obtain ⟨x', hx', rx⟩ := t1.get (List.getElem?_eq_getElem hi)
    obtain ⟨y', hy', ry⟩ := t2.get (List.getElem?_eq_getElem (hx ▸ hi))
    have ex' : x' = x := by
      have : vs1[i]? = some x := by simpa using ex
      rw [hx'] at this; exact Option.some.inj this
    have ey' : y' = y := by
      have : vs2[i]? = some y := by simpa using ey
      rw [hy'] at this; exact Option.some.inj this
    subst ex' ey'
    exact (he i _ _ (List.getElem?_eq_getElem hi) (List.getElem?_eq_getElem (hx ▸ hi))).at I rx ry (by show A.units + 1 + 64 < cLine; lia) c.G.prog c.G.w E R hR
end
end Mine
namespace Mine

structure Pk where
  prog : Program
  w : World
  h₀ : Heap
  mg : Str → Option Value
  mb : Str → Option Value
noncomputable def Pk.G (p : Pk) : Gd := ⟨p.prog, p.w, hd.heap_39 p.w.params, p.h₀, p.mg, p.mb⟩

noncomputable def fnAt (K : Frag) (a : Addr) : FuncData := match K.lookup a with
  | some ⟨_, _, .func fd, _⟩ => fd
  | _ => default
noncomputable def bodyOf (fd : FuncData) : List Stmt := match fd.body with
  | .stmts b => b
  | _ => []
noncomputable def fd (p : Pk) (a : Addr) : FuncData := fnAt (hd.heap_39 p.w.params) a
noncomputable def bd (p : Pk) (a : Addr) : List Stmt := bodyOf (fd p a)

noncomputable def kindsOk (f : FuncData) (names : List Str) : Bool := names.all fun n => f.scope.names.lookup n == some .local || f.scope.names.lookup n == some .cell
noncomputable def fdTest (K : Frag) (a : Addr) (names : List Str) : Bool := match K.lookup a with
  | some ⟨_, _, .func f, _⟩ => codeIn K f.code f.qualname && ((match f.body with | .stmts _ => true | _ => false) && (decide (f.globals = mainGlobals) && (decide (f.builtins = builtinsNs) && (f.closure.isEmpty && (kindsOk f names && (decide names.Nodup && (decide ((cellsFrom 0 f.scope.names []).map (·.1)).Nodup && (!f.scope.isCoroutine && (!f.scope.isGenerator && decide (f.scope.kind = .function))))))))))
  | _ => false
theorem okFact (p : Pk) (a : Addr) (names : List Str) (h : fdTest p.G.K a names = true) (hb : ∀ vs : List Value, vs.length = names.length → bindArgs (fd p a) ⟨vs, []⟩ = pure (names.zip vs)) : FdOk p.G a (fd p a) names (bd p a) := by
  unfold fdTest at h
  split at h
  · rename_i oc od f osl e
    have ef : fd p a = f := by
      show fnAt p.G.K a = f
      unfold fnAt; rw [e]
    have eb : bd p a = bodyOf f := by unfold bd; rw [ef]
    rw [ef] at hb ⊢
    rw [eb]
    simp only [Bool.and_eq_true, decide_eq_true_eq, Bool.not_eq_true'] at h
    obtain ⟨h1, h2, h3, h4, h5, h6, h7, h8, h9, h10, h11⟩ := h
    refine ⟨⟨oc, od, osl, e⟩, h1, ?_, h3, h4, List.isEmpty_iff.mp h5, hb, h6, h7, h8, h9, h10, h11⟩
    unfold bodyOf
    cases hbd : f.body with
    | stmts b => rfl
    | expr b => rw [hbd] at h2; cases h2
  · cases h
theorem bind0 {F : List Value → Prop} (h : F []) (vs : List Value) : vs.length = 0 → F vs := List.casesOn vs (fun _ => h) (fun _ _ e => nomatch e)
theorem bindS {n : Nat} {F : List Value → Prop} (h : ∀ a vs, vs.length = n → F (a :: vs)) (vs : List Value) : vs.length = n + 1 → F vs := List.casesOn vs (fun e => nomatch e) (fun a r e => h a r (Nat.succ.inj e))
theorem bind1 {F : List Value → Prop} (h : ∀ a, F [a]) : ∀ vs : List Value, vs.length = 1 → F vs := bindS fun a => bind0 (F := fun r => F (a :: r)) (h a)
theorem bind2 {F : List Value → Prop} (h : ∀ a b, F [a, b]) : ∀ vs : List Value, vs.length = 2 → F vs := bindS fun a => bind1 (F := fun r => F (a :: r)) (h a)
theorem bind3 {F : List Value → Prop} (h : ∀ a b c, F [a, b, c]) : ∀ vs : List Value, vs.length = 3 → F vs := bindS fun a => bind2 (F := fun r => F (a :: r)) (h a)
theorem bind4 {F : List Value → Prop} (h : ∀ a b c d, F [a, b, c, d]) : ∀ vs : List Value, vs.length = 4 → F vs := bindS fun a => bind3 (F := fun r => F (a :: r)) (h a)
theorem bind5 {F : List Value → Prop} (h : ∀ a b c d e, F [a, b, c, d, e]) : ∀ vs : List Value, vs.length = 5 → F vs := bindS fun a => bind4 (F := fun r => F (a :: r)) (h a)
theorem ok_minus (p : Pk) : FdOk p.G 143 (fd p 143) ["s", "t"] (bd p 143) := okFact p 143 _ (by kernel_rfl) (bind2 (F := fun vs => bindArgs (fd p 143) ⟨vs, []⟩ = pure ((["s", "t"] : List Str).zip vs)) fun a b => by kernel_rfl)
theorem ok_within (p : Pk) : FdOk p.G 150 (fd p 150) ["s", "t"] (bd p 150) := okFact p 150 _ (by kernel_rfl) (bind2 (F := fun vs => bindArgs (fd p 150) ⟨vs, []⟩ = pure ((["s", "t"] : List Str).zip vs)) fun a b => by kernel_rfl)
theorem ok_uinit (p : Pk) : FdOk p.G 169 (fd p 169) ["self", "names"] (bd p 169) := okFact p 169 _ (by kernel_rfl) (bind2 (F := fun vs => bindArgs (fd p 169) ⟨vs, []⟩ = pure ((["self", "names"] : List Str).zip vs)) fun a b => by kernel_rfl)
theorem ok_usize (p : Pk) : FdOk p.G 176 (fd p 176) ["self"] (bd p 176) := okFact p 176 _ (by kernel_rfl) (bind1 (F := fun vs => bindArgs (fd p 176) ⟨vs, []⟩ = pure ((["self"] : List Str).zip vs)) fun a => by kernel_rfl)
theorem ok_uname (p : Pk) : FdOk p.G 183 (fd p 183) ["self", "a"] (bd p 183) := okFact p 183 _ (by kernel_rfl) (bind2 (F := fun vs => bindArgs (fd p 183) ⟨vs, []⟩ = pure ((["self", "a"] : List Str).zip vs)) fun a b => by kernel_rfl)
theorem ok_binit (p : Pk) : FdOk p.G 225 (fd p 225) ["self", "universe"] (bd p 225) := okFact p 225 _ (by kernel_rfl) (bind2 (F := fun vs => bindArgs (fd p 225) ⟨vs, []⟩ = pure ((["self", "universe"] : List Str).zip vs)) fun a b => by kernel_rfl)
theorem ok_badd (p : Pk) : FdOk p.G 232 (fd p 232) ["self", "name", "arity", "lower", "upper"] (bd p 232) := okFact p 232 _ (by kernel_rfl) (bind5 (F := fun vs => bindArgs (fd p 232) ⟨vs, []⟩ = pure ((["self", "name", "arity", "lower", "upper"] : List Str).zip vs)) fun a b c d e => by kernel_rfl)
theorem ok_bwant (p : Pk) : FdOk p.G 239 (fd p 239) ["self", "name", "arity", "some"] (bd p 239) := okFact p 239 _ (by kernel_rfl) (bind4 (F := fun vs => bindArgs (fd p 239) ⟨vs, []⟩ = pure ((["self", "name", "arity", "some"] : List Str).zip vs)) fun a b c d => by kernel_rfl)
theorem ok_bexact (p : Pk) : FdOk p.G 246 (fd p 246) ["self", "name", "arity", "some"] (bd p 246) := okFact p 246 _ (by kernel_rfl) (bind4 (F := fun vs => bindArgs (fd p 246) ⟨vs, []⟩ = pure ((["self", "name", "arity", "some"] : List Str).zip vs)) fun a b c d => by kernel_rfl)
theorem ok_bbound (p : Pk) : FdOk p.G 253 (fd p 253) ["self", "r"] (bd p 253) := okFact p 253 _ (by kernel_rfl) (bind2 (F := fun vs => bindArgs (fd p 253) ⟨vs, []⟩ = pure ((["self", "r"] : List Str).zip vs)) fun a b => by kernel_rfl)
theorem ok_bsize (p : Pk) : FdOk p.G 260 (fd p 260) ["self"] (bd p 260) := okFact p 260 _ (by kernel_rfl) (bind1 (F := fun vs => bindArgs (fd p 260) ⟨vs, []⟩ = pure ((["self"] : List Str).zip vs)) fun a => by kernel_rfl)
theorem ok_blower (p : Pk) : FdOk p.G 267 (fd p 267) ["self", "r"] (bd p 267) := okFact p 267 _ (by kernel_rfl) (bind2 (F := fun vs => bindArgs (fd p 267) ⟨vs, []⟩ = pure ((["self", "r"] : List Str).zip vs)) fun a b => by kernel_rfl)
theorem ok_bupper (p : Pk) : FdOk p.G 274 (fd p 274) ["self", "r"] (bd p 274) := okFact p 274 _ (by kernel_rfl) (bind2 (F := fun vs => bindArgs (fd p 274) ⟨vs, []⟩ = pure ((["self", "r"] : List Str).zip vs)) fun a b => by kernel_rfl)
theorem ok_ninit (p : Pk) : FdOk p.G 302 (fd p 302) ["self", "signatures", "scope"] (bd p 302) := okFact p 302 _ (by kernel_rfl) (bind3 (F := fun vs => bindArgs (fd p 302) ⟨vs, []⟩ = pure ((["self", "signatures", "scope"] : List Str).zip vs)) fun a b c => by kernel_rfl)
theorem ok_ntake (p : Pk) : FdOk p.G 309 (fd p 309) ["self", "is_exact", "number", "sig"] (bd p 309) := okFact p 309 _ (by kernel_rfl) (bind4 (F := fun vs => bindArgs (fd p 309) ⟨vs, []⟩ = pure ((["self", "is_exact", "number", "sig"] : List Str).zip vs)) fun a b c d => by kernel_rfl)
theorem ok_nusual (p : Pk) : FdOk p.G 314 (fd p 314) ["self", "sig"] (bd p 314) := okFact p 314 _ (by kernel_rfl) (bind2 (F := fun vs => bindArgs (fd p 314) ⟨vs, []⟩ = pure ((["self", "sig"] : List Str).zip vs)) fun a b => by kernel_rfl)
theorem ok_nlot (p : Pk) : FdOk p.G 321 (fd p 321) ["self", "sig"] (bd p 321) := okFact p 321 _ (by kernel_rfl) (bind2 (F := fun vs => bindArgs (fd p 321) ⟨vs, []⟩ = pure ((["self", "sig"] : List Str).zip vs)) fun a b => by kernel_rfl)
theorem ok_nform (p : Pk) : FdOk p.G 328 (fd p 328) ["self", "sig", "r"] (bd p 328) := okFact p 328 _ (by kernel_rfl) (bind3 (F := fun vs => bindArgs (fd p 328) ⟨vs, []⟩ = pure ((["self", "sig", "r"] : List Str).zip vs)) fun a b c => by kernel_rfl)
theorem ok_pinit (p : Pk) : FdOk p.G 349 (fd p 349) ["self", "signatures", "kinds", "lots"] (bd p 349) := okFact p 349 _ (by kernel_rfl) (bind4 (F := fun vs => bindArgs (fd p 349) ⟨vs, []⟩ = pure ((["self", "signatures", "kinds", "lots"] : List Str).zip vs)) fun a b c d => by kernel_rfl)
theorem ok_pof (p : Pk) : FdOk p.G 356 (fd p 356) ["self", "sig"] (bd p 356) := okFact p 356 _ (by kernel_rfl) (bind2 (F := fun vs => bindArgs (fd p 356) ⟨vs, []⟩ = pure ((["self", "sig"] : List Str).zip vs)) fun a b => by kernel_rfl)
theorem ok_cinit (p : Pk) : FdOk p.G 389 (fd p 389) ["self", "signatures", "kinds"] (bd p 389) := okFact p 389 _ (by kernel_rfl) (bind3 (F := fun vs => bindArgs (fd p 389) ⟨vs, []⟩ = pure ((["self", "signatures", "kinds"] : List Str).zip vs)) fun a b c => by kernel_rfl)
theorem ok_catoms (p : Pk) : FdOk p.G 394 (fd p 394) ["self", "numbers"] (bd p 394) := okFact p 394 _ (by kernel_rfl) (bind2 (F := fun vs => bindArgs (fd p 394) ⟨vs, []⟩ = pure ((["self", "numbers"] : List Str).zip vs)) fun a b => by kernel_rfl)
theorem ok_cbounds (p : Pk) : FdOk p.G 399 (fd p 399) ["self", "scope"] (bd p 399) := okFact p 399 _ (by kernel_rfl) (bind2 (F := fun vs => bindArgs (fd p 399) ⟨vs, []⟩ = pure ((["self", "scope"] : List Str).zip vs)) fun a b => by kernel_rfl)
theorem ok_sinit (p : Pk) : FdOk p.G 420 (fd p 420) ["self", "items"] (bd p 420) := okFact p 420 _ (by kernel_rfl) (bind2 (F := fun vs => bindArgs (fd p 420) ⟨vs, []⟩ = pure ((["self", "items"] : List Str).zip vs)) fun a b => by kernel_rfl)
theorem ok_stake (p : Pk) : FdOk p.G 427 (fd p 427) ["self", "item"] (bd p 427) := okFact p 427 _ (by kernel_rfl) (bind2 (F := fun vs => bindArgs (fd p 427) ⟨vs, []⟩ = pure ((["self", "item"] : List Str).zip vs)) fun a b => by kernel_rfl)
theorem ok_slook (p : Pk) : FdOk p.G 434 (fd p 434) ["self", "name"] (bd p 434) := okFact p 434 _ (by kernel_rfl) (bind2 (F := fun vs => bindArgs (fd p 434) ⟨vs, []⟩ = pure ((["self", "name"] : List Str).zip vs)) fun a b => by kernel_rfl)
theorem ok_sdirect (p : Pk) : FdOk p.G 441 (fd p 441) ["self", "name"] (bd p 441) := okFact p 441 _ (by kernel_rfl) (bind2 (F := fun vs => bindArgs (fd p 441) ⟨vs, []⟩ = pure ((["self", "name"] : List Str).zip vs)) fun a b => by kernel_rfl)
theorem ok_sparents (p : Pk) : FdOk p.G 446 (fd p 446) ["self"] (bd p 446) := okFact p 446 _ (by kernel_rfl) (bind1 (F := fun vs => bindArgs (fd p 446) ⟨vs, []⟩ = pure ((["self"] : List Str).zip vs)) fun a => by kernel_rfl)
theorem ok_sallf (p : Pk) : FdOk p.G 453 (fd p 453) ["self"] (bd p 453) := okFact p 453 _ (by kernel_rfl) (bind1 (F := fun vs => bindArgs (fd p 453) ⟨vs, []⟩ = pure ((["self"] : List Str).zip vs)) fun a => by kernel_rfl)
theorem ok_slookf (p : Pk) : FdOk p.G 460 (fd p 460) ["self"] (bd p 460) := okFact p 460 _ (by kernel_rfl) (bind1 (F := fun vs => bindArgs (fd p 460) ⟨vs, []⟩ = pure ((["self"] : List Str).zip vs)) fun a => by kernel_rfl)
theorem ok_sorder (p : Pk) : FdOk p.G 465 (fd p 465) ["self", "item"] (bd p 465) := okFact p 465 _ (by kernel_rfl) (bind2 (F := fun vs => bindArgs (fd p 465) ⟨vs, []⟩ = pure ((["self", "item"] : List Str).zip vs)) fun a b => by kernel_rfl)
theorem ok_snames (p : Pk) : FdOk p.G 472 (fd p 472) ["self"] (bd p 472) := okFact p 472 _ (by kernel_rfl) (bind1 (F := fun vs => bindArgs (fd p 472) ⟨vs, []⟩ = pure ((["self"] : List Str).zip vs)) fun a => by kernel_rfl)
theorem ok_sparent (p : Pk) : FdOk p.G 493 (fd p 493) ["self", "name"] (bd p 493) := okFact p 493 _ (by kernel_rfl) (bind2 (F := fun vs => bindArgs (fd p 493) ⟨vs, []⟩ = pure ((["self", "name"] : List Str).zip vs)) fun a b => by kernel_rfl)
theorem ok_ssupers (p : Pk) : FdOk p.G 500 (fd p 500) ["self", "name"] (bd p 500) := okFact p 500 _ (by kernel_rfl) (bind2 (F := fun vs => bindArgs (fd p 500) ⟨vs, []⟩ = pure ((["self", "name"] : List Str).zip vs)) fun a b => by kernel_rfl)
theorem ok_ssubset (p : Pk) : FdOk p.G 507 (fd p 507) ["self", "name"] (bd p 507) := okFact p 507 _ (by kernel_rfl) (bind2 (F := fun vs => bindArgs (fd p 507) ⟨vs, []⟩ = pure ((["self", "name"] : List Str).zip vs)) fun a b => by kernel_rfl)
theorem ok_schildren (p : Pk) : FdOk p.G 512 (fd p 512) ["self", "name"] (bd p 512) := okFact p 512 _ (by kernel_rfl) (bind2 (F := fun vs => bindArgs (fd p 512) ⟨vs, []⟩ = pure ((["self", "name"] : List Str).zip vs)) fun a b => by kernel_rfl)
theorem ok_sabove (p : Pk) : FdOk p.G 519 (fd p 519) ["self", "name"] (bd p 519) := okFact p 519 _ (by kernel_rfl) (bind2 (F := fun vs => bindArgs (fd p 519) ⟨vs, []⟩ = pure ((["self", "name"] : List Str).zip vs)) fun a b => by kernel_rfl)
theorem ok_stop (p : Pk) : FdOk p.G 526 (fd p 526) ["self", "name"] (bd p 526) := okFact p 526 _ (by kernel_rfl) (bind2 (F := fun vs => bindArgs (fd p 526) ⟨vs, []⟩ = pure ((["self", "name"] : List Str).zip vs)) fun a b => by kernel_rfl)
theorem ok_sabstract (p : Pk) : FdOk p.G 540 (fd p 540) ["self", "name"] (bd p 540) := okFact p 540 _ (by kernel_rfl) (bind2 (F := fun vs => bindArgs (fd p 540) ⟨vs, []⟩ = pure ((["self", "name"] : List Str).zip vs)) fun a b => by kernel_rfl)
theorem ok_smult (p : Pk) : FdOk p.G 547 (fd p 547) ["self", "name"] (bd p 547) := okFact p 547 _ (by kernel_rfl) (bind2 (F := fun vs => bindArgs (fd p 547) ⟨vs, []⟩ = pure ((["self", "name"] : List Str).zip vs)) fun a b => by kernel_rfl)
theorem ok_sfields (p : Pk) : FdOk p.G 554 (fd p 554) ["self"] (bd p 554) := okFact p 554 _ (by kernel_rfl) (bind1 (F := fun vs => bindArgs (fd p 554) ⟨vs, []⟩ = pure ((["self"] : List Str).zip vs)) fun a => by kernel_rfl)
theorem ok_sorders (p : Pk) : FdOk p.G 568 (fd p 568) ["self"] (bd p 568) := okFact p 568 _ (by kernel_rfl) (bind1 (F := fun vs => bindArgs (fd p 568) ⟨vs, []⟩ = pure ((["self"] : List Str).zip vs)) fun a => by kernel_rfl)
theorem ok_draw (p : Pk) : FdOk p.G 582 (fd p 582) ["purse", "many"] (bd p 582) := okFact p 582 _ (by kernel_rfl) (bind2 (F := fun vs => bindArgs (fd p 582) ⟨vs, []⟩ = pure ((["purse", "many"] : List Str).zip vs)) fun a b => by kernel_rfl)
theorem ok_rows (p : Pk) : FdOk p.G 587 (fd p 587) ["purse"] (bd p 587) := okFact p 587 _ (by kernel_rfl) (bind1 (F := fun vs => bindArgs (fd p 587) ⟨vs, []⟩ = pure ((["purse"] : List Str).zip vs)) fun a => by kernel_rfl)
theorem ok_top (p : Pk) : FdOk p.G 592 (fd p 592) ["rows", "name"] (bd p 592) := okFact p 592 _ (by kernel_rfl) (bind2 (F := fun vs => bindArgs (fd p 592) ⟨vs, []⟩ = pure ((["rows", "name"] : List Str).zip vs)) fun a b => by kernel_rfl)
theorem ok_scope (p : Pk) : FdOk p.G 599 (fd p 599) ["purse", "rows"] (bd p 599) := okFact p 599 _ (by kernel_rfl) (bind2 (F := fun vs => bindArgs (fd p 599) ⟨vs, []⟩ = pure ((["purse", "rows"] : List Str).zip vs)) fun a b => by kernel_rfl)
theorem ok_sets (p : Pk) : FdOk p.G 604 (fd p 604) ["atoms"] (bd p 604) := okFact p 604 _ (by kernel_rfl) (bind1 (F := fun vs => bindArgs (fd p 604) ⟨vs, []⟩ = pure ((["atoms"] : List Str).zip vs)) fun a => by kernel_rfl)
theorem ok_lots (p : Pk) : FdOk p.G 609 (fd p 609) ["rows", "scope", "lined"] (bd p 609) := okFact p 609 _ (by kernel_rfl) (bind3 (F := fun vs => bindArgs (fd p 609) ⟨vs, []⟩ = pure ((["rows", "scope", "lined"] : List Str).zip vs)) fun a b c => by kernel_rfl)
theorem ok_due (p : Pk) : FdOk p.G 614 (fd p 614) ["rows", "scope", "lots", "row"] (bd p 614) := okFact p 614 _ (by kernel_rfl) (bind4 (F := fun vs => bindArgs (fd p 614) ⟨vs, []⟩ = pure ((["rows", "scope", "lots", "row"] : List Str).zip vs)) fun a b c d => by kernel_rfl)
theorem ok_let (p : Pk) : FdOk p.G 619 (fd p 619) ["bounds", "labelled", "r", "many"] (bd p 619) := okFact p 619 _ (by kernel_rfl) (bind4 (F := fun vs => bindArgs (fd p 619) ⟨vs, []⟩ = pure ((["bounds", "labelled", "r", "many"] : List Str).zip vs)) fun a b c d => by kernel_rfl)
theorem ok_told (p : Pk) : FdOk p.G 624 (fd p 624) ["rows", "lined", "scope"] (bd p 624) := okFact p 624 _ (by kernel_rfl) (bind3 (F := fun vs => bindArgs (fd p 624) ⟨vs, []⟩ = pure ((["rows", "lined", "scope"] : List Str).zip vs)) fun a b c => by kernel_rfl)
theorem ok_table (p : Pk) : FdOk p.G 629 (fd p 629) ["told"] (bd p 629) := okFact p 629 _ (by kernel_rfl) (bind1 (F := fun vs => bindArgs (fd p 629) ⟨vs, []⟩ = pure ((["told"] : List Str).zip vs)) fun a => by kernel_rfl)
theorem ok_law (p : Pk) : FdOk p.G 634 (fd p 634) ["script"] (bd p 634) := okFact p 634 _ (by kernel_rfl) (bind1 (F := fun vs => bindArgs (fd p 634) ⟨vs, []⟩ = pure ((["script"] : List Str).zip vs)) fun a => by kernel_rfl)
end Mine
namespace Mine
theorem at_207_names (p : Pk) : AttrOk p.G.K 207 "names" := ⟨by kernel_rfl, by kernel_rfl, by kernel_rfl⟩
theorem st_207_names (p : Pk) : StoreOk p.G.K 207 "names" := ⟨by kernel_rfl, by kernel_rfl, by kernel_rfl, by kernel_rfl⟩
theorem at_207_numbers (p : Pk) : AttrOk p.G.K 207 "numbers" := ⟨by kernel_rfl, by kernel_rfl, by kernel_rfl⟩
theorem st_207_numbers (p : Pk) : StoreOk p.G.K 207 "numbers" := ⟨by kernel_rfl, by kernel_rfl, by kernel_rfl, by kernel_rfl⟩
theorem mk_207 (p : Pk) : makesIn p.G.K 207 = true := by kernel_rfl
theorem in_207 (p : Pk) : findIn p.G.K (.ref 207) "__init__" = some (some (.ref 169)) := by kernel_rfl
theorem me_207_size (p : Pk) : plainGet p.G.K 207 "size" = true ∧ findIn p.G.K (.ref 207) "size" = some (some (.ref 176)) ∧ isFn p.G.K (.ref 176) = true := ⟨by kernel_rfl, by kernel_rfl, by kernel_rfl⟩
theorem me_207_name (p : Pk) : plainGet p.G.K 207 "name" = true ∧ findIn p.G.K (.ref 207) "name" = some (some (.ref 183)) ∧ isFn p.G.K (.ref 183) = true := ⟨by kernel_rfl, by kernel_rfl, by kernel_rfl⟩
theorem at_284_universe (p : Pk) : AttrOk p.G.K 284 "universe" := ⟨by kernel_rfl, by kernel_rfl, by kernel_rfl⟩
theorem st_284_universe (p : Pk) : StoreOk p.G.K 284 "universe" := ⟨by kernel_rfl, by kernel_rfl, by kernel_rfl, by kernel_rfl⟩
theorem at_284_bounds (p : Pk) : AttrOk p.G.K 284 "bounds" := ⟨by kernel_rfl, by kernel_rfl, by kernel_rfl⟩
theorem st_284_bounds (p : Pk) : StoreOk p.G.K 284 "bounds" := ⟨by kernel_rfl, by kernel_rfl, by kernel_rfl, by kernel_rfl⟩
theorem at_284_numbers (p : Pk) : AttrOk p.G.K 284 "numbers" := ⟨by kernel_rfl, by kernel_rfl, by kernel_rfl⟩
theorem st_284_numbers (p : Pk) : StoreOk p.G.K 284 "numbers" := ⟨by kernel_rfl, by kernel_rfl, by kernel_rfl, by kernel_rfl⟩
theorem mk_284 (p : Pk) : makesIn p.G.K 284 = true := by kernel_rfl
theorem in_284 (p : Pk) : findIn p.G.K (.ref 284) "__init__" = some (some (.ref 225)) := by kernel_rfl
theorem me_284_add (p : Pk) : plainGet p.G.K 284 "add" = true ∧ findIn p.G.K (.ref 284) "add" = some (some (.ref 232)) ∧ isFn p.G.K (.ref 232) = true := ⟨by kernel_rfl, by kernel_rfl, by kernel_rfl⟩
theorem me_284_want_set (p : Pk) : plainGet p.G.K 284 "want_set" = true ∧ findIn p.G.K (.ref 284) "want_set" = some (some (.ref 239)) ∧ isFn p.G.K (.ref 239) = true := ⟨by kernel_rfl, by kernel_rfl, by kernel_rfl⟩
theorem me_284_exactly (p : Pk) : plainGet p.G.K 284 "exactly" = true ∧ findIn p.G.K (.ref 284) "exactly" = some (some (.ref 246)) ∧ isFn p.G.K (.ref 246) = true := ⟨by kernel_rfl, by kernel_rfl, by kernel_rfl⟩
theorem me_284_bound (p : Pk) : plainGet p.G.K 284 "bound" = true ∧ findIn p.G.K (.ref 284) "bound" = some (some (.ref 253)) ∧ isFn p.G.K (.ref 253) = true := ⟨by kernel_rfl, by kernel_rfl, by kernel_rfl⟩
theorem me_284_size (p : Pk) : plainGet p.G.K 284 "size" = true ∧ findIn p.G.K (.ref 284) "size" = some (some (.ref 260)) ∧ isFn p.G.K (.ref 260) = true := ⟨by kernel_rfl, by kernel_rfl, by kernel_rfl⟩
theorem me_284_lower (p : Pk) : plainGet p.G.K 284 "lower" = true ∧ findIn p.G.K (.ref 284) "lower" = some (some (.ref 267)) ∧ isFn p.G.K (.ref 267) = true := ⟨by kernel_rfl, by kernel_rfl, by kernel_rfl⟩
theorem me_284_upper (p : Pk) : plainGet p.G.K 284 "upper" = true ∧ findIn p.G.K (.ref 284) "upper" = some (some (.ref 274)) ∧ isFn p.G.K (.ref 274) = true := ⟨by kernel_rfl, by kernel_rfl, by kernel_rfl⟩
theorem at_331_signatures (p : Pk) : AttrOk p.G.K 331 "signatures" := ⟨by kernel_rfl, by kernel_rfl, by kernel_rfl⟩
theorem st_331_signatures (p : Pk) : StoreOk p.G.K 331 "signatures" := ⟨by kernel_rfl, by kernel_rfl, by kernel_rfl, by kernel_rfl⟩
theorem at_331_default (p : Pk) : AttrOk p.G.K 331 "default" := ⟨by kernel_rfl, by kernel_rfl, by kernel_rfl⟩
theorem st_331_default (p : Pk) : StoreOk p.G.K 331 "default" := ⟨by kernel_rfl, by kernel_rfl, by kernel_rfl, by kernel_rfl⟩
theorem at_331_told (p : Pk) : AttrOk p.G.K 331 "told" := ⟨by kernel_rfl, by kernel_rfl, by kernel_rfl⟩
theorem st_331_told (p : Pk) : StoreOk p.G.K 331 "told" := ⟨by kernel_rfl, by kernel_rfl, by kernel_rfl, by kernel_rfl⟩
theorem at_331_ordered (p : Pk) : AttrOk p.G.K 331 "ordered" := ⟨by kernel_rfl, by kernel_rfl, by kernel_rfl⟩
theorem st_331_ordered (p : Pk) : StoreOk p.G.K 331 "ordered" := ⟨by kernel_rfl, by kernel_rfl, by kernel_rfl, by kernel_rfl⟩
theorem mk_331 (p : Pk) : makesIn p.G.K 331 = true := by kernel_rfl
theorem in_331 (p : Pk) : findIn p.G.K (.ref 331) "__init__" = some (some (.ref 302)) := by kernel_rfl
theorem me_331_take (p : Pk) : plainGet p.G.K 331 "take" = true ∧ findIn p.G.K (.ref 331) "take" = some (some (.ref 309)) ∧ isFn p.G.K (.ref 309) = true := ⟨by kernel_rfl, by kernel_rfl, by kernel_rfl⟩
theorem me_331_usual_for (p : Pk) : plainGet p.G.K 331 "usual_for" = true ∧ findIn p.G.K (.ref 331) "usual_for" = some (some (.ref 314)) ∧ isFn p.G.K (.ref 314) = true := ⟨by kernel_rfl, by kernel_rfl, by kernel_rfl⟩
theorem me_331_lot_of (p : Pk) : plainGet p.G.K 331 "lot_of" = true ∧ findIn p.G.K (.ref 331) "lot_of" = some (some (.ref 321)) ∧ isFn p.G.K (.ref 321) = true := ⟨by kernel_rfl, by kernel_rfl, by kernel_rfl⟩
theorem me_331_formula_of (p : Pk) : plainGet p.G.K 331 "formula_of" = true ∧ findIn p.G.K (.ref 331) "formula_of" = some (some (.ref 328)) ∧ isFn p.G.K (.ref 328) = true := ⟨by kernel_rfl, by kernel_rfl, by kernel_rfl⟩
theorem at_371_signatures (p : Pk) : AttrOk p.G.K 371 "signatures" := ⟨by kernel_rfl, by kernel_rfl, by kernel_rfl⟩
theorem st_371_signatures (p : Pk) : StoreOk p.G.K 371 "signatures" := ⟨by kernel_rfl, by kernel_rfl, by kernel_rfl, by kernel_rfl⟩
theorem st_371_kinds (p : Pk) : StoreOk p.G.K 371 "kinds" := ⟨by kernel_rfl, by kernel_rfl, by kernel_rfl, by kernel_rfl⟩
theorem at_371_lots (p : Pk) : AttrOk p.G.K 371 "lots" := ⟨by kernel_rfl, by kernel_rfl, by kernel_rfl⟩
theorem st_371_lots (p : Pk) : StoreOk p.G.K 371 "lots" := ⟨by kernel_rfl, by kernel_rfl, by kernel_rfl, by kernel_rfl⟩
theorem st_371_known (p : Pk) : StoreOk p.G.K 371 "known" := ⟨by kernel_rfl, by kernel_rfl, by kernel_rfl, by kernel_rfl⟩
theorem mk_371 (p : Pk) : makesIn p.G.K 371 = true := by kernel_rfl
theorem in_371 (p : Pk) : findIn p.G.K (.ref 371) "__init__" = some (some (.ref 349)) := by kernel_rfl
theorem me_371_of_sig (p : Pk) : plainGet p.G.K 371 "of_sig" = true ∧ findIn p.G.K (.ref 371) "of_sig" = some (some (.ref 356)) ∧ isFn p.G.K (.ref 356) = true := ⟨by kernel_rfl, by kernel_rfl, by kernel_rfl⟩
theorem at_402_signatures (p : Pk) : AttrOk p.G.K 402 "signatures" := ⟨by kernel_rfl, by kernel_rfl, by kernel_rfl⟩
theorem st_402_signatures (p : Pk) : StoreOk p.G.K 402 "signatures" := ⟨by kernel_rfl, by kernel_rfl, by kernel_rfl, by kernel_rfl⟩
theorem at_402_kinds (p : Pk) : AttrOk p.G.K 402 "kinds" := ⟨by kernel_rfl, by kernel_rfl, by kernel_rfl⟩
theorem st_402_kinds (p : Pk) : StoreOk p.G.K 402 "kinds" := ⟨by kernel_rfl, by kernel_rfl, by kernel_rfl, by kernel_rfl⟩
theorem mk_402 (p : Pk) : makesIn p.G.K 402 = true := by kernel_rfl
theorem in_402 (p : Pk) : findIn p.G.K (.ref 402) "__init__" = some (some (.ref 389)) := by kernel_rfl
theorem me_402_atoms_of (p : Pk) : plainGet p.G.K 402 "atoms_of" = true ∧ findIn p.G.K (.ref 402) "atoms_of" = some (some (.ref 394)) ∧ isFn p.G.K (.ref 394) = true := ⟨by kernel_rfl, by kernel_rfl, by kernel_rfl⟩
theorem me_402_bounds_of (p : Pk) : plainGet p.G.K 402 "bounds_of" = true ∧ findIn p.G.K (.ref 402) "bounds_of" = some (some (.ref 399)) ∧ isFn p.G.K (.ref 399) = true := ⟨by kernel_rfl, by kernel_rfl, by kernel_rfl⟩
theorem at_571_entries (p : Pk) : AttrOk p.G.K 571 "entries" := ⟨by kernel_rfl, by kernel_rfl, by kernel_rfl⟩
theorem st_571_entries (p : Pk) : StoreOk p.G.K 571 "entries" := ⟨by kernel_rfl, by kernel_rfl, by kernel_rfl, by kernel_rfl⟩
theorem at_571_stands (p : Pk) : AttrOk p.G.K 571 "stands" := ⟨by kernel_rfl, by kernel_rfl, by kernel_rfl⟩
theorem st_571_stands (p : Pk) : StoreOk p.G.K 571 "stands" := ⟨by kernel_rfl, by kernel_rfl, by kernel_rfl, by kernel_rfl⟩
theorem at_571_opened (p : Pk) : AttrOk p.G.K 571 "opened" := ⟨by kernel_rfl, by kernel_rfl, by kernel_rfl⟩
theorem st_571_opened (p : Pk) : StoreOk p.G.K 571 "opened" := ⟨by kernel_rfl, by kernel_rfl, by kernel_rfl, by kernel_rfl⟩
theorem at_571_ordered (p : Pk) : AttrOk p.G.K 571 "ordered" := ⟨by kernel_rfl, by kernel_rfl, by kernel_rfl⟩
theorem st_571_ordered (p : Pk) : StoreOk p.G.K 571 "ordered" := ⟨by kernel_rfl, by kernel_rfl, by kernel_rfl, by kernel_rfl⟩
theorem at_571_own_fields (p : Pk) : AttrOk p.G.K 571 "own_fields" := ⟨by kernel_rfl, by kernel_rfl, by kernel_rfl⟩
theorem st_571_own_fields (p : Pk) : StoreOk p.G.K 571 "own_fields" := ⟨by kernel_rfl, by kernel_rfl, by kernel_rfl, by kernel_rfl⟩
theorem mk_571 (p : Pk) : makesIn p.G.K 571 = true := by kernel_rfl
theorem in_571 (p : Pk) : findIn p.G.K (.ref 571) "__init__" = some (some (.ref 420)) := by kernel_rfl
theorem me_571_take_sig (p : Pk) : plainGet p.G.K 571 "take_sig" = true ∧ findIn p.G.K (.ref 571) "take_sig" = some (some (.ref 427)) ∧ isFn p.G.K (.ref 427) = true := ⟨by kernel_rfl, by kernel_rfl, by kernel_rfl⟩
theorem me_571_look_above (p : Pk) : plainGet p.G.K 571 "look_above" = true ∧ findIn p.G.K (.ref 571) "look_above" = some (some (.ref 434)) ∧ isFn p.G.K (.ref 434) = true := ⟨by kernel_rfl, by kernel_rfl, by kernel_rfl⟩
theorem me_571_direct (p : Pk) : plainGet p.G.K 571 "direct" = true ∧ findIn p.G.K (.ref 571) "direct" = some (some (.ref 441)) ∧ isFn p.G.K (.ref 441) = true := ⟨by kernel_rfl, by kernel_rfl, by kernel_rfl⟩
theorem me_571_parents_first (p : Pk) : plainGet p.G.K 571 "parents_first" = true ∧ findIn p.G.K (.ref 571) "parents_first" = some (some (.ref 446)) ∧ isFn p.G.K (.ref 446) = true := ⟨by kernel_rfl, by kernel_rfl, by kernel_rfl⟩
theorem me_571_all_fields (p : Pk) : plainGet p.G.K 571 "all_fields" = true ∧ findIn p.G.K (.ref 571) "all_fields" = some (some (.ref 453)) ∧ isFn p.G.K (.ref 453) = true := ⟨by kernel_rfl, by kernel_rfl, by kernel_rfl⟩
theorem me_571_look_fields (p : Pk) : plainGet p.G.K 571 "look_fields" = true ∧ findIn p.G.K (.ref 571) "look_fields" = some (some (.ref 460)) ∧ isFn p.G.K (.ref 460) = true := ⟨by kernel_rfl, by kernel_rfl, by kernel_rfl⟩
theorem me_571_take_order (p : Pk) : plainGet p.G.K 571 "take_order" = true ∧ findIn p.G.K (.ref 571) "take_order" = some (some (.ref 465)) ∧ isFn p.G.K (.ref 465) = true := ⟨by kernel_rfl, by kernel_rfl, by kernel_rfl⟩
theorem me_571_names (p : Pk) : plainGet p.G.K 571 "names" = true ∧ findIn p.G.K (.ref 571) "names" = some (some (.ref 472)) ∧ isFn p.G.K (.ref 472) = true := ⟨by kernel_rfl, by kernel_rfl, by kernel_rfl⟩
theorem me_571_parent (p : Pk) : plainGet p.G.K 571 "parent" = true ∧ findIn p.G.K (.ref 571) "parent" = some (some (.ref 493)) ∧ isFn p.G.K (.ref 493) = true := ⟨by kernel_rfl, by kernel_rfl, by kernel_rfl⟩
theorem me_571_supers (p : Pk) : plainGet p.G.K 571 "supers" = true ∧ findIn p.G.K (.ref 571) "supers" = some (some (.ref 500)) ∧ isFn p.G.K (.ref 500) = true := ⟨by kernel_rfl, by kernel_rfl, by kernel_rfl⟩
theorem me_571_is_subset (p : Pk) : plainGet p.G.K 571 "is_subset" = true ∧ findIn p.G.K (.ref 571) "is_subset" = some (some (.ref 507)) ∧ isFn p.G.K (.ref 507) = true := ⟨by kernel_rfl, by kernel_rfl, by kernel_rfl⟩
theorem me_571_children (p : Pk) : plainGet p.G.K 571 "children" = true ∧ findIn p.G.K (.ref 571) "children" = some (some (.ref 512)) ∧ isFn p.G.K (.ref 512) = true := ⟨by kernel_rfl, by kernel_rfl, by kernel_rfl⟩
theorem me_571_above (p : Pk) : plainGet p.G.K 571 "above" = true ∧ findIn p.G.K (.ref 571) "above" = some (some (.ref 519)) ∧ isFn p.G.K (.ref 519) = true := ⟨by kernel_rfl, by kernel_rfl, by kernel_rfl⟩
theorem me_571_top (p : Pk) : plainGet p.G.K 571 "top" = true ∧ findIn p.G.K (.ref 571) "top" = some (some (.ref 526)) ∧ isFn p.G.K (.ref 526) = true := ⟨by kernel_rfl, by kernel_rfl, by kernel_rfl⟩
theorem me_571_is_abstract (p : Pk) : plainGet p.G.K 571 "is_abstract" = true ∧ findIn p.G.K (.ref 571) "is_abstract" = some (some (.ref 540)) ∧ isFn p.G.K (.ref 540) = true := ⟨by kernel_rfl, by kernel_rfl, by kernel_rfl⟩
theorem me_571_mult (p : Pk) : plainGet p.G.K 571 "mult" = true ∧ findIn p.G.K (.ref 571) "mult" = some (some (.ref 547)) ∧ isFn p.G.K (.ref 547) = true := ⟨by kernel_rfl, by kernel_rfl, by kernel_rfl⟩
theorem me_571_fields (p : Pk) : plainGet p.G.K 571 "fields" = true ∧ findIn p.G.K (.ref 571) "fields" = some (some (.ref 554)) ∧ isFn p.G.K (.ref 554) = true := ⟨by kernel_rfl, by kernel_rfl, by kernel_rfl⟩
theorem me_571_orders (p : Pk) : plainGet p.G.K 571 "orders" = true ∧ findIn p.G.K (.ref 571) "orders" = some (some (.ref 568)) ∧ isFn p.G.K (.ref 568) = true := ⟨by kernel_rfl, by kernel_rfl, by kernel_rfl⟩
theorem g_minus (p : Pk) : nsIn p.G.K mainGlobals "minus" = some (some (.ref 143)) := by kernel_rfl
theorem k_143 (p : Pk) : keepsOf p.G.K (.cst (.ref 143)) = true := by kernel_rfl
theorem g_is_within (p : Pk) : nsIn p.G.K mainGlobals "is_within" = some (some (.ref 150)) := by kernel_rfl
theorem k_150 (p : Pk) : keepsOf p.G.K (.cst (.ref 150)) = true := by kernel_rfl
theorem g_Universe (p : Pk) : nsIn p.G.K mainGlobals "Universe" = some (some (.ref 207)) := by kernel_rfl
theorem k_207 (p : Pk) : keepsOf p.G.K (.cst (.ref 207)) = true := by kernel_rfl
theorem g_Bounds (p : Pk) : nsIn p.G.K mainGlobals "Bounds" = some (some (.ref 284)) := by kernel_rfl
theorem k_284 (p : Pk) : keepsOf p.G.K (.cst (.ref 284)) = true := by kernel_rfl
theorem g_Numbers (p : Pk) : nsIn p.G.K mainGlobals "Numbers" = some (some (.ref 331)) := by kernel_rfl
theorem k_331 (p : Pk) : keepsOf p.G.K (.cst (.ref 331)) = true := by kernel_rfl
theorem g_Uppers (p : Pk) : nsIn p.G.K mainGlobals "Uppers" = some (some (.ref 371)) := by kernel_rfl
theorem k_371 (p : Pk) : keepsOf p.G.K (.cst (.ref 371)) = true := by kernel_rfl
theorem g_Scopes (p : Pk) : nsIn p.G.K mainGlobals "Scopes" = some (some (.ref 402)) := by kernel_rfl
theorem k_402 (p : Pk) : keepsOf p.G.K (.cst (.ref 402)) = true := by kernel_rfl
theorem g_Signatures (p : Pk) : nsIn p.G.K mainGlobals "Signatures" = some (some (.ref 571)) := by kernel_rfl
theorem k_571 (p : Pk) : keepsOf p.G.K (.cst (.ref 571)) = true := by kernel_rfl
theorem g__law_draw (p : Pk) : nsIn p.G.K mainGlobals "_law_draw" = some (some (.ref 582)) := by kernel_rfl
theorem k_582 (p : Pk) : keepsOf p.G.K (.cst (.ref 582)) = true := by kernel_rfl
theorem g__law_rows (p : Pk) : nsIn p.G.K mainGlobals "_law_rows" = some (some (.ref 587)) := by kernel_rfl
theorem k_587 (p : Pk) : keepsOf p.G.K (.cst (.ref 587)) = true := by kernel_rfl
theorem g__law_top (p : Pk) : nsIn p.G.K mainGlobals "_law_top" = some (some (.ref 592)) := by kernel_rfl
theorem k_592 (p : Pk) : keepsOf p.G.K (.cst (.ref 592)) = true := by kernel_rfl
theorem g__law_scope (p : Pk) : nsIn p.G.K mainGlobals "_law_scope" = some (some (.ref 599)) := by kernel_rfl
theorem k_599 (p : Pk) : keepsOf p.G.K (.cst (.ref 599)) = true := by kernel_rfl
theorem g__law_sets (p : Pk) : nsIn p.G.K mainGlobals "_law_sets" = some (some (.ref 604)) := by kernel_rfl
theorem k_604 (p : Pk) : keepsOf p.G.K (.cst (.ref 604)) = true := by kernel_rfl
theorem g__law_lots (p : Pk) : nsIn p.G.K mainGlobals "_law_lots" = some (some (.ref 609)) := by kernel_rfl
theorem k_609 (p : Pk) : keepsOf p.G.K (.cst (.ref 609)) = true := by kernel_rfl
theorem g__law_due (p : Pk) : nsIn p.G.K mainGlobals "_law_due" = some (some (.ref 614)) := by kernel_rfl
theorem k_614 (p : Pk) : keepsOf p.G.K (.cst (.ref 614)) = true := by kernel_rfl
theorem g__law_let (p : Pk) : nsIn p.G.K mainGlobals "_law_let" = some (some (.ref 619)) := by kernel_rfl
theorem k_619 (p : Pk) : keepsOf p.G.K (.cst (.ref 619)) = true := by kernel_rfl
theorem g__law_told (p : Pk) : nsIn p.G.K mainGlobals "_law_told" = some (some (.ref 624)) := by kernel_rfl
theorem k_624 (p : Pk) : keepsOf p.G.K (.cst (.ref 624)) = true := by kernel_rfl
theorem g__law_table (p : Pk) : nsIn p.G.K mainGlobals "_law_table" = some (some (.ref 629)) := by kernel_rfl
theorem k_629 (p : Pk) : keepsOf p.G.K (.cst (.ref 629)) = true := by kernel_rfl
theorem k_176 (p : Pk) : keepsOf p.G.K (.cst (.ref 176)) = true := by kernel_rfl
theorem k_183 (p : Pk) : keepsOf p.G.K (.cst (.ref 183)) = true := by kernel_rfl
theorem k_232 (p : Pk) : keepsOf p.G.K (.cst (.ref 232)) = true := by kernel_rfl
theorem k_239 (p : Pk) : keepsOf p.G.K (.cst (.ref 239)) = true := by kernel_rfl
theorem k_246 (p : Pk) : keepsOf p.G.K (.cst (.ref 246)) = true := by kernel_rfl
theorem k_253 (p : Pk) : keepsOf p.G.K (.cst (.ref 253)) = true := by kernel_rfl
theorem k_260 (p : Pk) : keepsOf p.G.K (.cst (.ref 260)) = true := by kernel_rfl
theorem k_267 (p : Pk) : keepsOf p.G.K (.cst (.ref 267)) = true := by kernel_rfl
theorem k_274 (p : Pk) : keepsOf p.G.K (.cst (.ref 274)) = true := by kernel_rfl
theorem k_309 (p : Pk) : keepsOf p.G.K (.cst (.ref 309)) = true := by kernel_rfl
theorem k_314 (p : Pk) : keepsOf p.G.K (.cst (.ref 314)) = true := by kernel_rfl
theorem k_321 (p : Pk) : keepsOf p.G.K (.cst (.ref 321)) = true := by kernel_rfl
theorem k_328 (p : Pk) : keepsOf p.G.K (.cst (.ref 328)) = true := by kernel_rfl
theorem k_356 (p : Pk) : keepsOf p.G.K (.cst (.ref 356)) = true := by kernel_rfl
theorem k_394 (p : Pk) : keepsOf p.G.K (.cst (.ref 394)) = true := by kernel_rfl
theorem k_399 (p : Pk) : keepsOf p.G.K (.cst (.ref 399)) = true := by kernel_rfl
theorem k_427 (p : Pk) : keepsOf p.G.K (.cst (.ref 427)) = true := by kernel_rfl
theorem k_434 (p : Pk) : keepsOf p.G.K (.cst (.ref 434)) = true := by kernel_rfl
theorem k_441 (p : Pk) : keepsOf p.G.K (.cst (.ref 441)) = true := by kernel_rfl
theorem k_446 (p : Pk) : keepsOf p.G.K (.cst (.ref 446)) = true := by kernel_rfl
theorem k_453 (p : Pk) : keepsOf p.G.K (.cst (.ref 453)) = true := by kernel_rfl
theorem k_460 (p : Pk) : keepsOf p.G.K (.cst (.ref 460)) = true := by kernel_rfl
theorem k_465 (p : Pk) : keepsOf p.G.K (.cst (.ref 465)) = true := by kernel_rfl
theorem k_472 (p : Pk) : keepsOf p.G.K (.cst (.ref 472)) = true := by kernel_rfl
theorem k_493 (p : Pk) : keepsOf p.G.K (.cst (.ref 493)) = true := by kernel_rfl
theorem k_500 (p : Pk) : keepsOf p.G.K (.cst (.ref 500)) = true := by kernel_rfl
theorem k_507 (p : Pk) : keepsOf p.G.K (.cst (.ref 507)) = true := by kernel_rfl
theorem k_512 (p : Pk) : keepsOf p.G.K (.cst (.ref 512)) = true := by kernel_rfl
theorem k_519 (p : Pk) : keepsOf p.G.K (.cst (.ref 519)) = true := by kernel_rfl
theorem k_526 (p : Pk) : keepsOf p.G.K (.cst (.ref 526)) = true := by kernel_rfl
theorem k_540 (p : Pk) : keepsOf p.G.K (.cst (.ref 540)) = true := by kernel_rfl
theorem k_547 (p : Pk) : keepsOf p.G.K (.cst (.ref 547)) = true := by kernel_rfl
theorem k_554 (p : Pk) : keepsOf p.G.K (.cst (.ref 554)) = true := by kernel_rfl
theorem k_568 (p : Pk) : keepsOf p.G.K (.cst (.ref 568)) = true := by kernel_rfl
theorem bb_len : bootBuiltins "len" = some (.builtin "len") := by kernel_rfl
theorem nb_len (p : Pk) : nsIn p.G.K mainGlobals "len" = some none := by kernel_rfl
theorem bb_range : bootBuiltins "range" = some (.type "range") := by kernel_rfl
theorem nb_range (p : Pk) : nsIn p.G.K mainGlobals "range" = some none := by kernel_rfl
theorem bb_list : bootBuiltins "list" = some (.type "list") := by kernel_rfl
theorem nb_list (p : Pk) : nsIn p.G.K mainGlobals "list" = some none := by kernel_rfl
theorem bb_tuple : bootBuiltins "tuple" = some (.type "tuple") := by kernel_rfl
theorem nb_tuple (p : Pk) : nsIn p.G.K mainGlobals "tuple" = some none := by kernel_rfl
theorem bb_dict : bootBuiltins "dict" = some (.type "dict") := by kernel_rfl
theorem nb_dict (p : Pk) : nsIn p.G.K mainGlobals "dict" = some none := by kernel_rfl
theorem bb_str : bootBuiltins "str" = some (.type "str") := by kernel_rfl
theorem nb_str (p : Pk) : nsIn p.G.K mainGlobals "str" = some none := by kernel_rfl
theorem bb_int : bootBuiltins "int" = some (.type "int") := by kernel_rfl
theorem nb_int (p : Pk) : nsIn p.G.K mainGlobals "int" = some none := by kernel_rfl
theorem bb_bool : bootBuiltins "bool" = some (.type "bool") := by kernel_rfl
theorem nb_bool (p : Pk) : nsIn p.G.K mainGlobals "bool" = some none := by kernel_rfl
theorem bb_abs : bootBuiltins "abs" = some (.builtin "abs") := by kernel_rfl
theorem nb_abs (p : Pk) : nsIn p.G.K mainGlobals "abs" = some none := by kernel_rfl
theorem bb_min : bootBuiltins "min" = some (.builtin "min") := by kernel_rfl
theorem nb_min (p : Pk) : nsIn p.G.K mainGlobals "min" = some none := by kernel_rfl
theorem bb_sorted : bootBuiltins "sorted" = some (.builtin "sorted") := by kernel_rfl
theorem nb_sorted (p : Pk) : nsIn p.G.K mainGlobals "sorted" = some none := by kernel_rfl
theorem bb_isinstance : bootBuiltins "isinstance" = some (.builtin "isinstance") := by kernel_rfl
theorem nb_isinstance (p : Pk) : nsIn p.G.K mainGlobals "isinstance" = some none := by kernel_rfl
theorem bb_zip : bootBuiltins "zip" = some (.type "zip") := by kernel_rfl
theorem nb_zip (p : Pk) : nsIn p.G.K mainGlobals "zip" = some none := by kernel_rfl
theorem g_MOST_ATOMS (p : Pk) : nsIn p.G.K mainGlobals "MOST_ATOMS" = some (some (.int 500 551)) := by kernel_rfl
theorem g_ORDERING (p : Pk) : nsIn p.G.K mainGlobals "ORDERING" = some (some (.str "util/ordering" 741)) := by kernel_rfl
end Mine
namespace Mine
inductive Nm : Str → PV → Prop
  | nlen : Nm "len" (.cst (.builtin "len"))
  | nrange : Nm "range" (.cst (.type "range"))
  | nlist : Nm "list" (.cst (.type "list"))
  | ntuple : Nm "tuple" (.cst (.type "tuple"))
  | ndict : Nm "dict" (.cst (.type "dict"))
  | nstr : Nm "str" (.cst (.type "str"))
  | nint : Nm "int" (.cst (.type "int"))
  | nbool : Nm "bool" (.cst (.type "bool"))
  | nabs : Nm "abs" (.cst (.builtin "abs"))
  | nmin : Nm "min" (.cst (.builtin "min"))
  | nsorted : Nm "sorted" (.cst (.builtin "sorted"))
  | nisinstance : Nm "isinstance" (.cst (.builtin "isinstance"))
  | nzip : Nm "zip" (.cst (.type "zip"))
  | nminus : Nm "minus" (.cst (.ref 143))
  | niswithin : Nm "is_within" (.cst (.ref 150))
  | nuniverse : Nm "Universe" (.cst (.ref 207))
  | nbounds : Nm "Bounds" (.cst (.ref 284))
  | nnumbers : Nm "Numbers" (.cst (.ref 331))
  | nuppers : Nm "Uppers" (.cst (.ref 371))
  | nscopes : Nm "Scopes" (.cst (.ref 402))
  | nsignatures : Nm "Signatures" (.cst (.ref 571))
  | nldraw : Nm "_law_draw" (.cst (.ref 582))
  | nlrows : Nm "_law_rows" (.cst (.ref 587))
  | nltop : Nm "_law_top" (.cst (.ref 592))
  | nlscope : Nm "_law_scope" (.cst (.ref 599))
  | nlsets : Nm "_law_sets" (.cst (.ref 604))
  | nllots : Nm "_law_lots" (.cst (.ref 609))
  | nldue : Nm "_law_due" (.cst (.ref 614))
  | nllet : Nm "_law_let" (.cst (.ref 619))
  | nltold : Nm "_law_told" (.cst (.ref 624))
  | nltable : Nm "_law_table" (.cst (.ref 629))
  | nmostatoms : Nm "MOST_ATOMS" (.int 500)
  | nordering : Nm "ORDERING" (.str "util/ordering")
theorem eb_any {p : Pk} {k : Nat} {env : Env} {ρ : Rho} {σ : Sto} {pos : Pos} {x : Str} {v : PV} {Q : Post} (ok : p.G.Ok) (h : Nm x v) (hk : env.kindOf x = some .globalImplicit) (q : Q v σ) : EWP ⟨p.G, k, env⟩ (.Name x pos) ρ σ Q := by
  exact Nm.rec (motive := fun x v _ => env.kindOf x = some .globalImplicit → Q v σ → EWP ⟨p.G, k, env⟩ (.Name x pos) ρ σ Q)
    (fun hk q => ewp_builtin ok hk (nb_len p) bb_len (by decide) rfl q)
    (fun hk q => ewp_builtin ok hk (nb_range p) bb_range (by decide) rfl q)
    (fun hk q => ewp_builtin ok hk (nb_list p) bb_list (by decide) rfl q)
    (fun hk q => ewp_builtin ok hk (nb_tuple p) bb_tuple (by decide) rfl q)
    (fun hk q => ewp_builtin ok hk (nb_dict p) bb_dict (by decide) rfl q)
    (fun hk q => ewp_builtin ok hk (nb_str p) bb_str (by decide) rfl q)
    (fun hk q => ewp_builtin ok hk (nb_int p) bb_int (by decide) rfl q)
    (fun hk q => ewp_builtin ok hk (nb_bool p) bb_bool (by decide) rfl q)
    (fun hk q => ewp_builtin ok hk (nb_abs p) bb_abs (by decide) rfl q)
    (fun hk q => ewp_builtin ok hk (nb_min p) bb_min (by decide) rfl q)
    (fun hk q => ewp_builtin ok hk (nb_sorted p) bb_sorted (by decide) rfl q)
    (fun hk q => ewp_builtin ok hk (nb_isinstance p) bb_isinstance (by decide) rfl q)
    (fun hk q => ewp_builtin ok hk (nb_zip p) bb_zip (by decide) rfl q)
    (fun hk q => ewp_global ok hk (g_minus p) rfl q)
    (fun hk q => ewp_global ok hk (g_is_within p) rfl q)
    (fun hk q => ewp_global ok hk (g_Universe p) rfl q)
    (fun hk q => ewp_global ok hk (g_Bounds p) rfl q)
    (fun hk q => ewp_global ok hk (g_Numbers p) rfl q)
    (fun hk q => ewp_global ok hk (g_Uppers p) rfl q)
    (fun hk q => ewp_global ok hk (g_Scopes p) rfl q)
    (fun hk q => ewp_global ok hk (g_Signatures p) rfl q)
    (fun hk q => ewp_global ok hk (g__law_draw p) rfl q)
    (fun hk q => ewp_global ok hk (g__law_rows p) rfl q)
    (fun hk q => ewp_global ok hk (g__law_top p) rfl q)
    (fun hk q => ewp_global ok hk (g__law_scope p) rfl q)
    (fun hk q => ewp_global ok hk (g__law_sets p) rfl q)
    (fun hk q => ewp_global ok hk (g__law_lots p) rfl q)
    (fun hk q => ewp_global ok hk (g__law_due p) rfl q)
    (fun hk q => ewp_global ok hk (g__law_let p) rfl q)
    (fun hk q => ewp_global ok hk (g__law_told p) rfl q)
    (fun hk q => ewp_global ok hk (g__law_table p) rfl q)
    (fun hk q => ewp_globalInt ok hk (g_MOST_ATOMS p) q)
    (fun hk q => ewp_globalStr ok hk (g_ORDERING p) q) h hk q
theorem keeps_bi {K : Frag} {id : String} : keepsOf K (.cst (.builtin id)) = true := rfl
theorem keeps_ty {K : Frag} {id : String} : keepsOf K (.cst (.type id)) = true := rfl
theorem iteT {A B : Prop} (h : A) : if true = true then A else B := by rw [if_pos rfl]; exact h
theorem iteF {A B : Prop} (h : B) : if false = true then A else B := by rw [if_neg (by decide)]; exact h
theorem iteNT {A B : Prop} (h : B) : if (!true) = true then A else B := by rw [if_neg (by decide)]; exact h
theorem iteNF {A B : Prop} (h : A) : if (!false) = true then A else B := by rw [if_pos (by decide)]; exact h
theorem iteD {p : Prop} [Decidable p] {A B : Prop} (hp : p) (h : A) : if decide p = true then A else B := by rw [decide_eq_true hp]; exact h
theorem iteDN {p : Prop} [Decidable p] {A B : Prop} (hp : ¬p) (h : B) : if decide p = true then A else B := by rw [decide_eq_false hp]; exact iteF h
theorem iteND {p : Prop} [Decidable p] {A B : Prop} (hp : p) (h : B) : if (!decide p) = true then A else B := by rw [decide_eq_true hp]; exact iteNT h
theorem iteNDN {p : Prop} [Decidable p] {A B : Prop} (hp : ¬p) (h : A) : if (!decide p) = true then A else B := by rw [decide_eq_false hp]; exact iteNF h
theorem bls_nilO {c : Cx} {ρ : Rho} {σ : Sto} {Q : Bool → Sto → Prop} (h : Q false σ) : BLs c .Or [] ρ σ Q := bls_nil h
theorem bls_nilA {c : Cx} {ρ : Rho} {σ : Sto} {Q : Bool → Sto → Prop} (h : Q true σ) : BLs c .And [] ρ σ Q := bls_nil h
noncomputable def M1 (c : Cx) (ov : PV) (name : Str) (σ : Sto) (f : PV) : Prop := MWP c ov name σ fun f' first σ₂ => f' = f ∧ first = [ov] ∧ σ₂ = σ
noncomputable abbrev KMA (c : Cx) (f ov : PV) (Q : Post) : List PV → Sto → Prop := fun vs σ₃ => CWP c f (ov :: vs) σ₃ Q
noncomputable abbrev KM (c : Cx) (name : Str) (args : List Expr) (ρ : Rho) (Q : Post) : Post := fun ov σ₁ => ∃ f, M1 c ov name σ₁ f ∧ keepsOf c.G.K f = true ∧ LWP c args ρ σ₁ (KMA c f ov Q)
theorem an2 {a b C : Prop} (k : a → b → C) (h : a ∧ b) : C := k h.1 h.2
theorem an3 {a b c C : Prop} (k : a → b → c → C) (h : a ∧ b ∧ c) : C := k h.1 h.2.1 h.2.2
theorem an4 {a b c d C : Prop} (k : a → b → c → d → C) (h : a ∧ b ∧ c ∧ d) : C := k h.1 h.2.1 h.2.2.1 h.2.2.2
theorem an5 {a b c d e C : Prop} (k : a → b → c → d → e → C) (h : a ∧ b ∧ c ∧ d ∧ e) : C := k h.1 h.2.1 h.2.2.1 h.2.2.2.1 h.2.2.2.2
theorem an6 {a b c d e f C : Prop} (k : a → b → c → d → e → f → C) (h : a ∧ b ∧ c ∧ d ∧ e ∧ f) : C := k h.1 h.2.1 h.2.2.1 h.2.2.2.1 h.2.2.2.2.1 h.2.2.2.2.2
theorem an7 {a b c d e f g C : Prop} (k : a → b → c → d → e → f → g → C) (h : a ∧ b ∧ c ∧ d ∧ e ∧ f ∧ g) : C := k h.1 h.2.1 h.2.2.1 h.2.2.2.1 h.2.2.2.2.1 h.2.2.2.2.2.1 h.2.2.2.2.2.2
theorem an8 {a b c d e f g h C : Prop} (k : a → b → c → d → e → f → g → h → C) (h : a ∧ b ∧ c ∧ d ∧ e ∧ f ∧ g ∧ h) : C := k h.1 h.2.1 h.2.2.1 h.2.2.2.1 h.2.2.2.2.1 h.2.2.2.2.2.1 h.2.2.2.2.2.2.1 h.2.2.2.2.2.2.2
theorem an9 {a b c d e f g h i C : Prop} (k : a → b → c → d → e → f → g → h → i → C) (h : a ∧ b ∧ c ∧ d ∧ e ∧ f ∧ g ∧ h ∧ i) : C := k h.1 h.2.1 h.2.2.1 h.2.2.2.1 h.2.2.2.2.1 h.2.2.2.2.2.1 h.2.2.2.2.2.2.1 h.2.2.2.2.2.2.2.1 h.2.2.2.2.2.2.2.2
theorem an10 {a b c d e f g h i j C : Prop} (k : a → b → c → d → e → f → g → h → i → j → C) (h : a ∧ b ∧ c ∧ d ∧ e ∧ f ∧ g ∧ h ∧ i ∧ j) : C := k h.1 h.2.1 h.2.2.1 h.2.2.2.1 h.2.2.2.2.1 h.2.2.2.2.2.1 h.2.2.2.2.2.2.1 h.2.2.2.2.2.2.2.1 h.2.2.2.2.2.2.2.2.1 h.2.2.2.2.2.2.2.2.2
theorem KM.i {c : Cx} {name : Str} {args : List Expr} {ρ : Rho} {Q : Post} {ov f : PV} {σ : Sto} (h1 : M1 c ov name σ f) (h2 : keepsOf c.G.K f = true) (h3 : LWP c args ρ σ (KMA c f ov Q)) : KM c name args ρ Q ov σ := ⟨f, h1, h2, h3⟩
theorem KAttr.i {c : Cx} {name : Str} {Q : Post} {o v : PV} {σ : Sto} {C : Addr} {fs : List (Str × PV)} (V : InstV σ o C fs) (a : AttrOk c.G.K C name) (h : fs.lookup name = some v) (q : Q v σ) : KAttr c name Q o σ := ⟨C, fs, v, V, a, h, q⟩
theorem ewp_meth {c : Cx} {ρ : Rho} {σ : Sto} {o : Expr} {name : Str} {apos pos : Pos} {args : List Expr} {Q : Post} (ok : c.G.Ok)
    (h : EWP c o ρ σ (KM c name args ρ Q))
    (ha : (backTo pos (starEach args c.env)).any (·.1) = false)
    (he : eval (.Call (.Attribute o name apos) args [] pos) c.env = (eval o c.env >>= fun ov => standAt apos.atName >>= fun _ => holding [ov] (getMethod ov name (do return (← importBound o c.env).getD true)) >>= fun r =>
      callWith pos r.1 r.2 (backTo pos (starEach args c.env)) (backToKw pos (keywordEach [] c.env)))) : EWP c (.Call (.Attribute o name apos) args [] pos) ρ σ Q := by
  refine ewp_method ok (h.mono fun ov σ₁ ⟨f, hm, hk, hl⟩ => ?_) ha he
  intro P s φ v pl I r
  refine (hm P s φ v pl I r).mono fun x s' φ' g ⟨f', first, σ', I', r1, r2, e1, e2, e3⟩ => ?_
  subst e1 e2 e3
  exact ⟨_, _, _, I', r1, r2, hk, hl⟩
-- one step of an expression, a condition, a list of them
local macro_rules | `(tactic| walk_at "e") => `(tactic| first
  | (first | with_reducible refine ewp_name (rset_self _ _ _) ?_ ?d | ((with_reducible refine ewp_name (v := ?v) ?d9 ?_ ?d); (case d9 => first | with_reducible assumption | exact rfl))); (case d => exact rfl)
  | with_reducible (first | refine ewp_int ?_ | refine ewp_str ?_ | refine ewp_none ?_ | refine ewp_bool ?_ | refine ewp_binop ?_ | refine ewp_sub ?_ | refine ewp_tuple ?_ | refine ewp_neg ?_ | refine ewp_not ?_ | refine ewp_ifexp ?_ | refine bwp_not ?_ | refine bwp_bool ?_ | refine bls_or ?_ | refine bls_and ?_ | refine bls_nilO ?_ | refine bls_nilA ?_ | refine twp_bool ?_ | refine lwp_nil ?_ | refine o2_add ?_ | refine o2_sub ?_ | refine o2_lt ?_ | refine o2_le ?_ | refine o2_gt ?_ | refine o2_ge ?_ | refine o2_eq_int ?_ | refine o2_ne_int ?_ | refine o2_eq_str ?_ | refine o2_ne_str ?_ | refine cwp_int ?_ | refine And.intro keeps_bi ?_ | refine And.intro keeps_ty ?_ | refine iteT ?_ | refine iteF ?_ | refine iteNT ?_ | refine iteNF ?_)
  | (first | with_reducible refine ewp_compare ?_ ?d | with_reducible refine ewp_attr (by assumption) ?_ ?d | with_reducible refine bwp_compare ?_ ?d | with_reducible refine bwp_value ?_ ?d | with_reducible refine lwp_cons ?_ ?d); (case d => exact rfl)
  | (first | with_reducible refine ewp_meth (by assumption) ?_ ?d ?d9 | with_reducible refine ewp_call (by assumption) ?_ ?d ?d9); (case d => exact rfl); (case d9 => exact rfl))
local macro_rules | `(tactic| walk_at "b") => `(tactic| ((with_reducible refine eb_any (by assumption) (by constructor) ?d9 ?_); (case d9 => exact rfl)))
local macro_rules | `(tactic| walk_at "open") => `(tactic| show SWP _ (_ :: _) _ _ _ _)
local macro_rules | `(tactic| walk_at "asg") => `(tactic| ((with_reducible refine swp_cons (s1_assign1 ?_ ?h1 ?h2 ?h3)); (case h1 => exact rfl); (case h2 => exact rfl); (case h3 => exact rfl)))
local macro_rules | `(tactic| walk_at "if") => `(tactic| with_reducible refine swp_cons (s1_if ?_))
local macro_rules | `(tactic| walk_at "ret") => `(tactic| with_reducible refine swp_cons (s1_return ?_))
local macro_rules | `(tactic| walk_at "loc") => `(tactic| ((with_reducible refine awp_name (owns_local ?h) ?_); (case h => exact rfl)))
local macro_rules | `(tactic| walk_at "cell") => `(tactic| ((with_reducible refine awp_name (owns_cell ?h ?g) ?_); (case h => exact rfl); (case g => exact rfl)))
local macro_rules | `(tactic| walk_at "exp") => `(tactic| ((with_reducible refine swp_cons (s1_expr ?_ ?h1 ?h2)); (case h1 => exact rfl); (case h2 => exact rfl)))
local macro_rules | `(tactic| walk_at "cmp") => `(tactic| ((with_reducible refine swp_cons (s1_comp ?_ ?h1 ?h2 ?h3 ?h4)); (case h1 => exact rfl); (case h2 => exact rfl); (case h3 => exact rfl); (case h4 => (intro _; rfl))))
local macro_rules | `(tactic| walk_at "ecmp") => `(tactic| ((with_reducible refine ewp_comp ?_ ?h3 ?h4); (case h3 => exact rfl); (case h4 => (intro _; rfl))))
local macro_rules | `(tactic| walk_at "tgt") => `(tactic| ((with_reducible refine awp_name (owns_comp ?h) ?_); (case h => exact rfl)))
variable {p : Pk} {c : Cx} {σ : Sto} {ρ : Rho} {Q : Post}
theorem leave_pure {τ : Sto} {v v' : PV} (h : Fz σ.length (σ ++ τ) v v') (q : Q v' σ) : Leave σ (σ ++ τ) v Q :=
  ⟨v', h, fun i o hi e => .inl (by rw [List.getElem?_append_left hi] at e; exact e), by rw [List.take_left']; exact q; rfl⟩
theorem leave_id {v : PV} (h : Low σ.length v) (q : Q v σ) : Leave σ σ v Q :=
  ⟨v, .low h, fun i o hi e => .inl e, by rw [List.take_length]; exact q⟩
theorem leave_set {n : Nat} {o : PO} {v : PV} (h : Low σ.length v) (ho : LowO σ.length o) (q : Q v (σ.set n o)) : Leave σ (σ.set n o) v Q :=
  ⟨v, .low h, fun i x hi e => by
    rw [List.getElem?_set] at e
    split at e
    · rename_i h1
      subst h1
      rw [if_pos hi] at e
      cases e; exact .inr ho
    · exact .inl e, by rw [List.take_of_length_le (by simp)]; exact q⟩
theorem lowInts {n : Nat} : ∀ cs : List Int, LowL n (cs.map .int)
  | [] => .nil
  | c :: cs => .cons .int (lowInts cs)
theorem seqIdx {k : Int} {n : Nat} (h0 : 0 ≤ k) (h1 : k < n) : seqIndex? k n = some k.toNat := by
  unfold seqIndex?
  simp only [show ¬ k < 0 by lia, if_false, decide_eq_true h0, decide_eq_true h1, Bool.and_self, if_true]
theorem mulOk {a b : Int} (h0 : 0 ≤ a) (h1 : a < 2 ^ 30) : IntMulOk a b := by
  refine IntMulOk.of_left ?_
  unfold Builtin.Int.intBits
  split
  · lia
  · rename_i h
    have h1 : a ≠ 0 := by simpa using h
    have h2 : a.natAbs < 2 ^ 30 := by lia
    have := (Nat.log2_lt (by lia)).mpr h2
    lia
noncomputable abbrev purse (cs : List Int) (a : Int) : PO := .sdict [("cells", .lst (cs.map .int)), ("at", .int a)]
theorem c_draw (ok : p.G.Ok) {k n : Nat} {cs : List Int} {a m : Int} (hn : σ[n]? = some (purse cs a)) (h0 : 0 ≤ a) (ha : a < 1000) (hz : cs.length < 1000) (hm : 0 < m)
    (q : ∀ r, 0 ≤ r → r < m → Q (.int r) (σ.set n (purse cs (a + 1)))) (env : Env) : CWP ⟨p.G, k + 1, env⟩ (.cst (.ref 582)) [.ref n, .int m] σ Q := by
  have hn' : n < σ.length := (List.getElem?_eq_some_iff.mp hn).1
  refine cwp_def ok (ok_draw p) (Nat.le_refl _) rfl fun L => ?_
  walk_at "open"
  walk_at "asg"
  repeat walk_at "e"
  with_reducible refine sub_dict ok (.r hn) (p := .int a) ?h ?_ ?i
  case h => exact rfl
  case i => intro _ _; rfl
  repeat walk_at "e"
  with_reducible refine awp_sub ?_
  repeat walk_at "e"
  with_reducible refine set_dict hn (Nat.le_of_ble_eq_true rfl) ?_
  have hn2 : (σ.set n (purse cs (a + 1)))[n]? = some (purse cs (a + 1)) := by rw [List.getElem?_set_self hn']
  show SWP _ _ _ (σ.set n (purse cs (a + 1))) _ _
  have fin : ∀ r, 0 ≤ r → r < m → Leave σ (σ.set n (purse cs (a + 1))) (.int r) Q := fun r h1 h2 => leave_set .int (.cons (.lst (lowInts cs)) (.cons .int .nil)) (q r h1 h2)
  generalize hσ : σ.set n (purse cs (a + 1)) = σ₁ at hn2 fin ⊢
  with_reducible refine swp_cons (s1_swap (names := ["at", "size_now"]) ?_ ?h1 ?h2 ?h3)
  case h1 => kernel_rfl
  case h2 => kernel_rfl
  case h3 => kernel_rfl
  repeat walk_at "e"
  with_reducible refine sub_dict ok (.r hn2) (p := .int (a + 1)) ?h ?_ ?i
  case h => exact rfl
  case i => intro _ _; rfl
  repeat walk_at "e"
  walk_at "b"
  refine ⟨rfl, ?_⟩
  repeat walk_at "e"
  with_reducible refine sub_dict ok (.r hn2) (p := .lst (cs.map .int)) ?h ?_ ?i
  case h => exact rfl
  case i => intro _ _; rfl
  walk_at "e"
  with_reducible refine cwp_len_lst .f (by rw [List.length_map]; lia) ?_
  walk_at "e"
  refine ⟨Nat.le_of_ble_eq_true rfl, _, rfl, rfl, ?_⟩
  rw [List.length_map]
  walk_at "if"
  repeat walk_at "e"
  by_cases hc : a + 1 ≤ cs.length
  · with_reducible refine iteD hc ?_
    walk_at "ret"
    repeat walk_at "e"
    with_reducible refine sub_dict ok (.r hn2) (p := .lst (cs.map .int)) ?h ?_ ?i
    case h => exact rfl
    case i => intro _ _; rfl
    repeat walk_at "e"
    have e : a + 1 - 1 = a := by lia
    have hlt : a.toNat < cs.length := by lia
    rw [e]
    with_reducible refine sub_list (.f (l := cs.map .int)) (j := a.toNat) (p := .int cs[a.toNat]) (by lia) (by lia) ?h ?h2 ?_ ?i
    case h => exact seqIdx h0 (by rw [List.length_map]; lia)
    case h2 => simp [hlt]
    case i => intro _ _; rfl
    walk_at "e"
    with_reducible refine o2_mod (by lia) (fin _ ?_ ?_)
    · exact Int.fmod_nonneg_of_pos _ hm
    · exact Int.fmod_lt_of_pos _ hm
  · with_reducible refine iteDN hc ?_
    with_reducible refine swp_nil ?_
    walk_at "ret"
    repeat walk_at "e"
    with_reducible refine o2_mul (mulOk (by lia) (by lia)) ?_
    walk_at "e"
    with_reducible refine o2_mul (mulOk (by lia) (by lia)) ?_
    repeat walk_at "e"
    with_reducible refine o2_mul (mulOk (by lia) (by lia)) ?_
    repeat walk_at "e"
    with_reducible refine o2_mul (mulOk (by lia) (by lia)) ?_
    repeat walk_at "e"
    with_reducible refine o2_mod (by lia) ?_
    repeat walk_at "e"
    with_reducible refine o2_mod (by lia) (fin _ ?_ ?_)
    · exact Int.fmod_nonneg_of_pos _ hm
    · exact Int.fmod_lt_of_pos _ hm
local macro_rules | `(tactic| walk_at "w") => `(tactic| first | walk_at "e" | walk_at "b")
section

variable {p : Pk} {σ : Sto} {ρ : Rho} {Q : Post}
structure Row where
  n : Str
  m : Str
  par : Str
noncomputable abbrev item (r : Row) : PV := .tup [.str "sig", .int 0, .tup [.str r.n], .bool false, .str r.m, .str r.par, .tup [], .tup [], .tup []]
noncomputable def ents (rows : List Row) : List (Str × PV) := rows.map fun r => (r.n, item r)
noncomputable def sigNames : List Str := ["entries", "stands", "opened", "ordered", "own_fields"]
noncomputable def noM (fs : List (Str × PV)) : Prop := (fs.all fun x => sigNames.contains x.1) = true
theorem noM.none {fs : List (Str × PV)} (h : noM fs) {x : Str} (hx : sigNames.contains x = false) : fs.lookup x = Option.none := by
  unfold noM at h
  induction fs with
  | nil => rfl
  | cons a r ih =>
    rw [List.all_cons, Bool.and_eq_true] at h
    rw [List.lookup_cons]
    cases hq : x == a.1 with
    | true => rw [← beq_iff_eq.mp hq, hx] at h; exact absurd h.1 (by decide)
    | false => exact ih h.2
theorem sub_tupN {c : Cx} {value slice : Expr} {l : List PV} {k : Int} (j : Nat) {p : PV} {Q : Post} (hk : k = j) (hj : j < 1000000) (hx : l[j]? = some p) (q : Q p σ) (hsl : ∀ o i, subscripted slice false o i = operate [o, i] (getItem o i)) : SubA c value slice (.tup l) (.int k) σ Q := by
  have hl := (List.getElem?_eq_some_iff.mp hx).1
  exact sub_tup (by lia) (by lia) (by rw [hk, seqIdx (by lia) (by lia)]; rfl) hx q hsl
theorem sub_lstN {c : Cx} {value slice : Expr} {o : PV} {l : List PV} {k : Int} (V : LstV σ o l) (j : Nat) {p : PV} {Q : Post} (hk : k = j) (hj : j < 1000000) (hx : l[j]? = some p) (q : Q p σ) (hsl : ∀ o i, subscripted slice false o i = operate [o, i] (getItem o i)) : SubA c value slice o (.int k) σ Q := by
  have hl := (List.getElem?_eq_some_iff.mp hx).1
  exact sub_list V (by lia) (by lia) (by rw [hk, seqIdx (by lia) (by lia)]; rfl) hx q hsl
noncomputable def HasE (σ : Sto) (self : PV) (rows : List Row) : Prop := ∃ fs e, InstV σ self 571 fs ∧ noM fs ∧ fs.lookup ("entries" : Str) = some e ∧ SdV σ e (ents rows)
theorem c_parent (ok : p.G.Ok) {k : Nat} {self : PV} {rows : List Row} {x : Str} {r : Row} (h : HasE σ self rows) (hx : (ents rows).lookup x = some (item r)) (q : Q (.str r.par) σ) {env : Env} : CWP ⟨p.G, k + 1, env⟩ (.cst (.ref 493)) [self, .str x] σ Q := by
  obtain ⟨fs, e, V, hn, he, hd⟩ := h
  refine cwp_def ok (ok_sparent p) (Nat.le_refl _) rfl fun L => ?_
  walk_at "open"
  walk_at "ret"
  repeat walk_at "e"
  refine KAttr.i (C := 571) (fs := fs) (v := e) V (at_571_entries p) he ?_
  repeat walk_at "e"
  with_reducible refine sub_dict ok hd (p := item r) ?h ?_ ?i
  case h => exact hx
  case i => intro _ _; rfl
  repeat walk_at "e"
  with_reducible refine sub_tupN 5 (p := .str r.par) ?g (by decide) ?h ?_ ?i
  case g => exact rfl
  case h => exact rfl
  case i => intro _ _; rfl
  exact leave_id .str q
theorem c_mult (ok : p.G.Ok) {k : Nat} {self : PV} {rows : List Row} {x : Str} {r : Row} (h : HasE σ self rows) (hx : (ents rows).lookup x = some (item r)) (q : Q (.str r.m) σ) {env : Env} : CWP ⟨p.G, k + 1, env⟩ (.cst (.ref 547)) [self, .str x] σ Q := by
  obtain ⟨fs, e, V, hn, he, hd⟩ := h
  refine cwp_def ok (ok_smult p) (Nat.le_refl _) rfl fun L => ?_
  walk_at "open"
  walk_at "ret"
  repeat walk_at "w"
  refine KAttr.i (C := 571) (fs := fs) (v := e) V (at_571_entries p) he ?_
  repeat walk_at "e"
  with_reducible refine sub_dict ok hd (p := item r) ?h ?_ ?i
  case h => exact hx
  case i => intro _ _; rfl
  repeat walk_at "e"
  with_reducible refine sub_tupN 4 (p := .str r.m) ?g (by decide) ?h ?_ ?i
  case g => exact rfl
  case h => exact rfl
  case i => intro _ _; rfl
  exact leave_id .str q
theorem c_abstract (ok : p.G.Ok) {k : Nat} {self : PV} {rows : List Row} {x : Str} {r : Row} (h : HasE σ self rows) (hx : (ents rows).lookup x = some (item r)) (q : Q (.bool false) σ) {env : Env} : CWP ⟨p.G, k + 1, env⟩ (.cst (.ref 540)) [self, .str x] σ Q := by
  obtain ⟨fs, e, V, hn, he, hd⟩ := h
  refine cwp_def ok (ok_sabstract p) (Nat.le_refl _) rfl fun L => ?_
  walk_at "open"
  walk_at "ret"
  repeat walk_at "w"
  refine KAttr.i (C := 571) (fs := fs) (v := e) V (at_571_entries p) he ?_
  repeat walk_at "e"
  with_reducible refine sub_dict ok hd (p := item r) ?h ?_ ?i
  case h => exact hx
  case i => intro _ _; rfl
  repeat walk_at "e"
  with_reducible refine sub_tupN 3 (p := .bool false) ?g (by decide) ?h ?_ ?i
  case g => exact rfl
  case h => exact rfl
  case i => intro _ _; rfl
  exact leave_id .bool q
theorem c_supers (ok : p.G.Ok) {k : Nat} {self : PV} {rows : List Row} {x : Str} {r : Row} (h : HasE σ self rows) (hx : (ents rows).lookup x = some (item r)) (q : Q (.tup []) σ) {env : Env} : CWP ⟨p.G, k + 1, env⟩ (.cst (.ref 500)) [self, .str x] σ Q := by
  obtain ⟨fs, e, V, hn, he, hd⟩ := h
  refine cwp_def ok (ok_ssupers p) (Nat.le_refl _) rfl fun L => ?_
  walk_at "open"
  walk_at "ret"
  repeat walk_at "w"
  refine KAttr.i (C := 571) (fs := fs) (v := e) V (at_571_entries p) he ?_
  repeat walk_at "e"
  with_reducible refine sub_dict ok hd (p := item r) ?h ?_ ?i
  case h => exact hx
  case i => intro _ _; rfl
  repeat walk_at "e"
  with_reducible refine sub_tupN 6 (p := .tup []) ?g (by decide) ?h ?_ ?i
  case g => exact rfl
  case h => exact rfl
  case i => intro _ _; rfl
  repeat walk_at "e"
  with_reducible refine cwp_tuple_same ?_
  exact leave_id (.tup .nil) q
theorem c_subset (ok : p.G.Ok) {k : Nat} {self : PV} {rows : List Row} {x : Str} {r : Row} (h : HasE σ self rows) (hx : (ents rows).lookup x = some (item r)) (q : Q (.bool false) σ) {env : Env} : CWP ⟨p.G, k + 1, env⟩ (.cst (.ref 507)) [self, .str x] σ Q := by
  obtain ⟨fs, e, V, hn, he, hd⟩ := h
  refine cwp_def ok (ok_ssubset p) (Nat.le_refl _) rfl fun L => ?_
  walk_at "open"
  walk_at "ret"
  repeat walk_at "w"
  refine KAttr.i (C := 571) (fs := fs) (v := e) V (at_571_entries p) he ?_
  repeat walk_at "e"
  with_reducible refine sub_dict ok hd (p := item r) ?h ?_ ?i
  case h => exact hx
  case i => intro _ _; rfl
  repeat walk_at "e"
  with_reducible refine sub_tupN 6 (p := .tup []) ?g (by decide) ?h ?_ ?i
  case g => exact rfl
  case h => exact rfl
  case i => intro _ _; rfl
  repeat walk_at "e"
  with_reducible refine cwp_len_tup (by decide) ?_
  repeat walk_at "e"
  exact leave_id .bool q

theorem m1_sig (ok : p.G.Ok) {k : Nat} {env : Env} {self : PV} {fs : List (Str × PV)} {f : Addr} {name : Str} (V : InstV σ self 571 fs) (hn : noM fs) (me : plainGet p.G.K 571 name = true ∧ findIn p.G.K (.ref 571) name = some (some (.ref f)) ∧ isFn p.G.K (.ref f) = true) (hx : sigNames.contains name = false) : M1 ⟨p.G, k, env⟩ self name σ (.cst (.ref f)) := mwp_inst ok V me.1 me.2.1 me.2.2 (hn.none hx) ⟨rfl, rfl, rfl⟩
theorem c_direct (ok : p.G.Ok) {k : Nat} {self : PV} {rows : List Row} {x : Str} {r : Row} (h : HasE σ self rows) (hx : (ents rows).lookup x = some (item r)) (q : Q (.tup (if r.par = "" then [] else [.str r.par])) σ) {env : Env} : CWP ⟨p.G, k + 2, env⟩ (.cst (.ref 441)) [self, .str x] σ Q := by
  obtain ⟨fs, e, V, hn, he, hd⟩ := id h
  refine cwp_def ok (ok_sdirect p) (Nat.le_refl _) rfl fun L => ?_
  walk_at "open"
  walk_at "ret"
  repeat walk_at "w"
  with_reducible refine KM.i (m1_sig ok V hn (me_571_parent p) (by decide)) (k_493 p) ?_
  repeat walk_at "w"
  with_reducible refine c_parent ok h hx ?_
  repeat walk_at "w"
  by_cases hp : r.par = ""
  · with_reducible refine iteND hp ?_
    rw [if_pos hp] at q
    repeat walk_at "w"
    refine ⟨by decide, ?_⟩
    repeat walk_at "w"
    with_reducible refine KM.i (m1_sig ok V hn (me_571_supers p) (by decide)) (k_500 p) ?_
    repeat walk_at "w"
    with_reducible refine c_supers ok h hx ?_
    with_reducible refine o2_add_tup0 (by decide) ?_
    exact leave_id (.tup .nil) q
  · with_reducible refine iteNDN hp ?_
    rw [if_neg hp] at q
    repeat walk_at "w"
    with_reducible refine KM.i (m1_sig ok V hn (me_571_parent p) (by decide)) (k_493 p) ?_
    repeat walk_at "w"
    with_reducible refine c_parent ok h hx ?_
    repeat walk_at "w"
    refine ⟨Nat.le_of_ble_eq_true rfl, ?_⟩
    repeat walk_at "w"
    with_reducible refine KM.i (m1_sig ok V hn (me_571_supers p) (by decide)) (k_500 p) ?_
    repeat walk_at "w"
    with_reducible refine c_supers ok h hx ?_
    with_reducible refine o2_add_tup0 (Nat.le_of_ble_eq_true rfl) ?_
    exact leave_id (.tup (.cons .str .nil)) q

theorem szl {n : Nat} (h : n ≤ 1000000) : n ≤ sizeLine := by rw [sizeLine_eq]; lia
theorem m1_append {c : Cx} {n : Nat} {l : List PV} (hn : σ[n]? = some (.list l)) : M1 c (.ref n) "append" σ (.cst (.builtin "list.append")) := mwp_append hn ⟨rfl, rfl, rfl⟩
theorem m1_extend {c : Cx} {n : Nat} {l : List PV} (hn : σ[n]? = some (.list l)) : M1 c (.ref n) "extend" σ (.cst (.builtin "list.extend")) := mwp_extend hn ⟨rfl, rfl, rfl⟩
theorem m1_pop {c : Cx} {n : Nat} {l : List PV} (hn : σ[n]? = some (.list l)) : M1 c (.ref n) "pop" σ (.cst (.builtin "list.pop")) := mwp_pop hn ⟨rfl, rfl, rfl⟩
theorem m1_remove {c : Cx} {n : Nat} {l : List PV} (hn : σ[n]? = some (.list l)) : M1 c (.ref n) "remove" σ (.cst (.builtin "list.remove")) := mwp_remove hn ⟨rfl, rfl, rfl⟩
theorem m1_get {c : Cx} {o : PV} {d : List (Str × PV)} (ok : c.G.Ok) (V : SdV σ o d) : M1 c o "get" σ (.cst (.builtin "dict.get")) := mwp_get ok V ⟨rfl, rfl, rfl⟩
theorem InstV.up {σ σ' : Sto} (h : ∀ (i : Nat) o, σ[i]? = some o → σ'[i]? = some o) {pv : PV} {C : Addr} {fs : List (Str × PV)} (V : InstV σ pv C fs) : InstV σ' pv C fs := by
  cases V with
  | f => exact .f
  | r e => exact .r (h _ _ e)
theorem SdV.up {σ σ' : Sto} (h : ∀ (i : Nat) o, σ[i]? = some o → σ'[i]? = some o) {pv : PV} {fs : List (Str × PV)} (V : SdV σ pv fs) : SdV σ' pv fs := by
  cases V with
  | f => exact .f
  | r e => exact .r (h _ _ e)
theorem LstV.up {σ σ' : Sto} (h : ∀ (i : Nat) o, σ[i]? = some o → σ'[i]? = some o) {pv : PV} {fs : List PV} (V : LstV σ pv fs) : LstV σ' pv fs := by
  cases V with
  | f => exact .f
  | r e => exact .r (h _ _ e)
theorem up_app {σ τ : Sto} (i : Nat) (o : PO) (h : σ[i]? = some o) : (σ ++ τ)[i]? = some o := by
  rw [List.getElem?_append_left (List.getElem?_eq_some_iff.mp h).1]; exact h
theorem HasE.app {τ : Sto} {self : PV} {rows : List Row} (h : HasE σ self rows) : HasE (σ ++ τ) self rows := by
  obtain ⟨fs, e, V, hn, he, hd⟩ := h
  exact ⟨fs, e, V.up up_app, hn, he, hd.up up_app⟩
theorem set_last {o o' : PO} : (σ ++ [o]).set σ.length o' = σ ++ [o'] := by
  rw [List.set_append_right _ _ (Nat.le_refl _)]; simp
theorem get_last {o : PO} : (σ ++ [o])[σ.length]? = some o := by simp
inductive Chain (rows : List Row) : Str → List Str → Prop
  | top {x : Str} {r : Row} : (ents rows).lookup x = some (item r) → r.par = "" → Chain rows x []
  | up {x : Str} {r : Row} {l : List Str} : (ents rows).lookup x = some (item r) → r.par ≠ "" → Chain rows r.par l → Chain rows x (r.par :: l)
theorem lowStrs {n : Nat} : ∀ cs : List Str, LowL n (cs.map .str)
  | [] => .nil
  | c :: cs => .cons .str (lowStrs cs)
theorem c_above (ok : p.G.Ok) {k : Nat} {self : PV} {rows : List Row} {x : Str} {l : List Str} (h : HasE σ self rows) (hc : Chain rows x l) (hl : l.length < 1000) (q : Q (.lst (l.map .str)) σ) {env : Env} : CWP ⟨p.G, k + 2, env⟩ (.cst (.ref 519)) [self, .str x] σ Q := by
  refine cwp_def ok (ok_sabove p) (Nat.le_refl _) rfl fun L => ?_
  walk_at "open"
  walk_at "asg"
  with_reducible refine ewp_list_m ?_
  repeat walk_at "w"
  refine ⟨Nat.le_of_ble_eq_true rfl, ?_⟩
  walk_at "loc"
  with_reducible refine swp_cons (s1_while (l.length + 1) ?_)
  obtain ⟨l0, hl0⟩ : ∃ l0, l0 = l := ⟨_, rfl⟩
  rw [← hl0] at q
  have hac : ([] : List Str) ++ l = l0 := hl0.symm
  show WhWP _ _ _ _ _ _ [("self", self), ("name", .str x), ("found", .ref σ.length)] (σ ++ [.list (([] : List Str).map .str)])
  have hb : ([] : List Str).length + l.length < 1000 := by simpa using hl
  generalize ([] : List Str) = acc at hac hb ⊢
  clear hl hl0
  induction hc generalizing acc with
  | @top x r hx hp =>
    unfold WhWP
    repeat walk_at "w"
    obtain ⟨fs, e, V, hn, he, hd⟩ := id (h.app (τ := [.list (acc.map .str)]))
    with_reducible refine KM.i (m1_sig ok V hn (me_571_parent p) (by decide)) (k_493 p) ?_
    repeat walk_at "w"
    with_reducible refine c_parent ok h.app hx ?_
    repeat walk_at "w"
    rw [hp]
    simp only [decide_true, Bool.not_true, Bool.false_eq_true, if_false]
    walk_at "ret"
    repeat walk_at "w"
    refine leave_pure (.rlist (Nat.le_refl _) get_last (.low (lowStrs _))) ?_
    rw [List.append_nil] at hac
    rw [hac]; exact q
  | @up x r l hx hp hc ih =>
    unfold WhWP
    repeat walk_at "w"
    obtain ⟨fs, e, V, hn, he, hd⟩ := id (h.app (τ := [.list (acc.map .str)]))
    with_reducible refine KM.i (m1_sig ok V hn (me_571_parent p) (by decide)) (k_493 p) ?_
    repeat walk_at "w"
    with_reducible refine c_parent ok h.app hx ?_
    repeat walk_at "w"
    simp only [hp, decide_false, Bool.not_false, if_true]
    walk_at "asg"
    repeat walk_at "w"
    with_reducible refine KM.i (m1_sig ok V hn (me_571_parent p) (by decide)) (k_493 p) ?_
    repeat walk_at "w"
    with_reducible refine c_parent ok h.app hx ?_
    walk_at "loc"
    walk_at "exp"
    repeat walk_at "w"
    with_reducible refine KM.i (m1_append get_last) rfl ?_
    repeat walk_at "w"
    rw [List.length_cons] at hb
    with_reducible refine cwp_append get_last (szl (by rw [List.length_map]; lia)) ?_
    rw [set_last]
    with_reducible refine swp_nil ?_
    have e2 : acc.map PV.str ++ [.str r.par] = (acc ++ [r.par]).map .str := by simp
    rw [e2]
    exact ih (acc ++ [r.par]) (by simpa using hac) (by simp; lia)

theorem c_top (ok : p.G.Ok) {k : Nat} {self : PV} {rows : List Row} {x t : Str} {l : List Str} {r : Row} (h : HasE σ self rows) (hx : (ents rows).lookup x = some (item r)) (hc : Chain rows x l) (hl : l.length < 1000) (ht : (x :: l)[l.length]? = some t) (q : Q (.str t) σ) {env : Env} : CWP ⟨p.G, k + 3, env⟩ (.cst (.ref 526)) [self, .str x] σ Q := by
  obtain ⟨fs, e, V, hn, he, hd⟩ := id h
  refine cwp_def ok (ok_stop p) (Nat.le_refl _) rfl fun L => ?_
  walk_at "open"
  walk_at "if"
  repeat walk_at "w"
  with_reducible refine KM.i (m1_sig ok V hn (me_571_is_subset p) (by decide)) (k_507 p) ?_
  repeat walk_at "w"
  with_reducible refine c_subset ok h hx ?_
  repeat walk_at "w"
  with_reducible refine swp_nil ?_
  walk_at "ret"
  repeat walk_at "w"
  with_reducible refine ewp_list ?_
  repeat walk_at "w"
  refine ⟨Nat.le_of_ble_eq_true rfl, ?_⟩
  repeat walk_at "w"
  with_reducible refine KM.i (m1_sig ok V hn (me_571_above p) (by decide)) (k_519 p) ?_
  repeat walk_at "w"
  with_reducible refine c_above ok h hc hl ?_
  with_reducible refine o2_add_list .f .f (szl (by simp; lia)) ?_
  repeat walk_at "w"
  refine ⟨_, rfl, ?_⟩
  have hlen : ([PV.str x] ++ l.map PV.str).length = l.length + 1 := by simp
  have hj : seqIndex? (-1) ([PV.str x] ++ l.map PV.str).length = some l.length := by
    rw [hlen]
    unfold seqIndex?
    simp
    lia
  with_reducible refine sub_list .f (j := l.length) (p := .str t) (by decide) (by decide) hj ?h ?_ ?i
  case h =>
    have : ([PV.str x] ++ l.map PV.str) = (x :: l).map PV.str := rfl
    rw [this, List.getElem?_map, ht]; rfl
  case i => intro _ _; rfl
  exact leave_id .str q
theorem c_names (ok : p.G.Ok) {k : Nat} {self o : PV} {fs l : List (Str × PV)} {xs : List PV} (V : InstV σ self 571 fs) (ho : fs.lookup ("ordered" : Str) = some o) (Vl : LstV σ o xs) (hl : xs.length < 1000) (hw : LowL σ.length xs) (q : Q (.lst xs) σ) {env : Env} : CWP ⟨p.G, k + 1, env⟩ (.cst (.ref 472)) [self] σ Q := by
  refine cwp_def ok (ok_snames p) (Nat.le_refl _) rfl fun L => ?_
  walk_at "open"
  walk_at "ret"
  repeat walk_at "w"
  refine KAttr.i (C := 571) (fs := fs) (v := o) V (at_571_ordered p) ho ?_
  repeat walk_at "w"
  with_reducible refine cwp_list_seq (.inl Vl) (szl (by lia)) ?_
  exact leave_id (.lst hw) q
theorem c_fields (ok : p.G.Ok) {k : Nat} {self o : PV} {fs l : List (Str × PV)} {xs : List PV} (V : InstV σ self 571 fs) (ho : fs.lookup ("own_fields" : Str) = some o) (Vl : LstV σ o xs) (hl : xs.length < 1000) (hw : LowL σ.length xs) (q : Q (.lst xs) σ) {env : Env} : CWP ⟨p.G, k + 1, env⟩ (.cst (.ref 554)) [self] σ Q := by
  refine cwp_def ok (ok_sfields p) (Nat.le_refl _) rfl fun L => ?_
  walk_at "open"
  walk_at "ret"
  repeat walk_at "w"
  refine KAttr.i (C := 571) (fs := fs) (v := o) V (at_571_own_fields p) ho ?_
  repeat walk_at "w"
  with_reducible refine cwp_list_seq (.inl Vl) (szl (by lia)) ?_
  exact leave_id (.lst hw) q
theorem c_orders (ok : p.G.Ok) {k : Nat} {self o : PV} {fs l : List (Str × PV)} {xs : List PV} (V : InstV σ self 571 fs) (ho : fs.lookup ("opened" : Str) = some o) (Vl : LstV σ o xs) (hl : xs.length < 1000) (hw : LowL σ.length xs) (q : Q (.lst xs) σ) {env : Env} : CWP ⟨p.G, k + 1, env⟩ (.cst (.ref 568)) [self] σ Q := by
  refine cwp_def ok (ok_sorders p) (Nat.le_refl _) rfl fun L => ?_
  walk_at "open"
  walk_at "ret"
  repeat walk_at "w"
  refine KAttr.i (C := 571) (fs := fs) (v := o) V (at_571_opened p) ho ?_
  repeat walk_at "w"
  with_reducible refine cwp_list_seq (.inl Vl) (szl (by lia)) ?_
  exact leave_id (.lst hw) q
end
section
variable {p : Pk} {σ : Sto} {ρ : Rho} {Q : Post}
noncomputable def sg (σ : Sto) (fs d : List (Str × PV)) (st op : List PV) : Sto := σ ++ [.inst 571 fs, .sdict d, .list st, .list op]
section
variable {fs fs' d d' : List (Str × PV)} {st st' op op' : List PV}
theorem sg_len : (sg σ fs d st op).length = σ.length + 4 := by simp [sg]
theorem sg0 : (sg σ fs d st op)[σ.length]? = some (.inst 571 fs) := by simp [sg]
theorem sg1 : (sg σ fs d st op)[σ.length + 1]? = some (.sdict d) := by simp [sg, List.getElem?_append_right]
theorem sg2 : (sg σ fs d st op)[σ.length + 2]? = some (.list st) := by simp [sg, List.getElem?_append_right]
theorem sg3 : (sg σ fs d st op)[σ.length + 3]? = some (.list op) := by simp [sg, List.getElem?_append_right]
theorem sgs0 : (sg σ fs d st op).set σ.length (.inst 571 fs') = sg σ fs' d st op := by simp [sg, List.set_append_right]
theorem sgs1 : (sg σ fs d st op).set (σ.length + 1) (.sdict d') = sg σ fs d' st op := by simp [sg, List.set_append_right]
theorem sgs2 : (sg σ fs d st op).set (σ.length + 2) (.list st') = sg σ fs d st' op := by simp [sg, List.set_append_right]
theorem sgs3 : (sg σ fs d st op).set (σ.length + 3) (.list op') = sg σ fs d st op' := by simp [sg, List.set_append_right]
theorem sg_low {i : Nat} (hi : i < σ.length) : (sg σ fs d st op)[i]? = σ[i]? := by unfold sg; rw [List.getElem?_append_left hi]
theorem leave_sg {v : PV} (hv : Low (σ.length + 4) v) (h0 : LowS (σ.length + 4) fs') (h1 : LowS (σ.length + 4) d') (h2 : LowL (σ.length + 4) st') (h3 : LowL (σ.length + 4) op') (q : Q v (sg σ fs' d' st' op')) :
    Leave (sg σ fs d st op) (sg σ fs' d' st' op') v Q := by
  refine ⟨v, .low (by rw [sg_len]; exact hv), fun i o hi e => ?_, by rw [List.take_of_length_le (by rw [sg_len, sg_len]; exact Nat.le_refl _)]; exact q⟩
  rw [sg_len] at hi ⊢
  by_cases hl : i < σ.length
  · rw [sg_low hl] at e ⊢; exact .inl e
  · obtain ⟨j, rfl⟩ : ∃ j, i = σ.length + j := ⟨i - σ.length, by lia⟩
    have hj : j < 4 := by lia
    match j, hj with
    | 0, _ => rw [Nat.add_zero, sg0] at e; cases e; exact .inr h0
    | 1, _ => rw [sg1] at e; cases e; exact .inr h1
    | 2, _ => rw [sg2] at e; cases e; exact .inr h2
    | 3, _ => rw [sg3] at e; cases e; exact .inr h3
end
theorem rset_new {x : Str} {v : PV} : ∀ {d : List (Str × PV)}, d.lookup x = Option.none → rset x v d = d ++ [(x, v)]
  | [], _ => rfl
  | (y, w) :: r, h => by
    rw [List.lookup_cons] at h
    unfold rset
    cases hq : x == y with
    | true => rw [hq] at h; cases h
    | false => rw [hq] at h; simp only [Bool.false_eq_true, if_false]; rw [rset_new h]; rfl
theorem lowItem {n : Nat} (r : Row) : Low n (item r) := .tup (.cons .str (.cons .int (.cons (.tup (.cons .str .nil)) (.cons .bool (.cons .str (.cons .str (.cons (.tup .nil) (.cons (.tup .nil) (.cons (.tup .nil) .nil)))))))))
theorem lowEnts {n : Nat} : ∀ rows : List Row, LowS n (ents rows)
  | [] => .nil
  | r :: rows => .cons (lowItem r) (lowEnts rows)
noncomputable def names (rows : List Row) : List Str := rows.map (·.n)
noncomputable def base (n : Nat) : List (Str × PV) := [("entries", .ref (n + 1)), ("stands", .ref (n + 2)), ("opened", .ref (n + 3))]
theorem lowBase (n : Nat) : LowS (n + 4) (base n) := .cons (.ref (by lia)) (.cons (.ref (by lia)) (.cons (.ref (by lia)) .nil))
theorem noBase (n : Nat) : noM (base n) := by unfold noM base; rfl
theorem for_cons {c : Cx} {tgt : Expr} {body : List Stmt} {pv : PV} {l : List PV} {Qn : Rho → Sto → Prop} {Qr : Post} {x : PV} {r : List PV} (S : Src σ pv l) (h : AWP c (ownA c.env) tgt x ρ σ (KS c body (ForWP c tgt body pv l Qn Qr r) Qr)) : ForWP c tgt body pv l Qn Qr (x :: r) ρ σ := ⟨S, h⟩
theorem for_nil {c : Cx} {tgt : Expr} {body : List Stmt} {pv : PV} {l : List PV} {Qn : Rho → Sto → Prop} {Qr : Post} (S : Src σ pv l) (h : Qn ρ σ) : ForWP c tgt body pv l Qn Qr [] ρ σ := ⟨S, h⟩
noncomputable abbrev KXT (c : Cx) (tgt elt : Expr) (ifs : List Expr) (pv : PV) (l acc : List PV) (Q : List PV → Sto → Prop) (r : List PV) : Rho → Post := fun ρ₁ v σ₃ => CompWP c tgt ifs elt pv l Q r ρ₁ σ₃ (acc ++ [v])
noncomputable abbrev KXF (c : Cx) (tgt elt : Expr) (ifs : List Expr) (pv : PV) (l acc : List PV) (Q : List PV → Sto → Prop) (r : List PV) : Rho → Sto → Prop := fun ρ₁ σ₂ => CompWP c tgt ifs elt pv l Q r ρ₁ σ₂ acc
theorem comp_cons {c : Cx} {tgt elt : Expr} {ifs : List Expr} {pv : PV} {l acc : List PV} {Q : List PV → Sto → Prop} {x : PV} {r : List PV} (S : Src σ pv l) (h : AWP c [c.env.locals] tgt x ρ σ (KX c ifs elt (KXT c tgt elt ifs pv l acc Q r) (KXF c tgt elt ifs pv l acc Q r))) : CompWP c tgt ifs elt pv l Q (x :: r) ρ σ acc := ⟨S, h⟩
theorem comp_nil {c : Cx} {tgt elt : Expr} {ifs : List Expr} {pv : PV} {l acc : List PV} {Q : List PV → Sto → Prop} (S : Src σ pv l) (h : Q acc σ) : CompWP c tgt ifs elt pv l Q [] ρ σ acc := ⟨S, h⟩
theorem tests_nil {c : Cx} {Q : Bool → Sto → Prop} (h : Q true σ) : TestsWP c [] ρ σ Q := h
theorem tests_one {c : Cx} {e : Expr} {Q : Bool → Sto → Prop} (h : BWP c e ρ σ Q) : TestsWP c [e] ρ σ Q := h
theorem c_take (ok : p.G.Ok) {k : Nat} {rows : List Row} {r : Row} (hn : (ents rows).lookup r.n = Option.none) (hz : rows.length < 1000)
    (q : Q .none (sg σ (base σ.length) (ents (rows ++ [r])) ((names (rows ++ [r])).map .str) [])) {env : Env} : CWP ⟨p.G, k + 1, env⟩ (.cst (.ref 427)) [.ref σ.length, item r] (sg σ (base σ.length) (ents rows) ((names rows).map .str) []) Q := by
  refine cwp_def ok (ok_stake p) (Nat.le_refl _) rfl fun L => ?_
  walk_at "open"
  with_reducible refine swp_cons (s1_for ?_ ?hset)
  case hset => intro _; rfl
  repeat walk_at "w"
  with_reducible refine sub_tupN 2 (p := .tup [.str r.n]) ?g (by decide) ?h ?_ ?i
  case g => exact rfl
  case h => exact rfl
  case i => intro _ _; rfl
  refine ⟨[.str r.n], ?_⟩
  with_reducible refine for_cons .tup ?_
  walk_at "loc"
  walk_at "if"
  repeat walk_at "w"
  refine KAttr.i (C := 571) (.r sg0) (at_571_entries p) rfl ?_
  with_reducible refine o2_in_dict ok (.r sg1) ?_
  rw [hn, Option.isSome_none]
  repeat walk_at "w"
  with_reducible refine swp_nil ?_
  walk_at "asg"
  repeat walk_at "w"
  with_reducible refine awp_sub ?_
  repeat walk_at "w"
  refine KAttr.i (C := 571) (.r sg0) (at_571_entries p) rfl ?_
  repeat walk_at "w"
  with_reducible refine set_dict sg1 (szl (by unfold ents; rw [List.length_map]; lia)) ?_
  rw [sgs1, rset_new hn]
  walk_at "exp"
  repeat walk_at "w"
  refine KAttr.i (C := 571) (.r sg0) (at_571_stands p) rfl ?_
  with_reducible refine KM.i (m1_append sg2) rfl ?_
  repeat walk_at "w"
  with_reducible refine cwp_append sg2 (szl (by unfold names; rw [List.length_map, List.length_map]; lia)) ?_
  rw [sgs2]
  with_reducible refine swp_nil ?_
  with_reducible refine for_nil .tup ?_
  walk_at "if"
  repeat walk_at "w"
  with_reducible refine sub_tupN 6 (p := .tup []) ?g (by decide) ?h ?_ ?i
  case g => exact rfl
  case h => exact rfl
  case i => intro _ _; rfl
  repeat walk_at "w"
  with_reducible refine cwp_len_tup (by decide) ?_
  repeat walk_at "w"
  rw [show decide (((List.length ([] : List PV) : Nat) : Int) > 0) = false from rfl]
  repeat walk_at "w"
  with_reducible refine swp_nil ?_
  with_reducible refine swp_nil ?_
  refine leave_sg .none (lowBase _) ?_ ?_ .nil ?_
  · have : ents rows ++ [(r.n, item r)] = ents (rows ++ [r]) := by simp [ents]
    rw [this]; exact lowEnts _
  · have : (names rows).map PV.str ++ [PV.str r.n] = (names (rows ++ [r])).map .str := by simp [names]
    rw [this]; exact lowStrs _
  · have e1 : ents rows ++ [(r.n, item r)] = ents (rows ++ [r]) := by simp [ents]
    have e2 : (names rows).map PV.str ++ [PV.str r.n] = (names (rows ++ [r])).map .str := by simp [names]
    rw [e1, e2]; exact q

end
section
variable {p : Pk} {σ : Sto} {ρ : Rho} {Q : Post}
theorem c_look (ok : p.G.Ok) {k : Nat} {self : PV} {rows : List Row} {x : Str} {r : Row} (h : HasE σ self rows) (hx : (ents rows).lookup x = some (item r)) (hp : r.par = "" ∨ ∃ r', (ents rows).lookup r.par = some (item r')) (q : Q .none σ) {env : Env} : CWP ⟨p.G, k + 3, env⟩ (.cst (.ref 434)) [self, .str x] σ Q := by
  obtain ⟨fs, e, V, hn, he, hd⟩ := id h
  refine cwp_def ok (ok_slook p) (Nat.le_refl _) rfl fun L => ?_
  walk_at "open"
  with_reducible refine swp_cons (s1_for ?_ ?hset)
  case hset => intro _; rfl
  repeat walk_at "w"
  with_reducible refine KM.i (m1_sig ok V hn (me_571_direct p) (by decide)) (k_441 p) ?_
  repeat walk_at "w"
  with_reducible refine c_direct ok h hx ?_
  refine ⟨if r.par = "" then [] else [.str r.par], ?_⟩
  by_cases hq : r.par = ""
  · simp only [hq, if_true]
    with_reducible refine for_nil .tup ?_
    walk_at "if"
    repeat walk_at "w"
    with_reducible refine KM.i (m1_sig ok V hn (me_571_parent p) (by decide)) (k_493 p) ?_
    repeat walk_at "w"
    with_reducible refine c_parent ok h hx ?_
    repeat walk_at "w"
    rw [decide_eq_true hq, Bool.not_true]
    repeat walk_at "w"
    with_reducible refine swp_nil ?_
    with_reducible refine swp_nil ?_
    exact leave_id .none q
  · simp only [hq, if_false]
    obtain ⟨r', hr'⟩ := hp.resolve_left hq
    with_reducible refine for_cons .tup ?_
    walk_at "loc"
    walk_at "if"
    repeat walk_at "w"
    refine KAttr.i (C := 571) V (at_571_entries p) he ?_
    with_reducible refine o2_notin_dict ok hd ?_
    rw [hr', Option.isSome_some, Bool.not_true]
    repeat walk_at "w"
    with_reducible refine swp_nil ?_
    with_reducible refine swp_nil ?_
    with_reducible refine for_nil .tup ?_
    walk_at "if"
    repeat walk_at "w"
    with_reducible refine KM.i (m1_sig ok V hn (me_571_parent p) (by decide)) (k_493 p) ?_
    repeat walk_at "w"
    with_reducible refine c_parent ok h hx ?_
    repeat walk_at "w"
    rw [decide_eq_false hq, Bool.not_false]
    repeat walk_at "w"
    with_reducible refine KM.i (m1_sig ok V hn (me_571_is_subset p) (by decide)) (k_507 p) ?_
    repeat walk_at "w"
    with_reducible refine KM.i (m1_sig ok V hn (me_571_parent p) (by decide)) (k_493 p) ?_
    repeat walk_at "w"
    with_reducible refine c_parent ok h hx ?_
    repeat walk_at "w"
    with_reducible refine c_subset ok h hr' ?_
    repeat walk_at "w"
    with_reducible refine swp_nil ?_
    with_reducible refine swp_nil ?_
    exact leave_id .none q

noncomputable abbrev KAls (c : Cx) (own : List Addr) (ts : List Expr) (vs : List PV) (Q : Rho → Sto → Prop) : Rho → Sto → Prop := fun ρ' σ' => ALs c own ts vs ρ' σ' Q
theorem als_cons {c : Cx} {own : List Addr} {t : Expr} {ts : List Expr} {v : PV} {vs : List PV} {Q : Rho → Sto → Prop} (h : AWP c own t v ρ σ (KAls c own ts vs Q)) : ALs c own (t :: ts) (v :: vs) ρ σ Q := h
theorem als_nil {c : Cx} {own : List Addr} {Q : Rho → Sto → Prop} (h : Q ρ σ) : ALs c own [] [] ρ σ Q := h
theorem rfree_keep {scope : Scope} {x : Str} {v : PV} (hs : (scope.names.lookup x == some NameKind.free) = true) : ∀ {ρ : Rho}, ρ.lookup x = some v → (rfree scope ρ).lookup x = some v
  | [], h => by simp at h
  | (y, w) :: r, h => by
    unfold rfree
    rw [List.filter_cons]
    rw [List.lookup_cons] at h
    cases hq : x == y with
    | true =>
      rw [hq] at h
      have e := beq_iff_eq.mp hq
      subst e
      simp only [hs, if_true]
      rw [List.lookup_cons, hq]; exact h
    | false =>
      rw [hq] at h
      have := rfree_keep hs h
      unfold rfree at this
      split
      · rw [List.lookup_cons, hq]; exact this
      · exact this
theorem look_ne {x y : Str} {v w : PV} (h : ρ.lookup y = some w) (hne : y ≠ x) : (rset x v ρ).lookup y = some w := (rset_ne x y v hne ρ).trans h
noncomputable def pl (σ : Sto) (a b : List PV) : Sto := σ ++ [.list a, .list b]
theorem pl0 {a b : List PV} : (pl σ a b)[σ.length]? = some (.list a) := by simp [pl]
theorem pl1 {a b : List PV} : (pl σ a b)[σ.length + 1]? = some (.list b) := by simp [pl, List.getElem?_append_right]
theorem pls0 {a b a' : List PV} : (pl σ a b).set σ.length (.list a') = pl σ a' b := by simp [pl, List.set_append_right]
theorem pls1 {a b b' : List PV} : (pl σ a b).set (σ.length + 1) (.list b') = pl σ a b' := by simp [pl, List.set_append_right]
theorem datStrs : ∀ xs : List Str, DatVs σ (xs.map .str) (xs.map .str)
  | [] => .nil
  | x :: xs => .cons .str (datStrs xs)
theorem AWP.mono {c : Cx} {own : List Addr} {t : Expr} {v : PV} {Q Q' : Rho → Sto → Prop} (h : AWP c own t v ρ σ Q) (q : ∀ r s, Q r s → Q' r s) : AWP c own t v ρ σ Q' :=
  fun P s φ val I F r => (h P s φ val I F r).mono fun _ _ _ _ ⟨ρ', σ', a, b, d⟩ => ⟨ρ', σ', a, b, q _ _ d⟩
theorem BWP.mono {c : Cx} {e : Expr} {Q Q' : Bool → Sto → Prop} (h : BWP c e ρ σ Q) (q : ∀ b s, Q b s → Q' b s) : BWP c e ρ σ Q' :=
  fun P s φ I F => (h P s φ I F).mono fun _ _ _ _ ⟨σ', a, d⟩ => ⟨σ', a, q _ _ d⟩
theorem TestsWP.mono {c : Cx} {ifs : List Expr} {Q Q' : Bool → Sto → Prop} (h : TestsWP c ifs ρ σ Q) (q : ∀ b s, Q b s → Q' b s) : TestsWP c ifs ρ σ Q' := by
  match ifs, h with
  | [], h => exact q _ _ h
  | [e], h => exact BWP.mono h q
/-- a comprehension that changes nothing -/
noncomputable abbrev KGT (g : Option PV) (σ : Sto) (inv : Rho → Prop) : Rho → Post := fun ρ₁ v σ₃ => g = some v ∧ σ₃ = σ ∧ inv ρ₁
noncomputable abbrev KGF (g : Option PV) (σ : Sto) (inv : Rho → Prop) : Rho → Sto → Prop := fun ρ₁ σ₂ => g = none ∧ σ₂ = σ ∧ inv ρ₁
theorem comp_filter {α : Type} (f : α → PV) (g : α → Option PV) (inv : Rho → Prop) {c : Cx} {tgt elt : Expr} {ifs : List Expr} {pv : PV} {l : List PV} {Q : List PV → Sto → Prop} (S : Src σ pv l) : ∀ (T : List α) (acc : List PV) (ρ : Rho),
    (∀ a ∈ T, ∀ ρ', inv ρ' → AWP c [c.env.locals] tgt (f a) ρ' σ (KX c ifs elt (KGT (g a) σ inv) (KGF (g a) σ inv))) →
    inv ρ → Q (acc ++ T.filterMap g) σ → CompWP c tgt ifs elt pv l Q (T.map f) ρ σ acc
  | [], acc, ρ, _, _, q => comp_nil S (by simpa using q)
  | a :: T, acc, ρ, step, hi, q => by
    refine comp_cons S ((step a (.head _) ρ hi).mono fun ρ₁ σ₁ h => TestsWP.mono h fun b σ₂ hb => ?_)
    cases b with
    | true =>
      have hb' : EWP c elt ρ₁ σ₂ fun v σ₃ => (g a = some v ∧ σ₃ = σ ∧ inv ρ₁) := hb
      refine iteT (hb'.mono fun v σ₃ ⟨e1, e2, e3⟩ => ?_)
      rw [e2]
      refine comp_filter f g inv S T (acc ++ [v]) ρ₁ (fun a ha => step a (.tail _ ha)) e3 ?_
      rw [List.filterMap_cons, e1] at q
      simpa using q
    | false =>
      obtain ⟨e1, e2, e3⟩ : g a = none ∧ σ₂ = σ ∧ inv ρ₁ := hb
      rw [e2]
      refine iteF (comp_filter f g inv S T acc ρ₁ (fun a ha => step a (.tail _ ha)) e3 ?_)
      rw [List.filterMap_cons, e1] at q
      exact q
theorem comp_filterE {α : Type} (f : α → PV) (g : α → Option PV) (inv : Rho → Prop) {c : Cx} {tgt elt : Expr} {ifs : List Expr} {pv : PV} {l L : List PV} {Q : List PV → Sto → Prop} (T : List α) (hL : L = T.map f) (S : Src σ pv l)
    (step : ∀ a ∈ T, ∀ ρ', inv ρ' → AWP c [c.env.locals] tgt (f a) ρ' σ (KX c ifs elt (KGT (g a) σ inv) (KGF (g a) σ inv)))
    (hi : inv ρ) (q : Q (T.filterMap g) σ) : CompWP c tgt ifs elt pv l Q L ρ σ [] := by
  rw [hL]; exact comp_filter f g inv S T [] ρ step hi (by simpa using q)
noncomputable abbrev sOk (x : Str) : Prop := PyData.canLay0 (.str x) = true
theorem canStrs : ∀ {xs : List Str}, (∀ y ∈ xs, sOk y) → PyData.canLayAll0 (xs.map .str) = true
  | [], _ => rfl
  | x :: xs, h => by
    rw [List.map_cons]
    unfold PyData.canLayAll0
    rw [h x (.head _), canStrs fun y hy => h y (.tail _ hy)]; rfl
theorem depthStrs : ∀ xs : List Str, PyData.depthAll (xs.map .str) ≤ 1
  | [] => by simp [PyData.depthAll]
  | x :: xs => by
    have := depthStrs xs
    rw [List.map_cons]
    unfold PyData.depthAll PyData.depth
    lia
theorem shapedStr {x : Str} (h : sOk x) : SeqAt.shaped (.str x) = true := by
  unfold SeqAt.shaped; rw [h]; simp [PyData.depth]
theorem shapedStrs {xs : List Str} (h : ∀ y ∈ xs, sOk y) : SeqAt.shaped (.list (xs.map .str)) = true := by
  unfold SeqAt.shaped PyData.canLay0
  rw [canStrs h]
  have := depthStrs xs
  rw [Bool.true_and]
  exact decide_eq_true (by simp only [PyData.depth]; lia)
theorem shapedNil : SeqAt.shaped (.list []) = true := shapedStrs (xs := []) fun y hy => nomatch hy
theorem anyStrs (x : Str) : ∀ xs : List Str, ((xs.map PyData.str).any fun y => PyData.eqv y (.str x)) = decide (x ∈ xs)
  | [] => by simp
  | y :: ys => by
    rw [List.map_cons, List.any_cons, anyStrs x ys]
    show (y == x || decide (x ∈ ys)) = _
    by_cases h : y = x
    · simp [h]
    · have : (y == x) = false := beq_eq_false_iff_ne.mpr h
      rw [this, Bool.false_or]
      simp [Ne.symm h]
theorem o2_notin_strs {c : Cx} {b : PV} {xs : List Str} {x : Str} {Q : Post} (V : LstV σ b (xs.map .str)) (hx : sOk x) (hxs : ∀ y ∈ xs, sOk y) (q : Q (.bool (!decide (x ∈ xs))) σ) : O2 c (fun v w => operate [v, w] (compareOp .NotIn v w)) (.str x) b σ Q := by
  have db : DatV σ b (.list (xs.map .str)) := by
    cases V with
    | f => exact .lst (datStrs xs)
    | r e => exact .rlist e (datStrs xs)
  refine o2_notin .str (.inl db) (shapedStr hx) (canStrs hxs) ?_
  rw [anyStrs]; exact q
theorem o2_in_strs {c : Cx} {b : PV} {xs : List Str} {x : Str} {Q : Post} (V : LstV σ b (xs.map .str)) (hx : sOk x) (hxs : ∀ y ∈ xs, sOk y) (q : Q (.bool (decide (x ∈ xs))) σ) : O2 c (fun v w => operate [v, w] (compareOp .In v w)) (.str x) b σ Q := by
  have db : DatV σ b (.list (xs.map .str)) := by
    cases V with
    | f => exact .lst (datStrs xs)
    | r e => exact .rlist e (datStrs xs)
  refine o2_in .str (.inl db) (shapedStr hx) (canStrs hxs) ?_
  rw [anyStrs]; exact q
noncomputable def RowOk (before : List Row) (r : Row) : Prop := r.par = "" ∨ r.par ∈ names before
inductive Build : List Row → List Row → Prop
  | nil {b : List Row} : Build b []
  | cons {b : List Row} {r : Row} {t : List Row} : RowOk b r → Build (b ++ [r]) t → Build b (r :: t)
noncomputable def cond (F : List Str) (r : Row) : Bool := decide (r.par = "" ∨ r.par ∈ F)
theorem c_parents (ok : p.G.Ok) {k : Nat} {self st : PV} {fs : List (Str × PV)} {rows : List Row} (h : HasE σ self rows) (V : InstV σ self 571 fs) (hst : fs.lookup ("stands" : Str) = some st) (Vst : LstV σ st ((names rows).map .str)) (hall : ∀ r ∈ rows, (ents rows).lookup r.n = some (item r)) (hb : Build [] rows) (hz : rows.length < 1000) (hok : ∀ r ∈ rows, sOk r.n ∧ sOk r.par)
    (q : Q (.lst ((names rows).map .str)) σ) {env : Env} : CWP ⟨p.G, k + 3, env⟩ (.cst (.ref 446)) [self] σ Q := by
  refine cwp_def ok (ok_sparents p) (Nat.le_refl _) rfl fun L => ?_
  walk_at "open"
  walk_at "asg"
  walk_at "w"
  walk_at "w"
  with_reducible refine ewp_list_m ?_
  repeat walk_at "w"
  refine ⟨Nat.le_of_ble_eq_true rfl, ?_⟩
  repeat walk_at "w"
  refine KAttr.i (C := 571) (fs := fs) (v := st) (V.up up_app) (at_571_stands p) hst ?_
  repeat walk_at "w"
  with_reducible refine cwp_list_seq_m (.inl (Vst.up up_app)) (szl (by unfold names; simp; lia)) ?_
  repeat walk_at "w"
  refine ⟨Nat.le_of_ble_eq_true rfl, ?_⟩
  with_reducible refine awp_tuple (fun _ h => h) ?_ rfl ?he
  case he => exact rfl
  with_reducible refine als_cons ?_
  walk_at "cell"
  with_reducible refine als_cons ?_
  walk_at "loc"
  with_reducible refine als_nil ?_
  have e0 : σ ++ [PO.list []] ++ [.list ((names rows).map .str)] = pl σ (([] : List Str).map .str) ((names rows).map .str) := by simp [pl]
  have e1 : (σ ++ [PO.list []]).length = σ.length + 1 := by simp
  rw [e0, e1]
  with_reducible refine swp_cons (s1_while (rows.length + 1) ?_)
  have hac : ([] : List Row) ++ rows = rows := rfl
  obtain ⟨todo, ht⟩ : ∃ todo, todo = rows := ⟨_, rfl⟩
  have hsub : ∀ r ∈ todo, (ents rows).lookup r.n = some (item r) := by rw [ht]; exact hall
  show WhWP _ _ _ _ _ (rows.length + 1) (("self", self) :: ("found", .ref σ.length) :: ("rest", .ref (σ.length + 1)) :: ([] : Rho)) (pl σ ((names ([] : List Row)).map .str) ((names rows).map .str))
  have hl : todo.length < 1000 := by rw [ht]; exact hz
  have hb' : Build [] todo := by rw [ht]; exact hb
  have hac : ([] : List Row) ++ todo = rows := by rw [ht]; rfl
  rw [show WhWP _ _ _ _ _ (rows.length + 1) _ (pl σ ((names ([] : List Row)).map .str) ((names rows).map .str)) = WhWP _ _ _ _ _ (todo.length + 1) _ (pl σ ((names ([] : List Row)).map .str) ((names todo).map .str)) from by rw [ht]]
  clear hb ht hz
  have hd : ([] : List Row).length + todo.length < 1000 := by simpa using hl
  generalize ([] : List Row) = done at hac hb' hd ⊢
  generalize ([] : Rho) = ex
  clear hl
  have hokr : ∀ r ∈ todo, sOk r.n ∧ sOk r.par := fun r hr => hok r (by rw [← hac]; simp [hr])
  have hokd : ∀ y ∈ names done, sOk y := fun y hy => by
    unfold names at hy
    obtain ⟨r, hr, rfl⟩ := List.mem_map.mp hy
    exact (hok r (by rw [← hac]; simp [hr])).1
  induction todo generalizing done ex with
  | nil =>
    unfold WhWP
    repeat walk_at "w"
    with_reducible refine cwp_len_lst (.r pl1) (by decide) ?_
    repeat walk_at "w"
    rw [show decide ((((names ([] : List Row)).map PV.str).length : Int) > 0) = false from rfl]
    repeat walk_at "w"
    walk_at "ret"
    repeat walk_at "w"
    refine leave_pure (τ := [.list ((names done).map .str), .list ((names ([] : List Row)).map .str)]) (.rlist (Nat.le_refl _) pl0 (.low (lowStrs _))) ?_
    rw [List.append_nil] at hac
    rw [hac]; exact q
  | cons r todo ih =>
    unfold WhWP
    repeat walk_at "w"
    with_reducible refine cwp_len_lst (.r pl1) (by unfold names; simp at hd ⊢; lia) ?_
    repeat walk_at "w"
    rw [show decide ((((names (r :: todo)).map PV.str).length : Int) > 0) = true from by unfold names; simp]
    repeat walk_at "w"
    walk_at "cmp"
    repeat walk_at "w"
    refine ⟨(names (r :: todo)).map .str, szl (by unfold names; simp at hd ⊢; lia), fun C => ?_⟩
    have e2 : (names (r :: todo)).map PV.str = (r :: todo).map fun x => PV.str x.n := by unfold names; simp
    have hup : HasE (pl σ ((names done).map .str) ((names (r :: todo)).map .str)) self rows := h.app
    with_reducible refine comp_filterE (fun x => PV.str x.n) (fun x => if cond (names done) x then some (.str x.n) else none) (fun ρ => ρ.lookup ("self" : Str) = some self ∧ ρ.lookup ("found" : Str) = some (.ref σ.length)) (r :: todo) e2 (.lst (.r pl1)) (fun a ha ρ' hi => ?_) ?hi ?_
    case hi => exact ⟨rfl, rfl⟩
    · obtain ⟨hi1, hi2⟩ := hi
      walk_at "tgt"
      with_reducible refine tests_one ?_
      repeat walk_at "w"
      walk_at "ecmp"
      have hi1' : (rset "name" (.str a.n) ρ').lookup ("self" : Str) = some self := look_ne hi1 (by decide)
      have hi2' : (rset "name" (.str a.n) ρ').lookup ("found" : Str) = some (.ref σ.length) := look_ne hi2 (by decide)
      repeat walk_at "w"
      obtain ⟨fs', e', V', hn', he', hd'⟩ := id hup
      with_reducible refine KM.i (m1_sig ok V' hn' (me_571_direct p) (by decide)) (k_441 p) ?_
      repeat walk_at "w"
      with_reducible refine c_direct ok hup (hsub a ha) ?_
      refine ⟨if a.par = "" then [] else [.str a.par], szl (by split <;> simp), fun C' => ?_⟩
      with_reducible refine comp_filterE (α := Str) PV.str (fun x => if decide (x ∈ names done) then none else some (.str x)) (fun ρ => ρ.lookup ("found" : Str) = some (.ref σ.length)) (if a.par = "" then [] else [a.par]) ?e .tup (fun b hb ρ2 hi => ?_) ?hi ?_
      case e => split <;> rfl
      case hi => exact rfree_keep rfl hi2'
      · walk_at "tgt"
        with_reducible refine tests_one ?_
        have hi' : (rset "other" (.str b) ρ2).lookup ("found" : Str) = some (.ref σ.length) := look_ne hi (by decide)
        repeat walk_at "w"
        have hbp : a.par ≠ "" ∧ b = a.par := by
          split at hb
          · cases hb
          · exact ⟨by assumption, List.mem_singleton.mp hb⟩
        with_reducible refine o2_notin_strs (.r pl0) (by rw [hbp.2]; exact (hokr a ha).2) hokd ?_
        repeat walk_at "w"
        by_cases hm : b ∈ names done
        · rw [decide_eq_true hm, Bool.not_true]
          with_reducible refine iteF ⟨by rw [if_pos rfl], rfl, hi'⟩
        · rw [decide_eq_false hm, Bool.not_false]
          repeat walk_at "w"
          exact ⟨by rw [if_neg (by decide)], rfl, hi'⟩
      · with_reducible refine ewp_list ?_
        repeat walk_at "w"
        refine ⟨Nat.le_of_ble_eq_true rfl, ?_⟩
        have hcase : (cond (names done) a = true ∧ List.filterMap (fun x => if decide (x ∈ names done) = true then none else some (PV.str x)) (if a.par = "" then [] else [a.par]) = []) ∨ (cond (names done) a = false ∧ List.filterMap (fun x => if decide (x ∈ names done) = true then none else some (PV.str x)) (if a.par = "" then [] else [a.par]) = [PV.str a.par]) := by
          unfold cond
          by_cases h1 : a.par = ""
          · left; simp [h1]
          · by_cases h2 : a.par ∈ names done
            · left; simp [h1, h2]
            · right; simp [h1, h2]
        rcases hcase with ⟨hc1, hc2⟩ | ⟨hc1, hc2⟩
        · rw [hc2]
          with_reducible refine o2_eq (.lst .nil) (.lst .nil) shapedNil shapedNil ?_
          rw [show PyData.eqv (.list []) (.list []) = true from rfl]
          repeat walk_at "w"
          exact ⟨by rw [if_pos hc1], rfl, hi1', hi2'⟩
        · rw [hc2]
          have hs : SeqAt.shaped (.list [.str a.par]) = true := shapedStrs (xs := [a.par]) fun y hy => by rw [List.mem_singleton.mp hy]; exact (hokr a ha).2
          with_reducible refine o2_eq (.lst (.cons .str .nil)) (.lst .nil) hs shapedNil ?_
          rw [show PyData.eqv (.list [.str a.par]) (.list []) = false from rfl]
          repeat walk_at "w"
          exact ⟨by rw [if_neg (by rw [hc1]; decide)], rfl, hi1', hi2'⟩
    · have hbr : cond (names done) r = true := by
        cases hb' with
        | cons h1 _ => exact decide_eq_true h1
      rw [List.filterMap_cons, if_pos hbr]
      dsimp only
      have hTl : (List.filterMap (fun x => if cond (names done) x = true then some (PV.str x.n) else none) todo).length ≤ todo.length := List.length_filterMap_le _ _
      generalize List.filterMap (fun x => if cond (names done) x = true then some (PV.str x.n) else none) todo = T at hTl ⊢
      simp only [List.length_cons] at hd
      walk_at "if"
      repeat walk_at "w"
      with_reducible refine cwp_len_lst .f (by simp; lia) ?_
      repeat walk_at "w"
      rw [show (((PV.str r.n :: T).length : Int) == 0) = false from by rw [List.length_cons]; simp; lia]
      repeat walk_at "w"
      with_reducible refine swp_nil ?_
      walk_at "exp"
      repeat walk_at "w"
      with_reducible refine KM.i (m1_append pl0) rfl ?_
      repeat walk_at "w"
      with_reducible refine sub_lstN .f 0 (p := .str r.n) ?g (by decide) ?h ?_ ?i
      case g => exact rfl
      case h => exact rfl
      case i => intro _ _; rfl
      repeat walk_at "w"
      with_reducible refine cwp_append pl0 (szl (by unfold names; simp; lia)) ?_
      rw [pls0]
      walk_at "exp"
      repeat walk_at "w"
      with_reducible refine KM.i (m1_remove pl1) rfl ?_
      repeat walk_at "w"
      with_reducible refine sub_lstN .f 0 (p := .str r.n) ?g (by decide) ?h ?_ ?i
      case g => exact rfl
      case h => exact rfl
      case i => intro _ _; rfl
      repeat walk_at "w"
      with_reducible refine cwp_remove (xs := names todo) pl1 (by unfold names; rw [List.length_map, sizeLine_eq]; lia) ?_
      rw [pls1]
      with_reducible refine swp_nil ?_
      have e3 : (names done).map PV.str ++ [.str r.n] = (names (done ++ [r])).map .str := by simp [names]
      rw [e3]
      cases hb' with
      | cons h1 h2 =>
      exact ih (fun x hx => hsub x (.tail _ hx)) (done ++ [r]) (by simpa using hac) h2 (by simp; lia) (rset "able" (.lst (.str r.n :: T)) ex) (fun x hx => hokr x (.tail _ hx)) (fun y hy => by
        unfold names at hy
        rw [List.map_append] at hy
        rcases List.mem_append.mp hy with hy | hy
        · exact hokd y hy
        · simp at hy; rw [hy]; exact (hokr r (.head _)).1)
end
section
variable {p : Pk} {σ : Sto} {ρ : Rho} {Q : Post}
/-- a loop over a list: an invariant over what is done -/
theorem for_ind {α : Type} (f : α → PV) {c : Cx} {tgt : Expr} {body : List Stmt} {pv : PV} {l L : List PV} {Qn : Rho → Sto → Prop} {Qr : Post} (T : List α) (inv : List α → Rho → Sto → Prop) (hL : L = T.map f)
    (hS : ∀ d ρ σ, inv d ρ σ → Src σ pv l) (step : ∀ d a r, d ++ a :: r = T → ∀ ρ σ, inv d ρ σ → AWP c (ownA c.env) tgt (f a) ρ σ (KS c body (inv (d ++ [a])) Qr))
    (h0 : inv [] ρ σ) (hq : ∀ ρ σ, inv T ρ σ → Qn ρ σ) : ForWP c tgt body pv l Qn Qr L ρ σ := by
  rw [hL]
  have key : ∀ (r d : List α) (ρ : Rho) (σ : Sto), d ++ r = T → inv d ρ σ → ForWP c tgt body pv l Qn Qr (r.map f) ρ σ := by
    intro r
    induction r with
    | nil =>
      intro d ρ σ e h
      rw [List.append_nil] at e
      exact for_nil (hS d ρ σ h) (hq ρ σ (e ▸ h))
    | cons a r ih =>
      intro d ρ σ e h
      refine for_cons (hS d ρ σ h) ((step d a r e ρ σ h).mono fun ρ₁ σ₁ hb => SWP.mono hb (fun ρ₂ σ₂ h2 => ?_) fun _ _ q => q)
      exact ih (d ++ [a]) ρ₂ σ₂ (by simpa using e) h2
  exact key T [] ρ σ rfl h0
theorem c_allf (ok : p.G.Ok) {k : Nat} {self od : PV} {fs : List (Str × PV)} {rows : List Row} (h : HasE σ self rows) (V : InstV σ self 571 fs) (ho : fs.lookup ("ordered" : Str) = some od) (Vo : LstV σ od ((names rows).map .str)) (hall : ∀ r ∈ rows, (ents rows).lookup r.n = some (item r))
    (q : Q (.lst []) σ) {env : Env} : CWP ⟨p.G, k + 1, env⟩ (.cst (.ref 453)) [self] σ Q := by
  refine cwp_def ok (ok_sallf p) (Nat.le_refl _) rfl fun L => ?_
  walk_at "open"
  with_reducible refine swp_cons (s1_swap (names := ["found", "group"]) ?_ ?h1 ?h2 ?h3)
  case h1 => kernel_rfl
  case h2 => kernel_rfl
  case h3 => kernel_rfl
  walk_at "w"
  walk_at "w"
  with_reducible refine ewp_list_m ?_
  repeat walk_at "w"
  refine ⟨Nat.le_of_ble_eq_true rfl, ?_⟩
  repeat walk_at "w"
  refine ⟨Nat.le_of_ble_eq_true rfl, _, rfl, rfl, ?_⟩
  with_reducible refine swp_cons (s1_for ?_ ?hset)
  case hset => intro _; rfl
  repeat walk_at "w"
  refine ⟨571, _, _, V.up up_app, at_571_ordered p, ho, (names rows).map .str, ?_⟩
  with_reducible refine for_ind (fun r : Row => PV.str r.n) rows (fun _ ρ σ' => σ' = σ ++ [.list []] ∧ ρ.lookup ("self" : Str) = some self ∧ ρ.lookup ("found" : Str) = some (.ref σ.length)) ?hL ?hS ?step ?h0 ?_
  case hL => unfold names; simp
  case hS => refine fun _ _ _ => an2 fun eq0 _ => ?_; subst eq0; exact .lst (Vo.up up_app)
  case h0 => exact ⟨rfl, rfl, rfl⟩
  case step =>
    refine fun d a r e ρ σ' => an3 fun eq0 h1 h2 => ?_
    subst eq0
    walk_at "loc"
    have h1' : (rset "name" (.str a.n) ρ).lookup ("self" : Str) = some self := look_ne h1 (by decide)
    have h2' : (rset "name" (.str a.n) ρ).lookup ("found" : Str) = some (.ref σ.length) := look_ne h2 (by decide)
    with_reducible refine swp_cons (s1_for ?_ ?hset)
    case hset => intro _; rfl
    repeat walk_at "w"
    obtain ⟨fs', e', V', hn', he', hd'⟩ := id (h.app (τ := [.list []]))
    refine KAttr.i (C := 571) V' (at_571_entries p) he' ?_
    repeat walk_at "w"
    with_reducible refine sub_dict ok hd' (p := item a) ?h ?_ ?i
    case h => exact hall a (by rw [← e]; simp)
    case i => intro _ _; rfl
    repeat walk_at "w"
    with_reducible refine sub_tupN 7 (p := .tup []) ?g (by decide) ?h ?_ ?i
    case g => exact rfl
    case h => exact rfl
    case i => intro _ _; rfl
    refine ⟨[], ?_⟩
    with_reducible refine for_nil .tup ?_
    with_reducible refine swp_nil ⟨rfl, h1', h2'⟩
  refine fun ρ σ' => an3 fun eq0 h1 h2 => ?_
  subst eq0
  walk_at "ret"
  repeat walk_at "w"
  exact leave_pure (.rlist (Nat.le_refl _) get_last (.low .nil)) q
theorem c_lookf (ok : p.G.Ok) {k : Nat} {self of : PV} {fs : List (Str × PV)} (V : InstV σ self 571 fs) (ho : fs.lookup ("own_fields" : Str) = some of) (Vo : LstV σ of [])
    (q : Q .none σ) {env : Env} : CWP ⟨p.G, k + 1, env⟩ (.cst (.ref 460)) [self] σ Q := by
  refine cwp_def ok (ok_slookf p) (Nat.le_refl _) rfl fun L => ?_
  walk_at "open"
  walk_at "asg"
  with_reducible refine ewp_dict0 ?_
  walk_at "loc"
  with_reducible refine swp_cons (s1_for ?_ ?hset)
  case hset => intro _; rfl
  repeat walk_at "w"
  refine ⟨571, _, _, V.up up_app, at_571_own_fields p, ho, [], ?_⟩
  with_reducible refine for_nil (.lst (Vo.up up_app)) ?_
  with_reducible refine swp_nil ?_
  exact leave_pure (.low .none) q
theorem part_none {c : Cx} {Q : Option Int → Sto → Prop} (h : Q none σ) : PartWP c none ρ σ Q := h
noncomputable abbrev KPart (Q : Option Int → Sto → Prop) : Post := fun v σ' => ∃ i, v = .int i ∧ Q (some i) σ'
theorem part_some {c : Cx} {e : Expr} {Q : Option Int → Sto → Prop} (h : EWP c e ρ σ (KPart Q)) : PartWP c (some e) ρ σ Q := h
theorem own_comp {c : Cx} : ∀ a ∈ [c.env.locals], a ∈ ownA c.env := fun a h => by rw [List.mem_singleton.mp h]; simp [ownA]
structure Ord where
  als : Str
  sig : Str
noncomputable abbrev oitem (o : Ord) : PV := .tup [.str "open", .int 0, .str "util/ordering", .tup [.str o.sig], .str o.als]
noncomputable abbrev opened (o : Ord) : PV := .tup [.str o.als, .str o.sig]
theorem c_order (ok : p.G.Ok) {k : Nat} {fs d : List (Str × PV)} {st : List PV} {os : List Ord} {o : Ord} {r : PV} (hfo : fs.lookup ("opened" : Str) = some (.ref (σ.length + 3))) (hfe : fs.lookup ("entries" : Str) = some (.ref (σ.length + 1)))
    (hd : d.lookup o.sig = some r) (ha : o.als ≠ "") (hnew : o.als ∉ os.map (·.als)) (hz : os.length < 1000) (hok : sOk o.als ∧ ∀ x ∈ os.map (·.als), sOk x)
    (lfs : LowS (σ.length + 4) fs) (ld : LowS (σ.length + 4) d) (lst : LowL (σ.length + 4) st)
    (q : Q .none (sg σ fs d st ((os ++ [o]).map opened))) {env : Env} : CWP ⟨p.G, k + 1, env⟩ (.cst (.ref 465)) [.ref σ.length, oitem o] (sg σ fs d st (os.map opened)) Q := by
  refine cwp_def ok (ok_sorder p) (Nat.le_refl _) rfl fun L => ?_
  walk_at "open"
  walk_at "asg"
  with_reducible refine ewp_slice (ops := fun o i => [i, o]) ?_ ?hsl
  case hsl => intro _ _; rfl
  repeat walk_at "w"
  with_reducible refine part_some ?_
  repeat walk_at "w"
  refine ⟨1, rfl, ?_⟩
  with_reducible refine part_some ?_
  repeat walk_at "w"
  refine ⟨5, rfl, ?_⟩
  with_reducible refine part_none ?_
  refine ⟨_, Nat.le_of_ble_eq_true rfl, rfl, .inr ⟨rfl, rfl, szl (Nat.le_of_ble_eq_true rfl), ?_⟩⟩
  rw [show pickT [PV.str "open", .int 0, .str "util/ordering", .tup [.str o.sig], .str o.als] (some 1) (some 5) none = [.int 0, .str "util/ordering", .tup [.str o.sig], .str o.als] from rfl]
  with_reducible refine awp_tuple (fun _ h => h) ?_ rfl ?he
  case he => exact rfl
  with_reducible refine als_cons ?_
  walk_at "loc"
  with_reducible refine als_cons ?_
  walk_at "loc"
  with_reducible refine als_cons ?_
  walk_at "loc"
  with_reducible refine als_cons ?_
  walk_at "loc"
  with_reducible refine als_nil ?_
  walk_at "if"
  repeat walk_at "w"
  rw [show (!decide (Str.ofString "util/ordering" = Str.ofString "util/ordering")) = false from by simp]
  repeat walk_at "w"
  with_reducible refine cwp_len_tup (Nat.le_of_ble_eq_true rfl) ?_
  repeat walk_at "w"
  rw [show ((([PV.str o.sig].length : Nat) : Int) != 1) = false from rfl]
  repeat walk_at "w"
  with_reducible refine swp_nil ?_
  walk_at "if"
  repeat walk_at "w"
  with_reducible refine sub_tupN 0 (p := .str o.sig) ?g (by decide) ?h ?_ ?i
  case g => exact rfl
  case h => exact rfl
  case i => intro _ _; rfl
  repeat walk_at "w"
  refine KAttr.i (C := 571) (.r sg0) (at_571_entries p) hfe ?_
  with_reducible refine o2_notin_dict ok (.r sg1) ?_
  rw [hd, Option.isSome_some, Bool.not_true]
  repeat walk_at "w"
  with_reducible refine swp_nil ?_
  walk_at "asg"
  repeat walk_at "w"
  rw [decide_eq_false ha, Bool.not_false]
  repeat walk_at "w"
  walk_at "loc"
  walk_at "if"
  repeat walk_at "w"
  walk_at "ecmp"
  repeat walk_at "w"
  refine ⟨571, _, _, .r sg0, at_571_opened p, hfo, os.map opened, szl (by simp; lia), fun C => ?_⟩
  with_reducible refine comp_filterE opened (fun o => some (.str o.als)) (fun _ => True) os rfl (.lst (.r sg3)) (fun a _ ρ' _ => ?_) trivial ?_
  · with_reducible refine awp_tuple own_comp ?_ rfl ?he
    case he => exact rfl
    with_reducible refine als_cons ?_
    walk_at "tgt"
    with_reducible refine als_cons ?_
    walk_at "tgt"
    with_reducible refine als_nil ?_
    with_reducible refine tests_nil ?_
    have h1 : (rset "sig" (.str a.sig) (rset "other" (.str a.als) ρ')).lookup ("other" : Str) = some (.str a.als) := look_ne (rset_self _ _ _) (by decide)
    repeat walk_at "w"
    exact ⟨rfl, rfl, trivial⟩
  · have e : os.filterMap (fun o => some (PV.str o.als)) = (os.map (·.als)).map .str := by
      induction os with
      | nil => rfl
      | cons o os ih => simp [List.filterMap_cons]
    rw [e]
    with_reducible refine o2_in_strs .f hok.1 hok.2 ?_
    first | with_reducible refine iteDN hnew ?_ | with_reducible refine iteNDN hnew ?_ | rw [decide_eq_false hnew]
    repeat walk_at "w"
    with_reducible refine swp_nil ?_
    walk_at "exp"
    repeat walk_at "w"
    refine KAttr.i (C := 571) (.r sg0) (at_571_opened p) hfo ?_
    with_reducible refine KM.i (m1_append sg3) rfl ?_
    repeat walk_at "w"
    with_reducible refine sub_tupN 0 (p := .str o.sig) ?g (by decide) ?h ?_ ?i
    case g => exact rfl
    case h => exact rfl
    case i => intro _ _; rfl
    repeat walk_at "w"
    refine ⟨Nat.le_of_ble_eq_true rfl, ?_⟩
    repeat walk_at "w"
    with_reducible refine cwp_append sg3 (szl (by simp; lia)) ?_
    rw [sgs3]
    with_reducible refine swp_nil ?_
    have e2 : os.map opened ++ [opened o] = (os ++ [o]).map opened := by simp
    refine leave_sg .none lfs ld lst ?_ ?_
    · show LowL _ (os.map opened ++ [opened o])
      rw [e2]
      generalize os ++ [o] = l
      induction l with
      | nil => exact .nil
      | cons a l ih => exact .cons (.tup (.cons .str (.cons .str .nil))) ih
    · show Q .none (sg σ fs d st (os.map opened ++ [opened o]))
      rw [e2]; exact q
end
section
variable {p : Pk} {σ : Sto} {ρ : Rho} {Q : Post}
theorem sg_up {fs d : List (Str × PV)} {st op : List PV} (i : Nat) (o : PO) (h : σ[i]? = some o) : (sg σ fs d st op)[i]? = some o := up_app i o h
noncomputable def fin (n : Nat) (rows : List Row) : List (Str × PV) := base n ++ ([("ordered", .lst ((names rows).map .str)), ("own_fields", .lst [])] : List (Str × PV))
noncomputable def fin1 (n : Nat) (rows : List Row) : List (Str × PV) := base n ++ ([("ordered", .lst ((names rows).map .str))] : List (Str × PV))
theorem hasBase {rows : List Row} {st op : List PV} : HasE (sg σ (base σ.length) (ents rows) st op) (.ref σ.length) rows := ⟨base σ.length, .ref (σ.length + 1), .r sg0, noBase _, rfl, .r sg1⟩
theorem noFin (n : Nat) (rows : List Row) : noM (fin n rows) := by unfold noM fin base; rfl
theorem noFin1 (n : Nat) (rows : List Row) : noM (fin1 n rows) := by unfold noM fin1 base; rfl
theorem hasFin {rows : List Row} {st op : List PV} : HasE (sg σ (fin σ.length rows) (ents rows) st op) (.ref σ.length) rows := ⟨fin σ.length rows, .ref (σ.length + 1), .r sg0, noFin _ _, rfl, .r sg1⟩
theorem hasFin1 {rows : List Row} {st op : List PV} : HasE (sg σ (fin1 σ.length rows) (ents rows) st op) (.ref σ.length) rows := ⟨fin1 σ.length rows, .ref (σ.length + 1), .r sg0, noFin1 _ _, rfl, .r sg1⟩
theorem lowFin (n : Nat) (rows : List Row) : LowS (n + 4) (fin n rows) := .cons (.ref (by lia)) (.cons (.ref (by lia)) (.cons (.ref (by lia)) (.cons (.lst (lowStrs _)) (.cons (.lst .nil) .nil))))
theorem ents_none {rows : List Row} {x : Str} (h : x ∉ names rows) : (ents rows).lookup x = Option.none := by
  induction rows with
  | nil => rfl
  | cons r rows ih =>
    unfold names at h
    simp only [List.map_cons, List.mem_cons, not_or] at h
    unfold ents
    rw [List.map_cons, List.lookup_cons, beq_eq_false_iff_ne.mpr h.1]
    exact ih h.2
theorem ents_some {rows : List Row} {r : Row} (hn : (names rows).Nodup) (h : r ∈ rows) : (ents rows).lookup r.n = some (item r) := by
  induction rows with
  | nil => cases h
  | cons a rows ih =>
    unfold names at hn
    rw [List.map_cons, List.nodup_cons] at hn
    unfold ents
    rw [List.map_cons, List.lookup_cons]
    rcases List.mem_cons.mp h with rfl | h
    · simp
    · have : r.n ≠ a.n := fun e => hn.1 (e ▸ List.mem_map_of_mem (f := (·.n)) h)
      rw [beq_eq_false_iff_ne.mpr this]
      exact ih hn.2 h
theorem ents_mem {rows : List Row} {x : Str} (hn : (names rows).Nodup) (h : x ∈ names rows) : ∃ r ∈ rows, r.n = x ∧ (ents rows).lookup x = some (item r) := by
  unfold names at h
  obtain ⟨r, hr, rfl⟩ := List.mem_map.mp h
  exact ⟨r, hr, rfl, ents_some hn hr⟩
theorem build_par : ∀ {b t : List Row}, Build b t → ∀ r ∈ t, r.par = "" ∨ r.par ∈ names (b ++ t)
  | _, _, .nil, r, h => nomatch h
  | b, _, .cons (r := a) (t := t) h1 h2, r, h => by
    rcases List.mem_cons.mp h with rfl | h
    · refine h1.imp id fun q => ?_
      unfold names at q ⊢
      rw [List.map_append]; exact List.mem_append_left _ q
    · have := build_par h2 r h
      simpa using this
structure RowsOk (rows : List Row) : Prop where
  nodup : (names rows).Nodup
  build : Build [] rows
  small : rows.length < 1000
  ok : ∀ r ∈ rows, sOk r.n ∧ sOk r.par
structure OrdsOk (rows : List Row) (os : List Ord) : Prop where
  nodup : (os.map (·.als)).Nodup
  ne : ∀ o ∈ os, o.als ≠ "" ∧ o.sig ∈ names rows ∧ sOk o.als
  small : os.length < 1000
noncomputable def lefts : List (Row ⊕ Ord) → List Row
  | [] => []
  | .inl r :: t => r :: lefts t
  | .inr _ :: t => lefts t
noncomputable def rights : List (Row ⊕ Ord) → List Ord
  | [] => []
  | .inl _ :: t => rights t
  | .inr o :: t => o :: rights t
theorem lefts_app : ∀ (a b : List (Row ⊕ Ord)), lefts (a ++ b) = lefts a ++ lefts b
  | [], _ => rfl
  | .inl r :: t, b => by simp [lefts, lefts_app t b]
  | .inr _ :: t, b => by simp [lefts, lefts_app t b]
theorem rights_app : ∀ (a b : List (Row ⊕ Ord)), rights (a ++ b) = rights a ++ rights b
  | [], _ => rfl
  | .inl r :: t, b => by simp [rights, rights_app t b]
  | .inr _ :: t, b => by simp [rights, rights_app t b]
theorem lefts_inl : ∀ rows : List Row, lefts (rows.map .inl) = rows
  | [] => rfl
  | r :: t => by simp [lefts, lefts_inl t]
theorem lefts_inr : ∀ os : List Ord, lefts (os.map .inr) = []
  | [] => rfl
  | r :: t => by simp [lefts, lefts_inr t]
theorem rights_inl : ∀ rows : List Row, rights (rows.map .inl) = []
  | [] => rfl
  | r :: t => by simp [rights, rights_inl t]
theorem rights_inr : ∀ os : List Ord, rights (os.map .inr) = os
  | [] => rfl
  | r :: t => by simp [rights, rights_inr t]
noncomputable def either : Row ⊕ Ord → PV
  | .inl r => item r
  | .inr o => oitem o
theorem c_signatures (ok : p.G.Ok) {k : Nat} {rows : List Row} {os : List Ord} {items : PV} (Vi : LstV σ items (rows.map item ++ os.map oitem)) (R : RowsOk rows) (O : OrdsOk rows os)
    (q : Q (.ref σ.length) (sg σ (fin σ.length rows) (ents rows) ((names rows).map .str) (os.map opened))) {env : Env} : CWP ⟨p.G, k + 5, env⟩ (.cst (.ref 571)) [items] σ Q := by
  refine cwp_cls ok (mk_571 p) (in_571 p) (by kernel_rfl) (ok_sinit p) (Nat.le_refl _) rfl fun L => ?_
  walk_at "open"
  walk_at "asg"
  with_reducible refine ewp_dict0 ?_
  with_reducible refine awp_attr ok ?_
  repeat walk_at "w"
  have hset : ∀ (o o' : PO) (t t' : Sto), List.set (σ ++ (o :: t) ++ t') σ.length o' = σ ++ (o' :: (t ++ t')) := fun o o' t t' => by simp [List.set_append_right]
  have hl1 : ∀ (a : PO), (σ ++ [a]).length = σ.length + 1 := fun a => by simp
  have hl2 : ∀ (a b : PO), (σ ++ [a, b]).length = σ.length + 2 := fun a b => by simp
  have hl3 : ∀ (a b d : PO), (σ ++ [a, b, d]).length = σ.length + 3 := fun a b d => by simp
  have hg : ∀ (a : PO) (t t' : Sto), (σ ++ (a :: t) ++ t')[σ.length]? = some a := fun a t t' => by simp
  refine ⟨571, _, [], rfl, hg _ [] _, st_571_entries p, by decide, ?_⟩
  rw [hset, hl1]
  show SWP _ _ _ (σ ++ [.inst 571 [("entries", .ref (σ.length + 1))], .sdict []]) _ _
  walk_at "asg"
  with_reducible refine ewp_list_m ?_
  repeat walk_at "w"
  refine ⟨Nat.le_of_ble_eq_true rfl, ?_⟩
  with_reducible refine awp_attr ok ?_
  repeat walk_at "w"
  refine ⟨571, _, [("entries", .ref (σ.length + 1))], rfl, hg _ _ _, st_571_stands p, Nat.le_of_ble_eq_true rfl, ?_⟩
  rw [hset, hl2]
  show SWP _ _ _ (σ ++ [.inst 571 [("entries", .ref (σ.length + 1)), ("stands", .ref (σ.length + 2))], .sdict [], .list []]) _ _
  walk_at "asg"
  with_reducible refine ewp_list_m ?_
  repeat walk_at "w"
  refine ⟨Nat.le_of_ble_eq_true rfl, ?_⟩
  with_reducible refine awp_attr ok ?_
  repeat walk_at "w"
  refine ⟨571, _, [("entries", .ref (σ.length + 1)), ("stands", .ref (σ.length + 2))], rfl, hg _ _ _, st_571_opened p, Nat.le_of_ble_eq_true rfl, ?_⟩
  rw [hset, hl3]
  show SWP _ _ _ (sg σ (base σ.length) [] [] []) _ _
  have eT : rows.map item ++ os.map oitem = (rows.map Sum.inl ++ os.map Sum.inr).map either := by simp [either, Function.comp_def]
  have eL : lefts (rows.map Sum.inl ++ os.map Sum.inr) = rows := by rw [lefts_app, lefts_inl, lefts_inr, List.append_nil]
  have eR : rights (rows.map Sum.inl ++ os.map Sum.inr) = os := by rw [rights_app, rights_inl, rights_inr, List.nil_append]
  have hall : ∀ r ∈ rows, (ents rows).lookup r.n = some (item r) := fun r hr => ents_some R.nodup hr
  have hsub : ∀ {a b c : List Row}, a ++ b = c → (names c).Nodup → (names a).Nodup := fun e h => by
    unfold names at h ⊢
    rw [← e, List.map_append] at h
    exact (List.nodup_append.mp h).1
  -- first loop
  with_reducible refine swp_cons (s1_for ?_ ?hset)
  case hset => intro _; rfl
  repeat walk_at "w"
  refine ⟨rows.map item ++ os.map oitem, ?_⟩
  with_reducible refine for_ind either (rows.map Sum.inl ++ os.map Sum.inr) (fun d ρ σ' => σ' = sg σ (base σ.length) (ents (lefts d)) ((names (lefts d)).map .str) [] ∧ ρ.lookup ("self" : Str) = some (.ref σ.length) ∧ ρ.lookup ("items" : Str) = some items) eT ?hS ?step ?h0 ?_
  case hS => refine fun d ρ σ' => an2 fun eq0 _ => ?_; subst eq0; exact .lst (Vi.up sg_up)
  case h0 => exact ⟨rfl, rfl, rfl⟩
  case step =>
    refine fun d a r e ρ σ' => an3 fun eq0 h1 h2 => ?_
    subst eq0
    walk_at "loc"
    have h1' : (rset "item" (either a) ρ).lookup ("self" : Str) = some (.ref σ.length) := look_ne h1 (by decide)
    have h2' : (rset "item" (either a) ρ).lookup ("items" : Str) = some items := look_ne h2 (by decide)
    walk_at "if"
    repeat walk_at "w"
    cases a with
    | inl x =>
      show SubA _ _ _ (item x) _ _ _
      with_reducible refine sub_tupN 0 (p := .str "sig") ?g (by decide) ?h ?_ ?i
      case g => exact rfl
      case h => exact rfl
      case i => intro _ _; rfl
      repeat walk_at "w"
      rw [show decide (Str.ofString "sig" = Str.ofString "sig") = true from by simp]
      repeat walk_at "w"
      walk_at "exp"
      repeat walk_at "w"
      with_reducible refine KM.i (m1_sig ok (.r sg0) (noBase _) (me_571_take_sig p) (by decide)) (k_427 p) ?_
      repeat walk_at "w"
      have el : lefts d ++ x :: lefts r = rows := by
        have := congrArg lefts e
        rw [lefts_app, eL] at this
        exact this
      have hnew : (ents (lefts d)).lookup x.n = Option.none := by
        refine ents_none fun hm => ?_
        have hn := R.nodup
        unfold names at hn hm
        rw [← el, List.map_append, List.map_cons] at hn
        exact (List.nodup_append.mp hn).2.2 _ hm _ (.head _) rfl
      show CWP _ _ [PV.ref σ.length, item x] _ _
      with_reducible refine c_take ok hnew (by have := congrArg List.length el; have h5 := R.small; simp at this; lia) ?_
      with_reducible refine swp_nil ?_
      with_reducible refine swp_nil ?_
      have : lefts (d ++ [.inl x]) = lefts d ++ [x] := by rw [lefts_app]; rfl
      rw [this]
      exact ⟨rfl, h1', h2'⟩
    | inr x =>
      show SubA _ _ _ (oitem x) _ _ _
      with_reducible refine sub_tupN 0 (p := .str "open") ?g (by decide) ?h ?_ ?i
      case g => exact rfl
      case h => exact rfl
      case i => intro _ _; rfl
      repeat walk_at "w"
      rw [show decide (Str.ofString "open" = Str.ofString "sig") = false from by decide]
      repeat walk_at "w"
      with_reducible refine swp_nil ?_
      with_reducible refine swp_nil ?_
      have : lefts (d ++ [.inr x]) = lefts d := by rw [lefts_app]; simp [lefts]
      rw [this]
      exact ⟨rfl, h1', h2'⟩
  refine fun ρ σ' => an3 fun eq0 h1 h2 => ?_
  subst eq0
  rw [eL]
  -- second loop
  with_reducible refine swp_cons (s1_for ?_ ?hset)
  case hset => intro _; rfl
  repeat walk_at "w"
  refine ⟨571, _, _, .r sg0, at_571_stands p, rfl, (names rows).map .str, ?_⟩
  with_reducible refine for_ind (fun r : Row => PV.str r.n) rows (fun d ρ σ' => σ' = sg σ (base σ.length) (ents rows) ((names rows).map .str) [] ∧ ρ.lookup ("self" : Str) = some (.ref σ.length) ∧ ρ.lookup ("items" : Str) = some items) ?hL ?hS ?step ?h0 ?_
  case hL => unfold names; simp
  case hS => refine fun d ρ σ' => an2 fun eq0 _ => ?_; subst eq0; exact .lst (.r sg2)
  case h0 => exact ⟨rfl, h1, h2⟩
  case step =>
    refine fun d a r e ρ σ' => an3 fun eq0 h1 h2 => ?_
    subst eq0
    walk_at "loc"
    have h1' : (rset "name" (.str a.n) ρ).lookup ("self" : Str) = some (.ref σ.length) := look_ne h1 (by decide)
    have h2' : (rset "name" (.str a.n) ρ).lookup ("items" : Str) = some items := look_ne h2 (by decide)
    have ha : a ∈ rows := by rw [← e]; simp
    walk_at "exp"
    repeat walk_at "w"
    with_reducible refine KM.i (m1_sig ok (.r sg0) (noBase _) (me_571_look_above p) (by decide)) (k_434 p) ?_
    repeat walk_at "w"
    with_reducible refine c_look ok hasBase (hall a ha) ?hp ?_
    case hp =>
      rcases build_par R.build a ha with hp | hp
      · exact .inl hp
      · obtain ⟨r', _, _, hr'⟩ := ents_mem R.nodup hp
        exact .inr ⟨r', hr'⟩
    with_reducible refine swp_nil ⟨rfl, h1', h2'⟩
  clear h1 h2
  refine fun ρ σ' => an3 fun eq0 h1 h2 => ?_
  subst eq0
  walk_at "asg"
  repeat walk_at "w"
  with_reducible refine KM.i (m1_sig ok (.r sg0) (noBase _) (me_571_parents_first p) (by decide)) (k_446 p) ?_
  repeat walk_at "w"
  with_reducible refine c_parents ok hasBase (.r sg0) (st := .ref (σ.length + 2)) rfl (.r sg2) hall R.build R.small R.ok ?_
  with_reducible refine awp_attr ok ?_
  repeat walk_at "w"
  refine ⟨571, _, base σ.length, rfl, sg0, st_571_ordered p, Nat.le_of_ble_eq_true rfl, ?_⟩
  rw [sgs0]
  show SWP _ _ _ (sg σ (fin1 σ.length rows) _ _ _) _ _
  walk_at "asg"
  repeat walk_at "w"
  with_reducible refine KM.i (m1_sig ok (.r sg0) (noFin1 _ _) (me_571_all_fields p) (by decide)) (k_453 p) ?_
  repeat walk_at "w"
  with_reducible refine c_allf ok hasFin1 (.r sg0) (od := .lst ((names rows).map .str)) rfl .f hall ?_
  with_reducible refine awp_attr ok ?_
  repeat walk_at "w"
  refine ⟨571, _, fin1 σ.length rows, rfl, sg0, st_571_own_fields p, Nat.le_of_ble_eq_true rfl, ?_⟩
  rw [sgs0]
  show SWP _ _ _ (sg σ (fin σ.length rows) _ _ _) _ _
  walk_at "exp"
  repeat walk_at "w"
  with_reducible refine KM.i (m1_sig ok (.r sg0) (noFin _ _) (me_571_look_fields p) (by decide)) (k_460 p) ?_
  repeat walk_at "w"
  with_reducible refine c_lookf ok (.r sg0) (of := .lst []) rfl .f ?_
  -- last loop
  with_reducible refine swp_cons (s1_for ?_ ?hset)
  case hset => intro _; rfl
  repeat walk_at "w"
  refine ⟨rows.map item ++ os.map oitem, ?_⟩
  with_reducible refine for_ind either (rows.map Sum.inl ++ os.map Sum.inr) (fun d ρ σ' => σ' = sg σ (fin σ.length rows) (ents rows) ((names rows).map .str) ((rights d).map opened) ∧ ρ.lookup ("self" : Str) = some (.ref σ.length)) eT ?hS ?step ?h0 ?_
  case hS => refine fun d ρ σ' => an2 fun eq0 _ => ?_; subst eq0; exact .lst (Vi.up sg_up)
  case h0 => exact ⟨rfl, h1⟩
  case step =>
    clear h1 h2
    refine fun d a r e ρ σ' => an2 fun eq0 h1 => ?_
    subst eq0
    walk_at "loc"
    have h1' : (rset "item" (either a) ρ).lookup ("self" : Str) = some (.ref σ.length) := look_ne h1 (by decide)
    walk_at "if"
    repeat walk_at "w"
    cases a with
    | inl x =>
      show SubA _ _ _ (item x) _ _ _
      with_reducible refine sub_tupN 0 (p := .str "sig") ?g (by decide) ?h ?_ ?i
      case g => exact rfl
      case h => exact rfl
      case i => intro _ _; rfl
      repeat walk_at "w"
      rw [show decide (Str.ofString "sig" = Str.ofString "open") = false from by decide]
      repeat walk_at "w"
      with_reducible refine swp_nil ?_
      with_reducible refine swp_nil ?_
      have : rights (d ++ [.inl x]) = rights d := by rw [rights_app]; simp [rights]
      rw [this]
      exact ⟨rfl, h1'⟩
    | inr x =>
      show SubA _ _ _ (oitem x) _ _ _
      with_reducible refine sub_tupN 0 (p := .str "open") ?g (by decide) ?h ?_ ?i
      case g => exact rfl
      case h => exact rfl
      case i => intro _ _; rfl
      repeat walk_at "w"
      rw [show decide (Str.ofString "open" = Str.ofString "open") = true from by simp]
      repeat walk_at "w"
      walk_at "exp"
      repeat walk_at "w"
      with_reducible refine KM.i (m1_sig ok (.r sg0) (noFin _ _) (me_571_take_order p) (by decide)) (k_465 p) ?_
      repeat walk_at "w"
      have el : rights d ++ x :: rights r = os := by
        have := congrArg rights e
        rw [rights_app, eR] at this
        exact this
      have hx := O.ne x (by rw [← el]; simp)
      obtain ⟨r', _, _, hr'⟩ := ents_mem R.nodup hx.2.1
      show CWP _ _ [PV.ref σ.length, oitem x] _ _
      with_reducible refine c_order ok (r := item r') rfl rfl hr' hx.1 ?hnew ?hz ⟨hx.2.2, ?hok⟩ (lowFin _ _) (lowEnts _) (lowStrs _) ?_
      case hnew =>
        have hn := O.nodup
        rw [← el, List.map_append, List.map_cons] at hn
        exact fun hm => (List.nodup_append.mp hn).2.2 _ hm _ (.head _) rfl
      case hz => have := congrArg List.length el; have h5 := O.small; simp at this; lia
      case hok =>
        intro y hy
        obtain ⟨o, ho, rfl⟩ := List.mem_map.mp hy
        exact (O.ne o (by rw [← el]; simp [ho])).2.2
      with_reducible refine swp_nil ?_
      with_reducible refine swp_nil ?_
      have : rights (d ++ [.inr x]) = rights d ++ [x] := by rw [rights_app]; rfl
      rw [this]
      exact ⟨rfl, h1'⟩
  clear h1 h2
  refine fun ρ σ' => an2 fun eq0 h1 => ?_
  subst eq0
  rw [eR]
  with_reducible refine swp_nil ?_
  exact q
end
section
variable {p : Pk} {σ : Sto} {ρ : Rho} {Q : Post}
noncomputable abbrev rel (l : List (List Int)) : PV := .tup (l.map tupI)
theorem lowTupI {n : Nat} (k : List Int) : Low n (tupI k) := .tup (lowInts k)
theorem lowRel {n : Nat} : ∀ l : List (List Int), LowL n (l.map tupI)
  | [] => .nil
  | k :: l => .cons (lowTupI k) (lowRel l)
theorem rsetT_find (k x : List Int) (v : PV) (d : List (List Int × PV)) : ((rsetT x v d).find? fun y => decide (y.1 = k)).isSome = (decide (x = k) || (d.find? fun y => decide (y.1 = k)).isSome) := by
  unfold rsetT
  split
  · rename_i h
    have e : ∀ d : List (List Int × PV), ((d.map fun y => if y.1 = x then (y.1, v) else y).find? fun y => decide (y.1 = k)).isSome = (d.find? fun y => decide (y.1 = k)).isSome := by
      intro d
      induction d with
      | nil => rfl
      | cons y d ih =>
        rw [List.map_cons, List.find?_cons, List.find?_cons]
        have : (if y.1 = x then (y.1, v) else y).1 = y.1 := by split <;> rfl
        rw [this]
        split
        · rfl
        · exact ih
    rw [e]
    by_cases hk : x = k
    · subst hk; rw [h]; simp
    · simp [hk]
  · rw [List.find?_append]
    by_cases hk : x = k
    · simp [hk]
    · simp [hk]
theorem foldT_find (k : List Int) : ∀ (t : List (List Int)) (d : List (List Int × PV)), (((t.map fun x => (x, PV.bool true)).foldl (fun d kv => rsetT kv.1 kv.2 d) d).find? fun y => decide (y.1 = k)).isSome = (decide (k ∈ t) || (d.find? fun y => decide (y.1 = k)).isSome)
  | [], d => by simp
  | x :: t, d => by
    rw [List.map_cons, List.foldl_cons, foldT_find k t, rsetT_find]
    by_cases h1 : x = k
    · simp [h1]
    · have : ¬ k = x := fun e => h1 e.symm
      simp [h1, this]
theorem c_minus (ok : p.G.Ok) {k : Nat} {s t : List (List Int)} (hs : s.length < 100000) (ht : t.length < 100000) (q : Q (rel (s.filter fun x => !decide (x ∈ t))) σ) {env : Env} : CWP ⟨p.G, k + 1, env⟩ (.cst (.ref 143)) [rel s, rel t] σ Q := by
  refine cwp_def ok (ok_minus p) (Nat.le_refl _) rfl fun L => ?_
  walk_at "open"
  walk_at "asg"
  repeat walk_at "w"
  walk_at "ecmp"
  repeat walk_at "w"
  refine ⟨t.map tupI, szl (by simp; lia), fun C => ?_⟩
  with_reducible refine comp_filterE tupI (fun x => some (pairT (x, .bool true))) (fun _ => True) t rfl .tup (fun a _ ρ' _ => ?_) trivial ?_
  · walk_at "tgt"
    with_reducible refine tests_nil ?_
    repeat walk_at "w"
    exact ⟨Nat.le_of_ble_eq_true rfl, rfl, rfl, trivial⟩
  have e1 : t.filterMap (fun x => some (pairT (x, .bool true))) = (t.map fun x => (x, PV.bool true)).map pairT := by
    rw [List.map_map]; clear ht q; induction t with
    | nil => rfl
    | cons a t ih => rw [List.filterMap_cons, ih]; rfl
  rw [e1]
  repeat walk_at "w"
  with_reducible refine cwp_dict_tups ok .f (szl (by simp; lia)) ?_
  walk_at "cell"
  walk_at "ret"
  repeat walk_at "w"
  walk_at "ecmp"
  repeat walk_at "w"
  refine ⟨s.map tupI, szl (by simp; lia), fun C => ?_⟩
  with_reducible refine comp_filterE tupI (fun x => if decide (x ∈ t) then none else some (tupI x)) (fun ρ => ρ.lookup ("known" : Str) = some (.td (foldT (t.map fun x => (x, PV.bool true))))) s rfl .tup (fun a _ ρ' h => ?_) ?hi ?_
  case hi => exact rfree_keep rfl rfl
  · walk_at "tgt"
    have h' : (rset "one" (tupI a) ρ').lookup ("known" : Str) = some (.td (foldT (t.map fun x => (x, PV.bool true)))) := look_ne h (by decide)
    with_reducible refine tests_one ?_
    repeat walk_at "w"
    with_reducible refine o2_notin_td ?_
    rw [show ((foldT (t.map fun x => (x, PV.bool true))).find? fun x => decide (x.1 = a)).isSome = (decide (a ∈ t) || (([] : List (List Int × PV)).find? fun y => decide (y.1 = a)).isSome) from foldT_find a t []]
    repeat walk_at "w"
    by_cases hm : a ∈ t
    · rw [show (!(decide (a ∈ t) || (List.find? (fun y => decide (y.1 = a)) ([] : List (List Int × PV))).isSome)) = false from by simp [hm]]
      with_reducible refine iteF ⟨by simp [hm], rfl, h'⟩
    · rw [show (!(decide (a ∈ t) || (List.find? (fun y => decide (y.1 = a)) ([] : List (List Int × PV))).isSome)) = true from by simp [hm]]
      repeat walk_at "w"
      exact ⟨by simp [hm], rfl, h'⟩
  have e2 : s.filterMap (fun x => if decide (x ∈ t) then none else some (tupI x)) = (s.filter fun x => !decide (x ∈ t)).map tupI := by
    clear hs q
    induction s with
    | nil => rfl
    | cons a s ih =>
      rw [List.filterMap_cons, List.filter_cons]
      by_cases hm : a ∈ t
      · simp [hm]; simpa using ih
      · simp [hm]; simpa using ih
  rw [e2]
  repeat walk_at "w"
  with_reducible refine cwp_tuple_list .f (szl (by have := List.length_filter_le (fun x => !decide (x ∈ t)) s; simp at this ⊢; lia)) ?_
  exact leave_id (.tup (lowRel _)) q
theorem c_within (ok : p.G.Ok) {k : Nat} {s t : List (List Int)} (hs : s.length < 100000) (ht : t.length < 100000) (hst : ∀ x ∈ s, x ∈ t) (q : Q (.bool true) σ) {env : Env} : CWP ⟨p.G, k + 2, env⟩ (.cst (.ref 150)) [rel s, rel t] σ Q := by
  refine cwp_def ok (ok_within p) (Nat.le_refl _) rfl fun L => ?_
  walk_at "open"
  walk_at "ret"
  repeat walk_at "w"
  refine ⟨k_143 p, ?_⟩
  repeat walk_at "w"
  with_reducible refine c_minus ok hs ht ?_
  have e : (s.filter fun x => !decide (x ∈ t)) = [] := by rw [List.filter_eq_nil_iff]; intro x hx; simp [hst x hx]
  rw [e]
  repeat walk_at "w"
  refine ⟨Nat.le_of_ble_eq_true rfl, ?_⟩
  have sh : SeqAt.shaped (.tuple []) = true := by unfold SeqAt.shaped PyData.canLay0 PyData.canLayAll0; simp [PyData.depth, PyData.depthAll]
  refine o2_eq (.tup .nil) (.tup .nil) sh sh ?_
  exact leave_id .bool q
end
section
variable {p : Pk} {σ : Sto} {ρ : Rho} {Q : Post}
/-- a universe -/
noncomputable def UniV (σ : Sto) (u : PV) (xs : List Str) : Prop := ∃ nd, InstV σ u 207 [("names", .tup (xs.map .str)), ("numbers", nd)]
theorem m1_of (ok : p.G.Ok) {k : Nat} {env : Env} {self : PV} {C f : Addr} {fs : List (Str × PV)} {name : Str} (V : InstV σ self C fs) (me : plainGet p.G.K C name = true ∧ findIn p.G.K (.ref C) name = some (some (.ref f)) ∧ isFn p.G.K (.ref f) = true) (hm : fs.lookup name = Option.none) : M1 ⟨p.G, k, env⟩ self name σ (.cst (.ref f)) := mwp_inst ok V me.1 me.2.1 me.2.2 hm ⟨rfl, rfl, rfl⟩
theorem c_usize (ok : p.G.Ok) {k : Nat} {u : PV} {xs : List Str} (U : UniV σ u xs) (hz : xs.length < 100000) (q : Q (.int xs.length) σ) {env : Env} : CWP ⟨p.G, k + 1, env⟩ (.cst (.ref 176)) [u] σ Q := by
  obtain ⟨nd, V⟩ := U
  refine cwp_def ok (ok_usize p) (Nat.le_refl _) rfl fun L => ?_
  walk_at "open"
  walk_at "ret"
  repeat walk_at "w"
  refine KAttr.i (C := 207) V (at_207_names p) rfl ?_
  repeat walk_at "w"
  with_reducible refine cwp_len_tup (by rw [List.length_map]; lia) ?_
  rw [List.length_map]
  exact leave_id .int q
theorem c_uname (ok : p.G.Ok) {k : Nat} {u : PV} {xs : List Str} {a : Nat} {x : Str} (U : UniV σ u xs) (hz : xs.length < 100000) (ha : xs[a]? = some x) (q : Q (.str x) σ) {env : Env} : CWP ⟨p.G, k + 1, env⟩ (.cst (.ref 183)) [u, .int a] σ Q := by
  obtain ⟨nd, V⟩ := U
  refine cwp_def ok (ok_uname p) (Nat.le_refl _) rfl fun L => ?_
  walk_at "open"
  walk_at "ret"
  repeat walk_at "w"
  refine KAttr.i (C := 207) V (at_207_names p) rfl ?_
  repeat walk_at "w"
  have hlt := (List.getElem?_eq_some_iff.mp ha).1
  with_reducible refine sub_tupN a (p := .str x) ?g (by lia) ?h ?_ ?i
  case g => exact rfl
  case h => rw [List.getElem?_map, ha]; rfl
  case i => intro _ _; rfl
  exact leave_id .str q
structure BndV (σ : Sto) (self : PV) (u : PV) (i j m : Nat) (xs : List Str) (bs : List PV) (ns : List (Str × PV)) : Prop where
  self : self = .ref i
  inst : σ[i]? = some (.inst 284 [("universe", u), ("bounds", .ref j), ("numbers", .ref m)])
  bs : σ[j]? = some (.list bs)
  ns : σ[m]? = some (.sdict ns)
  uni : UniV σ u xs
  jm : j ≠ m ∧ i ≠ j ∧ i ≠ m
theorem cwp_isi_tupI {c : Cx} {l : List Int} (q : Q (.bool true) σ) : CWP c (.cst (.builtin "isinstance")) [tupI l, .cst (.type "tuple")] σ Q := cwp_isi_tup q
theorem cwp_len_tupI {c : Cx} {l : List Int} (hz : l.length < 2 ^ 50) (q : Q (.int l.length) σ) : CWP c (.cst (.builtin "len")) [tupI l] σ Q := cwp_len_tup (by rw [List.length_map]; lia) (by rw [List.length_map]; exact q)
theorem rngN (n : Nat) : rngL 1 n = (List.range (n - 1)).map fun (i : Nat) => PV.int ((i : Int) + 1) := by
  unfold rngL
  have e : ((n : Int) - 1).toNat = n - 1 := by lia
  rw [e]
  apply List.map_congr_left
  intro i _
  rw [Int.add_comm]
noncomputable def asc (l : List (List Int)) : Prop := ∀ (i : Nat) a b, l[i]? = some a → l[i + 1]? = some b → ltL a b = true
theorem c_want (ok : p.G.Ok) {k : Nat} {self u : PV} {nm : Str} {fs : List (Str × PV)} {xs : List Str} {m : Nat} {l : List (List Int)} (V : InstV σ self 284 fs) (hu : fs.lookup ("universe" : Str) = some u) (U : UniV σ u xs) (hz : xs.length < 100000) (hl : l.length < 100000)
    (hm : ∀ r ∈ l, r.length = m) (hr : ∀ r ∈ l, ∀ a ∈ r, 0 ≤ a ∧ a < xs.length) (ha : asc l) (hm' : m < 1000) (q : Q .none σ) {env : Env} : CWP ⟨p.G, k + 2, env⟩ (.cst (.ref 239)) [self, .str nm, .int m, rel l] σ Q := by
  refine cwp_def ok (ok_bwant p) (Nat.le_refl _) rfl fun L => ?_
  walk_at "open"
  walk_at "if"
  repeat walk_at "w"
  with_reducible refine cwp_isi_tup ?_
  repeat walk_at "w"
  with_reducible refine swp_nil ?_
  with_reducible refine swp_cons (s1_for ?_ ?hset)
  case hset => intro _; rfl
  repeat walk_at "w"
  refine ⟨l.map tupI, ?_⟩
  with_reducible refine for_ind tupI l (fun d ρ σ' => σ' = σ ∧ ρ.lookup ("self" : Str) = some self ∧ ρ.lookup ("arity" : Str) = some (.int m) ∧ ρ.lookup ("some" : Str) = some (rel l)) rfl ?hS ?step ?h0 ?_
  case hS => refine fun d ρ σ' => an2 fun eq0 _ => ?_; subst eq0; exact .tup
  case h0 => exact ⟨rfl, rfl, rfl, rfl⟩
  case step =>
    refine fun d a r e ρ σ' => an4 fun eq0 h1 h2 h3 => ?_
    subst eq0
    have ham : a ∈ l := by rw [← e]; simp
    walk_at "loc"
    have h1' : (rset "row" (tupI a) ρ).lookup ("self" : Str) = some self := look_ne h1 (by decide)
    have h2' : (rset "row" (tupI a) ρ).lookup ("arity" : Str) = some (.int m) := look_ne h2 (by decide)
    have h3' : (rset "row" (tupI a) ρ).lookup ("some" : Str) = some (rel l) := look_ne h3 (by decide)
    walk_at "if"
    repeat walk_at "w"
    with_reducible refine cwp_isi_tupI ?_
    repeat walk_at "w"
    with_reducible refine cwp_len_tupI (by rw [hm a ham]; lia) ?_
    repeat walk_at "w"
    rw [hm a ham, show ((m : Int) != m) = false from by simp]
    repeat walk_at "w"
    with_reducible refine swp_nil ?_
    with_reducible refine swp_cons (s1_for ?_ ?hset)
    case hset => intro _; rfl
    repeat walk_at "w"
    refine ⟨a.map .int, ?_⟩
    with_reducible refine for_ind PV.int a (fun d ρ σ'' => σ'' = σ' ∧ ρ.lookup ("self" : Str) = some self ∧ ρ.lookup ("arity" : Str) = some (.int m) ∧ ρ.lookup ("some" : Str) = some (rel l)) rfl ?hS ?step ?h0 ?_
    case hS => refine fun d ρ σ' => an2 fun eq0 _ => ?_; subst eq0; exact .tup
    case h0 => exact ⟨rfl, h1', h2', h3'⟩
    case step =>
      refine fun d x r' e' ρ σ'' => an4 fun eq0 h1 h2 h3 => ?_
      subst eq0
      have hx := hr a ham x (by rw [← e']; simp)
      walk_at "loc"
      have h1' : (rset "a" (.int x) ρ).lookup ("self" : Str) = some self := look_ne h1 (by decide)
      have h2' : (rset "a" (.int x) ρ).lookup ("arity" : Str) = some (.int m) := look_ne h2 (by decide)
      have h3' : (rset "a" (.int x) ρ).lookup ("some" : Str) = some (rel l) := look_ne h3 (by decide)
      walk_at "if"
      repeat walk_at "w"
      with_reducible refine cwp_isi_int ?_
      repeat walk_at "w"
      with_reducible refine cwp_isi_bool ?_
      repeat walk_at "w"
      with_reducible refine bwp_compare2 ?_ ?hm2
      case hm2 => rfl
      repeat walk_at "w"
      with_reducible refine o2r_le ?_
      rw [decide_eq_true hx.1]
      repeat walk_at "w"
      refine KAttr.i (C := 284) V (at_284_universe p) hu ?_
      obtain ⟨nd, VU⟩ := id U
      with_reducible refine KM.i (m1_of ok VU (me_207_size p) rfl) (k_176 p) ?_
      repeat walk_at "w"
      with_reducible refine c_usize ok U hz ?_
      repeat walk_at "w"
      rw [decide_eq_true hx.2]
      repeat walk_at "w"
      with_reducible refine swp_nil ?_
      with_reducible refine swp_nil ⟨rfl, h1', h2', h3'⟩
    refine fun ρ σ'' => an4 fun eq0 h1 h2 h3 => ?_
    subst eq0
    with_reducible refine swp_nil ⟨rfl, h1, h2, h3⟩
  refine fun ρ σ' => an4 fun eq0 h1 h2 h3 => ?_
  subst eq0
  with_reducible refine swp_cons (s1_for ?_ ?hset)
  case hset => intro _; rfl
  repeat walk_at "w"
  with_reducible refine cwp_len_tup (by rw [List.length_map]; lia) ?_
  rw [List.length_map]
  repeat walk_at "w"
  with_reducible refine cwp_range2 ?_
  refine ⟨rngL 1 l.length, ?_⟩
  with_reducible refine for_ind (fun i : Nat => PV.int ((i : Int) + 1)) (List.range (l.length - 1)) (fun d ρ σ'' => σ'' = σ' ∧ ρ.lookup ("some" : Str) = some (rel l)) (rngN _) ?hS ?step ?h0 ?_
  case hS => refine fun d ρ σ' => an2 fun eq0 _ => ?_; subst eq0; exact .rng ⟨by decide, by decide, by lia, by lia⟩
  case h0 => exact ⟨rfl, h3⟩
  case step =>
    refine fun d i r e ρ σ'' => an2 fun eq0 h3 => ?_
    subst eq0
    have hi : i < l.length - 1 := by
      have : i ∈ List.range (l.length - 1) := by rw [← e]; simp
      exact List.mem_range.mp this
    walk_at "loc"
    have h3' : (rset "k" (.int ((i : Int) + 1)) ρ).lookup ("some" : Str) = some (rel l) := look_ne h3 (by decide)
    walk_at "if"
    repeat walk_at "w"
    with_reducible refine sub_tupN i (p := tupI l[i]) ?g (by lia) ?h ?_ ?i
    case g => lia
    case h => rw [List.getElem?_map, List.getElem?_eq_getElem (by lia)]; rfl
    case i => intro _ _; rfl
    repeat walk_at "w"
    with_reducible refine sub_tupN (i + 1) (p := tupI l[i + 1]) ?g (by lia) ?h ?_ ?i
    case g => push_cast; rfl
    case h => rw [List.getElem?_map, List.getElem?_eq_getElem (by lia)]; rfl
    case i => intro _ _; rfl
    with_reducible refine o2_lt_tup ?_
    rw [ha i _ _ (List.getElem?_eq_getElem (by lia)) (List.getElem?_eq_getElem (by lia))]
    repeat walk_at "w"
    with_reducible refine swp_nil ?_
    with_reducible refine swp_nil ⟨rfl, h3'⟩
  refine fun ρ σ'' => an2 fun eq0 h3 => ?_
  subst eq0
  with_reducible refine swp_nil ?_
  exact leave_id .none q
end
section
variable {p : Pk} {σ : Sto} {ρ : Rho} {Q : Post}
theorem leave_same {σ' : Sto} {v : PV} (hv : Low σ.length v) (hlen : σ'.length = σ.length) (h : ∀ (i : Nat) o, σ'[i]? = some o → σ[i]? = some o ∨ LowO σ.length o) (q : Q v σ') : Leave σ σ' v Q :=
  ⟨v, .low hv, fun i o _ e => h i o e, by rw [← hlen, List.take_length]; exact q⟩
theorem set_cases {n : Nat} {o : PO} {i : Nat} {x : PO} (h : (σ.set n o)[i]? = some x) : σ[i]? = some x ∨ x = o := by
  rw [List.getElem?_set] at h
  split at h
  · split at h
    · cases h; exact .inr rfl
    · cases h
  · exact .inl h
theorem LowS.snoc {n : Nat} {x : Str} {v : PV} (hv : Low n v) : ∀ {d : List (Str × PV)}, LowS n d → LowS n (d ++ [(x, v)])
  | [], _ => .cons hv .nil
  | f :: d, h => .cons (k := f.1) (p := f.2) h.consE.1 (LowS.snoc hv h.consE.2)
theorem LowL.snoc {n : Nat} {v : PV} (hv : Low n v) : ∀ {d : List PV}, LowL n d → LowL n (d ++ [v])
  | [], _ => .cons hv .nil
  | f :: d, h => .cons h.consE.1 (LowL.snoc hv h.consE.2)
noncomputable abbrev entry (nm : Str) (m : Nat) (lo up : List (List Int)) : PV := .tup [.str nm, .int m, rel lo, rel up]
theorem lowEntry {n : Nat} (nm : Str) (m : Nat) (lo up : List (List Int)) : Low n (entry nm m lo up) := .tup (.cons .str (.cons .int (.cons (.tup (lowRel _)) (.cons (.tup (lowRel _)) .nil))))
structure RelOk (xs : List Str) (m : Nat) (l : List (List Int)) : Prop where
  small : l.length < 100000
  arity : ∀ r ∈ l, r.length = m
  range : ∀ r ∈ l, ∀ a ∈ r, 0 ≤ a ∧ a < xs.length
  asc : asc l
noncomputable def added (σ : Sto) (j m' : Nat) (bs : List PV) (ns : List (Str × PV)) (nm : Str) (m : Nat) (lo up : List (List Int)) : Sto := (σ.set m' (.sdict (ns ++ [(nm, .int bs.length)]))).set j (.list (bs ++ [entry nm m lo up]))
theorem added_len {j m' : Nat} {bs : List PV} {ns : List (Str × PV)} {nm : Str} {m : Nat} {lo up : List (List Int)} : (added σ j m' bs ns nm m lo up).length = σ.length := by simp [added]
theorem added_other {i j m' : Nat} {bs : List PV} {ns : List (Str × PV)} {nm : Str} {m : Nat} {lo up : List (List Int)} (h1 : i ≠ j) (h2 : i ≠ m') : (added σ j m' bs ns nm m lo up)[i]? = σ[i]? := by
  unfold added
  rw [List.getElem?_set_ne (Ne.symm h1), List.getElem?_set_ne (Ne.symm h2)]
theorem c_add (ok : p.G.Ok) {k : Nat} {self u : PV} {i j m' m : Nat} {xs : List Str} {bs : List PV} {ns : List (Str × PV)} {nm : Str} {lo up : List (List Int)} (B : BndV σ self u i j m' xs bs ns) (hz : xs.length < 100000) (hnm : ns.lookup nm = Option.none) (hm : 1 ≤ m ∧ m < 1000)
    (Rl : RelOk xs m lo) (Ru : RelOk xs m up) (hsub : ∀ x ∈ lo, x ∈ up) (hb : bs.length < 1000) (hn : ns.length < 1000) (lb : LowL σ.length bs) (ln : LowS σ.length ns) (q : Q (.int bs.length) (added σ j m' bs ns nm m lo up)) {env : Env} :
    CWP ⟨p.G, k + 3, env⟩ (.cst (.ref 232)) [self, .str nm, .int m, rel lo, rel up] σ Q := by
  obtain ⟨e0, hi, hbs, hns, U, hjm⟩ := B
  subst e0
  refine cwp_def ok (ok_badd p) (Nat.le_refl _) rfl fun L => ?_
  walk_at "open"
  walk_at "if"
  repeat walk_at "w"
  refine KAttr.i (C := 284) (.r hi) (at_284_numbers p) rfl ?_
  with_reducible refine o2_in_dict ok (.r hns) ?_
  rw [hnm, Option.isSome_none]
  repeat walk_at "w"
  with_reducible refine swp_nil ?_
  walk_at "if"
  repeat walk_at "w"
  with_reducible refine cwp_isi_int ?_
  repeat walk_at "w"
  with_reducible refine cwp_isi_bool ?_
  repeat walk_at "w"
  rw [show decide ((m : Int) < 1) = false from by rw [decide_eq_false_iff_not]; lia]
  repeat walk_at "w"
  with_reducible refine swp_nil ?_
  walk_at "exp"
  repeat walk_at "w"
  with_reducible refine KM.i (m1_of ok (.r hi) (me_284_want_set p) rfl) (k_239 p) ?_
  repeat walk_at "w"
  with_reducible refine c_want ok (.r hi) rfl U hz Rl.small Rl.arity Rl.range Rl.asc hm.2 ?_
  walk_at "exp"
  repeat walk_at "w"
  with_reducible refine KM.i (m1_of ok (.r hi) (me_284_want_set p) rfl) (k_239 p) ?_
  repeat walk_at "w"
  with_reducible refine c_want ok (.r hi) rfl U hz Ru.small Ru.arity Ru.range Ru.asc hm.2 ?_
  walk_at "if"
  repeat walk_at "w"
  refine ⟨k_150 p, ?_⟩
  repeat walk_at "w"
  with_reducible refine c_within ok Rl.small Ru.small hsub ?_
  repeat walk_at "w"
  with_reducible refine swp_nil ?_
  walk_at "asg"
  repeat walk_at "w"
  refine KAttr.i (C := 284) (.r hi) (at_284_bounds p) rfl ?_
  repeat walk_at "w"
  with_reducible refine cwp_len_lst (.r hbs) (by lia) ?_
  with_reducible refine awp_sub ?_
  repeat walk_at "w"
  refine KAttr.i (C := 284) (.r hi) (at_284_numbers p) rfl ?_
  repeat walk_at "w"
  with_reducible refine set_dict hns (szl (by lia)) ?_
  rw [rset_new hnm]
  have hi2 : (σ.set m' (.sdict (ns ++ [(nm, .int bs.length)])))[i]? = some (.inst 284 [("universe", u), ("bounds", .ref j), ("numbers", .ref m')]) := by rw [List.getElem?_set_ne (Ne.symm hjm.2.2)]; exact hi
  have hbs2 : (σ.set m' (.sdict (ns ++ [(nm, .int bs.length)])))[j]? = some (.list bs) := by rw [List.getElem?_set_ne (Ne.symm hjm.1)]; exact hbs
  walk_at "exp"
  repeat walk_at "w"
  refine KAttr.i (C := 284) (.r hi2) (at_284_bounds p) rfl ?_
  with_reducible refine KM.i (m1_append hbs2) rfl ?_
  repeat walk_at "w"
  refine ⟨Nat.le_of_ble_eq_true rfl, ?_⟩
  repeat walk_at "w"
  with_reducible refine cwp_append hbs2 (szl (by lia)) ?_
  show SWP _ _ _ (added σ j m' bs ns nm m lo up) _ _
  have hj : j < σ.length := (List.getElem?_eq_some_iff.mp hbs).1
  have hi3 : (added σ j m' bs ns nm m lo up)[i]? = some (.inst 284 [("universe", u), ("bounds", .ref j), ("numbers", .ref m')]) := by rw [added_other hjm.2.1 hjm.2.2]; exact hi
  have hbs3 : (added σ j m' bs ns nm m lo up)[j]? = some (.list (bs ++ [entry nm m lo up])) := by unfold added; rw [List.getElem?_set_self (by simpa using hj)]
  walk_at "ret"
  repeat walk_at "w"
  refine KAttr.i (C := 284) (.r hi3) (at_284_bounds p) rfl ?_
  repeat walk_at "w"
  with_reducible refine cwp_len_lst (.r hbs3) (by simp; lia) ?_
  repeat walk_at "w"
  rw [show (((bs ++ [entry nm m lo up]).length : Int) - 1) = bs.length from by simp]
  refine leave_same .int added_len (fun a o e => ?_) q
  unfold added at e
  rcases set_cases e with e | rfl
  · rcases set_cases e with e | rfl
    · exact .inl e
    · exact .inr (ln.snoc .int)
  · exact .inr (lb.snoc (lowEntry ..))
end
section
variable {p : Pk} {σ : Sto} {ρ : Rho} {Q : Post}
theorem c_exactly (ok : p.G.Ok) {k : Nat} {self u : PV} {i j m' m : Nat} {xs : List Str} {bs : List PV} {ns : List (Str × PV)} {nm : Str} {up : List (List Int)} (B : BndV σ self u i j m' xs bs ns) (hz : xs.length < 100000) (hnm : ns.lookup nm = Option.none) (hm : 1 ≤ m ∧ m < 1000)
    (Ru : RelOk xs m up) (hb : bs.length < 1000) (hn : ns.length < 1000) (lb : LowL σ.length bs) (ln : LowS σ.length ns) (q : Q (.int bs.length) (added σ j m' bs ns nm m up up)) {env : Env} :
    CWP ⟨p.G, k + 4, env⟩ (.cst (.ref 246)) [self, .str nm, .int m, rel up] σ Q := by
  obtain ⟨e0, hi, _, _, _⟩ := id B
  subst e0
  refine cwp_def ok (ok_bexact p) (Nat.le_refl _) rfl fun L => ?_
  walk_at "open"
  walk_at "ret"
  repeat walk_at "w"
  with_reducible refine KM.i (m1_of ok (.r hi) (me_284_add p) rfl) (k_232 p) ?_
  repeat walk_at "w"
  with_reducible refine c_add ok B hz hnm hm Ru Ru (fun _ h => h) hb hn lb ln ?_
  refine leave_same .int added_len (fun a o e => ?_) q
  unfold added at e
  rcases set_cases e with e | rfl
  · rcases set_cases e with e | rfl
    · exact .inl e
    · exact .inr (ln.snoc .int)
  · exact .inr (lb.snoc (lowEntry ..))
noncomputable def BV (σ : Sto) (self : PV) (bs : List PV) : Prop := ∃ fs b, InstV σ self 284 fs ∧ fs.lookup ("bounds" : Str) = some b ∧ LstV σ b bs
theorem c_bsize (ok : p.G.Ok) {k : Nat} {self : PV} {bs : List PV} (B : BV σ self bs) (hb : bs.length < 1000) (q : Q (.int bs.length) σ) {env : Env} : CWP ⟨p.G, k + 1, env⟩ (.cst (.ref 260)) [self] σ Q := by
  obtain ⟨fs, b, V, hb', Vb⟩ := B
  refine cwp_def ok (ok_bsize p) (Nat.le_refl _) rfl fun L => ?_
  walk_at "open"
  walk_at "ret"
  repeat walk_at "w"
  refine KAttr.i (C := 284) V (at_284_bounds p) hb' ?_
  repeat walk_at "w"
  with_reducible refine cwp_len_lst Vb (by lia) ?_
  exact leave_id .int q
theorem c_bound (ok : p.G.Ok) {k r : Nat} {self e : PV} {bs : List PV} (B : BV σ self bs) (hb : bs.length < 1000) (hr : bs[r]? = some e) (le : Low σ.length e) (q : Q e σ) {env : Env} : CWP ⟨p.G, k + 1, env⟩ (.cst (.ref 253)) [self, .int r] σ Q := by
  obtain ⟨fs, b, V, hb', Vb⟩ := B
  refine cwp_def ok (ok_bbound p) (Nat.le_refl _) rfl fun L => ?_
  walk_at "open"
  walk_at "ret"
  repeat walk_at "w"
  refine KAttr.i (C := 284) V (at_284_bounds p) hb' ?_
  repeat walk_at "w"
  have := (List.getElem?_eq_some_iff.mp hr).1
  with_reducible refine sub_lstN Vb r (p := e) ?g (by lia) ?h ?_ ?i
  case g => exact rfl
  case h => exact hr
  case i => intro _ _; rfl
  exact leave_id le q
theorem c_lower (ok : p.G.Ok) {k r m : Nat} {self : PV} {bs : List PV} {nm : Str} {lo up : List (List Int)} (B : BV σ self bs) (hb : bs.length < 1000) (hr : bs[r]? = some (entry nm m lo up)) (q : Q (rel lo) σ) {env : Env} : CWP ⟨p.G, k + 1, env⟩ (.cst (.ref 267)) [self, .int r] σ Q := by
  obtain ⟨fs, b, V, hb', Vb⟩ := B
  refine cwp_def ok (ok_blower p) (Nat.le_refl _) rfl fun L => ?_
  walk_at "open"
  walk_at "ret"
  repeat walk_at "w"
  refine KAttr.i (C := 284) V (at_284_bounds p) hb' ?_
  repeat walk_at "w"
  have := (List.getElem?_eq_some_iff.mp hr).1
  with_reducible refine sub_lstN Vb r (p := entry nm m lo up) ?g (by lia) ?h ?_ ?i
  case g => exact rfl
  case h => exact hr
  case i => intro _ _; rfl
  repeat walk_at "w"
  with_reducible refine sub_tupN 2 (p := rel lo) ?g (by decide) ?h ?_ ?i
  case g => exact rfl
  case h => exact rfl
  case i => intro _ _; rfl
  exact leave_id (.tup (lowRel _)) q
theorem c_upper (ok : p.G.Ok) {k r m : Nat} {self : PV} {bs : List PV} {nm : Str} {lo up : List (List Int)} (B : BV σ self bs) (hb : bs.length < 1000) (hr : bs[r]? = some (entry nm m lo up)) (q : Q (rel up) σ) {env : Env} : CWP ⟨p.G, k + 1, env⟩ (.cst (.ref 274)) [self, .int r] σ Q := by
  obtain ⟨fs, b, V, hb', Vb⟩ := B
  refine cwp_def ok (ok_bupper p) (Nat.le_refl _) rfl fun L => ?_
  walk_at "open"
  walk_at "ret"
  repeat walk_at "w"
  refine KAttr.i (C := 284) V (at_284_bounds p) hb' ?_
  repeat walk_at "w"
  have := (List.getElem?_eq_some_iff.mp hr).1
  with_reducible refine sub_lstN Vb r (p := entry nm m lo up) ?g (by lia) ?h ?_ ?i
  case g => exact rfl
  case h => exact hr
  case i => intro _ _; rfl
  repeat walk_at "w"
  with_reducible refine sub_tupN 3 (p := rel up) ?g (by decide) ?h ?_ ?i
  case g => exact rfl
  case h => exact rfl
  case i => intro _ _; rfl
  exact leave_id (.tup (lowRel _)) q
noncomputable def numD (xs : List Str) : List (Str × PV) := xs.zipIdx.map fun x => (x.1, PV.int x.2)
theorem numD_snoc (xs : List Str) (x : Str) : numD (xs ++ [x]) = numD xs ++ [(x, .int xs.length)] := by
  simp [numD, List.zipIdx_append]
theorem numD_none {xs : List Str} {x : Str} (h : x ∉ xs) : (numD xs).lookup x = Option.none := by
  have key : ∀ (xs : List Str) (k : Nat), x ∉ xs → ((xs.zipIdx k).map fun y => (y.1, PV.int y.2)).lookup x = Option.none := by
    intro xs
    induction xs with
    | nil => intro _ _; rfl
    | cons y ys ih =>
      intro k h
      simp only [List.mem_cons, not_or] at h
      rw [List.zipIdx_cons, List.map_cons, List.lookup_cons, beq_eq_false_iff_ne.mpr h.1]
      exact ih (k + 1) h.2
  exact key xs 0 h
theorem lowNum {n : Nat} (xs : List Str) : LowS n (numD xs) := by
  unfold numD
  generalize xs.zipIdx = l
  induction l with
  | nil => exact .nil
  | cons a l ih => exact .cons .int ih
theorem c_universe (ok : p.G.Ok) {k : Nat} {nl : PV} {xs : List Str} (V : LstV σ nl (xs.map .str)) (hn : xs.Nodup) (hz : xs.length < 100000)
    (q : Q (.ref σ.length) (σ ++ [.inst 207 [("names", .tup (xs.map .str)), ("numbers", .ref (σ.length + 1))], .sdict (numD xs)])) {env : Env} : CWP ⟨p.G, k + 3, env⟩ (.cst (.ref 207)) [nl] σ Q := by
  refine cwp_cls ok (mk_207 p) (in_207 p) (by kernel_rfl) (ok_uinit p) (k := k + 1) (by show k + 3 ≤ k + 3; lia) rfl fun L => ?_
  have hset : ∀ (o o' : PO) (t t' : Sto), List.set (σ ++ (o :: t) ++ t') σ.length o' = σ ++ (o' :: (t ++ t')) := fun o o' t t' => by simp [List.set_append_right]
  have hl1 : ∀ (a : PO), (σ ++ [a]).length = σ.length + 1 := fun a => by simp
  have hg : ∀ (a : PO) (t t' : Sto), (σ ++ (a :: t) ++ t')[σ.length]? = some a := fun a t t' => by simp
  walk_at "open"
  walk_at "asg"
  repeat walk_at "w"
  with_reducible refine cwp_tuple_list (V.up up_app) (szl (by simp; lia)) ?_
  with_reducible refine awp_attr ok ?_
  repeat walk_at "w"
  refine ⟨207, _, [], rfl, get_last, st_207_names p, by decide, ?_⟩
  rw [set_last]
  show SWP _ _ _ (σ ++ [.inst 207 [("names", .tup (xs.map .str))]]) _ _
  walk_at "asg"
  with_reducible refine ewp_dict0 ?_
  with_reducible refine awp_attr ok ?_
  repeat walk_at "w"
  refine ⟨207, _, [("names", .tup (xs.map .str))], rfl, hg _ [] _, st_207_numbers p, Nat.le_of_ble_eq_true rfl, ?_⟩
  rw [hset, hl1]
  show SWP _ _ _ (σ ++ [.inst 207 [("names", .tup (xs.map .str)), ("numbers", .ref (σ.length + 1))], .sdict (numD [])]) _ _
  have g0 : ∀ d, (σ ++ [.inst 207 [("names", .tup (xs.map .str)), ("numbers", .ref (σ.length + 1))], .sdict d])[σ.length]? = some (.inst 207 [("names", .tup (xs.map .str)), ("numbers", .ref (σ.length + 1))]) := fun d => by simp
  have g1 : ∀ (a : PO) d, (σ ++ [a, .sdict d])[σ.length + 1]? = some (.sdict d) := fun a d => by simp [List.getElem?_append_right]
  have s1 : ∀ (a : PO) d d', (σ ++ [a, .sdict d]).set (σ.length + 1) (.sdict d') = σ ++ [a, .sdict d'] := fun a d d' => by simp [List.set_append_right]
  with_reducible refine swp_cons (s1_for ?_ ?hset)
  case hset => intro _; rfl
  repeat walk_at "w"
  refine ⟨207, _, _, .r (g0 _), at_207_names p, rfl, xs.map .str, ?_⟩
  with_reducible refine for_ind PV.str xs (fun d ρ σ' => σ' = σ ++ [.inst 207 [("names", .tup (xs.map .str)), ("numbers", .ref (σ.length + 1))], .sdict (numD d)] ∧ ρ.lookup ("self" : Str) = some (.ref σ.length)) rfl ?hS ?step ?h0 ?_
  case hS => refine fun d ρ σ' => an2 fun eq0 _ => ?_; subst eq0; exact .tup
  case h0 => exact ⟨rfl, rfl⟩
  case step =>
    refine fun d a r e ρ σ' => an2 fun eq0 h1 => ?_
    subst eq0
    have hnew : a ∉ d := by
      have := hn
      rw [← e] at this
      exact fun hm => (List.nodup_append.mp this).2.2 _ hm _ (.head _) rfl
    have hdl : d.length < 100000 := by have := congrArg List.length e; simp at this; lia
    have hnl : (numD d).length = d.length := by simp [numD]
    walk_at "loc"
    have h1' : (rset "name" (.str a) ρ).lookup ("self" : Str) = some (.ref σ.length) := look_ne h1 (by decide)
    walk_at "if"
    repeat walk_at "w"
    refine KAttr.i (C := 207) (.r (g0 _)) (at_207_numbers p) rfl ?_
    with_reducible refine o2_in_dict ok (.r (g1 _ _)) ?_
    rw [numD_none hnew, Option.isSome_none]
    repeat walk_at "w"
    with_reducible refine swp_nil ?_
    walk_at "asg"
    repeat walk_at "w"
    refine KAttr.i (C := 207) (.r (g0 _)) (at_207_numbers p) rfl ?_
    repeat walk_at "w"
    with_reducible refine cwp_len_dict ok (.r (g1 _ _)) (by lia) ?_
    with_reducible refine awp_sub ?_
    repeat walk_at "w"
    refine KAttr.i (C := 207) (.r (g0 _)) (at_207_numbers p) rfl ?_
    repeat walk_at "w"
    with_reducible refine set_dict (g1 _ _) (szl (by lia)) ?_
    rw [s1, rset_new (numD_none hnew), hnl, ← numD_snoc]
    with_reducible refine swp_nil ⟨rfl, h1'⟩
  refine fun ρ σ' => an2 fun eq0 h1 => ?_
  subst eq0
  with_reducible refine swp_nil ?_
  exact q
end
section
variable {p : Pk} {σ : Sto} {ρ : Rho} {Q : Post}
theorem c_bounds (ok : p.G.Ok) {k : Nat} {u : PV}
    (q : Q (.ref σ.length) (σ ++ [.inst 284 [("universe", u), ("bounds", .ref (σ.length + 1)), ("numbers", .ref (σ.length + 2))], .list [], .sdict []])) {env : Env} : CWP ⟨p.G, k + 3, env⟩ (.cst (.ref 284)) [u] σ Q := by
  refine cwp_cls ok (mk_284 p) (in_284 p) (by kernel_rfl) (ok_binit p) (k := k + 1) (by show k + 3 ≤ k + 3; lia) rfl fun L => ?_
  have hset : ∀ (o o' : PO) (t t' : Sto), List.set (σ ++ (o :: t) ++ t') σ.length o' = σ ++ (o' :: (t ++ t')) := fun o o' t t' => by simp [List.set_append_right]
  have hg : ∀ (a : PO) (t t' : Sto), (σ ++ (a :: t) ++ t')[σ.length]? = some a := fun a t t' => by simp
  have hl1 : ∀ (a : PO), (σ ++ [a]).length = σ.length + 1 := fun a => by simp
  have hl2 : ∀ (a b : PO), (σ ++ [a, b]).length = σ.length + 2 := fun a b => by simp
  walk_at "open"
  walk_at "asg"
  repeat walk_at "w"
  with_reducible refine awp_attr ok ?_
  repeat walk_at "w"
  refine ⟨284, _, [], rfl, get_last, st_284_universe p, by decide, ?_⟩
  rw [set_last]
  show SWP _ _ _ (σ ++ [.inst 284 [("universe", u)]]) _ _
  walk_at "asg"
  with_reducible refine ewp_list_m ?_
  repeat walk_at "w"
  refine ⟨Nat.le_of_ble_eq_true rfl, ?_⟩
  with_reducible refine awp_attr ok ?_
  repeat walk_at "w"
  refine ⟨284, _, [("universe", u)], rfl, hg _ [] _, st_284_bounds p, Nat.le_of_ble_eq_true rfl, ?_⟩
  rw [hset, hl1]
  show SWP _ _ _ (σ ++ [.inst 284 [("universe", u), ("bounds", .ref (σ.length + 1))], .list []]) _ _
  walk_at "asg"
  with_reducible refine ewp_dict0 ?_
  with_reducible refine awp_attr ok ?_
  repeat walk_at "w"
  refine ⟨284, _, [("universe", u), ("bounds", .ref (σ.length + 1))], rfl, hg _ [_] _, st_284_numbers p, Nat.le_of_ble_eq_true rfl, ?_⟩
  rw [hset, hl2]
  with_reducible refine swp_nil ?_
  exact q
theorem c_scopes (ok : p.G.Ok) {k : Nat} {sv kv : PV}
    (q : Q (.ref σ.length) (σ ++ [.inst 402 [("signatures", sv), ("kinds", kv)]])) {env : Env} : CWP ⟨p.G, k + 3, env⟩ (.cst (.ref 402)) [sv, kv] σ Q := by
  refine cwp_cls ok (mk_402 p) (in_402 p) (by kernel_rfl) (ok_cinit p) (k := k + 1) (by show k + 3 ≤ k + 3; lia) rfl fun L => ?_
  walk_at "open"
  walk_at "asg"
  repeat walk_at "w"
  with_reducible refine awp_attr ok ?_
  repeat walk_at "w"
  refine ⟨402, _, [], rfl, get_last, st_402_signatures p, by decide, ?_⟩
  rw [set_last]
  show SWP _ _ _ (σ ++ [.inst 402 [("signatures", sv)]]) _ _
  walk_at "asg"
  repeat walk_at "w"
  with_reducible refine awp_attr ok ?_
  repeat walk_at "w"
  refine ⟨402, _, [("signatures", sv)], rfl, get_last, st_402_kinds p, Nat.le_of_ble_eq_true rfl, ?_⟩
  rw [set_last]
  with_reducible refine swp_nil ?_
  exact q
theorem c_uppers (ok : p.G.Ok) {k : Nat} {sv kv lv : PV}
    (q : Q (.ref σ.length) (σ ++ [.inst 371 [("signatures", sv), ("kinds", kv), ("lots", lv), ("known", .ref (σ.length + 1))], .sdict []])) {env : Env} : CWP ⟨p.G, k + 3, env⟩ (.cst (.ref 371)) [sv, kv, lv] σ Q := by
  refine cwp_cls ok (mk_371 p) (in_371 p) (by kernel_rfl) (ok_pinit p) (k := k + 1) (by show k + 3 ≤ k + 3; lia) rfl fun L => ?_
  have hset : ∀ (o o' : PO) (t t' : Sto), List.set (σ ++ (o :: t) ++ t') σ.length o' = σ ++ (o' :: (t ++ t')) := fun o o' t t' => by simp [List.set_append_right]
  have hg : ∀ (a : PO) (t t' : Sto), (σ ++ (a :: t) ++ t')[σ.length]? = some a := fun a t t' => by simp
  have hl1 : ∀ (a : PO), (σ ++ [a]).length = σ.length + 1 := fun a => by simp
  walk_at "open"
  walk_at "asg"
  repeat walk_at "w"
  with_reducible refine awp_attr ok ?_
  repeat walk_at "w"
  refine ⟨371, _, [], rfl, get_last, st_371_signatures p, by decide, ?_⟩
  rw [set_last]
  show SWP _ _ _ (σ ++ [.inst 371 [("signatures", sv)]]) _ _
  walk_at "asg"
  repeat walk_at "w"
  with_reducible refine awp_attr ok ?_
  repeat walk_at "w"
  refine ⟨371, _, [("signatures", sv)], rfl, get_last, st_371_kinds p, Nat.le_of_ble_eq_true rfl, ?_⟩
  rw [set_last]
  show SWP _ _ _ (σ ++ [.inst 371 [("signatures", sv), ("kinds", kv)]]) _ _
  walk_at "asg"
  repeat walk_at "w"
  with_reducible refine awp_attr ok ?_
  repeat walk_at "w"
  refine ⟨371, _, [("signatures", sv), ("kinds", kv)], rfl, get_last, st_371_lots p, Nat.le_of_ble_eq_true rfl, ?_⟩
  rw [set_last]
  show SWP _ _ _ (σ ++ [.inst 371 [("signatures", sv), ("kinds", kv), ("lots", lv)]]) _ _
  walk_at "asg"
  with_reducible refine ewp_dict0 ?_
  with_reducible refine awp_attr ok ?_
  repeat walk_at "w"
  refine ⟨371, _, [("signatures", sv), ("kinds", kv), ("lots", lv)], rfl, hg _ [] _, st_371_known p, Nat.le_of_ble_eq_true rfl, ?_⟩
  rw [hset, hl1]
  with_reducible refine swp_nil ?_
  exact q
end
section
variable {p : Pk} {σ : Sto} {ρ : Rho} {Q : Post}
/-- the top of a chain of rows -/
noncomputable def Top (rows : List Row) (x t : Str) : Prop := ∃ r l, (ents rows).lookup x = some (item r) ∧ Chain rows x l ∧ l.length < 1000 ∧ (x :: l)[l.length]? = some t
theorem c_topT (ok : p.G.Ok) {k : Nat} {self : PV} {rows : List Row} {x t : Str} (h : HasE σ self rows) (T : Top rows x t) (q : Q (.str t) σ) {env : Env} : CWP ⟨p.G, k + 3, env⟩ (.cst (.ref 526)) [self, .str x] σ Q := by
  obtain ⟨r, l, hx, hc, hl, ht⟩ := T
  exact c_top ok h hx hc hl ht q
theorem m1_sigE (ok : p.G.Ok) {k : Nat} {env : Env} {self : PV} {rows : List Row} {f : Addr} {name : Str} (h : HasE σ self rows) (me : plainGet p.G.K 571 name = true ∧ findIn p.G.K (.ref 571) name = some (some (.ref f)) ∧ isFn p.G.K (.ref f) = true) (hx : sigNames.contains name = false) : M1 ⟨p.G, k, env⟩ self name σ (.cst (.ref f)) := by
  obtain ⟨fs, e, V, hn, _⟩ := h
  exact m1_sig ok V hn me hx
theorem c_ofsig (ok : p.G.Ok) {k : Nat} {self sv lv : PV} {fs d : List (Str × PV)} {rows : List Row} {x t : Str} {v : PV} (V : InstV σ self 371 fs) (hs : fs.lookup ("signatures" : Str) = some sv) (hl : fs.lookup ("lots" : Str) = some lv)
    (h : HasE σ sv rows) (T : Top rows x t) (ht : t ≠ "") (Vd : SdV σ lv d) (hv : d.lookup t = some v) (lw : Low σ.length v) (q : Q v σ) {env : Env} : CWP ⟨p.G, k + 4, env⟩ (.cst (.ref 356)) [self, .str x] σ Q := by
  refine cwp_def ok (ok_pof p) (Nat.le_refl _) rfl fun L => ?_
  walk_at "open"
  walk_at "asg"
  repeat walk_at "w"
  refine KAttr.i (C := 371) V (at_371_signatures p) hs ?_
  with_reducible refine KM.i (m1_sigE ok h (me_571_top p) (by decide)) (k_526 p) ?_
  repeat walk_at "w"
  with_reducible refine c_topT ok h T ?_
  walk_at "loc"
  walk_at "if"
  repeat walk_at "w"
  first | with_reducible refine iteDN ht ?_ | with_reducible refine iteNDN ht ?_ | rw [decide_eq_false ht]
  repeat walk_at "w"
  walk_at "ret"
  repeat walk_at "w"
  refine KAttr.i (C := 371) V (at_371_lots p) hl ?_
  repeat walk_at "w"
  with_reducible refine sub_dict ok Vd hv ?_ ?i
  case i => intro _ _; rfl
  exact leave_id lw q
theorem o2_in_strsT {c : Cx} {xs : List Str} {x : Str} {Q : Post} (hx : sOk x) (hxs : ∀ y ∈ xs, sOk y) (q : Q (.bool (decide (x ∈ xs))) σ) : O2 c (fun v w => operate [v, w] (compareOp .In v w)) (.str x) (.tup (xs.map .str)) σ Q := by
  refine o2_in .str (.inr (.tup (datStrs xs))) (shapedStr hx) (canStrs hxs) ?_
  rw [anyStrs]; exact q
noncomputable def tpl (b : Bool) (n : Int) : PV := .tup [.bool b, .int n]
theorem c_take_num (ok : p.G.Ok) {k : Nat} {self sv : PV} {i : Nat} {fs d : List (Str × PV)} {xs : List Str} {so : PV} {sfs : List (Str × PV)} {rows : List Row} {x t : Str} {b : Bool} {n : Int} (V : InstV σ self 331 fs) (hs : fs.lookup ("signatures" : Str) = some sv) (htl : fs.lookup ("told" : Str) = some (.ref i))
    (h : HasE σ sv rows) (Vs : InstV σ sv 571 sfs) (ho : sfs.lookup ("ordered" : Str) = some so) (Vo : LstV σ so (xs.map .str)) (hxl : xs.length < 1000) (hm : x ∈ xs) (hok : ∀ y ∈ xs, sOk y)
    (T : Top rows x t) (ht : t ≠ "") (hd : σ[i]? = some (.sdict d)) (hdl : d.length < 1000) (ld : LowS σ.length d) (hnd : d.lookup x = Option.none) (hn : 0 ≤ n) (h1 : x ≠ "int") (h2 : x ≠ "Int") (q : Q .none (σ.set i (.sdict (d ++ [(x, tpl b n)])))) {env : Env} :
    CWP ⟨p.G, k + 4, env⟩ (.cst (.ref 309)) [self, .bool b, .int n, .str x] σ Q := by
  refine cwp_def ok (ok_ntake p) (Nat.le_refl _) rfl fun L => ?_
  walk_at "open"
  walk_at "if"
  repeat walk_at "w"
  refine ⟨Nat.le_of_ble_eq_true rfl, ?_⟩
  show O2 _ _ _ (.tup (List.map PV.str [("int" : Str), ("Int" : Str)])) _ _
  with_reducible refine o2_in_strsT (xs := [("int" : Str), ("Int" : Str)]) (hok x hm) (by intro y hy; simp only [List.mem_cons, List.not_mem_nil, or_false] at hy; rcases hy with rfl | rfl <;> (unfold sOk; decide +kernel)) ?_
  rw [show decide (x ∈ [("int" : Str), ("Int" : Str)]) = false from by simp [h1, h2]]
  repeat walk_at "w"
  with_reducible refine swp_nil ?_
  walk_at "if"
  repeat walk_at "w"
  refine KAttr.i (C := 331) V (at_331_signatures p) hs ?_
  with_reducible refine KM.i (m1_sigE ok h (me_571_names p) (by decide)) (k_472 p) ?_
  repeat walk_at "w"
  with_reducible refine c_names (l := []) ok Vs ho Vo (by simpa using hxl) (lowStrs _) ?_
  with_reducible refine o2_notin_strs .f (hok x hm) hok ?_
  rw [show decide (x ∈ xs) = true from decide_eq_true hm]
  repeat walk_at "w"
  with_reducible refine swp_nil ?_
  walk_at "if"
  repeat walk_at "w"
  refine KAttr.i (C := 331) V (at_331_signatures p) hs ?_
  with_reducible refine KM.i (m1_sigE ok h (me_571_top p) (by decide)) (k_526 p) ?_
  repeat walk_at "w"
  with_reducible refine c_topT ok h T ?_
  repeat walk_at "w"
  first | with_reducible refine iteDN ht ?_ | with_reducible refine iteNDN ht ?_ | rw [decide_eq_false ht]
  repeat walk_at "w"
  with_reducible refine swp_nil ?_
  walk_at "if"
  repeat walk_at "w"
  refine KAttr.i (C := 331) V (at_331_told p) htl ?_
  with_reducible refine o2_in_dict ok (.r hd) ?_
  rw [hnd, Option.isSome_none]
  repeat walk_at "w"
  with_reducible refine swp_nil ?_
  walk_at "if"
  repeat walk_at "w"
  rw [show decide (n < 0) = false from by rw [decide_eq_false_iff_not]; lia]
  repeat walk_at "w"
  with_reducible refine swp_nil ?_
  walk_at "asg"
  repeat walk_at "w"
  refine ⟨Nat.le_of_ble_eq_true rfl, ?_⟩
  with_reducible refine awp_sub ?_
  repeat walk_at "w"
  refine KAttr.i (C := 331) V (at_331_told p) htl ?_
  repeat walk_at "w"
  with_reducible refine set_dict hd (szl (by lia)) ?_
  rw [rset_new hnd]
  with_reducible refine swp_nil ?_
  exact leave_set .none (ld.snoc (.tup (.cons .bool (.cons .int .nil)))) q
theorem c_formula (ok : p.G.Ok) {k : Nat} {self sv tv : PV} {fs : List (Str × PV)} {d : List (Str × Bool × Int)} {rows : List Row} {x t : Str} {r : Int} (V : InstV σ self 331 fs) (hs : fs.lookup ("signatures" : Str) = some sv) (htl : fs.lookup ("told" : Str) = some tv)
    (h : HasE σ sv rows) (T : Top rows x t) (Vd : SdV σ tv (d.map fun y => (y.1, tpl y.2.1 y.2.2)))
    (q : Q (match (if t = x then none else d.lookup x) with | none => .none | some (b, n) => .tup [.str (if b then "eq" else "le"), .tup [.str "count", .tup [.str "rel", .int r]], .tup [.str "num", .int n]]) σ) {env : Env} : CWP ⟨p.G, k + 4, env⟩ (.cst (.ref 328)) [self, .str x, .int r] σ Q := by
  have look : ((d.map fun y => (y.1, tpl y.2.1 y.2.2)).lookup x) = (d.lookup x).map fun y => tpl y.1 y.2 := by
    clear Vd q
    induction d with
    | nil => rfl
    | cons a d ih =>
      rw [List.map_cons, List.lookup_cons, List.lookup_cons, ih]
      cases x == a.1 <;> rfl
  refine cwp_def ok (ok_nform p) (Nat.le_refl _) rfl fun L => ?_
  walk_at "open"
  walk_at "if"
  repeat walk_at "w"
  refine KAttr.i (C := 331) V (at_331_told p) htl ?_
  with_reducible refine o2_notin_dict ok Vd ?_
  rw [look]
  cases hl : d.lookup x with
  | none =>
    rw [hl] at q
    rw [show (if t = x then (Option.none : Option (Bool × Int)) else Option.none) = Option.none from by split <;> rfl] at q
    show TWP _ (.bool true) _ _
    repeat walk_at "w"
    walk_at "ret"
    repeat walk_at "w"
    exact leave_id .none q
  | some y =>
    obtain ⟨b, n⟩ := y
    rw [hl] at q
    show TWP _ (.bool false) _ _
    repeat walk_at "w"
    refine KAttr.i (C := 331) V (at_331_signatures p) hs ?_
    with_reducible refine KM.i (m1_sigE ok h (me_571_top p) (by decide)) (k_526 p) ?_
    repeat walk_at "w"
    with_reducible refine c_topT ok h T ?_
    repeat walk_at "w"
    by_cases ht : t = x
    · first | with_reducible refine iteD ht ?_ | with_reducible refine iteND ht ?_ | rw [decide_eq_true ht]
      rw [if_pos ht] at q
      repeat walk_at "w"
      walk_at "ret"
      repeat walk_at "w"
      exact leave_id .none q
    · first | with_reducible refine iteDN ht ?_ | with_reducible refine iteNDN ht ?_ | rw [decide_eq_false ht]
      rw [if_neg ht] at q
      repeat walk_at "w"
      with_reducible refine swp_nil ?_
      walk_at "asg"
      repeat walk_at "w"
      refine KAttr.i (C := 331) V (at_331_told p) htl ?_
      repeat walk_at "w"
      with_reducible refine sub_dict ok Vd (p := tpl b n) ?g ?_ ?i
      case g => rw [look, hl]; rfl
      case i => intro _ _; rfl
      show AWP _ _ _ (.tup [.bool b, .int n]) _ _ _
      with_reducible refine awp_tuple (fun _ h => h) ?_ rfl ?he
      case he => exact rfl
      with_reducible refine als_cons ?_
      walk_at "loc"
      with_reducible refine als_cons ?_
      walk_at "loc"
      with_reducible refine als_nil ?_
      have e1 : ∀ (ρ : Rho), (rset "number" (.int n) (rset "is_exact" (.bool b) ρ)).lookup ("is_exact" : Str) = some (.bool b) := fun ρ => look_ne (rset_self _ _ _) (by decide)
      walk_at "ret"
      repeat walk_at "w"
      cases b with
      | true =>
        repeat walk_at "w"
        repeat (refine ⟨Nat.le_of_ble_eq_true rfl, ?_⟩; repeat walk_at "w")
        exact leave_id (.tup (.cons .str (.cons (.tup (.cons .str (.cons (.tup (.cons .str (.cons .int .nil))) .nil))) (.cons (.tup (.cons .str (.cons .int .nil))) .nil)))) q
      | false =>
        repeat walk_at "w"
        repeat (refine ⟨Nat.le_of_ble_eq_true rfl, ?_⟩; repeat walk_at "w")
        exact leave_id (.tup (.cons .str (.cons (.tup (.cons .str (.cons (.tup (.cons .str (.cons .int .nil))) .nil))) (.cons (.tup (.cons .str (.cons .int .nil))) .nil)))) q
end
section
variable {p : Pk} {σ : Sto} {ρ : Rho} {Q : Post}
noncomputable def kids (rows : List Row) (x : Str) : List PV := rows.filterMap fun r => if r.par = x then some (.str r.n) else none
theorem lowKids {n : Nat} (rows : List Row) (x : Str) : LowL n (kids rows x) := by
  unfold kids
  induction rows with
  | nil => exact .nil
  | cons r t ih =>
    rw [List.filterMap_cons]
    split
    · exact ih
    · rename_i e
      split at e
      · cases e; exact .cons .str ih
      · cases e
theorem c_children (ok : p.G.Ok) {k : Nat} {self st : PV} {fs : List (Str × PV)} {rows : List Row} {x : Str} (h : HasE σ self rows) (V : InstV σ self 571 fs) (hst : fs.lookup ("stands" : Str) = some st) (Vst : LstV σ st ((names rows).map .str)) (hall : ∀ r ∈ rows, (ents rows).lookup r.n = some (item r)) (hz : rows.length < 1000)
    (q : Q (.lst (kids rows x)) σ) {env : Env} : CWP ⟨p.G, k + 2, env⟩ (.cst (.ref 512)) [self, .str x] σ Q := by
  refine cwp_def ok (ok_schildren p) (Nat.le_refl _) rfl fun L => ?_
  walk_at "open"
  walk_at "ret"
  walk_at "ecmp"
  repeat walk_at "w"
  refine ⟨571, fs, st, V, at_571_stands p, hst, (names rows).map .str, szl (by unfold names; simp; lia), fun C => ?_⟩
  with_reducible refine comp_filterE (fun r : Row => PV.str r.n) (fun r => if r.par = x then some (.str r.n) else none) (fun ρ => ρ.lookup ("self" : Str) = some self ∧ ρ.lookup ("name" : Str) = some (.str x)) rows ?hL (.lst Vst) (fun r hr ρ' ⟨h1, h2⟩ => ?_) ?hi ?_
  case hL => unfold names; simp
  case hi => exact ⟨rfl, rfl⟩
  · walk_at "tgt"
    have h1' : (rset "other" (.str r.n) ρ').lookup ("self" : Str) = some self := look_ne h1 (by decide)
    have h2' : (rset "other" (.str r.n) ρ').lookup ("name" : Str) = some (.str x) := look_ne h2 (by decide)
    with_reducible refine tests_one ?_
    repeat walk_at "w"
    with_reducible refine KM.i (m1_sigE ok h (me_571_parent p) (by decide)) (k_493 p) ?_
    repeat walk_at "w"
    with_reducible refine c_parent ok h (hall r hr) ?_
    repeat walk_at "w"
    by_cases hp : r.par = x
    · first | with_reducible refine iteD hp ?_ | with_reducible refine iteND hp ?_ | rw [decide_eq_true hp]
      repeat walk_at "w"
      exact ⟨if_pos hp, rfl, h1', h2'⟩
    · first | with_reducible refine iteDN hp ?_ | with_reducible refine iteNDN hp ?_ | rw [decide_eq_false hp]
      repeat walk_at "w"
      exact ⟨if_neg hp, rfl, h1', h2'⟩
  · exact leave_id (.lst (lowKids rows x)) q
theorem c_usual (ok : p.G.Ok) {k : Nat} {self sv st : PV} {fs sfs : List (Str × PV)} {rows : List Row} {x : Str} {r : Row} {n : Int} (V : InstV σ self 331 fs) (hs : fs.lookup ("signatures" : Str) = some sv) (hd : fs.lookup ("default" : Str) = some (.int n))
    (h : HasE σ sv rows) (Vs : InstV σ sv 571 sfs) (hst : sfs.lookup ("stands" : Str) = some st) (Vst : LstV σ st ((names rows).map .str)) (hall : ∀ r ∈ rows, (ents rows).lookup r.n = some (item r)) (hz : rows.length < 1000) (hx : (ents rows).lookup x = some (item r))
    (q : Q (.int n) σ) {env : Env} : CWP ⟨p.G, k + 3, env⟩ (.cst (.ref 314)) [self, .str x] σ Q := by
  refine cwp_def ok (ok_nusual p) (Nat.le_refl _) rfl fun L => ?_
  walk_at "open"
  walk_at "asg"
  repeat walk_at "w"
  refine KAttr.i (C := 331) V (at_331_signatures p) hs ?_
  with_reducible refine KM.i (m1_sigE ok h (me_571_children p) (by decide)) (k_512 p) ?_
  repeat walk_at "w"
  with_reducible refine c_children ok h Vs hst Vst hall hz ?_
  walk_at "loc"
  walk_at "if"
  repeat walk_at "w"
  refine KAttr.i (C := 331) V (at_331_signatures p) hs ?_
  with_reducible refine KM.i (m1_sigE ok h (me_571_is_abstract p) (by decide)) (k_540 p) ?_
  repeat walk_at "w"
  with_reducible refine c_abstract ok h hx ?_
  repeat walk_at "w"
  with_reducible refine swp_nil ?_
  walk_at "ret"
  repeat walk_at "w"
  refine KAttr.i (C := 331) V (at_331_default p) hd ?_
  exact leave_id .int q
/-- how many, and for sure or not -/
noncomputable def lot (m : Str) (t : Option (Bool × Int)) (ord : Bool) (dflt : Int) : Bool × Int :=
  if m = "one" then (true, 1) else ((t.getD (false, dflt)).1 || ord, if m = "lone" then min (t.getD (false, dflt)).2 1 else (t.getD (false, dflt)).2)
theorem look_tpl {d : List (Str × Bool × Int)} {x : Str} : ((d.map fun y => (y.1, tpl y.2.1 y.2.2)).lookup x) = (d.lookup x).map fun y => tpl y.1 y.2 := by
  induction d with
  | nil => rfl
  | cons a d ih =>
    rw [List.map_cons, List.lookup_cons, List.lookup_cons, ih]
    cases x == a.1 <;> rfl
theorem c_lot (ok : p.G.Ok) {k : Nat} {self sv st tv ov : PV} {fs sfs od : List (Str × PV)} {rows : List Row} {x : Str} {r : Row} {n : Int} {d : List (Str × Bool × Int)} (V : InstV σ self 331 fs) (hs : fs.lookup ("signatures" : Str) = some sv) (hd : fs.lookup ("default" : Str) = some (.int n))
    (htl : fs.lookup ("told" : Str) = some tv) (Vd : SdV σ tv (d.map fun y => (y.1, tpl y.2.1 y.2.2))) (hor : fs.lookup ("ordered" : Str) = some ov) (Vo : SdV σ ov od) (hfs : fs.lookup ("usual_for" : Str) = Option.none)
    (h : HasE σ sv rows) (Vs : InstV σ sv 571 sfs) (hst : sfs.lookup ("stands" : Str) = some st) (Vst : LstV σ st ((names rows).map .str)) (hall : ∀ r ∈ rows, (ents rows).lookup r.n = some (item r)) (hz : rows.length < 1000) (hx : (ents rows).lookup x = some (item r))
    (h1 : ∀ b m, d.lookup x = some (b, m) → r.m = "one" → m = 1) (h2 : ∀ m, d.lookup x = some (true, m) → r.m = "lone" → m ≤ 1)
    (q : Q (tpl (lot r.m (d.lookup x) (od.lookup x).isSome n).1 (lot r.m (d.lookup x) (od.lookup x).isSome n).2) σ) {env : Env} : CWP ⟨p.G, k + 4, env⟩ (.cst (.ref 321)) [self, .str x] σ Q := by
  refine cwp_def ok (ok_nlot p) (Nat.le_refl _) rfl fun L => ?_
  walk_at "open"
  walk_at "asg"
  repeat walk_at "w"
  refine KAttr.i (C := 331) V (at_331_told p) htl ?_
  with_reducible refine KM.i (m1_get ok Vd) rfl ?_
  repeat walk_at "w"
  with_reducible refine KM.i (m1_of ok V (me_331_usual_for p) hfs) (k_314 p) ?_
  repeat walk_at "w"
  with_reducible refine c_usual ok V hs hd h Vs hst Vst hall hz hx ?_
  repeat walk_at "w"
  refine ⟨Nat.le_of_ble_eq_true rfl, ?_⟩
  repeat walk_at "w"
  with_reducible refine cwp_get ok Vd ?_
  rw [look_tpl]
  obtain ⟨t, ht⟩ : ∃ t, t = d.lookup x := ⟨_, rfl⟩
  rw [← ht] at q h1 h2 ⊢
  obtain ⟨b, m, hbm⟩ : ∃ b m, t.getD (false, n) = (b, m) := ⟨_, _, rfl⟩
  have hg : (t.map fun y => tpl y.1 y.2).getD (.tup [.bool false, .int n]) = .tup [.bool b, .int m] := by
    cases t with
    | none => cases hbm; rfl
    | some y => cases hbm; rfl
  rw [hg]
  with_reducible refine awp_tuple (fun _ h => h) ?_ rfl ?he
  case he => exact rfl
  with_reducible refine als_cons ?_
  walk_at "loc"
  with_reducible refine als_cons ?_
  walk_at "loc"
  with_reducible refine als_nil ?_
  walk_at "asg"
  repeat walk_at "w"
  refine KAttr.i (C := 331) V (at_331_signatures p) hs ?_
  with_reducible refine KM.i (m1_sigE ok h (me_571_mult p) (by decide)) (k_547 p) ?_
  repeat walk_at "w"
  with_reducible refine c_mult ok h hx ?_
  walk_at "loc"
  walk_at "if"
  repeat walk_at "w"
  unfold lot at q
  rw [hbm] at q
  by_cases c1 : r.m = "one"
  · first | with_reducible refine iteD c1 ?_ | with_reducible refine iteND c1 ?_ | rw [decide_eq_true c1]
    rw [if_pos c1] at q
    repeat walk_at "w"
    walk_at "if"
    repeat walk_at "w"
    refine KAttr.i (C := 331) V (at_331_told p) htl ?_
    with_reducible refine o2_in_dict ok Vd ?_
    rw [look_tpl, ← ht]
    cases t with
    | none =>
      show TWP _ (.bool false) _ _
      repeat walk_at "w"
      with_reducible refine swp_nil ?_
      walk_at "ret"
      repeat walk_at "w"
      refine ⟨Nat.le_of_ble_eq_true rfl, ?_⟩
      exact leave_id (.tup (.cons .bool (.cons .int .nil))) q
    | some y =>
      cases hbm
      have hm : m = 1 := h1 b m rfl c1
      show TWP _ (.bool true) _ _
      repeat walk_at "w"
      rw [show (m != 1) = false from by rw [hm]; rfl]
      repeat walk_at "w"
      with_reducible refine swp_nil ?_
      walk_at "ret"
      repeat walk_at "w"
      refine ⟨Nat.le_of_ble_eq_true rfl, ?_⟩
      exact leave_id (.tup (.cons .bool (.cons .int .nil))) q
  · first | with_reducible refine iteDN c1 ?_ | with_reducible refine iteNDN c1 ?_ | rw [decide_eq_false c1]
    rw [if_neg c1] at q
    repeat walk_at "w"
    with_reducible refine swp_nil ?_
    walk_at "if"
    repeat walk_at "w"
    by_cases c2 : r.m = "lone"
    · first | with_reducible refine iteD c2 ?_ | with_reducible refine iteND c2 ?_ | rw [decide_eq_true c2]
      rw [if_pos c2] at q
      repeat walk_at "w"
      walk_at "if"
      repeat walk_at "w"
      refine KAttr.i (C := 331) V (at_331_told p) htl ?_
      with_reducible refine o2_in_dict ok Vd ?_
      rw [look_tpl, ← ht]
      cases t with
      | none =>
        show TWP _ (.bool false) _ _
        repeat walk_at "w"
        with_reducible refine swp_nil ?_
        walk_at "asg"
        repeat walk_at "w"
        with_reducible refine cwp_min ?_
        walk_at "loc"
        with_reducible refine swp_nil ?_
        walk_at "ret"
        repeat walk_at "w"
        with_reducible refine ewp_or2 ?_
        repeat walk_at "w"
        cases b with
        | true =>
          repeat walk_at "w"
          refine ⟨Nat.le_of_ble_eq_true rfl, ?_⟩
          exact leave_id (.tup (.cons .bool (.cons .int .nil))) q
        | false =>
          repeat walk_at "w"
          refine KAttr.i (C := 331) V (at_331_ordered p) hor ?_
          with_reducible refine o2_in_dict ok Vo ?_
          repeat walk_at "w"
          refine ⟨Nat.le_of_ble_eq_true rfl, ?_⟩
          exact leave_id (.tup (.cons .bool (.cons .int .nil))) q
      | some y =>
        cases hbm
        show TWP _ (.bool true) _ _
        repeat walk_at "w"
        have hm : b = true → decide (m > 1) = false := fun e => by
          have := h2 m (by rw [e]) c2
          rw [decide_eq_false_iff_not]; lia
        cases b with
        | true =>
          repeat walk_at "w"
          rw [hm rfl]
          repeat walk_at "w"
          with_reducible refine swp_nil ?_
          walk_at "asg"
          repeat walk_at "w"
          with_reducible refine cwp_min ?_
          walk_at "loc"
          with_reducible refine swp_nil ?_
          walk_at "ret"
          repeat walk_at "w"
          with_reducible refine ewp_or2 ?_
          repeat walk_at "w"
          refine ⟨Nat.le_of_ble_eq_true rfl, ?_⟩
          exact leave_id (.tup (.cons .bool (.cons .int .nil))) q
        | false =>
          repeat walk_at "w"
          with_reducible refine swp_nil ?_
          walk_at "asg"
          repeat walk_at "w"
          with_reducible refine cwp_min ?_
          walk_at "loc"
          with_reducible refine swp_nil ?_
          walk_at "ret"
          repeat walk_at "w"
          with_reducible refine ewp_or2 ?_
          repeat walk_at "w"
          refine KAttr.i (C := 331) V (at_331_ordered p) hor ?_
          with_reducible refine o2_in_dict ok Vo ?_
          repeat walk_at "w"
          refine ⟨Nat.le_of_ble_eq_true rfl, ?_⟩
          exact leave_id (.tup (.cons .bool (.cons .int .nil))) q
    · first | with_reducible refine iteDN c2 ?_ | with_reducible refine iteNDN c2 ?_ | rw [decide_eq_false c2]
      rw [if_neg c2] at q
      repeat walk_at "w"
      with_reducible refine swp_nil ?_
      walk_at "ret"
      repeat walk_at "w"
      with_reducible refine ewp_or2 ?_
      repeat walk_at "w"
      cases b with
      | true =>
        repeat walk_at "w"
        refine ⟨Nat.le_of_ble_eq_true rfl, ?_⟩
        exact leave_id (.tup (.cons .bool (.cons .int .nil))) q
      | false =>
        repeat walk_at "w"
        refine KAttr.i (C := 331) V (at_331_ordered p) hor ?_
        with_reducible refine o2_in_dict ok Vo ?_
        repeat walk_at "w"
        refine ⟨Nat.le_of_ble_eq_true rfl, ?_⟩
        exact leave_id (.tup (.cons .bool (.cons .int .nil))) q
end
section
variable {p : Pk} {σ : Sto} {ρ : Rho} {Q : Post}
noncomputable def tr (x : Bool × Int × Str) : PV := .tup [.bool x.1, .int x.2.1, .str x.2.2]
noncomputable def toldD (l : List (Bool × Int × Str)) : List (Str × PV) := l.map fun x => (x.2.2, tpl x.1 x.2.1)
/-- what the table of the orders holds, in the order of its keys -/
noncomputable def ordF (l : List Ord) : List (Str × PV) := l.foldl (fun d o => rset o.sig (.bool true) d) []
theorem c_numbers (ok : p.G.Ok) {k : Nat} {sv so st op : PV} {sfs : List (Str × PV)} {rows : List Row} {xs : List Str} {os : List Ord} {n : Nat} {tl : List (Bool × Int × Str)}
    (h : HasE σ sv rows) (Vs : InstV σ sv 571 sfs) (ho : sfs.lookup ("ordered" : Str) = some so) (Vo : LstV σ so (xs.map .str)) (hxl : xs.length < 1000) (hok : ∀ y ∈ xs, sOk y ∧ y ≠ "int" ∧ y ≠ "Int")
    (hop : sfs.lookup ("opened" : Str) = some op) (Vop : LstV σ op (os.map opened)) (hol : os.length < 1000) (htop : ∀ o ∈ os, Top rows o.sig o.sig)
    (hT : ∀ x ∈ tl, x.2.2 ∈ xs ∧ 0 ≤ x.2.1 ∧ ∃ t, Top rows x.2.2 t ∧ t ≠ "") (hnd : (tl.map (·.2.2)).Nodup) (htl : tl.length < 1000)
    (q : Q (.ref σ.length) (σ ++ [.inst 331 [("signatures", sv), ("default", .int n), ("told", .ref (σ.length + 1)), ("ordered", .ref (σ.length + 2))], .sdict (toldD tl), .sdict (ordF os)])) {env : Env} :
    CWP ⟨p.G, k + 6, env⟩ (.cst (.ref 331)) [sv, .tup [.int n, .tup (tl.map tr)]] σ Q := by
  refine cwp_cls ok (mk_331 p) (in_331 p) (by kernel_rfl) (ok_ninit p) (k := k + 4) (by show k + 6 ≤ k + 6; lia) rfl fun L => ?_
  have hset : ∀ (o o' : PO) (t t' : Sto), List.set (σ ++ (o :: t) ++ t') σ.length o' = σ ++ (o' :: (t ++ t')) := fun o o' t t' => by simp [List.set_append_right]
  have hg : ∀ (a : PO) (t t' : Sto), (σ ++ (a :: t) ++ t')[σ.length]? = some a := fun a t t' => by simp
  have hl1 : ∀ (a : PO), (σ ++ [a]).length = σ.length + 1 := fun a => by simp
  have hl2 : ∀ (a b : PO), (σ ++ [a, b]).length = σ.length + 2 := fun a b => by simp
  walk_at "open"
  walk_at "asg"
  repeat walk_at "w"
  with_reducible refine awp_attr ok ?_
  repeat walk_at "w"
  refine ⟨331, _, [], rfl, get_last, st_331_signatures p, by decide, ?_⟩
  rw [set_last]
  show SWP _ _ _ (σ ++ [.inst 331 [("signatures", sv)]]) _ _
  walk_at "asg"
  repeat walk_at "w"
  with_reducible refine sub_tupN 0 (p := .int n) ?g (by decide) ?h ?_ ?i
  case g => exact rfl
  case h => exact rfl
  case i => intro _ _; rfl
  repeat walk_at "w"
  rw [show decide ((n : Int) ≥ 0) = true from by rw [decide_eq_true_iff]; lia]
  repeat walk_at "w"
  with_reducible refine sub_tupN 0 (p := .int n) ?g (by decide) ?h ?_ ?i
  case g => exact rfl
  case h => exact rfl
  case i => intro _ _; rfl
  with_reducible refine awp_attr ok ?_
  repeat walk_at "w"
  refine ⟨331, _, [("signatures", sv)], rfl, get_last, st_331_default p, Nat.le_of_ble_eq_true rfl, ?_⟩
  rw [set_last]
  show SWP _ _ _ (σ ++ [.inst 331 [("signatures", sv), ("default", .int n)]]) _ _
  walk_at "asg"
  with_reducible refine ewp_dict0 ?_
  with_reducible refine awp_attr ok ?_
  repeat walk_at "w"
  refine ⟨331, _, [("signatures", sv), ("default", .int n)], rfl, hg _ [] _, st_331_told p, Nat.le_of_ble_eq_true rfl, ?_⟩
  rw [hset, hl1]
  show SWP _ _ _ (σ ++ [.inst 331 [("signatures", sv), ("default", .int n), ("told", .ref (σ.length + 1))], .sdict (toldD [])]) _ _
  have e0 : ∀ d, (σ ++ [.inst 331 [("signatures", sv), ("default", .int n), ("told", .ref (σ.length + 1))], .sdict d])[σ.length]? = some (.inst 331 [("signatures", sv), ("default", .int n), ("told", .ref (σ.length + 1))]) := fun d => by simp
  have e1 : ∀ (a : PO) d, (σ ++ [a, .sdict d])[σ.length + 1]? = some (.sdict d) := fun a d => by rw [List.getElem?_append_right (by lia)]; simp
  have s1 : ∀ (a : PO) d d', (σ ++ [a, .sdict d]).set (σ.length + 1) (.sdict d') = σ ++ [a, .sdict d'] := fun a d d' => by simp [List.set_append_right]
  have hTn : ∀ (d : List (Bool × Int × Str)) (x : Str), x ∉ d.map (·.2.2) → (toldD d).lookup x = Option.none := by
    intro d x hx
    induction d with
    | nil => rfl
    | cons a d ih =>
      simp only [List.map_cons, List.mem_cons, not_or] at hx
      show List.lookup x ((a.2.2, tpl a.1 a.2.1) :: toldD d) = _
      rw [List.lookup_cons, beq_eq_false_iff_ne.mpr hx.1]
      exact ih hx.2
  have lowT : ∀ (m : Nat) (d : List (Bool × Int × Str)), LowS m (toldD d) := by
    intro m d
    induction d with
    | nil => exact .nil
    | cons a d ih => exact .cons (.tup (.cons .bool (.cons .int .nil))) ih
  with_reducible refine swp_cons (s1_for ?_ ?hset)
  case hset => intro _; rfl
  repeat walk_at "w"
  with_reducible refine sub_tupN 1 (p := .tup (tl.map tr)) ?g (by decide) ?h ?_ ?i
  case g => exact rfl
  case h => exact rfl
  case i => intro _ _; rfl
  refine ⟨tl.map tr, ?_⟩
  with_reducible refine for_ind tr tl (fun d ρ σ' => σ' = σ ++ [.inst 331 [("signatures", sv), ("default", .int n), ("told", .ref (σ.length + 1))], .sdict (toldD d)] ∧ ρ.lookup ("self" : Str) = some (.ref σ.length) ∧ ρ.lookup ("signatures" : Str) = some sv) rfl ?hS ?step ?h0 ?_
  case hS => refine fun d ρ σ' => an2 fun eq0 _ => ?_; subst eq0; exact .tup
  case h0 => exact ⟨rfl, rfl, rfl⟩
  case step =>
    refine fun d a r e ρ σ' => an3 fun eq0 h1 h2 => ?_
    subst eq0
    obtain ⟨hm, h0, t, T, ht⟩ := hT a (by rw [← e]; simp)
    have hnew : a.2.2 ∉ d.map (·.2.2) := by
      have := hnd
      rw [← e, List.map_append, List.map_cons] at this
      exact fun hm => (List.nodup_append.mp this).2.2 _ hm _ (.head _) rfl
    have hdl : (toldD d).length < 1000 := by have := congrArg List.length e; simp [toldD] at this ⊢; lia
    unfold tr
    with_reducible refine awp_tuple (fun _ h => h) ?_ rfl ?he
    case he => exact rfl
    with_reducible refine als_cons ?_
    walk_at "loc"
    with_reducible refine als_cons ?_
    walk_at "loc"
    with_reducible refine als_cons ?_
    walk_at "loc"
    with_reducible refine als_nil ?_
    have g1 : (rset "sig" (.str a.2.2) (rset "number" (.int a.2.1) (rset "is_exact" (.bool a.1) ρ))).lookup ("self" : Str) = some (.ref σ.length) := look_ne (look_ne (look_ne h1 (by decide)) (by decide)) (by decide)
    have g2 : (rset "sig" (.str a.2.2) (rset "number" (.int a.2.1) (rset "is_exact" (.bool a.1) ρ))).lookup ("signatures" : Str) = some sv := look_ne (look_ne (look_ne h2 (by decide)) (by decide)) (by decide)
    have g3 : (rset "sig" (.str a.2.2) (rset "number" (.int a.2.1) (rset "is_exact" (.bool a.1) ρ))).lookup ("number" : Str) = some (.int a.2.1) := look_ne (rset_self _ _ _) (by decide)
    have g4 : (rset "sig" (.str a.2.2) (rset "number" (.int a.2.1) (rset "is_exact" (.bool a.1) ρ))).lookup ("is_exact" : Str) = some (.bool a.1) := look_ne (look_ne (rset_self _ _ _) (by decide)) (by decide)
    walk_at "exp"
    repeat walk_at "w"
    with_reducible refine KM.i (m1_of ok (.r (e0 _)) (me_331_take p) rfl) (k_309 p) ?_
    repeat walk_at "w"
    with_reducible refine c_take_num ok (.r (e0 _)) rfl rfl h.app (Vs.up up_app) ho (Vo.up up_app) hxl hm (fun y hy => (hok y hy).1) T ht (e1 _ _) hdl (lowT _ _) (hTn d _ hnew) h0 (hok _ hm).2.1 (hok _ hm).2.2 ?_
    rw [s1, show toldD d ++ [(a.2.2, tpl a.1 a.2.1)] = toldD (d ++ [a]) from by simp [toldD]]
    with_reducible refine swp_nil ⟨rfl, g1, g2⟩
  refine fun ρ σ' => an3 fun eq0 h1 h2 => ?_
  subst eq0
  walk_at "asg"
  with_reducible refine ewp_dict0 ?_
  with_reducible refine awp_attr ok ?_
  repeat walk_at "w"
  refine ⟨331, _, [("signatures", sv), ("default", .int n), ("told", .ref (σ.length + 1))], rfl, hg _ [_] _, st_331_ordered p, Nat.le_of_ble_eq_true rfl, ?_⟩
  rw [hset, hl2]
  show SWP _ _ _ (σ ++ [.inst 331 [("signatures", sv), ("default", .int n), ("told", .ref (σ.length + 1)), ("ordered", .ref (σ.length + 2))], .sdict (toldD tl), .sdict (ordF [])]) _ _
  have f0 : ∀ d, (σ ++ [.inst 331 [("signatures", sv), ("default", .int n), ("told", .ref (σ.length + 1)), ("ordered", .ref (σ.length + 2))], .sdict (toldD tl), .sdict d])[σ.length]? = some (.inst 331 [("signatures", sv), ("default", .int n), ("told", .ref (σ.length + 1)), ("ordered", .ref (σ.length + 2))]) := fun d => by simp
  have f1 : ∀ (a b : PO) d, (σ ++ [a, b, .sdict d])[σ.length + 2]? = some (.sdict d) := fun a b d => by rw [List.getElem?_append_right (by lia)]; simp
  have t1 : ∀ (a b : PO) d d', (σ ++ [a, b, .sdict d]).set (σ.length + 2) (.sdict d') = σ ++ [a, b, .sdict d'] := fun a b d d' => by simp [List.set_append_right]
  have lowO : ∀ (m : Nat) (l : List Ord), LowL m (l.map opened) := by
    intro m l
    induction l with
    | nil => exact .nil
    | cons a l ih => exact .cons (.tup (.cons .str (.cons .str .nil))) ih
  have rl : ∀ (d : List (Str × PV)) x v, (rset x v d).length ≤ d.length + 1 := by
    intro d x v
    induction d with
    | nil => simp [rset]
    | cons a d ih => unfold rset; split <;> simp <;> lia
  have ol : ∀ l : List Ord, (ordF l).length ≤ l.length := by
    have key : ∀ (l : List Ord) (d : List (Str × PV)), (l.foldl (fun d o => rset o.sig (.bool true) d) d).length ≤ d.length + l.length := by
      intro l
      induction l with
      | nil => intro d; simp
      | cons a l ih => intro d; rw [List.foldl_cons]; refine Nat.le_trans (ih _) ?_; have := rl d a.sig (.bool true); simp; lia
    intro l; simpa [ordF] using key l []
  with_reducible refine swp_cons (s1_for ?_ ?hset)
  case hset => intro _; rfl
  repeat walk_at "w"
  with_reducible refine KM.i (m1_sigE ok h.app (me_571_orders p) (by decide)) (k_568 p) ?_
  repeat walk_at "w"
  with_reducible refine c_orders (l := []) ok (Vs.up up_app) hop (Vop.up up_app) (by simpa using hol) (lowO _ _) ?_
  refine ⟨os.map opened, ?_⟩
  with_reducible refine for_ind opened os (fun d ρ σ' => σ' = σ ++ [.inst 331 [("signatures", sv), ("default", .int n), ("told", .ref (σ.length + 1)), ("ordered", .ref (σ.length + 2))], .sdict (toldD tl), .sdict (ordF d)] ∧ ρ.lookup ("self" : Str) = some (.ref σ.length) ∧ ρ.lookup ("signatures" : Str) = some sv) rfl ?hS2 ?step2 ?h02 ?_
  case hS2 => refine fun d ρ σ' => an2 fun eq0 _ => ?_; subst eq0; exact .lst .f
  case h02 => exact ⟨rfl, h1, h2⟩
  case step2 =>
    refine fun d a r e ρ σ' => an3 fun eq0 h1 h2 => ?_
    subst eq0
    have T := htop a (by rw [← e]; simp)
    have hdl : (ordF d).length < 1000 := by have := congrArg List.length e; simp at this; have := ol d; lia
    with_reducible refine awp_tuple (fun _ h => h) ?_ rfl ?he
    case he => exact rfl
    with_reducible refine als_cons ?_
    walk_at "loc"
    with_reducible refine als_cons ?_
    walk_at "loc"
    with_reducible refine als_nil ?_
    have g1 : (rset "sig" (.str a.sig) (rset "alias" (.str a.als) ρ)).lookup ("self" : Str) = some (.ref σ.length) := look_ne (look_ne h1 (by decide)) (by decide)
    have g2 : (rset "sig" (.str a.sig) (rset "alias" (.str a.als) ρ)).lookup ("signatures" : Str) = some sv := look_ne (look_ne h2 (by decide)) (by decide)
    walk_at "if"
    repeat walk_at "w"
    with_reducible refine KM.i (m1_sigE ok h.app (me_571_top p) (by decide)) (k_526 p) ?_
    repeat walk_at "w"
    with_reducible refine c_topT ok h.app T ?_
    repeat walk_at "w"
    rw [show (!decide (a.sig = a.sig)) = false from by simp]
    repeat walk_at "w"
    with_reducible refine swp_nil ?_
    walk_at "asg"
    repeat walk_at "w"
    with_reducible refine awp_sub ?_
    repeat walk_at "w"
    refine KAttr.i (C := 331) (.r (f0 _)) (at_331_ordered p) rfl ?_
    repeat walk_at "w"
    with_reducible refine set_dict (f1 _ _ _) (szl (by lia)) ?_
    rw [t1, show rset a.sig (.bool true) (ordF d) = ordF (d ++ [a]) from by simp [ordF]]
    with_reducible refine swp_nil ⟨rfl, g1, g2⟩
  refine fun ρ σ' => an3 fun eq0 h1 h2 => ?_
  subst eq0
  with_reducible refine swp_nil ?_
  exact q
end
section
variable {p : Pk} {σ : Sto} {ρ : Rho} {Q : Post}
/-- the atoms so far: how many, their names, the range of each top, whether sure -/
structure At where
  nm : List Str
  lots : List (Str × Nat × Nat × Bool)
noncomputable def atomName (x : Str) (k : Nat) : Str := x ++ ("$" : Str) ++ Str.ofString (toString k)
noncomputable def rngT (b n : Nat) : List (List Int) := (List.range n).map fun k => [((b + k : Nat) : Int)]
noncomputable def lotsD (a : At) : List (Str × PV) := a.lots.map fun x => (x.1, rel (rngT x.2.1 x.2.2.1))
noncomputable def sureD (a : At) : List (Str × PV) := a.lots.map fun x => (x.1, if x.2.2.2 then rel (rngT x.2.1 x.2.2.1) else rel [])
noncomputable def atStep (f : Str → Bool × Nat) (a : At) (r : Row) : At :=
  if r.par = "" then ⟨a.nm ++ (List.range (f r.n).2).map (atomName r.n), a.lots ++ [(r.n, a.nm.length, (f r.n).2, (f r.n).1)]⟩ else a
noncomputable def atoms (f : Str → Bool × Nat) (rows : List Row) : At := rows.foldl (atStep f) ⟨[], []⟩
/-- what the contract of atoms_of asks of the numbers: every top has a lot -/
noncomputable def LotOf (p : Pk) (σ : Sto) (nv : PV) (f : Str → Bool × Nat) (rows : List Row) : Prop :=
  ∀ r ∈ rows, r.par = "" → ∀ (τ : Sto) (k : Nat) (env : Env) (Q : Post), Q (tpl (f r.n).1 (f r.n).2) (σ ++ τ) → CWP ⟨p.G, k + 4, env⟩ (.cst (.ref 321)) [nv, .str r.n] (σ ++ τ) Q
theorem jwp_nil {c : Cx} {acc : Str} {Q : Post} (hz : acc.length ≤ sizeLine) (h : Q (.str acc) σ) : JWP c ρ Q [] acc σ := ⟨hz, h⟩
noncomputable abbrev KJ (c : Cx) (ρ : Rho) (Q : Post) (r : List Expr) (acc : Str) : Post := fun v σ₁ => ∃ y, v = .str y ∧ (acc ++ y).length ≤ sizeLine ∧ JWP c ρ Q r (acc ++ y) σ₁
theorem jwp_cons {c : Cx} {e : Expr} {r : List Expr} {acc : Str} {Q : Post} (h : EWP c e ρ σ (KJ c ρ Q r acc)) : JWP c ρ Q (e :: r) acc σ := h
theorem len_app (a b : Str) : (a ++ b).length = a.length + b.length := by cases a; cases b; exact Array.size_append
theorem emp_app (a : Str) : Str.empty ++ a = a := by cases a; exact congrArg Str.mk Array.empty_append
theorem c_atoms (ok : p.G.Ok) {k : Nat} {self sv so nv : PV} {fs sfs nfs : List (Str × PV)} {rows : List Row} {f : Str → Bool × Nat} (V : InstV σ self 402 fs) (hs : fs.lookup ("signatures" : Str) = some sv) (h : HasE σ sv rows) (Vs : InstV σ sv 571 sfs) (ho : sfs.lookup ("ordered" : Str) = some so) (Vo : LstV σ so ((names rows).map .str))
    (Vn : InstV σ nv 331 nfs) (hnf : nfs.lookup ("lot_of" : Str) = Option.none) (LO : LotOf p σ nv f rows) (hz : rows.length < 20)
    (hT : ∀ r ∈ rows, ∃ t, Top rows r.n t ∧ (t = r.n ↔ r.par = "")) (hf : ∀ r ∈ rows, (f r.n).2 ≤ 3) (hnd : (names rows).Nodup) (hsn : ∀ r ∈ rows, r.n.length ≤ 100)
    (q : Q (.tup [.lst ((atoms f rows).nm.map .str), .sd (lotsD (atoms f rows)), .sd (sureD (atoms f rows))]) σ) {env : Env} : CWP ⟨p.G, k + 5, env⟩ (.cst (.ref 394)) [self, nv] σ Q := by
  refine cwp_def ok (ok_catoms p) (Nat.le_refl _) rfl fun L => ?_
  walk_at "open"
  walk_at "asg"
  walk_at "w"
  walk_at "w"
  with_reducible refine ewp_list_m ?_
  repeat walk_at "w"
  refine ⟨Nat.le_of_ble_eq_true rfl, ?_⟩
  repeat walk_at "w"
  with_reducible refine ewp_dict0 ?_
  repeat walk_at "w"
  with_reducible refine ewp_dict0 ?_
  repeat walk_at "w"
  refine ⟨Nat.le_of_ble_eq_true rfl, ?_⟩
  with_reducible refine awp_tuple (fun _ h => h) ?_ rfl ?he
  case he => exact rfl
  with_reducible refine als_cons ?_
  walk_at "cell"
  with_reducible refine als_cons ?_
  walk_at "loc"
  with_reducible refine als_cons ?_
  walk_at "loc"
  with_reducible refine als_nil ?_
  have z1 : ∀ (a : PO), (σ ++ [a]).length = σ.length + 1 := fun a => by simp
  have z2 : ∀ (a b : PO), (σ ++ [a] ++ [b]).length = σ.length + 2 := fun a b => by simp
  rw [z1, z2]
  have z3 : ∀ (a b c : PO), σ ++ [a] ++ [b] ++ [c] = σ ++ [a, b, c] := fun a b c => by simp
  rw [z3]
  with_reducible refine swp_cons (s1_for ?_ ?hset)
  case hset => intro _; rfl
  repeat walk_at "w"
  refine KAttr.i (C := 402) (V.up up_app) (at_402_signatures p) hs ?_
  with_reducible refine KM.i (m1_sigE ok h.app (me_571_names p) (by decide)) (k_472 p) ?_
  repeat walk_at "w"
  with_reducible refine c_names (l := []) ok (Vs.up up_app) ho (Vo.up up_app) (by unfold names; simp; lia) (lowStrs _) ?_
  refine ⟨(names rows).map .str, ?_⟩
  with_reducible refine for_ind (fun r : Row => PV.str r.n) rows (fun d ρ σ' => σ' = σ ++ [.list ((atoms f d).nm.map .str), .sdict (lotsD (atoms f d)), .sdict (sureD (atoms f d))] ∧ ρ.lookup ("self" : Str) = some self ∧ ρ.lookup ("numbers" : Str) = some nv ∧ ρ.lookup ("names" : Str) = some (.ref σ.length) ∧ ρ.lookup ("lots" : Str) = some (.ref (σ.length + 1)) ∧ ρ.lookup ("sure" : Str) = some (.ref (σ.length + 2))) ?hm ?hS ?step ?h0 ?_
  case hm => unfold names; simp
  case hS => refine fun d ρ σ' => an2 fun eq0 _ => ?_; subst eq0; exact .lst .f
  case h0 => exact ⟨rfl, rfl, rfl, rfl, rfl, rfl⟩
  case step =>
    refine fun d a r e ρ σ' => an6 fun eq0 h1 h2 h3 h4 h5 => ?_
    subst eq0
    obtain ⟨t, T, ht⟩ := hT a (by rw [← e]; simp)
    walk_at "cell"
    have g1 : (rset "sig" (.str a.n) ρ).lookup ("self" : Str) = some self := look_ne h1 (by decide)
    have g2 : (rset "sig" (.str a.n) ρ).lookup ("numbers" : Str) = some nv := look_ne h2 (by decide)
    have g3 : (rset "sig" (.str a.n) ρ).lookup ("names" : Str) = some (.ref σ.length) := look_ne h3 (by decide)
    have g4 : (rset "sig" (.str a.n) ρ).lookup ("lots" : Str) = some (.ref (σ.length + 1)) := look_ne h4 (by decide)
    have g5 : (rset "sig" (.str a.n) ρ).lookup ("sure" : Str) = some (.ref (σ.length + 2)) := look_ne h5 (by decide)
    walk_at "if"
    repeat walk_at "w"
    refine KAttr.i (C := 402) (V.up up_app) (at_402_signatures p) hs ?_
    with_reducible refine KM.i (m1_sigE ok h.app (me_571_top p) (by decide)) (k_526 p) ?_
    repeat walk_at "w"
    with_reducible refine c_topT ok h.app T ?_
    repeat walk_at "w"
    by_cases hp : a.par = ""
    · first | with_reducible refine iteD (ht.mpr hp) ?_ | with_reducible refine iteND (ht.mpr hp) ?_ | rw [decide_eq_true (ht.mpr hp)]
      repeat walk_at "w"
      have hfa := hf a (by rw [← e]; simp)
      obtain ⟨b, n, hbn⟩ : ∃ b n, f a.n = (b, n) := ⟨_, _, rfl⟩
      rw [hbn] at hfa
      have hnm : (atoms f d).nm.length ≤ 60 := by
        have key : ∀ (d : List Row) (x : At), (∀ r ∈ d, (f r.n).2 ≤ 3) → (d.foldl (atStep f) x).nm.length ≤ x.nm.length + 3 * d.length := by
          intro d
          induction d with
          | nil => intro x _; simp
          | cons r d ih =>
            intro x hx
            rw [List.foldl_cons]
            refine Nat.le_trans (ih _ fun r hr => hx r (.tail _ hr)) ?_
            have := hx r (.head _)
            unfold atStep
            split <;> simp <;> lia
        have := key d ⟨[], []⟩ fun r hr => hf r (by rw [← e]; simp [hr])
        have hd := congrArg List.length e
        simp at this hd
        unfold atoms; lia
      walk_at "asg"
      repeat walk_at "w"
      with_reducible refine KM.i (m1_of ok (Vn.up up_app) (me_331_lot_of p) hnf) (k_321 p) ?_
      repeat walk_at "w"
      refine LO a (by rw [← e]; simp) hp _ k _ _ ?_
      rw [hbn]
      show AWP _ _ _ (.tup [.bool b, .int n]) _ _ _
      with_reducible refine awp_tuple (fun _ h => h) ?_ rfl ?he
      case he => exact rfl
      with_reducible refine als_cons ?_
      walk_at "loc"
      with_reducible refine als_cons ?_
      walk_at "loc"
      with_reducible refine als_nil ?_
      have hup : ∀ {x : Str} {v : PV}, (rset "sig" (.str a.n) ρ).lookup x = some v → x ≠ "is_exact" → x ≠ "many" → (rset "many" (.int n) (rset "is_exact" (.bool b) (rset "sig" (.str a.n) ρ))).lookup x = some v := fun h n1 n2 => look_ne (look_ne h n1) n2
      have k1 := hup g1 (by decide) (by decide)
      have k2 := hup g2 (by decide) (by decide)
      have k3 := hup g3 (by decide) (by decide)
      have k4 := hup g4 (by decide) (by decide)
      have k5 := hup g5 (by decide) (by decide)
      have k6 := hup (rset_self ("sig" : Str) (.str a.n) ρ) (by decide) (by decide)
      have k7 : (rset "many" (.int n) (rset "is_exact" (.bool b) (rset "sig" (.str a.n) ρ))).lookup ("is_exact" : Str) = some (.bool b) := look_ne (rset_self _ _ _) (by decide)
      have y0 : ∀ (a b c : PO), (σ ++ [a, b, c])[σ.length]? = some a := fun a b c => by simp
      have y1 : ∀ (a b c : PO), (σ ++ [a, b, c])[σ.length + 1]? = some b := fun a b c => by rw [List.getElem?_append_right (by lia)]; simp
      have y2 : ∀ (a b c : PO), (σ ++ [a, b, c])[σ.length + 2]? = some c := fun a b c => by rw [List.getElem?_append_right (by lia)]; simp
      walk_at "if"
      repeat walk_at "w"
      with_reducible refine cwp_len_lst (.r (y0 _ _ _)) (by simp; lia) ?_
      repeat walk_at "w"
      rw [show decide ((((atoms f d).nm.map PV.str).length : Int) + (n : Int) > 500) = false from by rw [decide_eq_false_iff_not]; simp; lia]
      repeat walk_at "w"
      with_reducible refine swp_nil ?_
      walk_at "asg"
      repeat walk_at "w"
      walk_at "ecmp"
      repeat walk_at "w"
      with_reducible refine cwp_range1 ?_
      have hr0 : rngL 0 (n : Int) = (List.range n).map fun (i : Nat) => PV.int (i : Int) := by simp [rngL]
      refine ⟨rngL 0 (n : Int), szl (by rw [hr0]; simp; lia), fun C => ?_⟩
      with_reducible refine comp_filterE (fun (i : Nat) => PV.int (i : Int)) (fun i => some (.tup [.int (((atoms f d).nm.length + i : Nat) : Int)])) (fun ρ => ρ.lookup ("names" : Str) = some (.ref σ.length)) (List.range n) hr0 (.rng ?hrg) (fun j hj ρ' hj1 => ?_) ?hi ?_
      case hrg => unfold RngOk; lia
      case hi => exact rfree_keep rfl k3
      · walk_at "tgt"
        have hj2 : (rset "k" (.int (j : Int)) ρ').lookup ("names" : Str) = some (.ref σ.length) := look_ne hj1 (by decide)
        with_reducible refine tests_nil ?_
        repeat walk_at "w"
        with_reducible refine cwp_len_lst (.r (y0 _ _ _)) (by simp; lia) ?_
        repeat walk_at "w"
        refine ⟨Nat.le_of_ble_eq_true rfl, ?_⟩
        refine ⟨?_, rfl, hj2⟩
        simp
      have hrel : (List.range n).filterMap (fun i => some (PV.tup [.int (((atoms f d).nm.length + i : Nat) : Int)])) = (rngT (atoms f d).nm.length n).map tupI := by
        unfold rngT
        rw [List.map_map, ← List.filterMap_eq_map]
        rfl
      rw [hrel]
      repeat walk_at "w"
      with_reducible refine cwp_tuple_list .f (szl (by unfold rngT; simp; lia)) ?_
      with_reducible refine awp_sub ?_
      repeat walk_at "w"
      have hlots : ∀ (d : List Row) (x : At), (∀ y ∈ x.lots, y.1 ≠ a.n) → (∀ r ∈ d, r.n ≠ a.n) → ∀ y ∈ (d.foldl (atStep f) x).lots, y.1 ≠ a.n := by
        intro d
        induction d with
        | nil => intro x hx _; exact hx
        | cons r d ih =>
          intro x hx hd
          rw [List.foldl_cons]
          refine ih _ ?_ fun r' hr' => hd r' (.tail _ hr')
          unfold atStep
          split
          · intro y hy
            rcases List.mem_append.mp hy with hy | hy
            · exact hx y hy
            · rw [List.mem_singleton.mp hy]; exact hd r (.head _)
          · exact hx
      have hdn : ∀ r' ∈ d, r'.n ≠ a.n := by
        intro r' hr'
        have hnd' := hnd
        rw [← e] at hnd'
        unfold names at hnd'
        rw [List.map_append, List.nodup_append] at hnd'
        exact hnd'.2.2 _ (List.mem_map_of_mem hr') _ (by simp)
      have hfresh := hlots d ⟨[], []⟩ (fun _ h => nomatch h) hdn
      have hcount : ∀ (d : List Row) (x : At), (d.foldl (atStep f) x).lots.length ≤ x.lots.length + d.length := by
        intro d
        induction d with
        | nil => intro x; simp
        | cons r d ih =>
          intro x
          rw [List.foldl_cons]
          refine Nat.le_trans (ih _) ?_
          unfold atStep
          split <;> simp <;> lia
      have hcl : (atoms f d).lots.length ≤ 20 := by
        have := hcount d ⟨[], []⟩
        have hd := congrArg List.length e
        simp at this hd
        unfold atoms; lia
      have hno : ∀ (l : List (Str × Nat × Nat × Bool)) (g : Str × Nat × Nat × Bool → PV), (∀ y ∈ l, y.1 ≠ a.n) → (l.map fun x => (x.1, g x)).lookup a.n = Option.none := by
        intro l g
        induction l with
        | nil => intro _; rfl
        | cons y l ih =>
          intro h
          rw [List.map_cons, List.lookup_cons, beq_eq_false_iff_ne.mpr (Ne.symm (h y (.head _)))]
          exact ih fun z hz => h z (.tail _ hz)
      have w1 : ∀ (a b c b' : PO), (σ ++ [a, b, c]).set (σ.length + 1) b' = σ ++ [a, b', c] := fun a b c b' => by rw [List.set_append_right _ _ (by lia)]; simp
      have w0 : ∀ (a b c b' : PO), (σ ++ [a, b, c]).set (σ.length) b' = σ ++ [b', b, c] := fun a b c b' => by rw [List.set_append_right _ _ (by lia)]; simp
      have w2 : ∀ (a b c b' : PO), (σ ++ [a, b, c]).set (σ.length + 2) b' = σ ++ [a, b, b'] := fun a b c b' => by rw [List.set_append_right _ _ (by lia)]; simp
      have hl1 : (lotsD (atoms f d)).lookup a.n = Option.none := hno _ _ hfresh
      have hs1 : (sureD (atoms f d)).lookup a.n = Option.none := hno _ _ hfresh
      with_reducible refine set_dict (y1 _ _ _) (szl (by unfold lotsD; simp; lia)) ?_
      rw [rset_new hl1, w1]
      walk_at "asg"
      with_reducible refine EWP.mono (Q := fun v s => v = (if b then rel (rngT (atoms f d).nm.length n) else rel []) ∧ s = σ ++ [.list ((atoms f d).nm.map .str), .sdict (lotsD (atoms f d) ++ [(a.n, rel (rngT (atoms f d).nm.length n))]), .sdict (sureD (atoms f d))]) ?_ ?_
      · walk_at "w"
        cases b
        · repeat walk_at "w"
          exact ⟨Nat.le_of_ble_eq_true rfl, rfl, rfl⟩
        · repeat walk_at "w"
          with_reducible refine sub_dict ok (.r (y1 _ _ _)) (p := rel (rngT (atoms f d).nm.length n)) ?h ?_ ?i
          case h => rw [List.lookup_append, hl1]; simp
          case i => intro _ _; rfl
          exact ⟨rfl, rfl⟩
      refine fun _ _ => an2 fun eq0 eq1 => ?_
      subst eq0 eq1
      with_reducible refine awp_sub ?_
      repeat walk_at "w"
      have hsl : (sureD (atoms f d)).length ≤ 20 := by unfold sureD; simpa using hcl
      with_reducible refine set_dict (y2 _ _ _) (szl (by lia)) ?_
      rw [rset_new hs1, w2]
      walk_at "exp"
      repeat walk_at "w"
      with_reducible refine KM.i (m1_extend (y0 _ _ _)) rfl ?_
      repeat walk_at "w"
      walk_at "ecmp"
      repeat walk_at "w"
      with_reducible refine cwp_range1 ?_
      refine ⟨rngL 0 (n : Int), szl (by rw [hr0]; simp; lia), fun C2 => ?_⟩
      with_reducible refine comp_filterE (fun (i : Nat) => PV.int (i : Int)) (fun i => some (.str (atomName a.n i))) (fun ρ => ρ.lookup ("sig" : Str) = some (.str a.n)) (List.range n) hr0 (.rng ?hrg) (fun j hj ρ' hj1 => ?_) ?hi ?_
      case hrg => unfold RngOk; lia
      case hi => exact rfree_keep rfl k6
      · walk_at "tgt"
        have hj2 : (rset "k" (.int (j : Int)) ρ').lookup ("sig" : Str) = some (.str a.n) := look_ne hj1 (by decide)
        with_reducible refine tests_nil ?_
        have hjn := List.mem_range.mp hj
        have hal := hsn a (by rw [← e]; simp)
        walk_at "w"
        have hjl : (Str.ofString (toString j)).length ≤ 100 := by
          have : j = 0 ∨ j = 1 ∨ j = 2 := by lia
          rcases this with rfl | rfl | rfl <;> decide
        have hji : (Str.ofString (toString (j : Int))).length ≤ 100 := hjl
        have hd1 : (Str.ofString "$").length = 1 := rfl
        with_reducible refine ewp_fstr (jwp_cons (ewp_fv ?_))
        repeat walk_at "w"
        refine .inl ⟨_, rfl, szl (by lia), _, rfl, szl (by rw [emp_app]; lia), ?_⟩
        rw [emp_app]
        with_reducible refine jwp_cons ?_
        repeat walk_at "w"
        refine ⟨_, rfl, szl (by rw [len_app]; show _ + 1 ≤ _; lia), ?_⟩
        with_reducible refine jwp_cons (ewp_fv ?_)
        repeat walk_at "w"
        have hjl2 : j.log2 < 1920 := by
          have : j = 0 ∨ j = 1 ∨ j = 2 := by lia
          rcases this with rfl | rfl | rfl <;> decide
        refine .inr ⟨_, rfl, hjl2, _, rfl, szl (by rw [len_app, len_app]; show _ + 1 + (Str.ofString (toString j)).length ≤ _; lia), ?_⟩
        with_reducible refine jwp_nil (szl (by rw [len_app, len_app]; lia)) ?_
        exact ⟨rfl, rfl, hj2⟩
      have hnames : (List.range n).filterMap (fun i => some (PV.str (atomName a.n i))) = ((List.range n).map (atomName a.n)).map .str := by
        rw [List.map_map, ← List.filterMap_eq_map]
        rfl
      rw [hnames]
      repeat walk_at "w"
      with_reducible refine cwp_extend (y0 _ _ _) (.inl .f) (by simp; lia) ?_
      rw [w0, ← List.map_append]
      with_reducible refine swp_nil ?_
      with_reducible refine swp_nil ?_
      have e4 : atoms f (d ++ [a]) = ⟨(atoms f d).nm ++ (List.range n).map (atomName a.n), (atoms f d).lots ++ [(a.n, (atoms f d).nm.length, n, b)]⟩ := by
        unfold atoms; rw [List.foldl_append]; show atStep f _ a = _; unfold atStep; rw [if_pos hp, hbn]
      refine ⟨?_, k1, k2, k3, k4, k5⟩
      rw [e4]
      unfold lotsD sureD
      simp only [List.map_append]
      rfl
    · first | with_reducible refine iteDN (fun e => hp (ht.mp e)) ?_ | with_reducible refine iteNDN (fun e => hp (ht.mp e)) ?_ | rw [decide_eq_false (fun e => hp (ht.mp e))]
      repeat walk_at "w"
      with_reducible refine swp_nil ?_
      with_reducible refine swp_nil ?_
      have e3 : atoms f (d ++ [a]) = atoms f d := by unfold atoms; rw [List.foldl_append]; show atStep f _ a = _; unfold atStep; rw [if_neg hp]
      rw [e3]
      exact ⟨rfl, g1, g2, g3, g4, g5⟩
  refine fun ρ σ' => an6 fun eq0 h1 h2 h3 h4 h5 => ?_
  subst eq0
  walk_at "ret"
  repeat walk_at "w"
  have lowLots : LowS σ.length (lotsD (atoms f rows)) := by
    unfold lotsD
    induction (atoms f rows).lots with
    | nil => exact .nil
    | cons a l ih => exact .cons (.tup (lowRel _)) ih
  have lowSure : LowS σ.length (sureD (atoms f rows)) := by
    unfold sureD
    induction (atoms f rows).lots with
    | nil => exact .nil
    | cons a l ih => exact .cons (by split <;> exact .tup (lowRel _)) ih
  refine ⟨Nat.le_of_ble_eq_true rfl, ?_⟩
  have y0 : ∀ (a b c : PO), (σ ++ [a, b, c])[σ.length]? = some a := fun a b c => by simp
  have y1 : ∀ (a b c : PO), (σ ++ [a, b, c])[σ.length + 1]? = some b := fun a b c => by rw [List.getElem?_append_right (by lia)]; simp
  have y2 : ∀ (a b c : PO), (σ ++ [a, b, c])[σ.length + 2]? = some c := fun a b c => by rw [List.getElem?_append_right (by lia)]; simp
  exact leave_pure (.tup (.cons (.rlist (Nat.le_refl _) (y0 _ _ _) (.low (lowStrs _))) (.cons (.rdict (by lia) (y1 _ _ _) (.low lowLots)) (.cons (.rdict (by lia) (y2 _ _ _) (.low lowSure)) .nil)))) q
end
section
variable {p : Pk} {σ : Sto} {ρ : Rho} {Q : Post}
/-- the signatures as bounds_of sees them -/
structure SigV (σ : Sto) (sv : PV) (rows : List Row) (os : List Ord) (sfs : List (Str × PV)) (so st op fl : PV) : Prop where
  has : HasE σ sv rows
  inst : InstV σ sv 571 sfs
  ho : sfs.lookup ("ordered" : Str) = some so
  vo : LstV σ so ((names rows).map .str)
  hst : sfs.lookup ("stands" : Str) = some st
  vst : LstV σ st ((names rows).map .str)
  hop : sfs.lookup ("opened" : Str) = some op
  vop : LstV σ op (os.map opened)
  hfl : sfs.lookup ("own_fields" : Str) = some fl
  vfl : LstV σ fl []
theorem SigV.app {sv : PV} {rows : List Row} {os : List Ord} {sfs : List (Str × PV)} {so st op fl : PV} {τ : Sto} (S : SigV σ sv rows os sfs so st op fl) : SigV (σ ++ τ) sv rows os sfs so st op fl :=
  ⟨S.has.app, S.inst.up up_app, S.ho, S.vo.up up_app, S.hst, S.vst.up up_app, S.hop, S.vop.up up_app, S.hfl, S.vfl.up up_app⟩
noncomputable def toldL (tl : List (Bool × Int × Str)) : List (Str × Bool × Int) := tl.map fun x => (x.2.2, x.1, x.2.1)
theorem toldD_eq (tl : List (Bool × Int × Str)) : toldD tl = (toldL tl).map fun y => (y.1, tpl y.2.1 y.2.2) := by unfold toldD toldL; rw [List.map_map]; rfl
noncomputable def multOf (rows : List Row) (x : Str) : Str := ((rows.find? fun r => decide (r.n = x)).map (·.m)).getD ""
/-- what a top has: sure or not, how many -/
noncomputable def lotF (rows : List Row) (os : List Ord) (n : Nat) (tl : List (Bool × Int × Str)) (x : Str) : Bool × Nat :=
  let l := lot (multOf rows x) ((toldL tl).lookup x) ((ordF os).lookup x).isSome n
  (l.1, l.2.toNat)
noncomputable def lkA (a : At) (t : Str) : Nat × Nat := match a.lots.lookup t with | some (b, c, _) => (b, c) | none => (0, 0)
noncomputable def upR (a : At) (t : Str) : List (List Int) := rngT (lkA a t).1 (lkA a t).2
noncomputable def loR (a : At) (x : Str) : List (List Int) := match a.lots.lookup x with | some (b, c, true) => rngT b c | _ => []
noncomputable def pairsT (b c : Nat) : List (List Int) := (List.range (c - 1)).map fun k => [((b + k : Nat) : Int), ((b + k + 1 : Nat) : Int)]
noncomputable def rowB (a : At) (tp : Str → Str) (r : Row) : PV := entry r.n 1 (loR a r.n) (upR a (tp r.n))
noncomputable def ordN (o : Ord) : Str := o.als ++ ("/next" : Str)
noncomputable def ordB (a : At) (o : Ord) : PV := entry (ordN o) 2 (pairsT (lkA a o.sig).1 (lkA a o.sig).2) (pairsT (lkA a o.sig).1 (lkA a o.sig).2)
noncomputable abbrev fmV (b : Bool) (i : Nat) (n : Int) : PV := .tup [.str (if b then "eq" else "le"), .tup [.str "count", .tup [.str "rel", .int i]], .tup [.str "num", .int n]]
/-- the formulas: position, exact, number, name -/
noncomputable def forms (tp : Str → Str) (d : List (Str × Bool × Int)) (rows : List Row) : List (Nat × Bool × Int × Str) :=
  rows.zipIdx.filterMap fun x => match (if tp x.1.n = x.1.n then Option.none else d.lookup x.1.n) with | Option.none => Option.none | some (b, n) => some (x.2, b, n, x.1.n)
noncomputable def lblV (x : Nat × Bool × Int × Str) : PV := .tup [.str (("scope " : Str) ++ x.2.2.2), fmV x.2.1 x.1 x.2.2.1]
structure ScOk (rows : List Row) (os : List Ord) (n : Nat) (tl : List (Bool × Int × Str)) (tp : Str → Str) : Prop where
  len : rows.length < 20
  olen : os.length < 10
  tlen : tl.length < 20
  nodup : (names rows).Nodup
  top : ∀ r ∈ rows, Top rows r.n (tp r.n) ∧ tp r.n ≠ "" ∧ (tp r.n = r.n ↔ r.par = "") ∧ (∃ r' ∈ rows, r'.n = tp r.n ∧ r'.par = "")
  nm : ∀ r ∈ rows, sOk r.n ∧ r.n ≠ "int" ∧ r.n ≠ "Int" ∧ r.n.length ≤ 100
  ord : ∀ o ∈ os, (∃ r ∈ rows, r.n = o.sig ∧ r.par = "") ∧ o.als.length ≤ 100
  onm : (names rows ++ os.map ordN).Nodup
  told : ∀ x ∈ tl, x.2.2 ∈ names rows ∧ 0 ≤ x.2.1
  tnd : (tl.map (·.2.2)).Nodup
  one : ∀ r ∈ rows, ∀ b m, (toldL tl).lookup r.n = some (b, m) → r.par = "" → r.m = "one" → m = 1
  lone : ∀ r ∈ rows, ∀ m, (toldL tl).lookup r.n = some (true, m) → r.par = "" → r.m = "lone" → m ≤ 1
  few : ∀ x, (lotF rows os n tl x).2 ≤ 3
  anm : (atoms (lotF rows os n tl) rows).nm.Nodup
noncomputable def bndPV (a : At) (bs : List PV) (ns : List Str) : PV :=
  .inst 284 [("universe", .inst 207 [("names", .tup (a.nm.map .str)), ("numbers", .sd (numD a.nm))]), ("bounds", .lst bs), ("numbers", .sd (numD ns))]
noncomputable def outB (a : At) (rows : List Row) (os : List Ord) (tp : Str → Str) (tl : List (Bool × Int × Str)) : PV :=
  .tup [bndPV a (rows.map (rowB a tp) ++ os.map (ordB a)) (names rows ++ os.map ordN), .sd (numD (names rows ++ os.map ordN)), .lst ((forms tp (toldL tl) rows).map lblV)]
theorem multOf_mem {rows : List Row} (hnd : (names rows).Nodup) {r : Row} (hr : r ∈ rows) : multOf rows r.n = r.m := by
  unfold multOf
  have : (rows.find? fun x => decide (x.n = r.n)) = some r := by
    induction rows with
    | nil => cases hr
    | cons a l ih =>
      unfold names at hnd
      rw [List.map_cons, List.nodup_cons] at hnd
      rw [List.find?_cons]
      by_cases h : a.n = r.n
      · first | with_reducible refine iteD h ?_ | with_reducible refine iteND h ?_ | rw [decide_eq_true h]
        rcases List.mem_cons.mp hr with rfl | hr
        · rfl
        · exact absurd (h ▸ List.mem_map_of_mem hr) hnd.1
      · first | with_reducible refine iteDN h ?_ | with_reducible refine iteNDN h ?_ | rw [decide_eq_false h]
        rcases List.mem_cons.mp hr with rfl | hr
        · exact absurd rfl h
        · exact ih hnd.2 hr
  rw [this]; rfl
noncomputable def zst (σ : Sto) (sv kv : PV) (n : Nat) (tl : List (Bool × Int × Str)) (os : List Ord) (a : At) (lb bs : List PV) (ns : List (Str × PV)) : Sto :=
  σ ++ [.inst 331 [("signatures", sv), ("default", .int n), ("told", .ref (σ.length + 1)), ("ordered", .ref (σ.length + 2))], .sdict (toldD tl), .sdict (ordF os), .list lb,
    .inst 207 [("names", .tup (a.nm.map .str)), ("numbers", .ref (σ.length + 5))], .sdict (numD a.nm),
    .inst 284 [("universe", .ref (σ.length + 4)), ("bounds", .ref (σ.length + 7)), ("numbers", .ref (σ.length + 8))], .list bs, .sdict ns,
    .inst 371 [("signatures", sv), ("kinds", kv), ("lots", .sd (lotsD a)), ("known", .ref (σ.length + 10))], .sdict []]
section
variable {sv kv : PV} {n : Nat} {tl : List (Bool × Int × Str)} {os : List Ord} {a : At} {lb bs lb' bs' : List PV} {ns ns' : List (Str × PV)}
theorem zz0 : (zst σ sv kv n tl os a lb bs ns)[σ.length]? = some (.inst 331 [("signatures", sv), ("default", .int n), ("told", .ref (σ.length + 1)), ("ordered", .ref (σ.length + 2))]) := by unfold zst; rw [List.getElem?_append_right (by lia)]; simp
theorem zz1 : (zst σ sv kv n tl os a lb bs ns)[σ.length + 1]? = some (.sdict (toldD tl)) := by unfold zst; rw [List.getElem?_append_right (by lia)]; simp
theorem zz3 : (zst σ sv kv n tl os a lb bs ns)[σ.length + 3]? = some (.list lb) := by unfold zst; rw [List.getElem?_append_right (by lia)]; simp
theorem zz4 : (zst σ sv kv n tl os a lb bs ns)[σ.length + 4]? = some (.inst 207 [("names", .tup (a.nm.map .str)), ("numbers", .ref (σ.length + 5))]) := by unfold zst; rw [List.getElem?_append_right (by lia)]; simp
theorem zz5 : (zst σ sv kv n tl os a lb bs ns)[σ.length + 5]? = some (.sdict (numD a.nm)) := by unfold zst; rw [List.getElem?_append_right (by lia)]; simp
theorem zz6 : (zst σ sv kv n tl os a lb bs ns)[σ.length + 6]? = some (.inst 284 [("universe", .ref (σ.length + 4)), ("bounds", .ref (σ.length + 7)), ("numbers", .ref (σ.length + 8))]) := by unfold zst; rw [List.getElem?_append_right (by lia)]; simp
theorem zz7 : (zst σ sv kv n tl os a lb bs ns)[σ.length + 7]? = some (.list bs) := by unfold zst; rw [List.getElem?_append_right (by lia)]; simp
theorem zz8 : (zst σ sv kv n tl os a lb bs ns)[σ.length + 8]? = some (.sdict ns) := by unfold zst; rw [List.getElem?_append_right (by lia)]; simp
theorem zz9 : (zst σ sv kv n tl os a lb bs ns)[σ.length + 9]? = some (.inst 371 [("signatures", sv), ("kinds", kv), ("lots", .sd (lotsD a)), ("known", .ref (σ.length + 10))]) := by unfold zst; rw [List.getElem?_append_right (by lia)]; simp
theorem zset3 : (zst σ sv kv n tl os a lb bs ns).set (σ.length + 3) (.list lb') = zst σ sv kv n tl os a lb' bs ns := by unfold zst; rw [List.set_append_right _ _ (by lia)]; simp
theorem zadd {nm : Str} {m : Nat} {lo up : List (List Int)} : added (zst σ sv kv n tl os a lb bs ns) (σ.length + 7) (σ.length + 8) bs ns nm m lo up = zst σ sv kv n tl os a lb (bs ++ [entry nm m lo up]) (ns ++ [(nm, .int bs.length)]) := by
  unfold added zst; rw [List.set_append_right _ _ (by lia), List.set_append_right _ _ (by lia)]; simp
theorem zbnd : BndV (zst σ sv kv n tl os a lb bs ns) (.ref (σ.length + 6)) (.ref (σ.length + 4)) (σ.length + 6) (σ.length + 7) (σ.length + 8) a.nm bs ns :=
  ⟨rfl, zz6, zz7, zz8, ⟨.ref (σ.length + 5), .r zz4⟩, by lia, by lia, by lia⟩
end
theorem lotF_row {rows : List Row} (hnd : (names rows).Nodup) {r : Row} (hr : r ∈ rows) {os : List Ord} {n : Nat} {tl : List (Bool × Int × Str)} : lotF rows os n tl r.n = ((lot r.m ((toldL tl).lookup r.n) ((ordF os).lookup r.n).isSome n).1, (lot r.m ((toldL tl).lookup r.n) ((ordF os).lookup r.n).isSome n).2.toNat) := by
  unfold lotF; rw [multOf_mem hnd hr]
theorem toldL_nonneg {tl : List (Bool × Int × Str)} {x : Str} {b : Bool} {m : Int} (h : ∀ y ∈ tl, 0 ≤ y.2.1) (e : (toldL tl).lookup x = some (b, m)) : 0 ≤ m := by
  induction tl with
  | nil => cases e
  | cons y l ih =>
    unfold toldL at e
    rw [List.map_cons, List.lookup_cons] at e
    split at e
    · cases e; exact h y (.head _)
    · exact ih (fun z hz => h z (.tail _ hz)) e
theorem lot_nonneg {tl : List (Bool × Int × Str)} {x m : Str} {o : Bool} {n : Nat} (h : ∀ y ∈ tl, 0 ≤ y.2.1) : 0 ≤ (lot m ((toldL tl).lookup x) o n).2 := by
  have key : 0 ≤ (((toldL tl).lookup x).getD (false, (n : Int))).2 := by
    cases e : (toldL tl).lookup x with
    | none => simp
    | some y => exact toldL_nonneg (b := y.1) h e
  unfold lot
  split
  · simp
  · show 0 ≤ (if m = "lone" then min _ 1 else _)
    split
    · lia
    · exact key
theorem atoms_len {f : Str → Bool × Nat} (hf : ∀ x, (f x).2 ≤ 3) (rows : List Row) : (atoms f rows).nm.length ≤ 3 * rows.length := by
  have key : ∀ (d : List Row) (x : At), (d.foldl (atStep f) x).nm.length ≤ x.nm.length + 3 * d.length := by
    intro d
    induction d with
    | nil => intro x; simp
    | cons r d ih =>
      intro x
      rw [List.foldl_cons]
      refine Nat.le_trans (ih _) ?_
      have := hf r.n
      unfold atStep
      split <;> simp <;> lia
  have := key rows ⟨[], []⟩
  simpa [atoms] using this
theorem foldl_lots_keep {f : Str → Bool × Nat} {y : Str} {v : Nat × Nat × Bool} : ∀ (d : List Row) (x : At), x.lots.lookup y = some v → (d.foldl (atStep f) x).lots.lookup y = some v ∧ x.nm.length ≤ (d.foldl (atStep f) x).nm.length
  | [], x, h => ⟨h, Nat.le_refl _⟩
  | r :: d, x, h => by
    rw [List.foldl_cons]
    have h2 : (atStep f x r).lots.lookup y = some v ∧ x.nm.length ≤ (atStep f x r).nm.length := by
      unfold atStep
      split
      · exact ⟨by show List.lookup y (x.lots ++ _) = _; rw [List.lookup_append, h]; rfl, by simp⟩
      · exact ⟨h, Nat.le_refl _⟩
    have := foldl_lots_keep (f := f) d (atStep f x r) h2.1
    exact ⟨this.1, Nat.le_trans h2.2 this.2⟩
theorem lots_keys {f : Str → Bool × Nat} : ∀ (d : List Row) (x : At) (y : Str × Nat × Nat × Bool), y ∈ (d.foldl (atStep f) x).lots → y ∈ x.lots ∨ ∃ r ∈ d, r.par = "" ∧ r.n = y.1
  | [], x, y, h => .inl h
  | r :: d, x, y, h => by
    rw [List.foldl_cons] at h
    rcases lots_keys d _ y h with h | ⟨r', hr, e⟩
    · unfold atStep at h
      split at h
      · rcases List.mem_append.mp h with h | h
        · exact .inl h
        · rw [List.mem_singleton.mp h]; exact .inr ⟨r, .head _, by assumption, rfl⟩
      · exact .inl h
    · exact .inr ⟨r', .tail _ hr, e⟩
theorem names_inj {rows : List Row} (hnd : (names rows).Nodup) {r r' : Row} (h : r ∈ rows) (h' : r' ∈ rows) (e : r.n = r'.n) : r = r' := by
  induction rows with
  | nil => cases h
  | cons a l ih =>
    unfold names at hnd
    rw [List.map_cons, List.nodup_cons] at hnd
    rcases List.mem_cons.mp h with h1 | h1 <;> rcases List.mem_cons.mp h' with h2 | h2
    · rw [h1, h2]
    · subst h1; exact absurd (e ▸ List.mem_map_of_mem h2) hnd.1
    · subst h2; exact absurd (e ▸ List.mem_map_of_mem h1) hnd.1
    · exact ih hnd.2 h1 h2
theorem lookup_no {α : Type} {l : List (Str × α)} {x : Str} (h : ∀ y ∈ l, y.1 ≠ x) : l.lookup x = none := by
  induction l with
  | nil => rfl
  | cons y l ih => rw [List.lookup_cons, beq_eq_false_iff_ne.mpr (Ne.symm (h y (.head _)))]; exact ih fun z hz => h z (.tail _ hz)
theorem lots_below {f : Str → Bool × Nat} {rows : List Row} (hnd : (names rows).Nodup) {r : Row} (h : r ∈ rows) (hp : r.par ≠ "") : (atoms f rows).lots.lookup r.n = none := by
  refine lookup_no fun y hy e => ?_
  rcases lots_keys rows ⟨[], []⟩ y hy with h2 | ⟨r', hr, hp', e'⟩
  · cases h2
  · rw [names_inj hnd hr h (e'.trans e)] at hp'; exact hp hp'
theorem lots_spec {f : Str → Bool × Nat} {rows : List Row} (hnd : (names rows).Nodup) {r : Row} (h : r ∈ rows) (hp : r.par = "") : ∃ b, (atoms f rows).lots.lookup r.n = some (b, (f r.n).2, (f r.n).1) ∧ b + (f r.n).2 ≤ (atoms f rows).nm.length := by
  obtain ⟨d1, d2, rfl⟩ := List.append_of_mem h
  unfold atoms
  rw [List.foldl_append, List.foldl_cons]
  have hno : (d1.foldl (atStep f) ⟨[], []⟩).lots.lookup r.n = none := by
    refine lookup_no fun y hy e => ?_
    rcases lots_keys d1 ⟨[], []⟩ y hy with h2 | ⟨r', hr, hp', e'⟩
    · cases h2
    · unfold names at hnd
      rw [List.map_append, List.nodup_append] at hnd
      exact hnd.2.2 _ (List.mem_map_of_mem hr) _ (by simp) (e'.trans e)
  refine ⟨(d1.foldl (atStep f) ⟨[], []⟩).nm.length, ?_⟩
  have := foldl_lots_keep (f := f) (y := r.n) (v := ((d1.foldl (atStep f) ⟨[], []⟩).nm.length, (f r.n).2, (f r.n).1)) d2 (atStep f (d1.foldl (atStep f) ⟨[], []⟩) r) (by
    rw [atStep, if_pos hp]; show List.lookup _ (_ ++ _) = _; rw [List.lookup_append, hno]; simp)
  refine ⟨this.1, Nat.le_trans ?_ this.2⟩
  generalize d1.foldl (atStep f) ⟨[], []⟩ = x
  unfold atStep; rw [if_pos hp]; simp
theorem look_lotsD {a : At} {x : Str} : (lotsD a).lookup x = (a.lots.lookup x).map fun y => rel (rngT y.1 y.2.1) := by
  unfold lotsD
  induction a.lots with
  | nil => rfl
  | cons y l ih =>
    rw [List.map_cons, List.lookup_cons, List.lookup_cons]
    split
    · rfl
    · exact ih
theorem look_sureD {a : At} {x : Str} : (sureD a).lookup x = (a.lots.lookup x).map fun y => if y.2.2 then rel (rngT y.1 y.2.1) else rel [] := by
  unfold sureD
  induction a.lots with
  | nil => rfl
  | cons y l ih =>
    rw [List.map_cons, List.lookup_cons, List.lookup_cons]
    split
    · rfl
    · exact ih
theorem sure_get {a : At} {x : Str} : ((sureD a).lookup x).getD (.tup []) = rel (loR a x) := by
  rw [look_sureD]; unfold loR
  cases a.lots.lookup x with
  | none => rfl
  | some y => obtain ⟨b, c, s⟩ := y; cases s <;> rfl
theorem lots_get {a : At} {x : Str} {b c : Nat} {s : Bool} (h : a.lots.lookup x = some (b, c, s)) : (lotsD a).lookup x = some (rel (upR a x)) := by
  rw [look_lotsD, h]; unfold upR lkA; rw [h]; rfl
theorem rng_get {b n i : Nat} {x : List Int} (h : (rngT b n)[i]? = some x) : x = [((b + i : Nat) : Int)] := by
  unfold rngT at h
  rw [List.getElem?_map] at h
  cases e : (List.range n)[i]? with
  | none => rw [e] at h; cases h
  | some j =>
    rw [e] at h
    have := (List.getElem?_eq_some_iff.mp e).2
    simp at this
    cases h; rw [this]
theorem rngOk {xs : List Str} {b n : Nat} (hn : n ≤ 1000) (h : b + n ≤ xs.length) : RelOk xs 1 (rngT b n) := by
  refine ⟨by unfold rngT; simp; lia, fun r hr => ?_, fun r hr a ha => ?_, fun i a b' h1 h2 => ?_⟩
  · obtain ⟨k, _, rfl⟩ := List.mem_map.mp hr; rfl
  · obtain ⟨k, hk, rfl⟩ := List.mem_map.mp hr
    have := List.mem_range.mp hk
    rw [List.mem_singleton.mp ha]; lia
  · rw [rng_get h1, rng_get h2]
    unfold ltL
    rw [if_neg (by rw [beq_iff_eq]; lia)]
    exact decide_eq_true (by lia)
theorem pair_get {b n i : Nat} {x : List Int} (h : (pairsT b n)[i]? = some x) : x = [((b + i : Nat) : Int), ((b + i + 1 : Nat) : Int)] := by
  unfold pairsT at h
  rw [List.getElem?_map] at h
  cases e : (List.range (n - 1))[i]? with
  | none => rw [e] at h; cases h
  | some j =>
    rw [e] at h
    have := (List.getElem?_eq_some_iff.mp e).2
    simp at this
    cases h; rw [this]
theorem pairsOk {xs : List Str} {b n : Nat} (hn : n ≤ 1000) (h : b + n ≤ xs.length) : RelOk xs 2 (pairsT b n) := by
  refine ⟨by unfold pairsT; simp; lia, fun r hr => ?_, fun r hr a ha => ?_, fun i a b' h1 h2 => ?_⟩
  · obtain ⟨k, _, rfl⟩ := List.mem_map.mp hr; rfl
  · obtain ⟨k, hk, rfl⟩ := List.mem_map.mp hr
    have := List.mem_range.mp hk
    rcases List.mem_cons.mp ha with rfl | ha
    · lia
    · rw [List.mem_singleton.mp ha]; lia
  · rw [pair_get h1, pair_get h2]
    unfold ltL
    rw [if_neg (by rw [beq_iff_eq]; lia)]
    exact decide_eq_true (by lia)
theorem nilOk {xs : List Str} {m : Nat} : RelOk xs m [] := ⟨by simp, by simp, by simp, fun i a b h => by simp at h⟩
structure TopOk (a : At) (x : Str) (f : Str → Bool × Nat) : Prop where
  ex : ∃ b, a.lots.lookup x = some (b, (f x).2, (f x).1) ∧ b + (f x).2 ≤ a.nm.length
theorem upR_ok {a : At} {x : Str} {f : Str → Bool × Nat} (hf : ∀ x, (f x).2 ≤ 3) (T : TopOk a x f) : RelOk a.nm 1 (upR a x) := by
  obtain ⟨b, e, h⟩ := T.ex
  have := hf x
  unfold upR lkA; rw [e]
  exact rngOk (by show (f x).2 ≤ _; lia) h
theorem loR_ok {a : At} {x : Str} {f : Str → Bool × Nat} (hf : ∀ x, (f x).2 ≤ 3) (T : TopOk a x f) : RelOk a.nm 1 (loR a x) ∧ ∀ y ∈ loR a x, y ∈ upR a x := by
  obtain ⟨b, e, h⟩ := T.ex
  unfold loR upR lkA; rw [e]
  cases hh : (f x).1
  · exact ⟨nilOk, by simp⟩
  · exact ⟨rngOk (by have := hf x; show (f x).2 ≤ _; lia) h, fun y hy => hy⟩
theorem ScOk.tops {rows : List Row} {os : List Ord} {n : Nat} {tl : List (Bool × Int × Str)} {tp : Str → Str} (C : ScOk rows os n tl tp) {r : Row} (hr : r ∈ rows) : TopOk (atoms (lotF rows os n tl) rows) (tp r.n) (lotF rows os n tl) := by
  obtain ⟨_, _, _, r', hr', e, hp⟩ := C.top r hr
  exact ⟨e ▸ lots_spec C.nodup hr' hp⟩
theorem ScOk.lower {rows : List Row} {os : List Ord} {n : Nat} {tl : List (Bool × Int × Str)} {tp : Str → Str} (C : ScOk rows os n tl tp) {r : Row} (hr : r ∈ rows) : RelOk (atoms (lotF rows os n tl) rows).nm 1 (loR (atoms (lotF rows os n tl) rows) r.n) ∧ ∀ y ∈ loR (atoms (lotF rows os n tl) rows) r.n, y ∈ upR (atoms (lotF rows os n tl) rows) (tp r.n) := by
  by_cases hp : r.par = ""
  · have e : tp r.n = r.n := (C.top r hr).2.2.1.mpr hp
    have T := C.tops hr
    rw [e] at T ⊢
    exact loR_ok C.few T
  · unfold loR; rw [lots_below C.nodup hr hp]; exact ⟨nilOk, by simp⟩
theorem forms_snoc (tp : Str → Str) (d : List (Str × Bool × Int)) (rows : List Row) (a : Row) : forms tp d (rows ++ [a]) = forms tp d rows ++ (match (if tp a.n = a.n then Option.none else d.lookup a.n) with | Option.none => [] | some (b, n) => [(rows.length, b, n, a.n)]) := by
  unfold forms
  rw [List.zipIdx_append, List.filterMap_append]
  congr 1
  simp only [List.zipIdx_cons, List.zipIdx_nil, List.filterMap_cons, List.filterMap_nil, Nat.zero_add]
  cases (if tp a.n = a.n then Option.none else d.lookup a.n) with
  | none => rfl
  | some y => rfl
theorem lowMap {α : Type} {f : α → PV} {n : Nat} (h : ∀ a, Low n (f a)) : ∀ l : List α, LowL n (l.map f)
  | [] => .nil
  | a :: l => .cons (h a) (lowMap h l)
theorem LowL.app {n : Nat} : ∀ {a b : List PV}, LowL n a → LowL n b → LowL n (a ++ b)
  | [], _, _, h => h
  | _ :: _, _, h1, h => .cons h1.consE.1 (LowL.app h1.consE.2 h)
theorem lowLbl {n : Nat} (x : Nat × Bool × Int × Str) : Low n (lblV x) := .tup (.cons .str (.cons (.tup (.cons .str (.cons (.tup (.cons .str (.cons (.tup (.cons .str (.cons .int .nil))) .nil))) (.cons (.tup (.cons .str (.cons .int .nil))) .nil)))) .nil))
theorem lowRows {n : Nat} (a : At) (tp : Str → Str) (l : List Row) : LowL n (l.map (rowB a tp)) := lowMap (fun _ => lowEntry ..) _
theorem lowOrds {n : Nat} (a : At) (l : List Ord) : LowL n (l.map (ordB a)) := lowMap (fun _ => lowEntry ..) _
theorem c_add1 {p : Pk} {σ : Sto} {Q : Post} (ok : p.G.Ok) {k : Nat} {self u : PV} {i j m' : Nat} {xs : List Str} {bs : List PV} {ns : List (Str × PV)} {nm : Str} {lo up : List (List Int)} (B : BndV σ self u i j m' xs bs ns) (hz : xs.length < 100000) (hnm : ns.lookup nm = Option.none)
    (Rl : RelOk xs 1 lo) (Ru : RelOk xs 1 up) (hsub : ∀ x ∈ lo, x ∈ up) (hb : bs.length < 1000) (hn : ns.length < 1000) (lb : LowL σ.length bs) (ln : LowS σ.length ns) (q : Q (.int bs.length) (added σ j m' bs ns nm 1 lo up)) {env : Env} :
    CWP ⟨p.G, k + 3, env⟩ (.cst (.ref 232)) [self, .str nm, .int 1, rel lo, rel up] σ Q := c_add ok (m := 1) B hz hnm (by lia) Rl Ru hsub hb hn lb ln q
theorem c_exactly2 {p : Pk} {σ : Sto} {Q : Post} (ok : p.G.Ok) {k : Nat} {self u : PV} {i j m' : Nat} {xs : List Str} {bs : List PV} {ns : List (Str × PV)} {nm : Str} {up : List (List Int)} (B : BndV σ self u i j m' xs bs ns) (hz : xs.length < 100000) (hnm : ns.lookup nm = Option.none)
    (Ru : RelOk xs 2 up) (hb : bs.length < 1000) (hn : ns.length < 1000) (lb : LowL σ.length bs) (ln : LowS σ.length ns) (q : Q (.int bs.length) (added σ j m' bs ns nm 2 up up)) {env : Env} :
    CWP ⟨p.G, k + 4, env⟩ (.cst (.ref 246)) [self, .str nm, .int 2, rel up] σ Q := c_exactly ok (m := 2) B hz hnm (by lia) Ru hb hn lb ln q
end
section
variable {p : Pk} {σ : Sto} {ρ : Rho} {Q : Post}
theorem c_boundsof (ok : p.G.Ok) {k : Nat} {self sv kv so st op fl : PV} {fs sfs : List (Str × PV)} {rows : List Row} {os : List Ord} {n : Nat} {tl : List (Bool × Int × Str)} {tp : Str → Str} (V : InstV σ self 402 fs) (hs : fs.lookup ("signatures" : Str) = some sv) (hk : fs.lookup ("kinds" : Str) = some kv) (hm : fs.lookup ("atoms_of" : Str) = Option.none)
    (S : SigV σ sv rows os sfs so st op fl) (C : ScOk rows os n tl tp)
    (q : Q (outB (atoms (lotF rows os n tl) rows) rows os tp tl) σ) {env : Env} : CWP ⟨p.G, k + 7, env⟩ (.cst (.ref 399)) [self, .tup [.int n, .tup (tl.map tr)]] σ Q := by
  refine cwp_def ok (ok_cbounds p) (Nat.le_refl _) rfl fun L => ?_
  walk_at "open"
  with_reducible refine swp_cons (s1_swap (names := ["numbers", "labelled"]) ?_ ?h1 ?h2 ?h3)
  case h1 => kernel_rfl
  case h2 => kernel_rfl
  case h3 => kernel_rfl
  repeat walk_at "w"
  refine ⟨k_331 p, ?_⟩
  repeat walk_at "w"
  refine KAttr.i (C := 402) V (at_402_signatures p) hs ?_
  repeat walk_at "w"
  with_reducible refine c_numbers (st := st) ok S.has S.inst S.ho S.vo ?n1 ?n2 S.hop S.vop ?n3 ?n4 ?n5 C.tnd ?n6 ?_
  case n1 => unfold names; have := C.len; simp; lia
  case n2 =>
    intro y hy
    obtain ⟨r, hr, rfl⟩ := List.mem_map.mp hy
    have := C.nm r hr
    exact ⟨this.1, this.2.1, this.2.2.1⟩
  case n3 => have := C.olen; lia
  case n4 =>
    intro o ho
    obtain ⟨⟨r, hr, e, hp⟩, _⟩ := C.ord o ho
    have T := C.top r hr
    rw [← e]
    have h2 := T.1
    rwa [T.2.2.1.mpr hp] at h2
  case n5 =>
    intro x hx
    obtain ⟨hm, h0⟩ := C.told x hx
    obtain ⟨r, hr, e⟩ := List.mem_map.mp hm
    exact ⟨hm, h0, tp r.n, e ▸ (C.top r hr).1, (C.top r hr).2.1⟩
  case n6 => have := C.tlen; lia
  repeat walk_at "w"
  with_reducible refine ewp_list_m ?_
  repeat walk_at "w"
  refine ⟨Nat.le_of_ble_eq_true rfl, ?_⟩
  repeat walk_at "w"
  refine ⟨Nat.le_of_ble_eq_true rfl, _, rfl, rfl, ?_⟩
  have a0 : ∀ (a b c d : PO), (σ ++ [a, b, c] ++ [d]) = σ ++ [a, b, c, d] := fun a b c d => by simp
  have a1 : ∀ (a b c : PO), (σ ++ [a, b, c]).length = σ.length + 3 := fun a b c => by simp
  rw [a0, a1]
  have b0 : ∀ (a b c d : PO), (σ ++ [a, b, c, d])[σ.length]? = some a := fun a b c d => by simp
  have b1 : ∀ (a b c d : PO), (σ ++ [a, b, c, d])[σ.length + 1]? = some b := fun a b c d => by rw [List.getElem?_append_right (by lia)]; simp
  have b2 : ∀ (a b c d : PO), (σ ++ [a, b, c, d])[σ.length + 2]? = some c := fun a b c d => by rw [List.getElem?_append_right (by lia)]; simp
  walk_at "asg"
  repeat walk_at "w"
  with_reducible refine KM.i (m1_of ok (V.up up_app) (me_402_atoms_of p) hm) (k_394 p) ?_
  repeat walk_at "w"
  with_reducible refine c_atoms ok (f := lotF rows os n tl) (V.up up_app) hs S.has.app S.app.inst S.ho S.app.vo (.r (b0 _ _ _ _)) rfl ?lo C.len ?t1 (fun r hr => C.few _) C.nodup (fun r hr => (C.nm r hr).2.2.2) ?_
  case t1 => exact fun r hr => ⟨_, (C.top r hr).1, (C.top r hr).2.2.1⟩
  case lo =>
    intro r hr hp τ k' env' Q' q'
    have ha := ents_some C.nodup hr
    refine c_lot (n := n) (d := toldL tl) ok (.r (up_app _ _ (b0 _ _ _ _))) rfl rfl rfl (.r (up_app _ _ (by rw [← toldD_eq]; exact b1 _ _ _ _))) rfl (.r (up_app _ _ (b2 _ _ _ _))) rfl S.app.app.has S.app.app.inst S.hst S.app.app.vst (fun r hr => ents_some C.nodup hr) (by have := C.len; lia) ha (fun b m e o => C.one r hr b m e hp o) (fun m e o => C.lone r hr m e hp o) ?_
    rw [lotF_row C.nodup hr] at q'
    have := lot_nonneg (tl := tl) (x := r.n) (m := r.m) (o := ((ordF os).lookup r.n).isSome) (n := n) (fun y hy => (C.told y hy).2)
    simp only [Int.toNat_of_nonneg this] at q'
    exact q'
  with_reducible refine awp_tuple (fun _ h => h) ?_ rfl ?he
  case he => exact rfl
  with_reducible refine als_cons ?_
  walk_at "loc"
  with_reducible refine als_cons ?_
  walk_at "loc"
  with_reducible refine als_cons ?_
  walk_at "loc"
  with_reducible refine als_nil ?_
  with_reducible refine swp_cons (s1_swap (names := ["bounds", "uppers"]) ?_ ?h1 ?h2 ?h3)
  case h1 => kernel_rfl
  case h2 => kernel_rfl
  case h3 => kernel_rfl
  repeat walk_at "w"
  refine ⟨k_284 p, ?_⟩
  repeat walk_at "w"
  refine ⟨k_207 p, ?_⟩
  repeat walk_at "w"
  have hal : (atoms (lotF rows os n tl) rows).nm.length ≤ 60 := by have := atoms_len C.few rows; have := C.len; lia
  with_reducible refine c_universe ok .f C.anm (by lia) ?_
  repeat walk_at "w"
  with_reducible refine c_bounds ok ?_
  repeat walk_at "w"
  refine ⟨k_371 p, ?_⟩
  repeat walk_at "w"
  refine KAttr.i (C := 402) ((((V.up up_app).up up_app).up up_app)) (at_402_signatures p) hs ?_
  repeat walk_at "w"
  refine KAttr.i (C := 402) ((((V.up up_app).up up_app).up up_app)) (at_402_kinds p) hk ?_
  repeat walk_at "w"
  with_reducible refine c_uppers ok ?_
  repeat walk_at "w"
  refine ⟨Nat.le_of_ble_eq_true rfl, _, rfl, rfl, ?_⟩
  have hz0 : zst σ sv kv n tl os (atoms (lotF rows os n tl) rows) [] [] [] = zst σ sv kv n tl os (atoms (lotF rows os n tl) rows) [] [] [] := rfl
  conv at hz0 => lhs; unfold zst
  simp only [List.append_assoc, List.length_append, List.length_cons, List.length_nil, Nat.add_assoc, List.cons_append, List.nil_append, Nat.reduceAdd]
  rw [hz0]
  have VZ : ∀ lb bs ns, InstV (zst σ sv kv n tl os (atoms (lotF rows os n tl) rows) lb bs ns) self 402 fs := fun _ _ _ => V.up up_app
  have SZ : ∀ lb bs ns, SigV (zst σ sv kv n tl os (atoms (lotF rows os n tl) rows) lb bs ns) sv rows os sfs so st op fl := fun _ _ _ => S.app
  have hC := C.len
  with_reducible refine swp_cons (s1_for ?_ ?hset)
  case hset => intro _; rfl
  repeat walk_at "w"
  refine KAttr.i (C := 402) (VZ _ _ _) (at_402_signatures p) hs ?_
  with_reducible refine KM.i (m1_sigE ok (SZ _ _ _).has (me_571_names p) (by decide)) (k_472 p) ?_
  repeat walk_at "w"
  with_reducible refine c_names (l := []) ok (SZ _ _ _).inst S.ho (SZ _ _ _).vo (by unfold names; simp; lia) (lowStrs _) ?_
  refine ⟨(names rows).map .str, ?_⟩
  with_reducible refine for_ind (fun r : Row => PV.str r.n) rows (fun d ρ σ' => σ' = zst σ sv kv n tl os (atoms (lotF rows os n tl) rows) ((forms tp (toldL tl) d).map lblV) (d.map (rowB (atoms (lotF rows os n tl) rows) tp)) (numD (names d)) ∧ ρ.lookup ("self" : Str) = some self ∧ ρ.lookup ("numbers" : Str) = some (.ref σ.length) ∧ ρ.lookup ("labelled" : Str) = some (.ref (σ.length + 3)) ∧ ρ.lookup ("lots" : Str) = some (.sd (lotsD (atoms (lotF rows os n tl) rows))) ∧ ρ.lookup ("sure" : Str) = some (.sd (sureD (atoms (lotF rows os n tl) rows))) ∧ ρ.lookup ("bounds" : Str) = some (.ref (σ.length + 6)) ∧ ρ.lookup ("uppers" : Str) = some (.ref (σ.length + 9))) ?hm ?hS ?step ?h0 ?_
  case hm => unfold names; simp
  case hS => refine fun d ρ σ' => an2 fun eq0 _ => ?_; subst eq0; exact .lst .f
  case h0 => exact ⟨rfl, rfl, rfl, rfl, rfl, rfl, rfl, rfl⟩
  case step =>
    refine fun d a r e ρ σ' => an8 fun eq0 h1 h2 h3 h4 h5 h6 h7 => ?_
    subst eq0
    have har : a ∈ rows := by rw [← e]; simp
    walk_at "loc"
    have hup : ∀ {x : Str} {v : PV}, ρ.lookup x = some v → x ≠ "sig" → (rset "sig" (.str a.n) ρ).lookup x = some v := fun h n1 => look_ne h n1
    have g1 := hup h1 (by decide)
    have g2 := hup h2 (by decide)
    have g3 := hup h3 (by decide)
    have g4 := hup h4 (by decide)
    have g5 := hup h5 (by decide)
    have g6 := hup h6 (by decide)
    have g7 := hup h7 (by decide)
    walk_at "asg"
    repeat walk_at "w"
    with_reducible refine KM.i (m1_of ok (.r zz6) (me_284_add p) rfl) (k_232 p) ?_
    repeat walk_at "w"
    with_reducible refine KM.i (m1_get ok .f) rfl ?_
    repeat walk_at "w"
    refine ⟨Nat.le_of_ble_eq_true rfl, ?_⟩
    repeat walk_at "w"
    with_reducible refine cwp_get ok .f ?_
    rw [sure_get]
    repeat walk_at "w"
    with_reducible refine KM.i (m1_of ok (.r zz9) (me_371_of_sig p) rfl) (k_356 p) ?_
    repeat walk_at "w"
    obtain ⟨hT, htne, htop, _⟩ := C.top a har
    obtain ⟨b, e1, hb⟩ := (C.tops har).ex
    with_reducible refine c_ofsig ok (.r zz9) rfl rfl (SZ _ _ _).has hT htne .f (lots_get e1) (.tup (lowRel _)) ?_
    repeat walk_at "w"
    have hd := congrArg List.length e
    rw [List.length_append, List.length_cons] at hd
    have hnew : a.n ∉ names d := by
      have hnd := C.nodup
      rw [← e] at hnd
      unfold names at hnd ⊢
      rw [List.map_append, List.nodup_append] at hnd
      intro hm
      exact hnd.2.2 _ hm _ (by simp) rfl
    with_reducible refine c_add1 ok zbnd (by lia) (numD_none hnew) (C.lower har).1 (upR_ok C.few (C.tops har)) (C.lower har).2 ?hb1 ?hb2 (lowRows _ _ _) (lowNum _) ?_
    case hb1 => rw [List.length_map]; lia
    case hb2 => unfold numD names; rw [List.length_map, List.length_zipIdx, List.length_map]; lia
    rw [zadd, List.length_map]
    walk_at "loc"
    have hup2 : ∀ {x : Str} {v : PV}, (rset "sig" (.str a.n) ρ).lookup x = some v → x ≠ "r" → (rset "r" (.int d.length) (rset "sig" (.str a.n) ρ)).lookup x = some v := fun h n1 => look_ne h n1
    have k1 := hup2 g1 (by decide)
    have k2 := hup2 g2 (by decide)
    have k3 := hup2 g3 (by decide)
    have k4 := hup2 g4 (by decide)
    have k5 := hup2 g5 (by decide)
    have k6 := hup2 g6 (by decide)
    have k7 := hup2 g7 (by decide)
    have k8 := hup2 (rset_self ("sig" : Str) (.str a.n) ρ) (by decide)
    walk_at "asg"
    repeat walk_at "w"
    with_reducible refine KM.i (m1_of ok (.r zz0) (me_331_formula_of p) rfl) (k_328 p) ?_
    repeat walk_at "w"
    with_reducible refine c_formula (d := toldL tl) ok (.r zz0) rfl rfl (SZ _ _ _).has hT (.r (by rw [← toldD_eq]; exact zz1)) ?_
    have hfs := forms_snoc tp (toldL tl) d a
    have hbs : d.map (rowB (atoms (lotF rows os n tl) rows) tp) ++ [entry a.n 1 (loR (atoms (lotF rows os n tl) rows) a.n) (upR (atoms (lotF rows os n tl) rows) (tp a.n))] = (d ++ [a]).map (rowB (atoms (lotF rows os n tl) rows) tp) := by simp [rowB]
    have hns : numD (names d) ++ [(a.n, PV.int d.length)] = numD (names (d ++ [a])) := by
      unfold names
      rw [List.map_append, List.map_cons, List.map_nil, numD_snoc, List.length_map]
    rw [hbs, hns]
    have hfl : (forms tp (toldL tl) d).length ≤ d.length := by
      unfold forms
      exact Nat.le_trans (List.length_filterMap_le _ _) (by simp)
    cases hcase : (if tp a.n = a.n then Option.none else (toldL tl).lookup a.n) with
    | none =>
      rw [hcase, List.append_nil] at hfs
      dsimp only
      walk_at "loc"
      walk_at "if"
      repeat walk_at "w"
      with_reducible refine o2_isnot_none ?_ (fun _ h => by cases h)
      rw [show notNone .none = false from rfl]
      repeat walk_at "w"
      with_reducible refine swp_nil ?_
      with_reducible refine swp_nil ?_
      rw [hfs]
      exact ⟨rfl, look_ne k1 (by decide), look_ne k2 (by decide), look_ne k3 (by decide), look_ne k4 (by decide), look_ne k5 (by decide), look_ne k6 (by decide), look_ne k7 (by decide)⟩
    | some y =>
      obtain ⟨bb, nn⟩ := y
      rw [hcase] at hfs
      dsimp only at hfs ⊢
      walk_at "loc"
      walk_at "if"
      repeat walk_at "w"
      with_reducible refine o2_isnot_none ?_ (fun _ h => by cases h)
      rw [show ∀ l, notNone (.tup l) = true from fun _ => rfl]
      have m3 : (rset "formula" (fmV bb d.length nn) (rset "r" (.int d.length) (rset "sig" (.str a.n) ρ))).lookup ("labelled" : Str) = some (.ref (σ.length + 3)) := look_ne k3 (by decide)
      have m8 : (rset "formula" (fmV bb d.length nn) (rset "r" (.int d.length) (rset "sig" (.str a.n) ρ))).lookup ("sig" : Str) = some (.str a.n) := look_ne k8 (by decide)
      have hnl := (C.nm a har).2.2.2
      have hsc : (Str.ofString "scope ").length = 6 := rfl
      repeat walk_at "w"
      walk_at "exp"
      repeat walk_at "w"
      with_reducible refine KM.i (m1_append zz3) rfl ?_
      repeat walk_at "w"
      with_reducible refine ewp_fstr (jwp_cons ?_)
      repeat walk_at "w"
      refine ⟨_, rfl, szl (by rw [emp_app]; lia), ?_⟩
      rw [emp_app]
      with_reducible refine jwp_cons (ewp_fv ?_)
      repeat walk_at "w"
      refine .inl ⟨_, rfl, szl (by lia), _, rfl, szl (by rw [len_app]; lia), ?_⟩
      with_reducible refine jwp_nil (szl (by rw [len_app]; lia)) ?_
      repeat walk_at "w"
      refine ⟨Nat.le_of_ble_eq_true rfl, ?_⟩
      repeat walk_at "w"
      with_reducible refine cwp_append zz3 (szl (by rw [List.length_map]; lia)) ?_
      rw [zset3]
      with_reducible refine swp_nil ?_
      with_reducible refine swp_nil ?_
      refine ⟨?_, look_ne k1 (by decide), look_ne k2 (by decide), look_ne k3 (by decide), look_ne k4 (by decide), look_ne k5 (by decide), look_ne k6 (by decide), look_ne k7 (by decide)⟩
      rw [hfs]
      congr 1
      rw [List.map_append]
      rfl
  refine fun ρ σ' => an8 fun eq0 h1 h2 h3 h4 h5 h6 h7 => ?_
  subst eq0
  with_reducible refine swp_cons (s1_for ?_ ?hset)
  case hset => intro _; rfl
  repeat walk_at "w"
  refine KAttr.i (C := 402) (VZ _ _ _) (at_402_signatures p) hs ?_
  with_reducible refine KM.i (m1_sigE ok (SZ _ _ _).has (me_571_fields p) (by decide)) (k_554 p) ?_
  repeat walk_at "w"
  with_reducible refine c_fields (l := []) ok (SZ _ _ _).inst S.hfl (SZ _ _ _).vfl (by decide) .nil ?_
  refine ⟨[], ?_⟩
  with_reducible refine for_nil (.lst .f) ?_
  with_reducible refine swp_cons (s1_for ?_ ?hset)
  case hset => intro _; rfl
  repeat walk_at "w"
  refine KAttr.i (C := 402) (VZ _ _ _) (at_402_signatures p) hs ?_
  with_reducible refine KM.i (m1_sigE ok (SZ _ _ _).has (me_571_orders p) (by decide)) (k_568 p) ?_
  repeat walk_at "w"
  with_reducible refine c_orders (l := []) ok (SZ _ _ _).inst S.hop (SZ _ _ _).vop (by have := C.olen; simp; lia) ?hlo ?_
  case hlo => exact lowMap (f := opened) (fun _ => .tup (.cons .str (.cons .str .nil))) _
  refine ⟨os.map opened, ?_⟩
  have hO := C.olen
  with_reducible refine for_ind opened os (fun d ρ σ' => σ' = zst σ sv kv n tl os (atoms (lotF rows os n tl) rows) ((forms tp (toldL tl) rows).map lblV) (rows.map (rowB (atoms (lotF rows os n tl) rows) tp) ++ d.map (ordB (atoms (lotF rows os n tl) rows))) (numD (names rows ++ d.map ordN)) ∧ ρ.lookup ("labelled" : Str) = some (.ref (σ.length + 3)) ∧ ρ.lookup ("lots" : Str) = some (.sd (lotsD (atoms (lotF rows os n tl) rows))) ∧ ρ.lookup ("bounds" : Str) = some (.ref (σ.length + 6))) ?hm ?hS ?step ?h0 ?_
  case hm => rfl
  case hS => refine fun d ρ σ' => an2 fun eq0 _ => ?_; subst eq0; exact .lst .f
  case h0 => exact ⟨by simp, h3, h4, h6⟩
  case step =>
    refine fun d a r e ρ σ' => an4 fun eq0 h3 h4 h6 => ?_
    subst eq0
    have hao : a ∈ os := by rw [← e]; simp
    obtain ⟨⟨ra, hra, hran, hrap⟩, hral⟩ := C.ord a hao
    have hnext : (Str.ofString "/next").length = 5 := rfl
    obtain ⟨b, e1, hb⟩ := lots_spec (f := lotF rows os n tl) C.nodup hra hrap
    rw [hran] at e1 hb
    have hfew := C.few a.sig
    have hup : upR (atoms (lotF rows os n tl) rows) a.sig = rngT b (lotF rows os n tl a.sig).2 := by unfold upR lkA; rw [e1]
    have hlk : lkA (atoms (lotF rows os n tl) rows) a.sig = (b, (lotF rows os n tl a.sig).2) := by unfold lkA; rw [e1]
    have hget := lots_get e1
    rw [hup] at hget
    with_reducible refine awp_tuple (fun _ h => h) ?_ rfl ?he
    case he => exact rfl
    with_reducible refine als_cons ?_
    walk_at "loc"
    with_reducible refine als_cons ?_
    walk_at "loc"
    with_reducible refine als_nil ?_
    have g3 : (rset "sig" (.str a.sig) (rset "alias" (.str a.als) ρ)).lookup ("labelled" : Str) = some (.ref (σ.length + 3)) := look_ne (look_ne h3 (by decide)) (by decide)
    have g4 : (rset "sig" (.str a.sig) (rset "alias" (.str a.als) ρ)).lookup ("lots" : Str) = some (.sd (lotsD (atoms (lotF rows os n tl) rows))) := look_ne (look_ne h4 (by decide)) (by decide)
    have g6 : (rset "sig" (.str a.sig) (rset "alias" (.str a.als) ρ)).lookup ("bounds" : Str) = some (.ref (σ.length + 6)) := look_ne (look_ne h6 (by decide)) (by decide)
    have g7 : (rset "sig" (.str a.sig) (rset "alias" (.str a.als) ρ)).lookup ("alias" : Str) = some (.str a.als) := look_ne (rset_self _ _ _) (by decide)
    walk_at "asg"
    repeat walk_at "w"
    with_reducible refine sub_dict ok .f hget ?_ ?i
    case i => intro _ _; rfl
    walk_at "cell"
    have k3 := look_ne (v := rel (rngT b (lotF rows os n tl a.sig).2)) (x := "lot") g3 (by decide)
    have k4 := look_ne (v := rel (rngT b (lotF rows os n tl a.sig).2)) (x := "lot") g4 (by decide)
    have k6 := look_ne (v := rel (rngT b (lotF rows os n tl a.sig).2)) (x := "lot") g6 (by decide)
    have k7 := look_ne (v := rel (rngT b (lotF rows os n tl a.sig).2)) (x := "lot") g7 (by decide)
    walk_at "exp"
    repeat walk_at "w"
    with_reducible refine KM.i (m1_of ok (.r zz6) (me_284_exactly p) rfl) (k_246 p) ?_
    repeat walk_at "w"
    with_reducible refine ewp_fstr (jwp_cons (ewp_fv ?_))
    repeat walk_at "w"
    refine .inl ⟨_, rfl, szl (by lia), _, rfl, szl (by rw [emp_app]; lia), ?_⟩
    rw [emp_app]
    with_reducible refine jwp_cons ?_
    repeat walk_at "w"
    refine ⟨_, rfl, szl (by rw [len_app]; lia), ?_⟩
    with_reducible refine jwp_nil (szl (by rw [len_app]; lia)) ?_
    repeat walk_at "w"
    walk_at "ecmp"
    repeat walk_at "w"
    with_reducible refine cwp_len_tup (by unfold rngT; simp; lia) ?_
    repeat walk_at "w"
    have hlenR : ((rngT b (lotF rows os n tl a.sig).2).map tupI).length = (lotF rows os n tl a.sig).2 := by unfold rngT; simp
    rw [hlenR]
    generalize hcc : (lotF rows os n tl a.sig).2 = cc at *
    with_reducible refine cwp_range1 ?_
    have hr0 : rngL 0 ((cc : Int) - 1) = (List.range (cc - 1)).map fun (i : Nat) => PV.int (i : Int) := by unfold rngL; simp
    refine ⟨rngL 0 ((cc : Int) - 1), szl (by rw [hr0]; simp; lia), fun C2 => ?_⟩
    with_reducible refine comp_filterE (fun (i : Nat) => PV.int (i : Int)) (fun i => some (tupI [((b + i : Nat) : Int), ((b + i + 1 : Nat) : Int)])) (fun ρ => ρ.lookup ("lot" : Str) = some (rel (rngT b cc))) (List.range (cc - 1)) hr0 (.rng ?hrg) (fun j hj ρ' hj1 => ?_) ?hi ?_
    case hrg => unfold RngOk; lia
    case hi => exact rfree_keep rfl (rset_self _ _ _)
    · walk_at "tgt"
      have hj2 : (rset "k" (.int (j : Int)) ρ').lookup ("lot" : Str) = some (rel (rngT b cc)) := look_ne hj1 (by decide)
      have hjn := List.mem_range.mp hj
      have hget2 : ∀ i, i < cc → ((rngT b cc).map tupI)[i]? = some (tupI [((b + i : Nat) : Int)]) := by
        intro i hi
        unfold rngT
        rw [List.getElem?_map, List.getElem?_map, List.getElem?_range hi]
        rfl
      with_reducible refine tests_nil ?_
      repeat walk_at "w"
      with_reducible refine sub_tupN j ?e1 (by lia) (hget2 j (by lia)) ?_ ?i
      case e1 => rfl
      case i => intro _ _; rfl
      repeat walk_at "w"
      with_reducible refine sub_tupN (j + 1) ?e1 (by lia) (hget2 (j + 1) (by lia)) ?_ ?i
      case e1 => lia
      case i => intro _ _; rfl
      show O2 _ _ (.tup [.int ((b + j : Nat) : Int)]) (.tup [.int ((b + (j + 1) : Nat) : Int)]) _ _
      with_reducible refine o2_add_tup0 ?hsz ?_
      case hsz => exact szl (by simp)
      refine ⟨?_, rfl, hj2⟩
      rfl
    have hrel : (List.range (cc - 1)).filterMap (fun i => some (tupI [((b + i : Nat) : Int), ((b + i + 1 : Nat) : Int)])) = (pairsT b cc).map tupI := by
      unfold pairsT
      rw [List.map_map, ← List.filterMap_eq_map]
      rfl
    rw [hrel]
    repeat walk_at "w"
    with_reducible refine cwp_tuple_list .f (szl (by unfold pairsT; simp; lia)) ?_
    repeat walk_at "w"
    have hd := congrArg List.length e
    rw [List.length_append, List.length_cons] at hd
    have hnew : ordN a ∉ names rows ++ d.map ordN := by
      have hnd := C.onm
      rw [← e, List.map_append, List.map_cons, ← List.append_assoc, List.nodup_append] at hnd
      intro hm
      exact hnd.2.2 _ hm _ (.head _) rfl
    have hpo : RelOk (atoms (lotF rows os n tl) rows).nm 2 (pairsT b cc) := pairsOk (by lia) hb
    show CWP _ _ [_, .str (ordN a), _, rel (pairsT b cc)] _ _
    with_reducible refine c_exactly2 ok zbnd (by lia) (numD_none hnew) hpo ?hb1 ?hb2 ((lowRows _ _ _).app (lowOrds _ _)) (lowNum _) ?_
    case hb1 => rw [List.length_append, List.length_map, List.length_map]; lia
    case hb2 => unfold numD names; rw [List.length_map, List.length_zipIdx, List.length_append, List.length_map, List.length_map]; lia
    rw [zadd]
    with_reducible refine swp_nil ?_
    refine ⟨?_, k3, k4, k6⟩
    have hz1 : rows.map (rowB (atoms (lotF rows os n tl) rows) tp) ++ d.map (ordB (atoms (lotF rows os n tl) rows)) ++ [entry (ordN a) 2 (pairsT b cc) (pairsT b cc)] = rows.map (rowB (atoms (lotF rows os n tl) rows) tp) ++ (d ++ [a]).map (ordB (atoms (lotF rows os n tl) rows)) := by
      rw [List.map_append, List.append_assoc]
      congr 1
      congr 1
      show [entry _ 2 _ _] = [ordB _ a]
      unfold ordB
      rw [hlk]
    rw [hz1]
    congr 1
    rw [List.map_append, ← List.append_assoc, List.map_cons, List.map_nil, numD_snoc, List.length_append, List.length_append, List.length_map, List.length_map]
    unfold names
    rw [List.length_map, List.length_map]
  refine fun ρ σ' => an4 fun eq0 h3 h4 h6 => ?_
  subst eq0
  walk_at "ret"
  repeat walk_at "w"
  refine KAttr.i (C := 284) (.r zz6) (at_284_numbers p) rfl ?_
  repeat walk_at "w"
  with_reducible refine cwp_dict_copy ok (.r zz8) (szl (by unfold numD names; rw [List.length_map, List.length_zipIdx, List.length_append, List.length_map, List.length_map]; lia)) ?_
  repeat walk_at "w"
  refine ⟨Nat.le_of_ble_eq_true rfl, ?_⟩
  have F7 : LowL σ.length (rows.map (rowB (atoms (lotF rows os n tl) rows) tp) ++ os.map (ordB (atoms (lotF rows os n tl) rows))) := (lowRows _ _ _).app (lowOrds _ _)
  refine leave_pure (.tup (.cons (.rinst (by lia) zz6 (.cons (.rinst (by lia) zz4 (.cons (.low (.tup (lowStrs _))) (.cons (.rdict (by lia) zz5 (.low (lowNum _))) .nil))) (.cons (.rlist (by lia) zz7 (.low F7)) (.cons (.rdict (by lia) zz8 (.low (lowNum _))) .nil)))) (.cons (.low (.sd (lowNum _))) (.cons (.rlist (by lia) zz3 (.low (lowMap (f := lblV) lowLbl _))) .nil)))) q
end
section
variable {p : Pk} {σ : Sto} {ρ : Rho} {Q : Post}
noncomputable abbrev KIT (inv : List PV → Rho → Sto → Prop) (acc : List PV) : Rho → Post := fun ρ₁ v σ₃ => inv (acc ++ [v]) ρ₁ σ₃
theorem comp_ind {α : Type} (f : α → PV) {c : Cx} {tgt elt : Expr} {ifs : List Expr} {pv : PV} {l L : List PV} {Q : List PV → Sto → Prop} (T : List α) (inv : List α → List PV → Rho → Sto → Prop) (hL : L = T.map f)
    (hS : ∀ d acc ρ σ, inv d acc ρ σ → Src σ pv l)
    (step : ∀ d a r, d ++ a :: r = T → ∀ acc ρ σ, inv d acc ρ σ → AWP c [c.env.locals] tgt (f a) ρ σ (KX c ifs elt (KIT (inv (d ++ [a])) acc) (inv (d ++ [a]) acc)))
    (h0 : inv [] [] ρ σ) (hq : ∀ acc ρ σ, inv T acc ρ σ → Q acc σ) : CompWP c tgt ifs elt pv l Q L ρ σ [] := by
  rw [hL]
  have key : ∀ (r d : List α) (acc : List PV) (ρ : Rho) (σ : Sto), d ++ r = T → inv d acc ρ σ → CompWP c tgt ifs elt pv l Q (r.map f) ρ σ acc := by
    intro r
    induction r with
    | nil =>
      intro d acc ρ σ e h
      rw [List.append_nil] at e
      exact comp_nil (hS d acc ρ σ h) (hq acc ρ σ (e ▸ h))
    | cons a r ih =>
      intro d acc ρ σ e h
      refine comp_cons (hS d acc ρ σ h) ((step d a r e acc ρ σ h).mono fun ρ₁ σ₁ h2 => TestsWP.mono h2 fun b σ₂ hb => ?_)
      cases b with
      | true =>
        have hb' : EWP c elt ρ₁ σ₂ fun v σ₃ => inv (d ++ [a]) (acc ++ [v]) ρ₁ σ₃ := hb
        exact iteT (hb'.mono fun v σ₃ h3 => ih (d ++ [a]) (acc ++ [v]) ρ₁ σ₃ (by simpa using e) h3)
      | false =>
        have hb' : inv (d ++ [a]) acc ρ₁ σ₂ := hb
        exact iteF (ih (d ++ [a]) acc ρ₁ σ₂ (by simpa using e) hb')
  exact key T [] [] ρ σ rfl h0
theorem leave_setapp {n : Nat} {o : PO} {τ : Sto} {v v' : PV} (hv : Fz σ.length (σ.set n o ++ τ) v v') (ho : LowO σ.length o) (q : Q v' (σ.set n o)) : Leave σ (σ.set n o ++ τ) v Q := by
  refine ⟨v', hv, fun i x hi e => ?_, by rw [List.take_append_of_le_length (by simp), List.take_of_length_le (by simp)]; exact q⟩
  rw [List.getElem?_append_left (by simpa using hi)] at e
  rcases set_cases e with e | rfl
  · exact .inl e
  · exact .inr ho
noncomputable def rowT (r : Row) : PV := .tup [.str r.n, .str r.m, .str r.par]
noncomputable def tN (i : Nat) : Str := ("T" : Str) ++ Str.ofString (toString (i : Int))
noncomputable def bN (i : Nat) : Str := ("B" : Str) ++ Str.ofString (toString (i : Int))
noncomputable def mults : List Str := ["", "one", "lone", "some"]
inductive RowsP : Nat → Nat → List Row → Prop
  | nil : RowsP 0 0 []
  | top {t : Nat} {rows : List Row} {m : Str} : RowsP t 0 rows → m ∈ mults → RowsP (t + 1) 0 (rows ++ [⟨tN t, m, ""⟩])
  | bel {t j : Nat} {rows : List Row} {m : Str} {r : Row} : RowsP t j rows → r ∈ rows → (m = "" ∨ m = "lone") → RowsP t (j + 1) (rows ++ [⟨bN j, m, r.n⟩])
theorem RowsP.len {t j : Nat} {rows : List Row} (R : RowsP t j rows) : rows.length = t + j := by
  induction R with
  | nil => rfl
  | top R hm ih => simp [ih]
  | bel R hr hm ih => simp [ih]; lia
theorem shortStr {i : Nat} (h : i < 6) : (Str.ofString (toString (i : Int))).length = 1 := by
  have : i = 0 ∨ i = 1 ∨ i = 2 ∨ i = 3 ∨ i = 4 ∨ i = 5 := by lia
  rcases this with rfl | rfl | rfl | rfl | rfl | rfl <;> rfl
theorem shortLog {i : Nat} (h : i < 6) : (i : Int).natAbs.log2 < 1920 := by
  have : i = 0 ∨ i = 1 ∨ i = 2 ∨ i = 3 ∨ i = 4 ∨ i = 5 := by lia
  rcases this with rfl | rfl | rfl | rfl | rfl | rfl <;> decide
theorem range_pos {m : Nat} {d r : List Nat} {i : Nat} (e : d ++ i :: r = List.range m) : i = d.length ∧ i < m := by
  have h1 := congrArg (·[d.length]?) e
  simp only [List.getElem?_append_right (Nat.le_refl _), Nat.sub_self, List.getElem?_cons_zero] at h1
  obtain ⟨h3, h4⟩ := List.getElem?_eq_some_iff.mp h1.symm
  rw [List.getElem_range] at h4
  rw [List.length_range] at h3
  lia
theorem lowPurse {n : Nat} (cs : List Int) (a : Int) : LowO n (purse cs a) := .cons (.lst (lowInts cs)) (.cons .int .nil)
theorem c_rows (ok : p.G.Ok) {k n : Nat} {cs : List Int} {a : Int} (hn : σ[n]? = some (purse cs a)) (h0 : 0 ≤ a) (ha : a < 900) (hz : cs.length < 1000)
    (q : ∀ t j rows a', RowsP t j rows → 2 ≤ t → t ≤ 3 → j ≤ 3 → a ≤ a' → a' ≤ a + 20 → Q (.lst (rows.map rowT)) (σ.set n (purse cs a'))) {env : Env} : CWP ⟨p.G, k + 2, env⟩ (.cst (.ref 587)) [.ref n] σ Q := by
  have hn' : n < σ.length := (List.getElem?_eq_some_iff.mp hn).1
  have hg : ∀ (a : Int) (τ : Sto), (σ.set n (purse cs a) ++ τ)[n]? = some (purse cs a) := fun a τ => by rw [List.getElem?_append_left (by simpa using hn'), List.getElem?_set_self hn']
  have hg0 : ∀ (a : Int), (σ.set n (purse cs a))[n]? = some (purse cs a) := fun a => List.getElem?_set_self hn'
  have hss : ∀ (a b : Int) (τ : Sto), (σ.set n (purse cs a) ++ τ).set n (purse cs b) = σ.set n (purse cs b) ++ τ := fun a b τ => by rw [List.set_append_left _ _ (by simpa using hn'), List.set_set]
  refine cwp_def ok (ok_rows p) (Nat.le_refl _) rfl fun L => ?_
  walk_at "open"
  with_reducible refine swp_cons (s1_comp_m ?_ ?h1 ?h2 ?h3 ?h4)
  case h1 => exact rfl
  case h2 => exact rfl
  case h3 => exact rfl
  case h4 => intro _; rfl
  repeat walk_at "w"
  refine ⟨k_582 p, ?_⟩
  repeat walk_at "w"
  with_reducible refine c_draw ok hn h0 (by lia) hz (by lia) (fun r0 r1 r2 => ?_) _
  repeat walk_at "w"
  with_reducible refine cwp_range1 ?_
  have hr0 : rngL 0 (2 + r0) = (List.range (2 + r0).toNat).map fun (i : Nat) => PV.int (i : Int) := by unfold rngL; simp
  refine ⟨rngL 0 (2 + r0), szl (by rw [hr0]; simp; lia), fun C => ?_⟩
  with_reducible refine comp_ind (fun (i : Nat) => PV.int (i : Int)) (List.range (2 + r0).toNat) (fun d acc ρ σ' => ∃ rows, acc = rows.map rowT ∧ RowsP d.length 0 rows ∧ σ' = σ.set n (purse cs (a + 1 + d.length)) ∧ ρ.lookup ("purse" : Str) = some (.ref n)) hr0 ?hS ?step ?h0 ?_
  case hS => rintro d acc ρ σ' _; exact .rng (by unfold RngOk; lia)
  case h0 => exact ⟨[], rfl, .nil, by simp, rfl⟩
  case step =>
    rintro d i r e acc ρ σ' ⟨rows, rfl, R, rfl, hp⟩
    obtain ⟨rfl, hi⟩ := range_pos e
    walk_at "tgt"
    have hp2 : (rset "k" (.int (d.length : Int)) ρ).lookup ("purse" : Str) = some (.ref n) := look_ne hp (by decide)
    with_reducible refine tests_nil ?_
    repeat walk_at "w"
    have hT1 : (Str.ofString "T").length = 1 := rfl
    have hsh := shortStr (i := d.length) (by lia)
    with_reducible refine cwp_str_int (shortLog (by lia)) ?_
    with_reducible refine o2_add_str (szl (by rw [len_app]; lia)) ?_
    repeat walk_at "w"
    with_reducible refine ewp_list ?_
    repeat walk_at "w"
    refine ⟨Nat.le_of_ble_eq_true rfl, ?_⟩
    repeat walk_at "w"
    refine ⟨k_582 p, ?_⟩
    repeat walk_at "w"
    with_reducible refine c_draw ok (hg0 _) (by lia) (by lia) hz (by lia) (fun x x1 x2 => ?_) _
    rw [List.set_set]
    obtain ⟨m, hm1, hm2⟩ : ∃ m, ([.str "", .str "one", .str "lone", .str "some"] : List PV)[x.toNat]? = some (.str m) ∧ m ∈ mults := by
      have : x.toNat = 0 ∨ x.toNat = 1 ∨ x.toNat = 2 ∨ x.toNat = 3 := by lia
      rcases this with h | h | h | h <;> rw [h]
      · exact ⟨"", rfl, by simp [mults]⟩
      · exact ⟨"one", rfl, by simp [mults]⟩
      · exact ⟨"lone", rfl, by simp [mults]⟩
      · exact ⟨"some", rfl, by simp [mults]⟩
    with_reducible refine sub_lstN .f x.toNat ?hk (by lia) hm1 ?_ ?isub
    case hk => lia
    case isub => intro _ _; rfl
    repeat walk_at "w"
    refine ⟨Nat.le_of_ble_eq_true rfl, rows ++ [⟨tN d.length, m, ""⟩], ?_, by rw [List.length_append]; exact .top R hm2, ?_, hp2⟩
    · rw [List.map_append]; rfl
    · congr 2
      rw [List.length_append]
      show _ = a + 1 + ((d.length + 1 : Nat) : Int)
      lia
  rintro acc ρ' σ' ⟨rows, rfl, R, rfl, hp⟩
  rw [List.length_range] at R ⊢
  obtain ⟨t, ht⟩ : ∃ t, (2 + r0).toNat = t := ⟨_, rfl⟩
  rw [ht] at R ⊢
  have ht2 : 2 ≤ t ∧ t ≤ 3 := by lia
  have hl0 : ∀ a, (σ.set n (purse cs a)).length = σ.length := fun a => by simp
  show KS _ _ _ _ _ _
  rw [hl0]
  with_reducible refine swp_cons (s1_for ?_ ?hset)
  case hset => intro _; rfl
  repeat walk_at "w"
  refine ⟨k_582 p, ?_⟩
  repeat walk_at "w"
  with_reducible refine c_draw ok (hg _ _) (by lia) (by lia) hz (by lia) (fun x x1 x2 => ?_) _
  rw [hss]
  repeat walk_at "w"
  with_reducible refine cwp_range1 ?_
  have hr1 : rngL 0 x = (List.range x.toNat).map fun (i : Nat) => PV.int (i : Int) := by unfold rngL; simp
  refine ⟨rngL 0 x, ?_⟩
  have hgl : ∀ (a : Int) (l : List PV), (σ.set n (purse cs a) ++ [PO.list l])[σ.length]? = some (.list l) := fun a l => by rw [List.getElem?_append_right (by simp)]; simp
  have hsl : ∀ (a : Int) (l l' : List PV), (σ.set n (purse cs a) ++ [PO.list l]).set σ.length (.list l') = σ.set n (purse cs a) ++ [PO.list l'] := fun a l l' => by rw [List.set_append_right _ _ (by simp)]; simp
  with_reducible refine for_ind (fun (i : Nat) => PV.int (i : Int)) (List.range x.toNat) (fun d ρ σ' => ∃ rows, RowsP t d.length rows ∧ σ' = σ.set n (purse cs (a + 1 + t + 1 + 2 * d.length)) ++ [.list (rows.map rowT)] ∧ ρ.lookup ("purse" : Str) = some (.ref n) ∧ ρ.lookup ("found" : Str) = some (.ref σ.length)) hr1 ?hS ?step ?h0 ?_
  case hS => rintro d ρ σ' _; exact .rng (by unfold RngOk; lia)
  case h0 => exact ⟨rows, R, by simp, rfl, rfl⟩
  case step =>
    clear hp
    rintro d i r e ρ σ' ⟨rows, R, rfl, hp, hf⟩
    obtain ⟨rfl, hi⟩ := range_pos e
    walk_at "loc"
    have hp2 : (rset "k" (.int (d.length : Int)) ρ).lookup ("purse" : Str) = some (.ref n) := look_ne hp (by decide)
    have hf2 : (rset "k" (.int (d.length : Int)) ρ).lookup ("found" : Str) = some (.ref σ.length) := look_ne hf (by decide)
    walk_at "exp"
    repeat walk_at "w"
    with_reducible refine KM.i (m1_append (hgl _ _)) rfl ?_
    repeat walk_at "w"
    have hB1 : (Str.ofString "B").length = 1 := rfl
    have hsh := shortStr (i := d.length) (by lia)
    have hrl := R.len
    with_reducible refine cwp_str_int (shortLog (by lia)) ?_
    with_reducible refine o2_add_str (szl (by rw [len_app]; lia)) ?_
    repeat walk_at "w"
    with_reducible refine ewp_list ?_
    repeat walk_at "w"
    refine ⟨Nat.le_of_ble_eq_true rfl, ?_⟩
    repeat walk_at "w"
    refine ⟨k_582 p, ?_⟩
    repeat walk_at "w"
    with_reducible refine c_draw ok (hg _ _) (by lia) (by lia) hz (by lia) (fun y y1 y2 => ?_) _
    rw [hss]
    obtain ⟨m, hm1, hm2⟩ : ∃ m, ([.str "", .str "lone"] : List PV)[y.toNat]? = some (.str m) ∧ (m = "" ∨ m = "lone") := by
      have : y.toNat = 0 ∨ y.toNat = 1 := by lia
      rcases this with h | h <;> rw [h]
      · exact ⟨"", rfl, .inl rfl⟩
      · exact ⟨"lone", rfl, .inr rfl⟩
    with_reducible refine sub_lstN .f y.toNat ?hk (by lia) hm1 ?_ ?isub
    case hk => lia
    case isub => intro _ _; rfl
    repeat walk_at "w"
    refine ⟨k_582 p, ?_⟩
    repeat walk_at "w"
    with_reducible refine cwp_len_lst (.r (hgl _ _)) (by rw [List.length_map]; lia) ?_
    rw [List.length_map]
    repeat walk_at "w"
    with_reducible refine c_draw ok (hg _ _) (by lia) (by lia) hz (by lia) (fun z z1 z2 => ?_) _
    rw [hss]
    have hzl : z.toNat < rows.length := by lia
    with_reducible refine sub_lstN (.r (hgl _ _)) z.toNat (p := rowT rows[z.toNat]) ?hk (by lia) ?hx ?_ ?isub
    case hk => lia
    case hx => rw [List.getElem?_map, List.getElem?_eq_getElem hzl]; rfl
    case isub => intro _ _; rfl
    repeat walk_at "w"
    show SubA _ _ _ (.tup [.str _, .str _, .str _]) _ _ _
    with_reducible refine sub_tupN 0 (p := .str rows[z.toNat].n) ?e1 (by decide) ?e2 ?_ ?isub
    case e1 => rfl
    case e2 => exact rfl
    case isub => intro _ _; rfl
    repeat walk_at "w"
    refine ⟨Nat.le_of_ble_eq_true rfl, ?_⟩
    repeat walk_at "w"
    with_reducible refine cwp_append (hgl _ _) (szl (by rw [List.length_map]; lia)) ?_
    rw [hsl]
    with_reducible refine swp_nil ?_
    refine ⟨rows ++ [⟨bN d.length, m, rows[z.toNat].n⟩], by rw [List.length_append]; exact .bel R (List.getElem_mem hzl) hm2, ?_, hp2, hf2⟩
    rw [List.map_append, List.length_append]
    congr 3
    show _ = a + 1 + t + 1 + 2 * ((d.length + 1 : Nat) : Int)
    lia
  rintro ρ σ' ⟨rows, R, rfl, hp, hf⟩
  rw [List.length_range] at R ⊢
  walk_at "ret"
  repeat walk_at "w"
  have lowR : LowL σ.length (rows.map rowT) := lowMap (f := rowT) (fun _ => .tup (.cons .str (.cons .str (.cons .str .nil)))) _
  refine leave_setapp (.rlist (Nat.le_refl _) (hgl _ _) (.low lowR)) (lowPurse _ _) (q t _ rows _ R ht2.1 ht2.2 (by lia) (by lia) (by lia))
end
section
variable {p : Pk} {σ : Sto} {ρ : Rho} {Q : Post}
noncomputable def parD (rows : List Row) : List (Str × PV) := rows.map fun r => (r.n, PV.str r.par)
theorem foldl_rset_new : ∀ (kvs d : List (Str × PV)), ((d ++ kvs).map (·.1)).Nodup → kvs.foldl (fun d kv => rset kv.1 kv.2 d) d = d ++ kvs
  | [], d, _ => by simp
  | kv :: kvs, d, h => by
    have hno : d.lookup kv.1 = Option.none := by
      refine lookup_no fun y hy e => ?_
      rw [List.map_append, List.nodup_append] at h
      exact h.2.2 _ (List.mem_map_of_mem hy) _ (.head _) e
    rw [List.foldl_cons, rset_new hno, foldl_rset_new kvs (d ++ [(kv.1, kv.2)]) (by simpa using h)]
    simp
theorem foldS_new {kvs : List (Str × PV)} (h : (kvs.map (·.1)).Nodup) : foldS kvs = kvs := foldl_rset_new kvs [] h
theorem parD_look {rows : List Row} {x : Str} {r : Row} (h : (ents rows).lookup x = some (item r)) : (parD rows).lookup x = some (.str r.par) := by
  unfold parD
  unfold ents at h
  induction rows with
  | nil => cases h
  | cons a l ih =>
    rw [List.map_cons, List.lookup_cons] at h ⊢
    split at h
    · have e : item a = item r := Option.some.inj h
      have e2 : a.par = r.par := by injection e with e; injection e with _ e; injection e with _ e; injection e with _ e; injection e with _ e; injection e with _ e; injection e with e _; injection e
      rw [e2]
    · exact ih h
theorem sub_row {c : Cx} {value slice : Expr} {r : Row} {Q : Post} (j : Nat) {x : Str} {k : Int} (hk : k = j) (hj : j < 3) (hx : ([.str r.n, .str r.m, .str r.par] : List PV)[j]? = some (.str x)) (q : Q (.str x) σ) (hsl : ∀ o i, subscripted slice false o i = operate [o, i] (getItem o i)) : SubA c value slice (rowT r) (.int k) σ Q :=
  sub_tupN j hk (by lia) hx q hsl
theorem c_ltop (ok : p.G.Ok) {k : Nat} {rows : List Row} {x t : Str} (hnd : (names rows).Nodup) (hz : rows.length < 1000) (T : Top rows x t) (q : Q (.str t) σ) {env : Env} : CWP ⟨p.G, k + 1, env⟩ (.cst (.ref 592)) [.lst (rows.map rowT), .str x] σ Q := by
  obtain ⟨r0, l, hx0, hc, hl, ht⟩ := T
  refine cwp_def ok (ok_top p) (Nat.le_refl _) rfl fun L => ?_
  walk_at "open"
  walk_at "asg"
  repeat walk_at "w"
  walk_at "ecmp"
  repeat walk_at "w"
  refine ⟨rows.map rowT, szl (by simp; lia), fun C => ?_⟩
  with_reducible refine comp_filterE rowT (fun r => some (pairS (r.n, .str r.par))) (fun _ => True) rows rfl (.lst .f) (fun r hr ρ' _ => ?_) trivial ?_
  · walk_at "tgt"
    with_reducible refine tests_nil ?_
    repeat walk_at "w"
    with_reducible refine sub_row 0 (x := r.n) ?e1 (by decide) rfl ?_ ?isub
    case e1 => rfl
    case isub => intro _ _; rfl
    repeat walk_at "w"
    with_reducible refine sub_row 2 (x := r.par) ?e1 (by decide) rfl ?_ ?isub
    case e1 => rfl
    case isub => intro _ _; rfl
    repeat walk_at "w"
    exact ⟨Nat.le_of_ble_eq_true rfl, rfl, rfl, trivial⟩
  have hkv : rows.filterMap (fun r => some (pairS (r.n, .str r.par))) = (parD rows).map pairS := by
    unfold parD
    rw [List.map_map, ← List.filterMap_eq_map]
    rfl
  rw [hkv]
  repeat walk_at "w"
  with_reducible refine cwp_dict_strs ok .f (szl (by unfold parD; simp; lia)) ?_
  rw [foldS_new (by unfold parD; rw [List.map_map]; exact hnd)]
  walk_at "loc"
  with_reducible refine swp_cons (s1_while (l.length + 1) ?_)
  show WhWP _ _ _ _ _ _ [("rows", .lst (rows.map rowT)), ("name", .str x), ("parents", .sd (parD rows))] σ
  clear hx0 hl
  induction hc with
  | @top x r hx hp =>
    unfold WhWP
    repeat walk_at "w"
    with_reducible refine sub_dict ok .f (parD_look hx) ?_ ?isub
    case isub => intro _ _; rfl
    repeat walk_at "w"
    rw [hp]
    simp only [decide_true, Bool.not_true, Bool.false_eq_true, if_false]
    walk_at "ret"
    repeat walk_at "w"
    have e : x = t := Option.some.inj ht
    subst e
    exact leave_id .str q
  | @up x r l hx hp hc ih =>
    unfold WhWP
    repeat walk_at "w"
    with_reducible refine sub_dict ok .f (parD_look hx) ?_ ?isub
    case isub => intro _ _; rfl
    repeat walk_at "w"
    simp only [hp, decide_false, Bool.not_false, if_true]
    walk_at "asg"
    repeat walk_at "w"
    with_reducible refine sub_dict ok .f (parD_look hx) ?_ ?isub
    case isub => intro _ _; rfl
    walk_at "loc"
    with_reducible refine swp_nil ?_
    exact ih ht
end
section
variable {p : Pk} {σ : Sto} {ρ : Rho} {Q : Post}
noncomputable def setsL (as : List Int) : List (List Int) := as.foldl (fun S a => S ++ S.map (· ++ [a])) [[]]
theorem setsL_snoc (d : List Int) (a : Int) : setsL (d ++ [a]) = setsL d ++ (setsL d).map (· ++ [a]) := by unfold setsL; rw [List.foldl_append]; rfl
theorem setsL_len (d : List Int) : (setsL d).length = 2 ^ d.length := by
  have key : ∀ (d : List Int) (S : List (List Int)), (d.foldl (fun S a => S ++ S.map (· ++ [a])) S).length = 2 ^ d.length * S.length := by
    intro d
    induction d with
    | nil => intro S; simp
    | cons a d ih => intro S; rw [List.foldl_cons, ih]; simp [Nat.pow_succ]; rw [Nat.mul_assoc]; congr 1; lia
  simpa [setsL] using key d [[]]
theorem setsL_mem (d : List Int) : ∀ s ∈ setsL d, s.length ≤ d.length := by
  have key : ∀ (d : List Int) (S : List (List Int)) (m : Nat), (∀ s ∈ S, s.length ≤ m) → ∀ s ∈ (d.foldl (fun S a => S ++ S.map (· ++ [a])) S), s.length ≤ m + d.length := by
    intro d
    induction d with
    | nil => intro S m h s hs; simpa using h s hs
    | cons a d ih =>
      intro S m h s hs
      rw [List.foldl_cons] at hs
      have := ih _ (m + 1) (by
        intro s hs
        rcases List.mem_append.mp hs with hs | hs
        · have := h s hs; lia
        · obtain ⟨s', hs', rfl⟩ := List.mem_map.mp hs
          have := h s' hs'; simp; lia) s hs
      simp; lia
  have := key d [[]] 0 (by simp)
  simpa [setsL] using this
theorem c_sets (ok : p.G.Ok) {k : Nat} {av : PV} {as : List Int} (V : LstV σ av (as.map .int)) (hz : as.length ≤ 8) (q : Q (.lst ((setsL as).map lstI)) σ) {env : Env} : CWP ⟨p.G, k + 1, env⟩ (.cst (.ref 604)) [av] σ Q := by
  refine cwp_def ok (ok_sets p) (Nat.le_refl _) rfl fun L => ?_
  walk_at "open"
  walk_at "asg"
  with_reducible refine ewp_list ?_
  repeat walk_at "w"
  with_reducible refine ewp_list ?_
  repeat walk_at "w"
  refine ⟨Nat.le_of_ble_eq_true rfl, ?_⟩
  repeat walk_at "w"
  refine ⟨Nat.le_of_ble_eq_true rfl, ?_⟩
  walk_at "loc"
  with_reducible refine swp_cons (s1_for ?_ ?hset)
  case hset => intro _; rfl
  repeat walk_at "w"
  refine ⟨as.map .int, ?_⟩
  with_reducible refine for_ind PV.int as (fun d ρ σ' => σ' = σ ∧ ρ.lookup ("found" : Str) = some (.lst ((setsL d).map lstI))) rfl ?hS ?step ?h0 ?_
  case hS => refine fun d ρ σ' => an2 fun eq0 _ => ?_; subst eq0; exact .lst V
  case h0 => exact ⟨rfl, rfl⟩
  case step =>
    refine fun d a r e ρ σ' => an2 fun eq0 hf => ?_
    subst eq0
    have hd := congrArg List.length e
    rw [List.length_append, List.length_cons] at hd
    have hsl := setsL_len d
    have hpow : 2 ^ d.length ≤ 2 ^ 8 := Nat.pow_le_pow_right (by lia) (by lia)
    walk_at "cell"
    have hf2 := look_ne (v := PV.int a) (x := "a") hf (by decide)
    walk_at "asg"
    repeat walk_at "w"
    walk_at "ecmp"
    repeat walk_at "w"
    refine ⟨(setsL d).map lstI, szl (by rw [List.length_map]; lia), fun C => ?_⟩
    with_reducible refine comp_filterE lstI (fun s => some (lstI (s ++ [a]))) (fun ρ => ρ.lookup ("a" : Str) = some (.int a)) (setsL d) rfl (.lst .f) (fun s hs ρ' h1 => ?_) ?hi ?_
    case hi => exact rfree_keep rfl (rset_self _ _ _)
    · walk_at "tgt"
      have h2 := look_ne (v := lstI s) (x := "late") h1 (by decide)
      have hsm := setsL_mem d s hs
      with_reducible refine tests_nil ?_
      repeat walk_at "w"
      with_reducible refine ewp_list ?_
      repeat walk_at "w"
      refine ⟨Nat.le_of_ble_eq_true rfl, ?_⟩
      show O2 _ _ (.lst (s.map .int)) _ _ _
      with_reducible refine o2_add_list .f .f (szl (by simp; lia)) ?_
      refine ⟨?_, rfl, h2⟩
      unfold lstI
      rw [List.map_append]
      rfl
    have hfm : (setsL d).filterMap (fun s => some (lstI (s ++ [a]))) = ((setsL d).map (· ++ [a])).map lstI := by
      rw [List.map_map, ← List.filterMap_eq_map]
      rfl
    rw [hfm]
    with_reducible refine o2_add_list .f .f (szl (by simp; lia)) ?_
    rw [← List.map_append, ← setsL_snoc]
    walk_at "loc"
    with_reducible refine swp_nil ?_
    exact ⟨rfl, rset_self _ _ _⟩
  refine fun ρ σ' => an2 fun eq0 hf => ?_
  subst eq0
  walk_at "ret"
  repeat walk_at "w"
  exact leave_id (.lst (lowMap (f := lstI) (fun _ => .lst (lowInts _)) _)) q
end
section
variable {p : Pk} {σ : Sto} {ρ : Rho} {Q : Post}
theorem S1WP.mono {c : Cx} {st : Stmt} {Qn Qn' : Rho → Sto → Prop} {Qr Qr' : Post} (h : S1WP c st ρ σ Qn Qr) (q : ∀ r σ', Qn r σ' → Qn' r σ') (q2 : ∀ v σ', Qr v σ' → Qr' v σ') : S1WP c st ρ σ Qn' Qr' :=
  fun P s φ I F => (h P s φ I F).mono fun fl _ _ _ x => by
    cases fl with
    | next => obtain ⟨r, σ', a, b, d⟩ := x; exact ⟨r, σ', a, b, q _ _ d⟩
    | ret v => obtain ⟨r, σ', a, b, d⟩ := x; exact ⟨r, σ', a, b, q2 _ _ d⟩
    | brk => exact x
    | cont => exact x
theorem swp_mid {c : Cx} {st : Stmt} {rest : List Stmt} {Qn : Rho → Sto → Prop} {Qr : Post} (mid : Rho → Sto → Prop) (h : S1WP c st ρ σ mid Qr) (q : ∀ ρ₁ σ₁, mid ρ₁ σ₁ → SWP c rest ρ₁ σ₁ Qn Qr) : SWP c (st :: rest) ρ σ Qn Qr :=
  swp_cons (h.mono q fun _ _ x => x)
noncomputable def rngI (b n : Nat) : List Int := (List.range n).map fun k => ((b + k : Nat) : Int)
noncomputable def lawV (x : Nat × Nat × Bool) : PV := .tup [.bool x.2.2, .lst ((rngI x.1 x.2.1).map .int)]
noncomputable def lawD (a : At) : List (Str × PV) := a.lots.map fun x => (x.1, lawV x.2)
theorem lowLaw {n : Nat} (a : At) : LowS n (lawD a) := by
  unfold lawD
  induction a.lots with
  | nil => exact .nil
  | cons x l ih => exact .cons (.tup (.cons .bool (.cons (.lst (lowInts _)) .nil))) ih
theorem look_lawD {a : At} {x : Str} : (lawD a).lookup x = (a.lots.lookup x).map lawV := by
  unfold lawD
  induction a.lots with
  | nil => rfl
  | cons y l ih =>
    rw [List.map_cons, List.lookup_cons, List.lookup_cons]
    split
    · rfl
    · exact ih
theorem ordF_some {os : List Ord} {x : Str} : ((ordF os).lookup x).isSome = decide (x ∈ os.map (·.sig)) := by
  have key : ∀ (os : List Ord) (d : List (Str × PV)), ((os.foldl (fun d o => rset o.sig (.bool true) d) d).lookup x).isSome = (decide (x ∈ os.map (·.sig)) || (d.lookup x).isSome) := by
    intro os
    induction os with
    | nil => intro d; simp
    | cons o os ih =>
      intro d
      rw [List.foldl_cons, ih]
      by_cases h : x = o.sig
      · subst h; rw [rset_self]; simp
      · rw [rset_ne _ _ _ h]
        simp [h]
  have := key os []
  unfold ordF
  rw [this]; simp
theorem told_first {tl : List (Bool × Int × Str)} {x : Str} {n : Int} : (tl.filterMap (fun y => if y.2.2 = x then some (tpl y.1 y.2.1) else none) ++ [tpl false n])[0]? = some (tpl (((toldL tl).lookup x).getD (false, n)).1 (((toldL tl).lookup x).getD (false, n)).2) := by
  induction tl with
  | nil => rfl
  | cons y l ih =>
    unfold toldL
    rw [List.map_cons, List.lookup_cons, List.filterMap_cons]
    by_cases h : y.2.2 = x
    · rw [if_pos h]
      have : (x == y.2.2) = true := by rw [beq_iff_eq]; exact h.symm
      rw [this]; rfl
    · rw [if_neg h]
      have : (x == y.2.2) = false := by rw [beq_eq_false_iff_ne]; exact fun e => h e.symm
      rw [this]; exact ih
theorem c_llots (ok : p.G.Ok) {k : Nat} {rows : List Row} {os : List Ord} {n : Nat} {tl : List (Bool × Int × Str)} {tp : Str → Str} (C : ScOk rows os n tl tp)
    (q : Q (.tup [.sd (lawD (atoms (lotF rows os n tl) rows)), .int (atoms (lotF rows os n tl) rows).nm.length]) σ) {env : Env} : CWP ⟨p.G, k + 1, env⟩ (.cst (.ref 609)) [.lst (rows.map rowT), .tup [.int n, .tup (tl.map tr)], .lst (os.map opened)] σ Q := by
  have hlen := C.len
  have holen := C.olen
  have htlen := C.tlen
  refine cwp_def ok (ok_lots p) (Nat.le_refl _) rfl fun L => ?_
  walk_at "open"
  with_reducible refine swp_cons (s1_swap (names := ["lots", "begin"]) ?_ ?h1 ?h2 ?h3)
  case h1 => kernel_rfl
  case h2 => kernel_rfl
  case h3 => kernel_rfl
  repeat walk_at "w"
  with_reducible refine ewp_dict0 ?_
  repeat walk_at "w"
  refine ⟨Nat.le_of_ble_eq_true rfl, _, rfl, rfl, ?_⟩
  have y0 : ∀ (a : PO), (σ ++ [a])[σ.length]? = some a := fun a => by simp
  have w0 : ∀ (a a' : PO), (σ ++ [a]).set σ.length a' = σ ++ [a'] := fun a a' => by rw [List.set_append_right _ _ (by lia)]; simp
  with_reducible refine swp_cons (s1_for ?_ ?hset)
  case hset => intro _; rfl
  repeat walk_at "w"
  refine ⟨rows.map rowT, ?_⟩
  with_reducible refine for_ind rowT rows (fun d ρ σ' => σ' = σ ++ [.sdict (lawD (atoms (lotF rows os n tl) d))] ∧ ρ.lookup ("rows" : Str) = some (.lst (rows.map rowT)) ∧ ρ.lookup ("scope" : Str) = some (.tup [.int n, .tup (tl.map tr)]) ∧ ρ.lookup ("lined" : Str) = some (.lst (os.map opened)) ∧ ρ.lookup ("lots" : Str) = some (.ref σ.length) ∧ ρ.lookup ("begin" : Str) = some (.int (atoms (lotF rows os n tl) d).nm.length)) rfl ?hS ?step ?h0 ?_
  case hS => refine fun d ρ σ' => an2 fun eq0 _ => ?_; subst eq0; exact .lst .f
  case h0 => exact ⟨rfl, rfl, rfl, rfl, rfl, rfl⟩
  case step =>
    refine fun d a r e ρ σ' => an6 fun eq0 h1 h2 h3 h4 h5 => ?_
    subst eq0
    have har : a ∈ rows := by rw [← e]; simp
    show AWP _ _ _ (.tup [.str a.n, .str a.m, .str a.par]) _ _ _
    with_reducible refine awp_tuple (fun _ h => h) ?_ rfl ?he
    case he => exact rfl
    with_reducible refine als_cons ?_
    walk_at "cell"
    with_reducible refine als_cons ?_
    walk_at "loc"
    with_reducible refine als_cons ?_
    walk_at "loc"
    with_reducible refine als_nil ?_
    have hup : ∀ {x : Str} {v : PV}, ρ.lookup x = some v → x ≠ "name" → x ≠ "mult" → x ≠ "parent" → (rset "parent" (.str a.par) (rset "mult" (.str a.m) (rset "name" (.str a.n) ρ))).lookup x = some v := fun h n1 n2 n3 => look_ne (look_ne (look_ne h n1) n2) n3
    have g1 := hup h1 (by decide) (by decide) (by decide)
    have g2 := hup h2 (by decide) (by decide) (by decide)
    have g3 := hup h3 (by decide) (by decide) (by decide)
    have g4 := hup h4 (by decide) (by decide) (by decide)
    have g5 := hup h5 (by decide) (by decide) (by decide)
    have g6 : (rset "parent" (.str a.par) (rset "mult" (.str a.m) (rset "name" (.str a.n) ρ))).lookup ("mult" : Str) = some (.str a.m) := look_ne (rset_self _ _ _) (by decide)
    have g7 : (rset "parent" (.str a.par) (rset "mult" (.str a.m) (rset "name" (.str a.n) ρ))).lookup ("name" : Str) = some (.str a.n) := look_ne (look_ne (rset_self _ _ _) (by decide)) (by decide)
    walk_at "if"
    repeat walk_at "w"
    by_cases hp : a.par = ""
    · first | with_reducible refine iteD hp ?_ | with_reducible refine iteND hp ?_ | rw [decide_eq_true hp]
      repeat walk_at "w"
      walk_at "asg"
      repeat walk_at "w"
      walk_at "ecmp"
      repeat walk_at "w"
      with_reducible refine sub_tupN 1 (p := .tup (tl.map tr)) ?e1 (by decide) ?e2 ?_ ?isub
      case e1 => rfl
      case e2 => exact rfl
      case isub => intro _ _; rfl
      refine ⟨tl.map tr, szl (by rw [List.length_map]; lia), fun C2 => ?_⟩
      with_reducible refine comp_filterE tr (fun y => if y.2.2 = a.n then some (tpl y.1 y.2.1) else none) (fun ρ => ρ.lookup ("name" : Str) = some (.str a.n)) tl rfl .tup (fun y hy ρ' hj1 => ?_) ?hi ?_
      case hi => exact rfree_keep rfl g7
      · show AWP _ _ _ (.tup [.bool y.1, .int y.2.1, .str y.2.2]) _ _ _
        with_reducible refine awp_tuple own_comp ?_ rfl ?he
        case he => exact rfl
        with_reducible refine als_cons ?_
        walk_at "tgt"
        with_reducible refine als_cons ?_
        walk_at "tgt"
        with_reducible refine als_cons ?_
        walk_at "tgt"
        with_reducible refine als_nil ?_
        have m1 : (rset "sig" (.str y.2.2) (rset "number" (.int y.2.1) (rset "is_exact" (.bool y.1) ρ'))).lookup ("name" : Str) = some (.str a.n) := look_ne (look_ne (look_ne hj1 (by decide)) (by decide)) (by decide)
        have m2 : (rset "sig" (.str y.2.2) (rset "number" (.int y.2.1) (rset "is_exact" (.bool y.1) ρ'))).lookup ("number" : Str) = some (.int y.2.1) := look_ne (rset_self _ _ _) (by decide)
        have m3 : (rset "sig" (.str y.2.2) (rset "number" (.int y.2.1) (rset "is_exact" (.bool y.1) ρ'))).lookup ("is_exact" : Str) = some (.bool y.1) := look_ne (look_ne (rset_self _ _ _) (by decide)) (by decide)
        with_reducible refine tests_one ?_
        repeat walk_at "w"
        by_cases hq : y.2.2 = a.n
        · first | with_reducible refine iteD hq ?_ | with_reducible refine iteND hq ?_ | rw [decide_eq_true hq]
          repeat walk_at "w"
          refine ⟨Nat.le_of_ble_eq_true rfl, ?_, rfl, m1⟩
          rw [if_pos hq]; rfl
        · rw [decide_eq_false hq]
          with_reducible refine iteF ⟨?_, rfl, m1⟩
          rw [if_neg hq]
      repeat walk_at "w"
      with_reducible refine ewp_list ?_
      repeat walk_at "w"
      with_reducible refine sub_tupN 0 (p := .int n) ?e1 (by decide) ?e2 ?_ ?isub
      case e1 => rfl
      case e2 => exact rfl
      case isub => intro _ _; rfl
      repeat walk_at "w"
      refine ⟨Nat.le_of_ble_eq_true rfl, ?_⟩
      repeat walk_at "w"
      refine ⟨Nat.le_of_ble_eq_true rfl, ?_⟩
      have hfl := List.length_filterMap_le (fun y : Bool × Int × Str => if y.2.2 = a.n then some (tpl y.1 y.2.1) else none) tl
      with_reducible refine o2_add_list .f .f (szl (by simp only [List.length_cons, List.length_nil]; lia)) ?_
      walk_at "loc"
      have hfirst := told_first (tl := tl) (x := a.n) (n := n)
      obtain ⟨b0, m0, hbm⟩ : ∃ b0 m0, ((toldL tl).lookup a.n).getD (false, (n : Int)) = (b0, m0) := ⟨_, _, rfl⟩
      rw [hbm] at hfirst
      obtain ⟨told, htold⟩ : ∃ told, tl.filterMap (fun y => if y.2.2 = a.n then some (tpl y.1 y.2.1) else none) ++ [.tup [.bool false, .int n]] = told := ⟨_, rfl⟩
      rw [htold]
      have hfirst2 : told[0]? = some (tpl b0 m0) := by rw [← htold]; exact hfirst
      walk_at "asg"
      repeat walk_at "w"
      with_reducible refine sub_lstN .f 0 ?e1 (by decide) hfirst2 ?_ ?isub
      case e1 => rfl
      case isub => intro _ _; rfl
      show AWP _ _ _ (.tup [.bool b0, .int m0]) _ _ _
      with_reducible refine awp_tuple (fun _ h => h) ?_ rfl ?he
      case he => exact rfl
      with_reducible refine als_cons ?_
      walk_at "loc"
      with_reducible refine als_cons ?_
      walk_at "loc"
      with_reducible refine als_nil ?_
      have hup2 : ∀ {x : Str} {v : PV}, (rset "parent" (.str a.par) (rset "mult" (.str a.m) (rset "name" (.str a.n) ρ))).lookup x = some v → x ≠ "told" → x ≠ "is_sure" → x ≠ "many" → (rset "many" (.int m0) (rset "is_sure" (.bool b0) (rset "told" (.lst told) (rset "parent" (.str a.par) (rset "mult" (.str a.m) (rset "name" (.str a.n) ρ)))))).lookup x = some v := fun h n1 n2 n3 => look_ne (look_ne (look_ne h n1) n2) n3
      have k3 := hup2 g3 (by decide) (by decide) (by decide)
      have k1 := hup2 g1 (by decide) (by decide) (by decide)
      have k2 := hup2 g2 (by decide) (by decide) (by decide)
      have k4 := hup2 g4 (by decide) (by decide) (by decide)
      have k5 := hup2 g5 (by decide) (by decide) (by decide)
      have k6 := hup2 g6 (by decide) (by decide) (by decide)
      have k7 := hup2 g7 (by decide) (by decide) (by decide)
      have k8 : (rset "many" (.int m0) (rset "is_sure" (.bool b0) (rset "told" (.lst told) (rset "parent" (.str a.par) (rset "mult" (.str a.m) (rset "name" (.str a.n) ρ)))))).lookup ("is_sure" : Str) = some (.bool b0) := look_ne (rset_self _ _ _) (by decide)
      have k9 : (rset "many" (.int m0) (rset "is_sure" (.bool b0) (rset "told" (.lst told) (rset "parent" (.str a.par) (rset "mult" (.str a.m) (rset "name" (.str a.n) ρ)))))).lookup ("many" : Str) = some (.int m0) := rset_self _ _ _
      generalize (rset "many" (.int m0) (rset "is_sure" (.bool b0) (rset "told" (.lst told) (rset "parent" (.str a.par) (rset "mult" (.str a.m) (rset "name" (.str a.n) ρ)))))) = ρ1 at k1 k2 k3 k4 k5 k6 k7 k8 k9 ⊢
      with_reducible refine swp_mid (fun ρ2 σ2 => σ2 = σ ++ [.sdict (lawD (atoms (lotF rows os n tl) d))] ∧ (∀ (x : Str) (v : PV), x ≠ "is_sure" → x ≠ "many" → ρ1.lookup x = some v → ρ2.lookup x = some v) ∧ ρ2.lookup ("is_sure" : Str) = some (.bool (if a.m = "one" then true else b0)) ∧ ρ2.lookup ("many" : Str) = some (.int (if a.m = "one" then 1 else m0))) (s1_if ?_) ?_
      · repeat walk_at "w"
        by_cases ho : a.m = "one"
        · first | with_reducible refine iteD ho ?_ | with_reducible refine iteND ho ?_ | rw [decide_eq_true ho]
          repeat walk_at "w"
          walk_at "asg"
          repeat walk_at "w"
          refine ⟨Nat.le_of_ble_eq_true rfl, ?_⟩
          with_reducible refine awp_tuple (fun _ h => h) ?_ rfl ?he
          case he => exact rfl
          with_reducible refine als_cons ?_
          walk_at "loc"
          with_reducible refine als_cons ?_
          walk_at "loc"
          with_reducible refine als_nil ?_
          with_reducible refine swp_nil ?_
          rw [if_pos ho, if_pos ho]
          exact ⟨rfl, fun _ _ n1 n2 h => look_ne (look_ne h n1) n2, look_ne (rset_self _ _ _) (by decide), rset_self _ _ _⟩
        · first | with_reducible refine iteDN ho ?_ | with_reducible refine iteNDN ho ?_ | rw [decide_eq_false ho]
          repeat walk_at "w"
          with_reducible refine swp_nil ?_
          rw [if_neg ho, if_neg ho]
          exact ⟨rfl, fun _ _ _ _ h => h, k8, k9⟩
      refine fun ρ2 σ2 => an4 fun eq0 hkeep s8 s9 => ?_
      subst eq0
      have s1 := hkeep _ _ (by decide) (by decide) k1
      have s2 := hkeep _ _ (by decide) (by decide) k2
      have s3 := hkeep _ _ (by decide) (by decide) k3
      have s4 := hkeep _ _ (by decide) (by decide) k4
      have s5 := hkeep _ _ (by decide) (by decide) k5
      have s6 := hkeep _ _ (by decide) (by decide) k6
      have s7 := hkeep _ _ (by decide) (by decide) k7
      clear hkeep k1 k2 k3 k4 k5 k6 k7 k8 k9
      generalize hs1 : (if a.m = "one" then true else b0) = b1 at s8
      generalize hm1 : (if a.m = "one" then 1 else m0) = m1 at s9
      with_reducible refine swp_mid (fun ρ3 σ2 => σ2 = σ ++ [.sdict (lawD (atoms (lotF rows os n tl) d))] ∧ (∀ (x : Str) (v : PV), x ≠ "many" → ρ2.lookup x = some v → ρ3.lookup x = some v) ∧ ρ3.lookup ("many" : Str) = some (.int (if a.m = "lone" then min m1 1 else m1))) (s1_if ?_) ?_
      · repeat walk_at "w"
        by_cases ho : a.m = "lone"
        · first | with_reducible refine iteD ho ?_ | with_reducible refine iteND ho ?_ | rw [decide_eq_true ho]
          repeat walk_at "w"
          walk_at "asg"
          repeat walk_at "w"
          with_reducible refine cwp_min ?_
          walk_at "loc"
          with_reducible refine swp_nil ?_
          rw [if_pos ho]
          exact ⟨rfl, fun _ _ n2 h => look_ne h n2, rset_self _ _ _⟩
        · first | with_reducible refine iteDN ho ?_ | with_reducible refine iteNDN ho ?_ | rw [decide_eq_false ho]
          repeat walk_at "w"
          with_reducible refine swp_nil ?_
          rw [if_neg ho]
          exact ⟨rfl, fun _ _ _ h => h, s9⟩
      refine fun ρ3 σ2 => an3 fun eq0 hkeep t9 => ?_
      subst eq0
      have t1 := hkeep _ _ (by decide) s1
      have t2 := hkeep _ _ (by decide) s2
      have t3 := hkeep _ _ (by decide) s3
      have t4 := hkeep _ _ (by decide) s4
      have t5 := hkeep _ _ (by decide) s5
      have t7 := hkeep _ _ (by decide) s7
      have t8 := hkeep _ _ (by decide) s8
      clear hkeep s1 s2 s3 s4 s5 s6 s7 s8 s9
      generalize hm2 : (if a.m = "lone" then min m1 1 else m1) = m2 at t9
      have hF : lotF rows os n tl a.n = (b1 || decide (a.n ∈ os.map (·.sig)), m2.toNat) ∧ 0 ≤ m2 := by
        have h0 := lot_nonneg (tl := tl) (x := a.n) (m := a.m) (o := ((ordF os).lookup a.n).isSome) (n := n) (fun y hy => (C.told y hy).2)
        rw [lotF_row C.nodup har]
        rw [ordF_some] at h0 ⊢
        unfold lot at h0 ⊢
        rw [hbm] at h0 ⊢
        subst hm2 hm1 hs1
        by_cases ho : a.m = "one"
        · rw [if_pos ho] at h0 ⊢
          rw [if_pos ho, if_pos ho, if_neg (by rw [ho]; decide)]
          exact ⟨rfl, by decide⟩
        · rw [if_neg ho] at h0 ⊢
          rw [if_neg ho, if_neg ho]
          exact ⟨rfl, h0⟩
      have hfew := C.few a.n
      have hnml := atoms_len C.few d
      have hd := congrArg List.length e
      rw [List.length_append, List.length_cons] at hd
      rw [hF.1] at hfew
      walk_at "asg"
      repeat walk_at "w"
      have hsigs : ∀ y ∈ os.map (·.sig), sOk y := by
        intro y hy
        obtain ⟨o, ho, rfl⟩ := List.mem_map.mp hy
        obtain ⟨⟨r', hr', e', _⟩, _⟩ := C.ord o ho
        rw [← e']; exact (C.nm r' hr').1
      with_reducible refine EWP.mono (Q := fun v s => v = .bool (b1 || decide (a.n ∈ os.map (·.sig))) ∧ s = σ ++ [.sdict (lawD (atoms (lotF rows os n tl) d))]) ?_ ?_
      · with_reducible refine ewp_or2 ?_
        repeat walk_at "w"
        cases b1
        · repeat walk_at "w"
          walk_at "ecmp"
          repeat walk_at "w"
          refine ⟨os.map opened, szl (by rw [List.length_map]; lia), fun C3 => ?_⟩
          with_reducible refine comp_filterE opened (fun o => some (.str o.sig)) (fun _ => True) os rfl (.lst .f) (fun o ho ρ' _ => ?_) trivial ?_
          · with_reducible refine awp_tuple own_comp ?_ rfl ?he
            case he => exact rfl
            with_reducible refine als_cons ?_
            walk_at "tgt"
            with_reducible refine als_cons ?_
            walk_at "tgt"
            with_reducible refine als_nil ?_
            with_reducible refine tests_nil ?_
            repeat walk_at "w"
            exact ⟨rfl, rfl, trivial⟩
          have hss : os.filterMap (fun o => some (PV.str o.sig)) = (os.map (·.sig)).map .str := by
            rw [List.map_map, ← List.filterMap_eq_map]
            rfl
          rw [hss]
          with_reducible refine o2_in_strs .f (C.nm a har).1 hsigs ?_
          exact ⟨by rw [Bool.false_or], rfl⟩
        · repeat walk_at "w"
          exact ⟨by rw [Bool.true_or], rfl⟩
      refine fun _ _ => an2 fun eq0 eq1 => ?_
      subst eq0 eq1
      repeat walk_at "w"
      with_reducible refine cwp_range2 ?_
      have hr0 : rngL ((atoms (lotF rows os n tl) d).nm.length : Int) ((atoms (lotF rows os n tl) d).nm.length + m2) = (rngI (atoms (lotF rows os n tl) d).nm.length m2.toNat).map .int := by
        unfold rngL rngI
        rw [List.map_map]
        have : ((atoms (lotF rows os n tl) d).nm.length + m2 - (atoms (lotF rows os n tl) d).nm.length : Int) = m2 := by lia
        rw [this]
        rfl
      repeat walk_at "w"
      have hm2t := hF.2
      with_reducible refine cwp_list_rng (by unfold RngOk; dsimp only at hfew; lia) (by dsimp only at hfew; lia) ?_
      rw [hr0]
      repeat walk_at "w"
      refine ⟨Nat.le_of_ble_eq_true rfl, ?_⟩
      with_reducible refine awp_sub ?_
      repeat walk_at "w"
      have hnew : (atoms (lotF rows os n tl) d).lots.lookup a.n = none := by
        refine lookup_no fun y hy e2 => ?_
        rcases lots_keys d ⟨[], []⟩ y hy with h | ⟨r', hr, _, e'⟩
        · cases h
        · have hnd := C.nodup
          rw [← e] at hnd
          unfold names at hnd
          rw [List.map_append, List.nodup_append] at hnd
          exact hnd.2.2 _ (List.mem_map_of_mem hr) _ (by simp) (e'.trans e2)
      have hnew2 : (lawD (atoms (lotF rows os n tl) d)).lookup a.n = Option.none := by rw [look_lawD, hnew]; rfl
      have hcl : (atoms (lotF rows os n tl) d).lots.length ≤ d.length := by
        have key : ∀ (d : List Row) (x : At), (d.foldl (atStep (lotF rows os n tl)) x).lots.length ≤ x.lots.length + d.length := by
          intro d
          induction d with
          | nil => intro x; simp
          | cons r d ih =>
            intro x
            rw [List.foldl_cons]
            refine Nat.le_trans (ih _) ?_
            unfold atStep
            split <;> simp <;> lia
        have := key d ⟨[], []⟩
        simpa [atoms] using this
      with_reducible refine set_dict (y0 _) (szl (by unfold lawD; rw [List.length_map]; lia)) ?_
      rw [rset_new hnew2, w0]
      walk_at "asg"
      repeat walk_at "w"
      walk_at "loc"
      with_reducible refine swp_nil ?_
      with_reducible refine swp_nil ?_
      have e4 : atoms (lotF rows os n tl) (d ++ [a]) = ⟨(atoms (lotF rows os n tl) d).nm ++ (List.range m2.toNat).map (atomName a.n), (atoms (lotF rows os n tl) d).lots ++ [(a.n, (atoms (lotF rows os n tl) d).nm.length, m2.toNat, (b1 || decide (a.n ∈ os.map (·.sig))))]⟩ := by
        unfold atoms; rw [List.foldl_append]; show atStep _ _ a = _; unfold atStep; rw [if_pos hp, hF.1]
      refine ⟨?_, look_ne t1 (by decide), look_ne t2 (by decide), look_ne t3 (by decide), look_ne t4 (by decide), ?_⟩
      · rw [e4]
        unfold lawD
        rw [List.map_append]
        rfl
      · rw [rset_self, e4]
        simp only [List.length_append, List.length_map, List.length_range]
        congr 2
        lia
    · first | with_reducible refine iteDN hp ?_ | with_reducible refine iteNDN hp ?_ | rw [decide_eq_false hp]
      repeat walk_at "w"
      with_reducible refine swp_nil ?_
      with_reducible refine swp_nil ?_
      have e3 : atoms (lotF rows os n tl) (d ++ [a]) = atoms (lotF rows os n tl) d := by unfold atoms; rw [List.foldl_append]; show atStep _ _ a = _; unfold atStep; rw [if_neg hp]
      rw [e3]
      exact ⟨rfl, g1, g2, g3, g4, g5⟩
  refine fun ρ σ' => an6 fun eq0 h1 h2 h3 h4 h5 => ?_
  subst eq0
  walk_at "ret"
  repeat walk_at "w"
  refine ⟨Nat.le_of_ble_eq_true rfl, ?_⟩
  exact leave_pure (.tup (.cons (.rdict (Nat.le_refl _) (y0 _) (.low (lowLaw _))) (.cons (.low .int) .nil))) q
end
section
variable {p : Pk} {σ : Sto} {ρ : Rho} {Q : Post}
noncomputable def okC (ie : Bool) (num : Int) (l : List Int) : Bool := decide ((l.length : Int) = num) || (decide ((l.length : Int) < num) && !ie)
noncomputable def narrow (x : Str) (F : List (List Int)) (y : Bool × Int × Str) : List (List Int) := if y.2.2 = x then F.filter (okC y.1 y.2.1) else F
noncomputable def dueL (par x : Str) (s : Bool) (as : List Int) (tl : List (Bool × Int × Str)) : List (List Int) :=
  if par = "" then (if s then [as] else sortM (setsL as)) else tl.foldl (narrow x) (sortM (setsL as))
theorem lowLists {n : Nat} (l : List (List Int)) : LowL n (l.map lstI) := lowMap (f := lstI) (fun _ => .lst (lowInts _)) _
theorem c_due (ok : p.G.Ok) {k : Nat} {rows : List Row} {r : Row} {t : Str} {a : At} {b c n : Nat} {s : Bool} {tl : List (Bool × Int × Str)} (hnd : (names rows).Nodup) (hz : rows.length < 1000) (hr : r ∈ rows) (T : Top rows r.n t) (hl : a.lots.lookup t = some (b, c, s)) (hc : c ≤ 2) (htl : tl.length < 100)
    (hmem : ∀ l ∈ sortM (setsL (rngI b c)), l.length ≤ 2) (hlen : (sortM (setsL (rngI b c))).length ≤ 4)
    (q : Q (.lst ((dueL r.par r.n s (rngI b c) tl).map lstI)) σ) {env : Env} : CWP ⟨p.G, k + 2, env⟩ (.cst (.ref 614)) [.lst (rows.map rowT), .tup [.int n, .tup (tl.map tr)], .sd (lawD a), rowT r] σ Q := by
  refine cwp_def ok (ok_due p) (Nat.le_refl _) rfl fun L => ?_
  walk_at "open"
  walk_at "asg"
  repeat walk_at "w"
  show AWP _ _ _ (.tup [.str r.n, .str r.m, .str r.par]) _ _ _
  with_reducible refine awp_tuple (fun _ h => h) ?_ rfl ?he
  case he => exact rfl
  with_reducible refine als_cons ?_
  walk_at "loc"
  with_reducible refine als_cons ?_
  walk_at "loc"
  with_reducible refine als_cons ?_
  walk_at "loc"
  with_reducible refine als_nil ?_
  walk_at "asg"
  repeat walk_at "w"
  refine ⟨k_592 p, ?_⟩
  repeat walk_at "w"
  with_reducible refine c_ltop ok hnd hz T ?_
  with_reducible refine sub_dict ok .f (p := lawV (b, c, s)) ?e1 ?_ ?isub
  case e1 => rw [look_lawD, hl]; rfl
  case isub => intro _ _; rfl
  show AWP _ _ _ (.tup [.bool s, .lst ((rngI b c).map .int)]) _ _ _
  with_reducible refine awp_tuple (fun _ h => h) ?_ rfl ?he
  case he => exact rfl
  with_reducible refine als_cons ?_
  walk_at "loc"
  with_reducible refine als_cons ?_
  walk_at "loc"
  with_reducible refine als_nil ?_
  have hset4 : (setsL (rngI b c)).length ≤ 4 := by
    rw [setsL_len]
    have : (rngI b c).length = c := by simp [rngI]
    rw [this]
    exact Nat.pow_le_pow_right (n := 2) (by lia) hc
  have hr8 : (rngI b c).length ≤ 8 := by simp [rngI]; lia
  walk_at "if"
  repeat walk_at "w"
  unfold dueL at q
  by_cases hp : r.par = ""
  · rw [if_pos hp] at q
    first | with_reducible refine iteD hp ?_ | with_reducible refine iteND hp ?_ | rw [decide_eq_true hp]
    repeat walk_at "w"
    walk_at "ret"
    repeat walk_at "w"
    cases s
    · repeat walk_at "w"
      refine ⟨k_604 p, ?_⟩
      repeat walk_at "w"
      with_reducible refine c_sets ok .f hr8 ?_
      repeat walk_at "w"
      with_reducible refine cwp_sorted .f hset4 ?_
      exact leave_id (.lst (lowLists _)) q
    · repeat walk_at "w"
      with_reducible refine ewp_list ?_
      repeat walk_at "w"
      refine ⟨Nat.le_of_ble_eq_true rfl, ?_⟩
      exact leave_id (.lst (lowLists [rngI b c])) q
  · rw [if_neg hp] at q
    first | with_reducible refine iteDN hp ?_ | with_reducible refine iteNDN hp ?_ | rw [decide_eq_false hp]
    repeat walk_at "w"
    with_reducible refine swp_nil ?_
    walk_at "asg"
    repeat walk_at "w"
    refine ⟨k_604 p, ?_⟩
    repeat walk_at "w"
    with_reducible refine c_sets ok .f hr8 ?_
    repeat walk_at "w"
    with_reducible refine cwp_sorted .f hset4 ?_
    walk_at "loc"
    with_reducible refine swp_cons (s1_for ?_ ?hset)
    case hset => intro _; rfl
    repeat walk_at "w"
    with_reducible refine sub_tupN 1 (p := .tup (tl.map tr)) ?e1 (by decide) ?e2 ?_ ?isub
    case e1 => rfl
    case e2 => exact rfl
    case isub => intro _ _; rfl
    refine ⟨tl.map tr, ?_⟩
    have hmemF : ∀ (d : List (Bool × Int × Str)) (F : List (List Int)), (∀ l ∈ F, l.length ≤ 2) ∧ F.length ≤ 4 → (∀ l ∈ d.foldl (narrow r.n) F, l.length ≤ 2) ∧ (d.foldl (narrow r.n) F).length ≤ 4 := by
      intro d
      induction d with
      | nil => intro F h; exact h
      | cons y d ih =>
        intro F h
        rw [List.foldl_cons]
        refine ih _ ?_
        unfold narrow
        split
        · exact ⟨fun l hl => h.1 l (List.mem_filter.mp hl).1, Nat.le_trans (List.length_filter_le _ _) h.2⟩
        · exact h
    with_reducible refine for_ind tr tl (fun d ρ σ' => σ' = σ ∧ ρ.lookup ("name" : Str) = some (.str r.n) ∧ ρ.lookup ("found" : Str) = some (.lst ((d.foldl (narrow r.n) (sortM (setsL (rngI b c)))).map lstI))) rfl ?hS ?step ?h0 ?_
    case hS => refine fun d ρ σ' => an2 fun eq0 _ => ?_; subst eq0; exact .tup
    case h0 => exact ⟨rfl, rfl, rfl⟩
    case step =>
      refine fun d y rr e ρ σ' => an3 fun eq0 h1 h2 => ?_
      subst eq0
      have hF := hmemF d _ ⟨hmem, hlen⟩
      rw [List.foldl_append, List.foldl_cons, List.foldl_nil]
      generalize d.foldl (narrow r.n) (sortM (setsL (rngI b c))) = F at h2 hF ⊢
      show AWP _ _ _ (.tup [.bool y.1, .int y.2.1, .str y.2.2]) _ _ _
      with_reducible refine awp_tuple (fun _ h => h) ?_ rfl ?he
      case he => exact rfl
      with_reducible refine als_cons ?_
      walk_at "cell"
      with_reducible refine als_cons ?_
      walk_at "cell"
      with_reducible refine als_cons ?_
      walk_at "loc"
      with_reducible refine als_nil ?_
      have g1 : (rset "sig" (.str y.2.2) (rset "number" (.int y.2.1) (rset "is_exact" (.bool y.1) ρ))).lookup ("name" : Str) = some (.str r.n) := look_ne (look_ne (look_ne h1 (by decide)) (by decide)) (by decide)
      have g2 : (rset "sig" (.str y.2.2) (rset "number" (.int y.2.1) (rset "is_exact" (.bool y.1) ρ))).lookup ("found" : Str) = some (.lst (F.map lstI)) := look_ne (look_ne (look_ne h2 (by decide)) (by decide)) (by decide)
      have g3 : (rset "sig" (.str y.2.2) (rset "number" (.int y.2.1) (rset "is_exact" (.bool y.1) ρ))).lookup ("number" : Str) = some (.int y.2.1) := look_ne (rset_self _ _ _) (by decide)
      have g4 : (rset "sig" (.str y.2.2) (rset "number" (.int y.2.1) (rset "is_exact" (.bool y.1) ρ))).lookup ("is_exact" : Str) = some (.bool y.1) := look_ne (look_ne (rset_self _ _ _) (by decide)) (by decide)
      have g5 : (rset "sig" (.str y.2.2) (rset "number" (.int y.2.1) (rset "is_exact" (.bool y.1) ρ))).lookup ("sig" : Str) = some (.str y.2.2) := rset_self _ _ _
      generalize (rset "sig" (.str y.2.2) (rset "number" (.int y.2.1) (rset "is_exact" (.bool y.1) ρ))) = ρ1 at g1 g2 g3 g4 g5 ⊢
      walk_at "if"
      repeat walk_at "w"
      unfold narrow
      by_cases hq : y.2.2 = r.n
      · rw [decide_eq_true hq, if_pos hq]
        repeat walk_at "w"
        walk_at "cmp"
        repeat walk_at "w"
        refine ⟨F.map lstI, szl (by rw [List.length_map]; lia), fun C2 => ?_⟩
        with_reducible refine comp_filterE lstI (fun l => if okC y.1 y.2.1 l then some (lstI l) else none) (fun ρ => ρ.lookup ("number" : Str) = some (.int y.2.1) ∧ ρ.lookup ("is_exact" : Str) = some (.bool y.1)) F rfl (.lst .f) (fun l hlF ρ' hj => ?_) ?hi ?_
        case hi => exact ⟨rfree_keep rfl g3, rfree_keep rfl g4⟩
        · have hl2 := hF.1 l hlF
          walk_at "tgt"
          have m1 : (rset "late" (lstI l) ρ').lookup ("number" : Str) = some (.int y.2.1) := look_ne hj.1 (by decide)
          have m2 : (rset "late" (lstI l) ρ').lookup ("is_exact" : Str) = some (.bool y.1) := look_ne hj.2 (by decide)
          with_reducible refine tests_one ?_
          with_reducible refine BWP.mono (Q := fun b s => b = okC y.1 y.2.1 l ∧ s = σ') ?_ ?_
          · repeat walk_at "w"
            with_reducible refine cwp_len_lst (.f (l := l.map .int)) (by rw [List.length_map]; lia) ?_
            rw [List.length_map]
            repeat walk_at "w"
            unfold okC
            by_cases e1 : (l.length : Int) = y.2.1
            · rw [show ((l.length : Int) == y.2.1) = true from beq_iff_eq.mpr e1, decide_eq_true e1]
              repeat walk_at "w"
              exact ⟨rfl, rfl⟩
            · rw [show ((l.length : Int) == y.2.1) = false from beq_eq_false_iff_ne.mpr e1, decide_eq_false e1]
              repeat walk_at "w"
              with_reducible refine cwp_len_lst (.f (l := l.map .int)) (by rw [List.length_map]; lia) ?_
              rw [List.length_map]
              repeat walk_at "w"
              by_cases e2 : (l.length : Int) < y.2.1
              · rw [decide_eq_true e2]
                repeat walk_at "w"
                cases y.1
                · repeat walk_at "w"
                  exact ⟨rfl, rfl⟩
                · repeat walk_at "w"
                  exact ⟨rfl, rfl⟩
              · rw [decide_eq_false e2]
                repeat walk_at "w"
                exact ⟨rfl, rfl⟩
          · refine fun b s => an2 fun eq0 eq1 => ?_; subst eq0 eq1
            cases hok : okC y.1 y.2.1 l
            · with_reducible refine iteF ⟨by simp [hok], rfl, m1, m2⟩
            · repeat walk_at "w"
              exact ⟨by simp [hok], rfl, m1, m2⟩
        have hfm : F.filterMap (fun l => if okC y.1 y.2.1 l then some (lstI l) else none) = (F.filter (okC y.1 y.2.1)).map lstI := by
          clear h2 hF g2
          induction F with
          | nil => rfl
          | cons l F ih =>
            rw [List.filterMap_cons, List.filter_cons, ih]
            cases okC y.1 y.2.1 l <;> simp
        rw [hfm]
        with_reducible refine swp_nil ?_
        with_reducible refine swp_nil ?_
        exact ⟨rfl, look_ne g1 (by decide), rset_self _ _ _⟩
      · rw [decide_eq_false hq, if_neg hq]
        repeat walk_at "w"
        with_reducible refine swp_nil ?_
        with_reducible refine swp_nil ?_
        exact ⟨rfl, g1, g2⟩
    refine fun ρ σ' => an3 fun eq0 h1 h2 => ?_
    subst eq0
    walk_at "ret"
    repeat walk_at "w"
    exact leave_id (.lst (lowLists _)) q
end
section
variable {p : Pk} {σ : Sto} {ρ : Rho} {Q : Post}
theorem datInts : ∀ xs : List Int, DatVs σ (xs.map .int) (xs.map .int)
  | [] => .nil
  | _ :: xs => .cons .int (datInts xs)
theorem canInts : ∀ xs : List Int, PyData.canLayAll0 (xs.map .int) = true
  | [] => rfl
  | x :: xs => by
    rw [List.map_cons]
    unfold PyData.canLayAll0
    rw [canInts xs]; rfl
theorem depthInts : ∀ xs : List Int, PyData.depthAll (xs.map .int) ≤ 1
  | [] => by simp [PyData.depthAll]
  | x :: xs => by
    have := depthInts xs
    rw [List.map_cons]
    unfold PyData.depthAll PyData.depth
    lia
noncomputable abbrev dInts (l : List Int) : PyData := .list (l.map .int)
noncomputable abbrev dTup (l : List Int) : PyData := .tuple (l.map .int)
theorem shapedInt (i : Int) : SeqAt.shaped (.int i) = true := by unfold SeqAt.shaped; simp [PyData.depth, PyData.canLay0]
theorem shapedInts (l : List Int) : SeqAt.shaped (dInts l) = true := by
  unfold SeqAt.shaped PyData.canLay0
  rw [canInts]
  have := depthInts l
  rw [Bool.true_and]
  exact decide_eq_true (by simp only [PyData.depth]; lia)
theorem canAll {α : Type} {f : α → PyData} (h : ∀ a, PyData.canLay0 (f a) = true) : ∀ l : List α, PyData.canLayAll0 (l.map f) = true
  | [] => rfl
  | x :: xs => by
    rw [List.map_cons]
    unfold PyData.canLayAll0
    rw [h, canAll h xs]; rfl
theorem depthAllLe {α : Type} {f : α → PyData} {n : Nat} (h : ∀ a, PyData.depth (f a) ≤ n) : ∀ l : List α, PyData.depthAll (l.map f) ≤ n
  | [] => by simp [PyData.depthAll]
  | x :: xs => by
    have := depthAllLe h xs
    have := h x
    rw [List.map_cons]
    unfold PyData.depthAll
    lia
theorem canDInts (l : List Int) : PyData.canLay0 (dInts l) = true := by unfold PyData.canLay0; exact canInts l
theorem depthDInts (l : List Int) : PyData.depth (dInts l) ≤ 2 := by have := depthInts l; simp only [PyData.depth]; lia
theorem shapedLists (ls : List (List Int)) : SeqAt.shaped (.list (ls.map dInts)) = true := by
  unfold SeqAt.shaped PyData.canLay0
  rw [canAll canDInts]
  have := depthAllLe depthDInts ls
  rw [Bool.true_and]
  exact decide_eq_true (by simp only [PyData.depth]; lia)
theorem datLists : ∀ ls : List (List Int), DatVs σ (ls.map lstI) (ls.map dInts)
  | [] => .nil
  | l :: ls => .cons (.lst (datInts l)) (datLists ls)
theorem eqvInts : ∀ a b : List Int, PyData.eqvAll (a.map .int) (b.map .int) = decide (a = b)
  | [], [] => rfl
  | [], _ :: _ => rfl
  | _ :: _, [] => rfl
  | x :: xs, y :: ys => by
    show (x == y && PyData.eqvAll (xs.map .int) (ys.map .int)) = _
    rw [eqvInts xs ys]
    by_cases h1 : x = y <;> by_cases h2 : xs = ys <;> simp [h1, h2]
theorem eqvLists : ∀ a b : List (List Int), PyData.eqvAll (a.map dInts) (b.map dInts) = decide (a = b)
  | [], [] => rfl
  | [], _ :: _ => rfl
  | _ :: _, [] => rfl
  | x :: xs, y :: ys => by
    show (PyData.eqvAll (x.map .int) (y.map .int) && PyData.eqvAll (xs.map dInts) (ys.map dInts)) = _
    rw [eqvLists xs ys, eqvInts]
    by_cases h1 : x = y <;> by_cases h2 : xs = ys <;> simp [h1, h2]
theorem anyInts (x : Int) : ∀ xs : List Int, ((xs.map PyData.int).any fun y => PyData.eqv y (.int x)) = decide (x ∈ xs)
  | [] => by simp
  | y :: ys => by
    rw [List.map_cons, List.any_cons, anyInts x ys]
    show (y == x || decide (x ∈ ys)) = _
    by_cases h : y = x
    · simp [h]
    · have : (y == x) = false := beq_eq_false_iff_ne.mpr h
      rw [this, Bool.false_or]
      simp [Ne.symm h]
theorem o2_notin_ints {c : Cx} {xs : List Int} {x : Int} {Q : Post} (q : Q (.bool (!decide (x ∈ xs))) σ) : O2 c (fun v w => operate [v, w] (compareOp .NotIn v w)) (.int x) (lstI xs) σ Q := by
  refine o2_notin .int (.inl (.lst (datInts xs))) (shapedInt x) (canInts xs) ?_
  rw [anyInts]; exact q
theorem o2_eq_nilI {c : Cx} {xs : List Int} {Q : Post} (q : Q (.bool (decide (xs = []))) σ) : O2 c (fun v w => operate [v, w] (compareOp .Eq v w)) (lstI xs) (.lst []) σ Q := by
  refine o2_eq (.lst (datInts xs)) (.lst (datInts [])) (shapedInts xs) (shapedInts []) ?_
  show Q (.bool (PyData.eqvAll _ _)) σ
  rw [eqvInts]; exact q
theorem o2_ne_lists {c : Cx} {a b : List (List Int)} {Q : Post} (q : Q (.bool (!decide (a = b))) σ) : O2 c (fun v w => operate [v, w] (compareOp .NotEq v w)) (.lst (a.map lstI)) (.lst (b.map lstI)) σ Q := by
  refine o2_ne (.lst (datLists a)) (.lst (datLists b)) (shapedLists a) (shapedLists b) ?_
  show Q (.bool (!PyData.eqvAll _ _)) σ
  rw [eqvLists]; exact q
/-- what a formula is about -/
noncomputable def aboutV (i : Int) : PV := .tup [.str "count", .tup [.str "rel", .int i]]
noncomputable def aboutD (i : Int) : PyData := .tuple [.str "count", .tuple [.str "rel", .int i]]
theorem shapedAbout (i : Int) : SeqAt.shaped (aboutD i) = true := by
  have h : SeqAt.shaped (aboutD 0) = true := by decide +kernel
  exact h
theorem o2_eq_about {c : Cx} {i j : Int} {Q : Post} (q : Q (.bool (decide (i = j))) σ) : O2 c (fun v w => operate [v, w] (compareOp .Eq v w)) (aboutV i) (aboutV j) σ Q := by
  refine o2_eq (.tup (.cons .str (.cons (.tup (.cons .str (.cons .int .nil))) .nil))) (.tup (.cons .str (.cons (.tup (.cons .str (.cons .int .nil))) .nil))) (shapedAbout i) (shapedAbout j) ?_
  have : PyData.eqv (aboutD i) (aboutD j) = decide (i = j) := by
    show ((("count" : Str) == "count") && (((("rel" : Str) == "rel") && ((i == j) && true)) && true)) = _
    by_cases h : i = j
    · subst h; simp
    · simp [h]
  show Q (.bool (PyData.eqv (aboutD i) (aboutD j))) σ
  rw [this]; exact q
noncomputable def okL (low high : List Int) (fs : List (Nat × Bool × Int × Str)) (r : Nat) (some : List Int) : Bool :=
  (decide (low.filter (fun a => !decide (a ∈ some)) = []) && decide (some.filter (fun a => !decide (a ∈ high)) = [])) && fs.all fun f => !decide (f.1 = r) || okC f.2.1 f.2.2.1 some
noncomputable def letL (low high : List Int) (fs : List (Nat × Bool × Int × Str)) (r N : Nat) : List (List Int) := sortM ((setsL (rngI 0 N)).filter (okL low high fs r))
end
section
variable {p : Pk} {σ : Sto} {ρ : Rho} {Q : Post}
noncomputable abbrev ones (l : List Int) : List (List Int) := l.map fun x => [x]
theorem fmNot (b : List Int) : ∀ l : List Int, l.filterMap (fun x => if x ∈ b then none else some (PV.int x)) = (l.filter (fun x => !decide (x ∈ b))).map .int
  | [] => rfl
  | x :: l => by
    rw [List.filterMap_cons, List.filter_cons, fmNot b l]
    by_cases h : x ∈ b <;> simp [h]
theorem c_let (ok : p.G.Ok) {k : Nat} {bnd : PV} {fsB : List (Str × PV)} {bs : List PV} {nm : Str} {low high : List Int} {fs : List (Nat × Bool × Int × Str)} {r N : Nat} (B : BV σ bnd bs) (VB : InstV σ bnd 284 fsB) (hm1 : fsB.lookup ("lower" : Str) = Option.none) (hm2 : fsB.lookup ("upper" : Str) = Option.none) (hb : bs.length < 1000) (hr : bs[r]? = some (entry nm 1 (ones low) (ones high))) (hN : N ≤ 8)
    (hlow : low.length ≤ 100) (hhigh : high.length ≤ 100) (hfs : fs.length ≤ 100) (hlen : ((setsL (rngI 0 N)).filter (okL low high fs r)).length ≤ 4)
    (q : Q (.lst ((letL low high fs r N).map lstI)) σ) {env : Env} : CWP ⟨p.G, k + 2, env⟩ (.cst (.ref 619)) [bnd, .lst (fs.map lblV), .int r, .int N] σ Q := by
  refine cwp_def ok (ok_let p) (Nat.le_refl _) rfl fun L => ?_
  walk_at "open"
  walk_at "asg"
  repeat walk_at "w"
  walk_at "ecmp"
  repeat walk_at "w"
  with_reducible refine KM.i (m1_of ok VB (me_284_lower p) hm1) (k_267 p) ?_
  repeat walk_at "w"
  with_reducible refine c_lower ok B hb hr ?_
  repeat walk_at "w"
  with_reducible refine KM.i (m1_of ok VB (me_284_upper p) hm2) (k_274 p) ?_
  repeat walk_at "w"
  with_reducible refine c_upper ok B hb hr ?_
  repeat walk_at "w"
  refine ⟨Nat.le_of_ble_eq_true rfl, ?_⟩
  refine ⟨[rel (ones low), rel (ones high)], Nat.le_of_ble_eq_true rfl, fun C1 => ?_⟩
  with_reducible refine comp_filterE (fun l : List Int => rel (ones l)) (fun l => some (lstI l)) (fun _ => True) [low, high] rfl .tup (fun l hl ρ' _ => ?_) trivial ?_
  · walk_at "tgt"
    have hl2 : l.length ≤ 100 := by
      rcases List.mem_cons.mp hl with rfl | hl
      · exact hlow
      · rw [List.mem_singleton.mp hl]; exact hhigh
    with_reducible refine tests_nil ?_
    repeat walk_at "w"
    walk_at "ecmp"
    repeat walk_at "w"
    refine ⟨(ones l).map tupI, szl (by simp; lia), fun C2 => ?_⟩
    with_reducible refine comp_filterE (fun x : Int => tupI [x]) (fun x => some (.int x)) (fun _ => True) l ?hL .tup (fun x hx ρ' _ => ?_) trivial ?_
    case hL => rw [List.map_map]; rfl
    · walk_at "tgt"
      with_reducible refine tests_nil ?_
      repeat walk_at "w"
      show SubA _ _ _ (.tup [.int x]) _ _ _
      with_reducible refine sub_tupN 0 (p := .int x) ?e1 (by decide) ?e2 ?_ ?isub
      case e1 => rfl
      case e2 => exact rfl
      case isub => intro _ _; rfl
      exact ⟨rfl, rfl, trivial⟩
    have hfm : l.filterMap (fun x => some (PV.int x)) = l.map .int := by rw [← List.filterMap_eq_map]; rfl
    rw [hfm]
    exact ⟨rfl, rfl, trivial⟩
  show AWP _ _ _ (.lst [lstI low, lstI high]) _ _ _
  with_reducible refine awp_unlist (fun _ h => h) .f ?_ ?hln ?he
  case hln => rfl
  case he => rfl
  with_reducible refine als_cons ?_
  walk_at "loc"
  with_reducible refine als_cons ?_
  walk_at "cell"
  with_reducible refine als_nil ?_
  walk_at "asg"
  with_reducible refine ewp_list_m ?_
  repeat walk_at "w"
  refine ⟨Nat.le_of_ble_eq_true rfl, ?_⟩
  walk_at "loc"
  have y0 : ∀ (a : PO), (σ ++ [a])[σ.length]? = some a := fun a => by simp
  have w0 : ∀ (a a' : PO), (σ ++ [a]).set σ.length a' = σ ++ [a'] := fun a a' => by rw [List.set_append_right _ _ (by lia)]; simp
  with_reducible refine swp_cons (s1_for ?_ ?hset)
  case hset => intro _; rfl
  repeat walk_at "w"
  refine ⟨k_604 p, ?_⟩
  repeat walk_at "w"
  with_reducible refine cwp_range1 ?_
  repeat walk_at "w"
  have hr0 : rngL 0 (N : Int) = (rngI 0 N).map .int := by
    unfold rngL rngI
    rw [List.map_map]
    simp
  with_reducible refine cwp_list_rng (by unfold RngOk; lia) (by lia) ?_
  rw [hr0]
  repeat walk_at "w"
  with_reducible refine c_sets ok .f (by simp [rngI]; lia) ?_
  refine ⟨(setsL (rngI 0 N)).map lstI, ?_⟩
  have hsm := setsL_mem (rngI 0 N)
  have hri : (rngI 0 N).length = N := by simp [rngI]
  rw [hri] at hsm
  with_reducible refine for_ind lstI (setsL (rngI 0 N)) (fun d ρ σ' => σ' = σ ++ [.list ((d.filter (okL low high fs r)).map lstI)] ∧ ρ.lookup ("low" : Str) = some (lstI low) ∧ ρ.lookup ("high" : Str) = some (lstI high) ∧ ρ.lookup ("labelled" : Str) = some (.lst (fs.map lblV)) ∧ ρ.lookup ("r" : Str) = some (.int r) ∧ ρ.lookup ("found" : Str) = some (.ref σ.length)) rfl ?hS ?step ?h0 ?_
  case hS => refine fun d ρ σ' => an2 fun eq0 _ => ?_; subst eq0; exact .lst .f
  case h0 => exact ⟨rfl, rfl, rfl, rfl, rfl, rfl⟩
  case step =>
    refine fun d a rr e ρ σ' => an6 fun eq0 h1 h2 h3 h4 h5 => ?_
    subst eq0
    have ha := hsm a (by rw [← e]; simp)
    have hd : (d.filter (okL low high fs r)).length ≤ 4 := by
      rw [← e, List.filter_append, List.length_append] at hlen
      lia
    walk_at "cell"
    have g1 := look_ne (v := lstI a) (x := "some") h1 (by decide)
    have g2 := look_ne (v := lstI a) (x := "some") h2 (by decide)
    have g3 := look_ne (v := lstI a) (x := "some") h3 (by decide)
    have g4 := look_ne (v := lstI a) (x := "some") h4 (by decide)
    have g5 := look_ne (v := lstI a) (x := "some") h5 (by decide)
    have g6 := rset_self ("some" : Str) (lstI a) ρ
    generalize rset "some" (lstI a) ρ = ρ1 at g1 g2 g3 g4 g5 g6 ⊢
    walk_at "asg"
    with_reducible refine EWP.mono (Q := fun v s => v = .bool (decide (low.filter (fun x => !decide (x ∈ a)) = []) && decide (a.filter (fun x => !decide (x ∈ high)) = [])) ∧ s = σ ++ [.list ((d.filter (okL low high fs r)).map lstI)]) ?_ ?_
    · with_reducible refine ewp_and2 ?_
      repeat walk_at "w"
      walk_at "ecmp"
      repeat walk_at "w"
      refine ⟨low.map .int, szl (by rw [List.length_map]; lia), fun C3 => ?_⟩
      with_reducible refine comp_filterE PV.int (fun x => if x ∈ a then none else some (.int x)) (fun ρ => ρ.lookup ("some" : Str) = some (lstI a)) low rfl (.lst .f) (fun x hx ρ' hj => ?_) ?hi ?_
      case hi => exact rfree_keep rfl g6
      · walk_at "tgt"
        have hj2 := look_ne (v := PV.int x) (x := "a") hj (by decide)
        with_reducible refine tests_one ?_
        repeat walk_at "w"
        with_reducible refine o2_notin_ints ?_
        repeat walk_at "w"
        by_cases hxa : x ∈ a
        · rw [decide_eq_true hxa]
          with_reducible refine iteNT ⟨by rw [if_pos hxa], rfl, hj2⟩
        · rw [decide_eq_false hxa]
          repeat walk_at "w"
          exact ⟨by rw [if_neg hxa], rfl, hj2⟩
      rw [fmNot]
      with_reducible refine ewp_list ?_
      repeat walk_at "w"
      refine ⟨Nat.le_of_ble_eq_true rfl, ?_⟩
      show O2 _ _ (lstI _) (.lst []) _ _
      with_reducible refine o2_eq_nilI ?_
      repeat walk_at "w"
      by_cases c1 : low.filter (fun x => !decide (x ∈ a)) = []
      · rw [decide_eq_true c1]
        repeat walk_at "w"
        walk_at "ecmp"
        repeat walk_at "w"
        refine ⟨a.map .int, szl (by rw [List.length_map]; lia), fun C4 => ?_⟩
        with_reducible refine comp_filterE PV.int (fun x => if x ∈ high then none else some (.int x)) (fun ρ => ρ.lookup ("high" : Str) = some (lstI high)) a rfl (.lst .f) (fun x hx ρ' hj => ?_) ?hi ?_
        case hi => exact rfree_keep rfl g2
        · walk_at "tgt"
          have hj2 := look_ne (v := PV.int x) (x := "a") hj (by decide)
          with_reducible refine tests_one ?_
          repeat walk_at "w"
          with_reducible refine o2_notin_ints ?_
          repeat walk_at "w"
          by_cases hxa : x ∈ high
          · rw [decide_eq_true hxa]
            with_reducible refine iteNT ⟨by rw [if_pos hxa], rfl, hj2⟩
          · rw [decide_eq_false hxa]
            repeat walk_at "w"
            exact ⟨by rw [if_neg hxa], rfl, hj2⟩
        rw [fmNot]
        with_reducible refine ewp_list ?_
        repeat walk_at "w"
        refine ⟨Nat.le_of_ble_eq_true rfl, ?_⟩
        show O2 _ _ (lstI _) (.lst []) _ _
        with_reducible refine o2_eq_nilI ?_
        exact ⟨by rw [Bool.true_and], rfl⟩
      · rw [decide_eq_false c1]
        with_reducible refine iteF ⟨by rw [Bool.false_and], rfl⟩
    rintro _ _ ⟨rfl, rfl⟩
    walk_at "loc"
    obtain ⟨c0, hc0⟩ : ∃ c0, (decide (low.filter (fun x => !decide (x ∈ a)) = []) && decide (a.filter (fun x => !decide (x ∈ high)) = [])) = c0 := ⟨_, rfl⟩
    rw [hc0]
    have k1 := look_ne (v := PV.bool c0) (x := "is_let") g1 (by decide)
    have k2 := look_ne (v := PV.bool c0) (x := "is_let") g2 (by decide)
    have k3 := look_ne (v := PV.bool c0) (x := "is_let") g3 (by decide)
    have k4 := look_ne (v := PV.bool c0) (x := "is_let") g4 (by decide)
    have k5 := look_ne (v := PV.bool c0) (x := "is_let") g5 (by decide)
    have k6 := look_ne (v := PV.bool c0) (x := "is_let") g6 (by decide)
    have k7 := rset_self ("is_let" : Str) (PV.bool c0) ρ1
    generalize rset "is_let" (PV.bool c0) ρ1 = ρ2 at k1 k2 k3 k4 k5 k6 k7 ⊢
    with_reducible refine swp_cons (s1_for ?_ ?hset)
    case hset => intro _; rfl
    repeat walk_at "w"
    refine ⟨fs.map lblV, ?_⟩
    with_reducible refine for_ind lblV fs (fun dd ρ σ' => σ' = σ ++ [.list ((d.filter (okL low high fs r)).map lstI)] ∧ ρ.lookup ("low" : Str) = some (lstI low) ∧ ρ.lookup ("high" : Str) = some (lstI high) ∧ ρ.lookup ("labelled" : Str) = some (.lst (fs.map lblV)) ∧ ρ.lookup ("r" : Str) = some (.int r) ∧ ρ.lookup ("found" : Str) = some (.ref σ.length) ∧ ρ.lookup ("some" : Str) = some (lstI a) ∧ ρ.lookup ("is_let" : Str) = some (.bool (c0 && dd.all fun f => !decide (f.1 = r) || okC f.2.1 f.2.2.1 a))) rfl ?hS ?step2 ?h0 ?_
    case hS => refine fun d ρ σ' => an2 fun eq0 _ => ?_; subst eq0; exact .lst .f
    case h0 => exact ⟨rfl, k1, k2, k3, k4, k5, k6, by simpa using k7⟩
    case step2 =>
      refine fun dd f r2 e2 ρ σ' => an8 fun eq0 m1 m2 m3 m4 m5 m6 m7 => ?_
      subst eq0
      show AWP _ _ _ (.tup [.str _, fmV f.2.1 f.1 f.2.2.1]) _ _ _
      with_reducible refine awp_tuple (fun _ h => h) ?_ rfl ?he
      case he => exact rfl
      with_reducible refine als_cons ?_
      walk_at "loc"
      with_reducible refine als_cons ?_
      walk_at "loc"
      with_reducible refine als_nil ?_
      obtain ⟨lab, hlab⟩ : ∃ lab, ("scope " : Str) ++ f.2.2.2 = lab := ⟨_, rfl⟩
      rw [hlab]
      have hup : ∀ {x : Str} {v : PV}, ρ.lookup x = some v → x ≠ "label" → x ≠ "formula" → (rset "formula" (fmV f.2.1 f.1 f.2.2.1) (rset "label" (.str lab) ρ)).lookup x = some v := fun h n1 n2 => look_ne (look_ne h n1) n2
      have n1 := hup m1 (by decide) (by decide)
      have n2 := hup m2 (by decide) (by decide)
      have n3 := hup m3 (by decide) (by decide)
      have n4 := hup m4 (by decide) (by decide)
      have n5 := hup m5 (by decide) (by decide)
      have n6 := hup m6 (by decide) (by decide)
      have n7 := hup m7 (by decide) (by decide)
      have n8 := rset_self ("formula" : Str) (fmV f.2.1 f.1 f.2.2.1) (rset "label" (.str lab) ρ)
      generalize rset "formula" (fmV f.2.1 f.1 f.2.2.1) (rset "label" (.str lab) ρ) = ρ4 at n1 n2 n3 n4 n5 n6 n7 n8 ⊢
      rw [List.all_append, List.all_cons, List.all_nil, Bool.and_true, ← Bool.and_assoc]
      generalize (c0 && dd.all fun f => !decide (f.1 = r) || okC f.2.1 f.2.2.1 a) = c1 at n7 ⊢
      walk_at "if"
      repeat walk_at "w"
      with_reducible refine sub_tupN 1 (p := aboutV f.1) ?e1 (by decide) ?e2 ?_ ?isub
      case e1 => rfl
      case e2 => exact rfl
      case isub => intro _ _; rfl
      repeat walk_at "w"
      refine ⟨Nat.le_of_ble_eq_true rfl, ?_⟩
      repeat walk_at "w"
      refine ⟨Nat.le_of_ble_eq_true rfl, ?_⟩
      show O2 _ _ (aboutV _) (aboutV _) _ _
      with_reducible refine o2_eq_about ?_
      repeat walk_at "w"
      by_cases hq : f.1 = r
      · rw [decide_eq_true (show (f.1 : Int) = r by lia), decide_eq_true hq, Bool.not_true, Bool.false_or]
        repeat walk_at "w"
        walk_at "asg"
        repeat walk_at "w"
        with_reducible refine sub_tupN 2 (p := .tup [.str "num", .int f.2.2.1]) ?e1 (by decide) ?e2 ?_ ?isub
        case e1 => rfl
        case e2 => exact rfl
        case isub => intro _ _; rfl
        repeat walk_at "w"
        with_reducible refine sub_tupN 1 (p := .int f.2.2.1) ?e1 (by decide) ?e2 ?_ ?isub
        case e1 => rfl
        case e2 => exact rfl
        case isub => intro _ _; rfl
        walk_at "loc"
        have o1 := look_ne (v := PV.int f.2.2.1) (x := "number") n1 (by decide)
        have o2 := look_ne (v := PV.int f.2.2.1) (x := "number") n2 (by decide)
        have o3 := look_ne (v := PV.int f.2.2.1) (x := "number") n3 (by decide)
        have o4 := look_ne (v := PV.int f.2.2.1) (x := "number") n4 (by decide)
        have o5 := look_ne (v := PV.int f.2.2.1) (x := "number") n5 (by decide)
        have o6 := look_ne (v := PV.int f.2.2.1) (x := "number") n6 (by decide)
        have o7 := look_ne (v := PV.int f.2.2.1) (x := "number") n7 (by decide)
        have o8 := look_ne (v := PV.int f.2.2.1) (x := "number") n8 (by decide)
        have o9 := rset_self ("number" : Str) (PV.int f.2.2.1) ρ4
        generalize rset "number" (PV.int f.2.2.1) ρ4 = ρ5 at o1 o2 o3 o4 o5 o6 o7 o8 o9 ⊢
        walk_at "asg"
        with_reducible refine EWP.mono (Q := fun v s => v = .bool (c1 && okC f.2.1 f.2.2.1 a) ∧ s = σ ++ [.list ((d.filter (okL low high fs r)).map lstI)]) ?_ ?_
        · with_reducible refine ewp_and2 ?_
          repeat walk_at "w"
          cases c1
          · with_reducible refine iteF ⟨rfl, rfl⟩
          · repeat walk_at "w"
            with_reducible refine ewp_or2 ?_
            repeat walk_at "w"
            with_reducible refine cwp_len_lst (.f (l := a.map .int)) (by rw [List.length_map]; lia) ?_
            rw [List.length_map]
            repeat walk_at "w"
            unfold okC
            by_cases e1 : (a.length : Int) = f.2.2.1
            · rw [show ((a.length : Int) == f.2.2.1) = true from beq_iff_eq.mpr e1, decide_eq_true e1]
              with_reducible refine iteT ⟨rfl, rfl⟩
            · rw [show ((a.length : Int) == f.2.2.1) = false from beq_eq_false_iff_ne.mpr e1, decide_eq_false e1]
              with_reducible refine iteF ?_
              with_reducible refine ewp_and2 ?_
              repeat walk_at "w"
              with_reducible refine sub_tupN 0 (p := .str (if f.2.1 then "eq" else "le")) ?e1 (by decide) ?e2 ?_ ?isub
              case e1 => rfl
              case e2 => exact rfl
              case isub => intro _ _; rfl
              repeat walk_at "w"
              cases f.2.1
              · rw [decide_eq_true (show (if false = true then ("eq" : Str) else "le") = "le" from rfl)]
                repeat walk_at "w"
                with_reducible refine cwp_len_lst (.f (l := a.map .int)) (by rw [List.length_map]; lia) ?_
                rw [List.length_map]
                repeat walk_at "w"
                exact ⟨by simp, rfl⟩
              · rw [decide_eq_false (show ¬ (if true = true then ("eq" : Str) else "le") = "le" by decide)]
                with_reducible refine iteF ⟨by simp, rfl⟩
        refine fun _ _ => an2 fun eq0 eq1 => ?_
        subst eq0 eq1
        walk_at "loc"
        with_reducible refine swp_nil ?_
        with_reducible refine swp_nil ?_
        exact ⟨rfl, look_ne o1 (by decide), look_ne o2 (by decide), look_ne o3 (by decide), look_ne o4 (by decide), look_ne o5 (by decide), look_ne o6 (by decide), rset_self _ _ _⟩
      · rw [decide_eq_false (show ¬ (f.1 : Int) = r by lia), decide_eq_false hq, Bool.not_false, Bool.true_or, Bool.and_true]
        with_reducible refine iteF ?_
        with_reducible refine swp_nil ?_
        with_reducible refine swp_nil ?_
        exact ⟨rfl, n1, n2, n3, n4, n5, n6, n7⟩
    refine fun ρ3 σ' => an8 fun eq0 m1 m2 m3 m4 m5 m6 m7 => ?_
    subst eq0
    have hokL : okL low high fs r a = (c0 && fs.all fun f => !decide (f.1 = r) || okC f.2.1 f.2.2.1 a) := by unfold okL; rw [hc0]
    walk_at "if"
    repeat walk_at "w"
    rw [← hokL]
    rw [List.filter_append, List.filter_cons, List.filter_nil]
    cases okL low high fs r a
    · repeat walk_at "w"
      with_reducible refine swp_nil ?_
      with_reducible refine swp_nil ?_
      exact ⟨by simp, m1, m2, m3, m4, m5⟩
    · repeat walk_at "w"
      walk_at "exp"
      repeat walk_at "w"
      with_reducible refine KM.i (m1_append (y0 _)) rfl ?_
      repeat walk_at "w"
      with_reducible refine cwp_append (y0 _) (szl (by rw [List.length_map]; lia)) ?_
      rw [w0]
      with_reducible refine swp_nil ?_
      with_reducible refine swp_nil ?_
      exact ⟨by simp, m1, m2, m3, m4, m5⟩
  refine fun ρ σ' => an6 fun eq0 h1 h2 h3 h4 h5 => ?_
  subst eq0
  walk_at "ret"
  repeat walk_at "w"
  with_reducible refine cwp_sorted (.r (y0 _)) hlen ?_
  exact leave_pure (.low (.lst (lowLists _))) q
end
section
variable {p : Pk} {σ : Sto} {ρ : Rho} {Q : Post}
theorem lowOut {m : Nat} (a : At) (rows : List Row) (os : List Ord) (tp : Str → Str) (tl : List (Bool × Int × Str)) : Low m (outB a rows os tp tl) :=
  .tup (.cons (.inst (.cons (.inst (.cons (.tup (lowStrs _)) (.cons (.sd (lowNum _)) .nil))) (.cons (.lst ((lowRows _ _ _).app (lowOrds _ _))) (.cons (.sd (lowNum _)) .nil)))) (.cons (.sd (lowNum _)) (.cons (.lst (lowMap (f := lblV) lowLbl _)) .nil)))
theorem sigV_fin {rows : List Row} {os : List Ord} : SigV (sg σ (fin σ.length rows) (ents rows) ((names rows).map .str) (os.map opened)) (.ref σ.length) rows os (fin σ.length rows) (.lst ((names rows).map .str)) (.ref (σ.length + 2)) (.ref (σ.length + 3)) (.lst []) :=
  ⟨hasFin, .r sg0, rfl, .f, rfl, .r sg2, rfl, .r sg3, rfl, .f⟩
theorem c_ltold (ok : p.G.Ok) {k : Nat} {rows : List Row} {os : List Ord} {n : Nat} {tl : List (Bool × Int × Str)} {tp : Str → Str} (R : RowsOk rows) (O : OrdsOk rows os) (C : ScOk rows os n tl tp)
    (q : Q (outB (atoms (lotF rows os n tl) rows) rows os tp tl) σ) {env : Env} : CWP ⟨p.G, k + 8, env⟩ (.cst (.ref 624)) [.lst (rows.map rowT), .lst (os.map opened), .tup [.int n, .tup (tl.map tr)]] σ Q := by
  have hlen := C.len
  have holen := C.olen
  refine cwp_def ok (ok_told p) (Nat.le_refl _) rfl fun L => ?_
  walk_at "open"
  walk_at "cmp"
  repeat walk_at "w"
  refine ⟨rows.map rowT, szl (by simp; lia), fun C1 => ?_⟩
  with_reducible refine comp_filterE rowT (fun r => some (item r)) (fun _ => True) rows rfl (.lst .f) (fun r hr ρ' _ => ?_) trivial ?_
  · show AWP _ _ _ (.tup [.str r.n, .str r.m, .str r.par]) _ _ _
    with_reducible refine awp_tuple own_comp ?_ rfl ?he
    case he => exact rfl
    with_reducible refine als_cons ?_
    walk_at "tgt"
    with_reducible refine als_cons ?_
    walk_at "tgt"
    with_reducible refine als_cons ?_
    walk_at "tgt"
    with_reducible refine als_nil ?_
    have m1 : (rset "parent" (.str r.par) (rset "mult" (.str r.m) (rset "name" (.str r.n) ρ'))).lookup ("name" : Str) = some (.str r.n) := look_ne (look_ne (rset_self _ _ _) (by decide)) (by decide)
    have m2 : (rset "parent" (.str r.par) (rset "mult" (.str r.m) (rset "name" (.str r.n) ρ'))).lookup ("mult" : Str) = some (.str r.m) := look_ne (rset_self _ _ _) (by decide)
    with_reducible refine tests_nil ?_
    repeat walk_at "w"
    refine ⟨Nat.le_of_ble_eq_true rfl, ?_⟩
    repeat walk_at "w"
    refine ⟨Nat.le_of_ble_eq_true rfl, ?_⟩
    repeat walk_at "w"
    refine ⟨Nat.le_of_ble_eq_true rfl, ?_⟩
    repeat walk_at "w"
    refine ⟨Nat.le_of_ble_eq_true rfl, ?_⟩
    repeat walk_at "w"
    exact ⟨Nat.le_of_ble_eq_true rfl, rfl, rfl, trivial⟩
  have hfm : rows.filterMap (fun r => some (item r)) = rows.map item := by rw [← List.filterMap_eq_map]; rfl
  rw [hfm]
  walk_at "asg"
  repeat walk_at "w"
  walk_at "ecmp"
  repeat walk_at "w"
  refine ⟨os.map opened, szl (by simp; lia), fun C2 => ?_⟩
  with_reducible refine comp_filterE opened (fun o => some (oitem o)) (fun _ => True) os rfl (.lst .f) (fun o ho ρ' _ => ?_) trivial ?_
  · with_reducible refine awp_tuple own_comp ?_ rfl ?he
    case he => exact rfl
    with_reducible refine als_cons ?_
    walk_at "tgt"
    with_reducible refine als_cons ?_
    walk_at "tgt"
    with_reducible refine als_nil ?_
    have m1 : (rset "sig" (.str o.sig) (rset "alias" (.str o.als) ρ')).lookup ("alias" : Str) = some (.str o.als) := look_ne (rset_self _ _ _) (by decide)
    with_reducible refine tests_nil ?_
    repeat walk_at "w"
    refine ⟨Nat.le_of_ble_eq_true rfl, ?_⟩
    repeat walk_at "w"
    exact ⟨Nat.le_of_ble_eq_true rfl, rfl, rfl, trivial⟩
  have hfm2 : os.filterMap (fun o => some (oitem o)) = os.map oitem := by rw [← List.filterMap_eq_map]; rfl
  rw [hfm2]
  with_reducible refine o2_add_list .f .f (szl (by simp; lia)) ?_
  walk_at "loc"
  walk_at "ret"
  repeat walk_at "w"
  refine ⟨k_402 p, ?_⟩
  repeat walk_at "w"
  refine ⟨k_571 p, ?_⟩
  repeat walk_at "w"
  with_reducible refine c_signatures ok .f R O ?_
  repeat walk_at "w"
  with_reducible refine c_scopes ok ?_
  with_reducible refine KM.i (m1_of ok (.r get_last) (me_402_bounds_of p) rfl) (k_399 p) ?_
  repeat walk_at "w"
  with_reducible refine c_boundsof ok (.r get_last) rfl rfl rfl sigV_fin.app C ?_
  unfold sg
  rw [List.append_assoc]
  exact leave_pure (.low (lowOut ..)) q
end
section
variable {p : Pk} {σ : Sto} {ρ : Rho} {Q : Post}
noncomputable def tblD (a : At) (rows : List Row) (os : List Ord) (tp : Str → Str) : List (Str × PV) := rows.map (fun r => (r.n, rowB a tp r)) ++ os.map fun o => (ordN o, ordB a o)
theorem tblD_snd (a : At) (rows : List Row) (os : List Ord) (tp : Str → Str) : (tblD a rows os tp).map (·.2) = rows.map (rowB a tp) ++ os.map (ordB a) := by
  unfold tblD; rw [List.map_append, List.map_map, List.map_map]; rfl
theorem tblD_fst (a : At) (rows : List Row) (os : List Ord) (tp : Str → Str) : (tblD a rows os tp).map (·.1) = names rows ++ os.map ordN := by
  unfold tblD; rw [List.map_append, List.map_map, List.map_map]; rfl
theorem tblD_entry {a : At} {rows : List Row} {os : List Ord} {tp : Str → Str} : ∀ y ∈ tblD a rows os tp, ∃ m lo up, y.2 = entry y.1 m lo up := by
  intro y hy
  rcases List.mem_append.mp hy with h | h
  · obtain ⟨r, _, rfl⟩ := List.mem_map.mp h; exact ⟨1, _, _, rfl⟩
  · obtain ⟨r, _, rfl⟩ := List.mem_map.mp h; exact ⟨2, _, _, rfl⟩
noncomputable def tableV (a : At) (rows : List Row) (os : List Ord) (tp : Str → Str) (tl : List (Bool × Int × Str)) : PV :=
  .tup [.sd (tblD a rows os tp), .lst (a.nm.map .str), .lst ((forms tp (toldL tl) rows).map lblV)]
theorem mapFilter {α : Type} (f : α → PV) (l : List α) : l.filterMap (fun x => some (f x)) = l.map f := by rw [← List.filterMap_eq_map]; rfl
theorem bv_f {a : At} {bs : List PV} {ns : List Str} : BV σ (bndPV a bs ns) bs := ⟨_, _, .f, rfl, .f⟩
theorem uni_f {a : At} {nd : PV} : UniV σ (.inst 207 [("names", .tup (a.nm.map .str)), ("numbers", nd)]) a.nm := ⟨nd, .f⟩
theorem c_ltable (ok : p.G.Ok) {k : Nat} {rows : List Row} {os : List Ord} {tl : List (Bool × Int × Str)} {tp : Str → Str} {a : At} (hlen : rows.length < 20) (holen : os.length < 10) (hnd : (names rows ++ os.map ordN).Nodup) (ha : a.nm.length ≤ 100)
    (q : Q (tableV a rows os tp tl) σ) {env : Env} : CWP ⟨p.G, k + 2, env⟩ (.cst (.ref 629)) [outB a rows os tp tl] σ Q := by
  refine cwp_def ok (ok_table p) (Nat.le_refl _) rfl fun L => ?_
  walk_at "open"
  walk_at "asg"
  repeat walk_at "w"
  show AWP _ _ _ (.tup [bndPV _ _ _, .sd _, .lst _]) _ _ _
  with_reducible refine awp_tuple (fun _ h => h) ?_ rfl ?he
  case he => exact rfl
  with_reducible refine als_cons ?_
  walk_at "cell"
  with_reducible refine als_cons ?_
  walk_at "loc"
  with_reducible refine als_cons ?_
  walk_at "loc"
  with_reducible refine als_nil ?_
  obtain ⟨bs, hbs⟩ : ∃ bs, rows.map (rowB a tp) ++ os.map (ordB a) = bs := ⟨_, rfl⟩
  rw [hbs]
  have hbl : bs.length = (tblD a rows os tp).length := by rw [← hbs, ← tblD_snd (tp := tp), List.length_map]
  have hbl2 : bs.length < 30 := by rw [← hbs]; simp; lia
  walk_at "asg"
  repeat walk_at "w"
  walk_at "ecmp"
  repeat walk_at "w"
  with_reducible refine KM.i (m1_of ok .f (me_284_size p) rfl) (k_260 p) ?_
  repeat walk_at "w"
  with_reducible refine c_bsize ok bv_f (by lia) ?_
  repeat walk_at "w"
  with_reducible refine cwp_range1 ?_
  have hr0 : rngL 0 (bs.length : Int) = (List.range bs.length).map fun (i : Nat) => PV.int (i : Int) := by simp [rngL]
  refine ⟨rngL 0 (bs.length : Int), szl (by rw [hr0]; simp; lia), fun C1 => ?_⟩
  with_reducible refine comp_filterE (fun (i : Nat) => PV.int (i : Int)) (fun i => ((tblD a rows os tp)[i]?).map pairS) (fun ρ => ρ.lookup ("bounds" : Str) = some (bndPV a bs (names rows ++ os.map ordN))) (List.range bs.length) hr0 (.rng ?hrg) (fun j hj ρ' hj1 => ?_) ?hi ?_
  case hrg => unfold RngOk; lia
  case hi => exact rfree_keep rfl rfl
  · walk_at "tgt"
    have hj2 := look_ne (v := PV.int (j : Int)) (x := "r") hj1 (by decide)
    have hjl := List.mem_range.mp hj
    rw [hbl] at hjl
    obtain ⟨m, lo, up, hent⟩ := tblD_entry _ (List.getElem_mem hjl)
    have hbj : bs[j]? = some (entry (tblD a rows os tp)[j].1 m lo up) := by
      rw [← hbs, ← tblD_snd (tp := tp), List.getElem?_map, List.getElem?_eq_getElem hjl]
      exact congrArg some hent
    with_reducible refine tests_nil ?_
    repeat walk_at "w"
    with_reducible refine KM.i (m1_of ok .f (me_284_bound p) rfl) (k_253 p) ?_
    repeat walk_at "w"
    with_reducible refine c_bound ok bv_f (by lia) hbj (lowEntry ..) ?_
    repeat walk_at "w"
    with_reducible refine sub_tupN 0 (p := .str (tblD a rows os tp)[j].1) ?e1 (by decide) ?e2 ?_ ?isub
    case e1 => rfl
    case e2 => exact rfl
    case isub => intro _ _; rfl
    repeat walk_at "w"
    with_reducible refine KM.i (m1_of ok .f (me_284_bound p) rfl) (k_253 p) ?_
    repeat walk_at "w"
    with_reducible refine c_bound ok bv_f (by lia) hbj (lowEntry ..) ?_
    repeat walk_at "w"
    refine ⟨Nat.le_of_ble_eq_true rfl, ?_, rfl, hj2⟩
    rw [List.getElem?_eq_getElem hjl]
    show some (pairS _) = _
    unfold pairS
    rw [hent]
  have hfm : (List.range bs.length).filterMap (fun i => ((tblD a rows os tp)[i]?).map pairS) = (tblD a rows os tp).map pairS := by
    rw [hbl]
    generalize tblD a rows os tp = T
    refine List.ext_getElem? fun i => ?_
    have : ∀ (n : Nat), n ≤ T.length → (List.range n).filterMap (fun i => (T[i]?).map pairS) = (T.take n).map pairS := by
      intro n
      induction n with
      | zero => intro _; simp
      | succ n ih =>
        intro h
        rw [List.range_succ, List.filterMap_append, ih (by lia), List.take_succ, List.map_append]
        congr 1
        rw [List.filterMap_cons, List.getElem?_eq_getElem (by lia)]
        rfl
    rw [this _ (Nat.le_refl _), List.take_length]
  rw [hfm]
  repeat walk_at "w"
  with_reducible refine cwp_dict_strs ok .f (szl (by rw [← hbl]; lia)) ?_
  rw [foldS_new (by rw [tblD_fst]; exact hnd)]
  walk_at "loc"
  walk_at "ret"
  repeat walk_at "w"
  walk_at "ecmp"
  repeat walk_at "w"
  refine KAttr.i (C := 284) .f (at_284_universe p) rfl ?_
  with_reducible refine KM.i (m1_of ok .f (me_207_size p) rfl) (k_176 p) ?_
  repeat walk_at "w"
  with_reducible refine c_usize ok uni_f (by lia) ?_
  repeat walk_at "w"
  with_reducible refine cwp_range1 ?_
  have hr1 : rngL 0 (a.nm.length : Int) = (List.range a.nm.length).map fun (i : Nat) => PV.int (i : Int) := by simp [rngL]
  refine ⟨rngL 0 (a.nm.length : Int), szl (by rw [hr1]; simp; lia), fun C2 => ?_⟩
  with_reducible refine comp_filterE (fun (i : Nat) => PV.int (i : Int)) (fun i => (a.nm[i]?).map .str) (fun ρ => ρ.lookup ("bounds" : Str) = some (bndPV a bs (names rows ++ os.map ordN))) (List.range a.nm.length) hr1 (.rng ?hrg) (fun j hj ρ' hj1 => ?_) ?hi ?_
  case hrg => unfold RngOk; lia
  case hi => exact rfree_keep rfl rfl
  · walk_at "tgt"
    have hj2 := look_ne (v := PV.int (j : Int)) (x := "a") hj1 (by decide)
    have hjl := List.mem_range.mp hj
    with_reducible refine tests_nil ?_
    repeat walk_at "w"
    refine KAttr.i (C := 284) .f (at_284_universe p) rfl ?_
    with_reducible refine KM.i (m1_of ok .f (me_207_name p) rfl) (k_183 p) ?_
    repeat walk_at "w"
    with_reducible refine c_uname ok uni_f (by lia) (List.getElem?_eq_getElem hjl) ?_
    refine ⟨?_, rfl, hj2⟩
    rw [List.getElem?_eq_getElem hjl]
    rfl
  have hfm2 : (List.range a.nm.length).filterMap (fun i => (a.nm[i]?).map PV.str) = a.nm.map .str := by
    generalize a.nm = T
    have : ∀ (n : Nat), n ≤ T.length → (List.range n).filterMap (fun i => (T[i]?).map PV.str) = (T.take n).map .str := by
      intro n
      induction n with
      | zero => intro _; simp
      | succ n ih =>
        intro h
        rw [List.range_succ, List.filterMap_append, ih (by lia), List.take_succ, List.map_append]
        congr 1
        rw [List.filterMap_cons, List.getElem?_eq_getElem (by lia)]
        rfl
    rw [this _ (Nat.le_refl _), List.take_length]
  rw [hfm2]
  repeat walk_at "w"
  refine ⟨Nat.le_of_ble_eq_true rfl, ?_⟩
  have lowT : LowS σ.length (tblD a rows os tp) := by
    have key : ∀ (T : List (Str × PV)), (∀ y ∈ T, Low σ.length y.2) → LowS σ.length T := by
      intro T
      induction T with
      | nil => intro _; exact .nil
      | cons y T ih => intro h; exact .cons (h y (.head _)) (ih fun z hz => h z (.tail _ hz))
    refine key _ fun y hy => ?_
    obtain ⟨m, lo, up, e⟩ := tblD_entry y hy
    rw [e]; exact lowEntry ..
  exact leave_id (.tup (.cons (.sd lowT) (.cons (.lst (lowStrs _)) (.cons (.lst (lowMap (f := lblV) lowLbl _)) .nil)))) q
end
section
variable {p : Pk} {σ : Sto} {ρ : Rho} {Q : Post}
structure TellP (rows : List Row) (tl : List (Bool × Int × Str)) (left : List Row) : Prop where
  tnd : (tl.map (·.2.2)).Nodup
  lnd : (names left).Nodup
  sub : ∀ r ∈ left, r ∈ rows
  dis : ∀ x ∈ tl, ∀ r ∈ left, r.n ≠ x.2.2
  ok : ∀ x ∈ tl, ∃ r ∈ rows, r.n = x.2.2 ∧ 0 ≤ x.2.1 ∧ x.2.1 ≤ 2 ∧ (r.par = "" → r.m = "one" → x.2.1 = 1) ∧ (r.par = "" → r.m = "lone" → x.1 = true → x.2.1 ≤ 1)
  len : tl.length + left.length = rows.length
theorem TellP.step {rows : List Row} {tl : List (Bool × Int × Str)} {left : List Row} (T : TellP rows tl left) {j : Nat} (hj : j < left.length) {b : Bool} {m : Int} (h0 : 0 ≤ m) (h2 : m ≤ 2) (h1 : left[j].par = "" → left[j].m = "one" → m = 1) (hl : left[j].par = "" → left[j].m = "lone" → b = true → m ≤ 1) :
    TellP rows (tl ++ [(b, m, left[j].n)]) (left.eraseIdx j) := by
  have hp : (left[j] :: left.eraseIdx j).Perm left := by
    have e : left = left.take j ++ left[j] :: left.drop (j + 1) := by rw [← List.drop_eq_getElem_cons hj, List.take_append_drop]
    have := (List.perm_middle (a := left[j]) (l₁ := left.take j) (l₂ := left.drop (j + 1))).symm
    rw [← e] at this
    rwa [List.eraseIdx_eq_take_drop_succ]
  have hnd : (names (left[j] :: left.eraseIdx j)).Nodup := (List.Perm.nodup_iff (hp.map _)).mpr T.lnd
  unfold names at hnd
  rw [List.map_cons, List.nodup_cons] at hnd
  have hmem : left[j] ∈ left := List.getElem_mem hj
  have hsub : ∀ r ∈ left.eraseIdx j, r ∈ left := fun r hr => hp.subset (.tail _ hr)
  refine ⟨?_, hnd.2, fun r hr => T.sub r (hsub r hr), fun x hx r hr => ?_, fun x hx => ?_, ?_⟩
  · rw [List.map_append, List.nodup_append]
    refine ⟨T.tnd, by simp, fun x hx y hy => ?_⟩
    obtain ⟨z, hz, rfl⟩ := List.mem_map.mp hx
    rw [List.map_cons, List.map_nil] at hy
    rw [List.mem_singleton.mp hy]
    exact fun e => T.dis z hz _ hmem e.symm
  · rcases List.mem_append.mp hx with hx | hx
    · exact T.dis x hx r (hsub r hr)
    · rw [List.mem_singleton.mp hx]
      intro e; have e2 : r.n = left[j].n := e; exact hnd.1 (e2 ▸ List.mem_map_of_mem hr)
  · rcases List.mem_append.mp hx with hx | hx
    · exact T.ok x hx
    · rw [List.mem_singleton.mp hx]
      exact ⟨left[j], T.sub _ hmem, rfl, h0, h2, h1, hl⟩
  · have := T.len
    rw [List.length_append, List.length_eraseIdx_of_lt hj]
    simp; lia
theorem c_lscope (ok : p.G.Ok) {k n : Nat} {cs : List Int} {a : Int} {rows : List Row} (hn : σ[n]? = some (purse cs a)) (h0 : 0 ≤ a) (ha : a < 900) (hz : cs.length < 1000) (hnd : (names rows).Nodup) (hrl : 2 ≤ rows.length ∧ rows.length < 20)
    (q : ∀ tl left (dn : Nat) a', TellP rows tl left → tl.length ≤ 3 → dn ≤ 2 → a ≤ a' → a' ≤ a + 20 → Q (.tup [.int dn, .tup (tl.map tr)]) (σ.set n (purse cs a'))) {env : Env} : CWP ⟨p.G, k + 2, env⟩ (.cst (.ref 599)) [.ref n, .lst (rows.map rowT)] σ Q := by
  have hn' : n < σ.length := (List.getElem?_eq_some_iff.mp hn).1
  have hg : ∀ (a : Int) (τ : Sto), (σ.set n (purse cs a) ++ τ)[n]? = some (purse cs a) := fun a τ => by rw [List.getElem?_append_left (by simpa using hn'), List.getElem?_set_self hn']
  have hss : ∀ (a b : Int) (τ : Sto), (σ.set n (purse cs a) ++ τ).set n (purse cs b) = σ.set n (purse cs b) ++ τ := fun a b τ => by rw [List.set_append_left _ _ (by simpa using hn'), List.set_set]
  have hgt : ∀ (a : Int) (x y : PO), (σ.set n (purse cs a) ++ [x, y])[σ.length]? = some x := fun a x y => by rw [List.getElem?_append_right (by simp)]; simp
  have hgl : ∀ (a : Int) (x y : PO), (σ.set n (purse cs a) ++ [x, y])[σ.length + 1]? = some y := fun a x y => by rw [List.getElem?_append_right (by simp)]; simp
  have hst : ∀ (a : Int) (x y x' : PO), (σ.set n (purse cs a) ++ [x, y]).set σ.length x' = σ.set n (purse cs a) ++ [x', y] := fun a x y x' => by rw [List.set_append_right _ _ (by simp)]; simp
  have hsl : ∀ (a : Int) (x y y' : PO), (σ.set n (purse cs a) ++ [x, y]).set (σ.length + 1) y' = σ.set n (purse cs a) ++ [x, y'] := fun a x y y' => by rw [List.set_append_right _ _ (by simp)]; simp
  have hs0 : ∀ (b : Int) (τ : Sto), (σ ++ τ).set n (purse cs b) = σ.set n (purse cs b) ++ τ := fun b τ => List.set_append_left _ _ hn'
  refine cwp_def ok (ok_scope p) (Nat.le_refl _) rfl fun L => ?_
  walk_at "open"
  with_reducible refine swp_cons (s1_swap (names := ["told", "left"]) ?_ ?h1 ?h2 ?h3)
  case h1 => kernel_rfl
  case h2 => kernel_rfl
  case h3 => kernel_rfl
  repeat walk_at "w"
  with_reducible refine ewp_list_m ?_
  repeat walk_at "w"
  refine ⟨Nat.le_of_ble_eq_true rfl, ?_⟩
  repeat walk_at "w"
  with_reducible refine cwp_list_seq_m (.inl .f) (szl (by simp; lia)) ?_
  repeat walk_at "w"
  refine ⟨Nat.le_of_ble_eq_true rfl, _, rfl, rfl, ?_⟩
  have z1 : ∀ (a : PO), (σ ++ [a]).length = σ.length + 1 := fun a => by simp
  rw [z1, List.append_assoc]
  show SWP _ _ _ (σ ++ [.list [], .list (rows.map rowT)]) _ _
  with_reducible refine swp_cons (s1_for ?_ ?hset)
  case hset => intro _; rfl
  repeat walk_at "w"
  with_reducible refine cwp_len_lst .f (by simp; lia) ?_
  rw [List.length_map]
  repeat walk_at "w"
  refine ⟨k_582 p, ?_⟩
  repeat walk_at "w"
  with_reducible refine c_draw ok (up_app _ _ hn) (by lia) (by lia) hz (by lia) (fun x x1 x2 => ?_) _
  rw [hs0]
  repeat walk_at "w"
  with_reducible refine cwp_min ?_
  repeat walk_at "w"
  with_reducible refine cwp_range1 ?_
  have hmin : 0 ≤ min (rows.length : Int) x ∧ min (rows.length : Int) x ≤ 3 ∧ min (rows.length : Int) x ≤ rows.length := by lia
  generalize min (rows.length : Int) x = mm at hmin ⊢
  have hr1 : rngL 0 mm = (List.range mm.toNat).map fun (i : Nat) => PV.int (i : Int) := by unfold rngL; simp
  refine ⟨rngL 0 mm, ?_⟩
  with_reducible refine for_ind (fun (i : Nat) => PV.int (i : Int)) (List.range mm.toNat) (fun d ρ σ' => ∃ tl left, TellP rows tl left ∧ tl.length = d.length ∧ σ' = σ.set n (purse cs (a + 1 + 3 * d.length)) ++ [.list (tl.map tr), .list (left.map rowT)] ∧ ρ.lookup ("purse" : Str) = some (.ref n) ∧ ρ.lookup ("told" : Str) = some (.ref σ.length) ∧ ρ.lookup ("left" : Str) = some (.ref (σ.length + 1))) hr1 ?hS ?step ?h0 ?_
  case hS => rintro d ρ σ' _; exact .rng (by unfold RngOk; lia)
  case h0 => exact ⟨[], rows, ⟨.nil, hnd, fun _ h => h, (fun _ h => nomatch h), (fun _ h => nomatch h), by simp⟩, rfl, by simp, rfl, rfl, rfl⟩
  case step =>
    rintro d i r e ρ σ' ⟨tl, left, T, htl, rfl, h1, h2, h3⟩
    obtain ⟨rfl, hi⟩ := range_pos e
    have hlen := T.len
    walk_at "loc"
    have g1 := look_ne (v := PV.int (d.length : Int)) (x := "turn") h1 (by decide)
    have g2 := look_ne (v := PV.int (d.length : Int)) (x := "turn") h2 (by decide)
    have g3 := look_ne (v := PV.int (d.length : Int)) (x := "turn") h3 (by decide)
    generalize rset "turn" (PV.int (d.length : Int)) ρ = ρ1 at g1 g2 g3 ⊢
    walk_at "asg"
    repeat walk_at "w"
    with_reducible refine KM.i (m1_pop (hgl _ _ _)) rfl ?_
    repeat walk_at "w"
    refine ⟨k_582 p, ?_⟩
    repeat walk_at "w"
    with_reducible refine cwp_len_lst (.r (hgl _ _ _)) (by rw [List.length_map]; lia) ?_
    rw [List.length_map]
    repeat walk_at "w"
    with_reducible refine c_draw ok (hg _ _) (by lia) (by lia) hz (by lia) (fun y y1 y2 => ?_) _
    rw [hss]
    repeat walk_at "w"
    have hjl : y.toNat < left.length := by lia
    with_reducible refine cwp_pop (hgl _ _ _) (szl (by rw [List.length_map]; lia)) (by lia) (j := y.toNat) (y := rowT left[y.toNat]) ?hj ?hy ?_
    case hj => exact seqIdx y1 (by rw [List.length_map]; lia)
    case hy => rw [List.getElem?_map, List.getElem?_eq_getElem hjl]; rfl
    rw [hsl, show (left.map rowT).eraseIdx y.toNat = (left.eraseIdx y.toNat).map rowT from by rw [List.eraseIdx_eq_take_drop_succ, List.eraseIdx_eq_take_drop_succ, List.map_append, List.map_take, List.map_drop]]
    have hstep : ∀ (b : Bool) (m : Int), 0 ≤ m → m ≤ 2 → (left[y.toNat].par = "" → left[y.toNat].m = "one" → m = 1) → (left[y.toNat].par = "" → left[y.toNat].m = "lone" → b = true → m ≤ 1) → TellP rows (tl ++ [(b, m, left[y.toNat].n)]) (left.eraseIdx y.toNat) := fun b m => T.step hjl
    generalize left[y.toNat] = rr at hstep ⊢
    generalize left.eraseIdx y.toNat = left2 at hstep ⊢
    show AWP _ _ _ (.tup [.str rr.n, .str rr.m, .str rr.par]) _ _ _
    with_reducible refine awp_tuple (fun _ h => h) ?_ rfl ?he
    case he => exact rfl
    with_reducible refine als_cons ?_
    walk_at "loc"
    with_reducible refine als_cons ?_
    walk_at "loc"
    with_reducible refine als_cons ?_
    walk_at "loc"
    with_reducible refine als_nil ?_
    with_reducible refine swp_cons (s1_swap (names := ["is_exact", "number"]) ?_ ?h1 ?h2 ?h3)
    case h1 => kernel_rfl
    case h2 => kernel_rfl
    case h3 => kernel_rfl
    have hup : ∀ {x : Str} {v : PV}, ρ1.lookup x = some v → x ≠ "name" → x ≠ "mult" → x ≠ "parent" → (rset "parent" (.str rr.par) (rset "mult" (.str rr.m) (rset "name" (.str rr.n) ρ1))).lookup x = some v := fun h n1 n2 n3 => look_ne (look_ne (look_ne h n1) n2) n3
    have k1 := hup g1 (by decide) (by decide) (by decide)
    have k2 := hup g2 (by decide) (by decide) (by decide)
    have k3 := hup g3 (by decide) (by decide) (by decide)
    have k4 : (rset "parent" (.str rr.par) (rset "mult" (.str rr.m) (rset "name" (.str rr.n) ρ1))).lookup ("name" : Str) = some (.str rr.n) := look_ne (look_ne (rset_self _ _ _) (by decide)) (by decide)
    have k5 : (rset "parent" (.str rr.par) (rset "mult" (.str rr.m) (rset "name" (.str rr.n) ρ1))).lookup ("mult" : Str) = some (.str rr.m) := look_ne (rset_self _ _ _) (by decide)
    have k6 : (rset "parent" (.str rr.par) (rset "mult" (.str rr.m) (rset "name" (.str rr.n) ρ1))).lookup ("parent" : Str) = some (.str rr.par) := rset_self _ _ _
    generalize (rset "parent" (.str rr.par) (rset "mult" (.str rr.m) (rset "name" (.str rr.n) ρ1))) = ρ2 at k1 k2 k3 k4 k5 k6 ⊢
    repeat walk_at "w"
    refine ⟨k_582 p, ?_⟩
    repeat walk_at "w"
    with_reducible refine c_draw ok (hg _ _) (by lia) (by lia) hz (by lia) (fun z z1 z2 => ?_) _
    rw [hss]
    repeat walk_at "w"
    refine ⟨k_582 p, ?_⟩
    repeat walk_at "w"
    with_reducible refine c_draw ok (hg _ _) (by lia) (by lia) hz (by lia) (fun w w1 w2 => ?_) _
    rw [hss]
    repeat walk_at "w"
    refine ⟨Nat.le_of_ble_eq_true rfl, _, rfl, rfl, ?_⟩
    show SWP _ _ (rset "is_exact" (.bool (z == 1)) (rset "number" (.int w) ρ2)) _ _ _
    generalize (z == 1) = b
    have hup2 : ∀ {x : Str} {v : PV}, ρ2.lookup x = some v → x ≠ "is_exact" → x ≠ "number" → (rset "is_exact" (.bool b) (rset "number" (.int w) ρ2)).lookup x = some v := fun h n1 n2 => look_ne (look_ne h n2) n1
    have m1 := hup2 k1 (by decide) (by decide)
    have m2 := hup2 k2 (by decide) (by decide)
    have m3 := hup2 k3 (by decide) (by decide)
    have m4 := hup2 k4 (by decide) (by decide)
    have m5 := hup2 k5 (by decide) (by decide)
    have m6 := hup2 k6 (by decide) (by decide)
    have m7 : (rset "is_exact" (.bool b) (rset "number" (.int w) ρ2)).lookup ("is_exact" : Str) = some (.bool b) := rset_self _ _ _
    have m8 : (rset "is_exact" (.bool b) (rset "number" (.int w) ρ2)).lookup ("number" : Str) = some (.int w) := look_ne (rset_self _ _ _) (by decide)
    generalize (rset "is_exact" (.bool b) (rset "number" (.int w) ρ2)) = ρ3 at m1 m2 m3 m4 m5 m6 m7 m8 ⊢
    obtain ⟨S, hS⟩ : ∃ S, σ.set n (purse cs (a + 1 + 3 * (d.length : Int) + 1 + 1 + 1)) ++ [PO.list (tl.map tr), PO.list (left2.map rowT)] = S := ⟨_, rfl⟩
    rw [hS]
    with_reducible refine swp_mid (fun ρ' σ' => σ' = S ∧ (∀ (x : Str) (v : PV), x ≠ "number" → ρ3.lookup x = some v → ρ'.lookup x = some v) ∧ ρ'.lookup ("number" : Str) = some (.int (if rr.par = "" ∧ rr.m = "one" then 1 else w))) (s1_if ?_) ?_
    · repeat walk_at "w"
      by_cases hp : rr.par = ""
      · rw [decide_eq_true hp]
        repeat walk_at "w"
        by_cases ho : rr.m = "one"
        · rw [decide_eq_true ho]
          repeat walk_at "w"
          walk_at "asg"
          repeat walk_at "w"
          walk_at "loc"
          with_reducible refine swp_nil ?_
          rw [if_pos ⟨hp, ho⟩]
          exact ⟨rfl, fun _ _ n2 h => look_ne h n2, rset_self _ _ _⟩
        · rw [decide_eq_false ho]
          repeat walk_at "w"
          with_reducible refine swp_nil ?_
          rw [if_neg (fun h => ho h.2)]
          exact ⟨rfl, fun _ _ _ h => h, m8⟩
      · rw [decide_eq_false hp]
        repeat walk_at "w"
        with_reducible refine swp_nil ?_
        rw [if_neg (fun h => hp h.1)]
        exact ⟨rfl, fun _ _ _ h => h, m8⟩
    refine fun ρ4 _ => an3 fun eq0 hkeep o8 => ?_
    subst eq0
    have o1 := hkeep _ _ (by decide) m1
    have o2 := hkeep _ _ (by decide) m2
    have o3 := hkeep _ _ (by decide) m3
    have o4 := hkeep _ _ (by decide) m4
    have o5 := hkeep _ _ (by decide) m5
    have o6 := hkeep _ _ (by decide) m6
    have o7 := hkeep _ _ (by decide) m7
    clear hkeep m1 m2 m3 m4 m5 m6 m7 m8
    obtain ⟨w', hw'⟩ : ∃ w', (if rr.par = "" ∧ rr.m = "one" then 1 else w) = w' := ⟨_, rfl⟩
    rw [hw'] at o8
    subst hS
    obtain ⟨S, hS⟩ : ∃ S, σ.set n (purse cs (a + 1 + 3 * (d.length : Int) + 1 + 1 + 1)) ++ [PO.list (tl.map tr), PO.list (left2.map rowT)] = S := ⟨_, rfl⟩
    rw [hS]
    with_reducible refine swp_mid (fun ρ' σ' => σ' = S ∧ (∀ (x : Str) (v : PV), x ≠ "number" → ρ4.lookup x = some v → ρ'.lookup x = some v) ∧ ρ'.lookup ("number" : Str) = some (.int (if rr.par = "" ∧ rr.m = "lone" ∧ b = true then min w' 1 else w'))) (s1_if ?_) ?_
    · repeat walk_at "w"
      by_cases hp : rr.par = ""
      · rw [decide_eq_true hp]
        repeat walk_at "w"
        by_cases ho : rr.m = "lone"
        · rw [decide_eq_true ho]
          repeat walk_at "w"
          cases b
          · repeat walk_at "w"
            with_reducible refine swp_nil ?_
            rw [if_neg (fun h => nomatch h.2.2)]
            exact ⟨rfl, fun _ _ _ h => h, o8⟩
          · repeat walk_at "w"
            walk_at "asg"
            repeat walk_at "w"
            with_reducible refine cwp_min ?_
            walk_at "loc"
            with_reducible refine swp_nil ?_
            rw [if_pos ⟨hp, ho, rfl⟩]
            exact ⟨rfl, fun _ _ n2 h => look_ne h n2, rset_self _ _ _⟩
        · rw [decide_eq_false ho]
          repeat walk_at "w"
          with_reducible refine swp_nil ?_
          rw [if_neg (fun h => ho h.2.1)]
          exact ⟨rfl, fun _ _ _ h => h, o8⟩
      · rw [decide_eq_false hp]
        repeat walk_at "w"
        with_reducible refine swp_nil ?_
        rw [if_neg (fun h => hp h.1)]
        exact ⟨rfl, fun _ _ _ h => h, o8⟩
    refine fun ρ5 _ => an3 fun eq0 hkeep t8 => ?_
    subst eq0
    have t1 := hkeep _ _ (by decide) o1
    have t2 := hkeep _ _ (by decide) o2
    have t3 := hkeep _ _ (by decide) o3
    have t4 := hkeep _ _ (by decide) o4
    have t7 := hkeep _ _ (by decide) o7
    clear hkeep o1 o2 o3 o4 o5 o6 o7 o8
    obtain ⟨w'', hw''⟩ : ∃ w'', (if rr.par = "" ∧ rr.m = "lone" ∧ b = true then min w' 1 else w') = w'' := ⟨_, rfl⟩
    rw [hw''] at t8
    subst hS
    walk_at "exp"
    repeat walk_at "w"
    with_reducible refine KM.i (m1_append (hgt _ _ _)) rfl ?_
    repeat walk_at "w"
    refine ⟨Nat.le_of_ble_eq_true rfl, ?_⟩
    repeat walk_at "w"
    with_reducible refine cwp_append (hgt _ _ _) (szl (by rw [List.length_map]; lia)) ?_
    rw [hst]
    with_reducible refine swp_nil ?_
    refine ⟨tl ++ [(b, w'', rr.n)], left2, hstep b w'' ?_ ?_ ?_ ?_, by simp [htl], ?_, t1, t2, t3⟩
    · subst hw'' hw'; split <;> split <;> lia
    · subst hw'' hw'; split <;> split <;> lia
    · intro e1 e2; subst hw'' hw'; rw [if_neg (by rw [e2]; rintro ⟨_, h, _⟩; exact absurd h (by decide)), if_pos ⟨e1, e2⟩]
    · intro e1 e2 e3; subst hw'' hw'; rw [if_pos ⟨e1, e2, e3⟩]; lia
    · rw [List.map_append, List.length_append]
      congr 3
      show _ = a + 1 + 3 * ((d.length + 1 : Nat) : Int)
      lia
  rintro ρ σ' ⟨tl, left, T, htl, rfl, h1, h2, h3⟩
  rw [List.length_range] at htl ⊢
  walk_at "ret"
  repeat walk_at "w"
  refine ⟨k_582 p, ?_⟩
  repeat walk_at "w"
  with_reducible refine c_draw ok (hg _ _) (by lia) (by lia) hz (by lia) (fun y y1 y2 => ?_) _
  rw [hss]
  repeat walk_at "w"
  with_reducible refine cwp_tuple_list (.r (hgt _ _ _)) (szl (by rw [List.length_map]; lia)) ?_
  repeat walk_at "w"
  refine ⟨Nat.le_of_ble_eq_true rfl, ?_⟩
  have hq := q tl left y.toNat (a + 1 + 3 * (mm.toNat : Int) + 1) T (by lia) (by lia) (by lia) (by lia)
  rw [show ((y.toNat : Nat) : Int) = y by lia] at hq
  exact leave_setapp (.low (.tup (.cons .int (.cons (.tup (lowMap (f := tr) (fun _ => .tup (.cons .bool (.cons .int (.cons .str .nil)))) _)) .nil)))) (lowPurse _ _) hq
end
section
theorem tN_ok {i : Nat} (h : i < 3) : sOk (tN i) ∧ tN i ≠ "int" ∧ tN i ≠ "Int" ∧ (tN i).length ≤ 100 ∧ tN i ≠ "" ∧ sOk (("scope " : Str) ++ tN i) ∧ tN i ≠ "o/next" ∧ tN i ≠ "p/next" := by
  have : i = 0 ∨ i = 1 ∨ i = 2 := by lia
  rcases this with rfl | rfl | rfl <;> decide +kernel
theorem bN_ok {i : Nat} (h : i < 3) : sOk (bN i) ∧ bN i ≠ "int" ∧ bN i ≠ "Int" ∧ (bN i).length ≤ 100 ∧ bN i ≠ "" ∧ sOk (("scope " : Str) ++ bN i) ∧ bN i ≠ "o/next" ∧ bN i ≠ "p/next" := by
  have : i = 0 ∨ i = 1 ∨ i = 2 := by lia
  rcases this with rfl | rfl | rfl <;> decide +kernel
noncomputable def allN (t j : Nat) : List Str := (List.range t).map tN ++ (List.range j).map bN
theorem allN_nodup {t j : Nat} (ht : t ≤ 3) (hj : j ≤ 3) : (allN t j).Nodup := by
  have h1 : t = 0 ∨ t = 1 ∨ t = 2 ∨ t = 3 := by lia
  have h2 : j = 0 ∨ j = 1 ∨ j = 2 ∨ j = 3 := by lia
  rcases h1 with rfl | rfl | rfl | rfl <;> rcases h2 with rfl | rfl | rfl | rfl <;> decide +kernel
theorem RowsP.names {t j : Nat} {rows : List Row} (R : RowsP t j rows) : Mine.names rows = allN t j := by
  induction R with
  | nil => rfl
  | @top t rows m R hm ih =>
    unfold Mine.names allN at *
    rw [List.map_append, ih, List.range_succ, List.map_append]
    simp
  | @bel t j rows m r R hr hm ih =>
    unfold Mine.names allN at *
    rw [List.map_append, ih, List.range_succ, List.map_append]
    simp
theorem RowsP.nm {t j : Nat} {rows : List Row} (R : RowsP t j rows) (ht : t ≤ 3) (hj : j ≤ 3) : ∀ r ∈ rows, sOk r.n ∧ r.n ≠ "int" ∧ r.n ≠ "Int" ∧ r.n.length ≤ 100 ∧ r.n ≠ "" ∧ sOk (("scope " : Str) ++ r.n) ∧ r.n ≠ "o/next" ∧ r.n ≠ "p/next" := by
  intro r hr
  have h : r.n ∈ Mine.names rows := List.mem_map_of_mem hr
  rw [R.names] at h
  rcases List.mem_append.mp h with h | h
  · obtain ⟨i, hi, e⟩ := List.mem_map.mp h
    rw [← e]; exact tN_ok (by have := List.mem_range.mp hi; lia)
  · obtain ⟨i, hi, e⟩ := List.mem_map.mp h
    rw [← e]; exact bN_ok (by have := List.mem_range.mp hi; lia)
theorem Build.snoc : ∀ {b l : List Row} {r : Row}, Build b l → RowOk (b ++ l) r → Build b (l ++ [r])
  | b, [], r, _, h => .cons (by simpa using h) .nil
  | b, a :: l, r, .cons h1 h2, h => .cons h1 (h2.snoc (by simpa using h))
theorem RowsP.build {t j : Nat} {rows : List Row} (R : RowsP t j rows) : Build [] rows := by
  induction R with
  | nil => exact .nil
  | top R hm ih => exact ih.snoc (.inl rfl)
  | bel R hr hm ih => exact ih.snoc (.inr (List.mem_map_of_mem hr))
theorem RowsP.par {t j : Nat} {rows : List Row} (R : RowsP t j rows) (ht : t ≤ 3) (hj : j ≤ 3) : ∀ r ∈ rows, r.par = "" ∨ ∃ r' ∈ rows, r'.n = r.par := by
  induction R with
  | nil => intro r hr; cases hr
  | top R hm ih =>
    intro r hr
    rcases List.mem_append.mp hr with hr | hr
    · rcases ih (by lia) hj r hr with h | ⟨r', h1, h2⟩
      · exact .inl h
      · exact .inr ⟨r', by simp [h1], h2⟩
    · rw [List.mem_singleton.mp hr]; exact .inl rfl
  | @bel t j rows m r0 R hr0 hm ih =>
    intro r hr
    rcases List.mem_append.mp hr with hr | hr
    · rcases ih (by lia) (by lia) r hr with h | ⟨r', h1, h2⟩
      · exact .inl h
      · exact .inr ⟨r', by simp [h1], h2⟩
    · rw [List.mem_singleton.mp hr]; exact .inr ⟨r0, by simp [hr0], rfl⟩
theorem RowsP.rowsOk {t j : Nat} {rows : List Row} (R : RowsP t j rows) (ht : t ≤ 3) (hj : j ≤ 3) : RowsOk rows := by
  refine ⟨by rw [R.names]; exact allN_nodup ht hj, R.build, by rw [R.len]; lia, fun r hr => ⟨(R.nm ht hj r hr).1, ?_⟩⟩
  rcases R.par ht hj r hr with h | ⟨r', h1, h2⟩
  · rw [h]; decide +kernel
  · rw [← h2]; exact (R.nm ht hj r' h1).1
theorem ents_app {rows : List Row} {r : Row} {x : Str} {v : PV} (h : (ents rows).lookup x = some v) : (ents (rows ++ [r])).lookup x = some v := by
  unfold ents at *; rw [List.map_append, List.lookup_append, h]; rfl
theorem Chain.app {rows : List Row} {r : Row} {x : Str} {l : List Str} (h : Chain rows x l) : Chain (rows ++ [r]) x l := by
  induction h with
  | top hx hp => exact .top (ents_app hx) hp
  | up hx hp hc ih => exact .up (ents_app hx) hp ih
theorem ents_last {rows : List Row} {r : Row} (h : r.n ∉ Mine.names rows) : (ents (rows ++ [r])).lookup r.n = some (item r) := by
  have := ents_none h
  unfold ents at *; rw [List.map_append, List.lookup_append, this]; simp
structure TopP (rows : List Row) (r : Row) (t : Str) : Prop where
  top : Top rows r.n t
  iff : t = r.n ↔ r.par = ""
  ex : ∃ r' ∈ rows, r'.n = t ∧ r'.par = ""
theorem RowsP.tops {t j : Nat} {rows : List Row} (R : RowsP t j rows) (ht : t ≤ 3) (hj : j ≤ 3) : ∀ r ∈ rows, ∃ x l, (ents rows).lookup r.n = some (item r) ∧ Chain rows r.n l ∧ l.length ≤ rows.length ∧ (r.n :: l)[l.length]? = some x ∧ (x = r.n ↔ r.par = "") ∧ ∃ r' ∈ rows, r'.n = x ∧ r'.par = "" := by
  induction R with
  | nil => intro r hr; cases hr
  | @top t rows m R hm ih =>
    intro r hr
    have hnd := allN_nodup ht hj
    rw [← (RowsP.top R hm).names] at hnd
    rcases List.mem_append.mp hr with hr | hr
    · obtain ⟨x, l, h1, h2, h3, h4, h5, r', h6, h7, h8⟩ := ih (by lia) hj r hr
      exact ⟨x, l, ents_app h1, h2.app, by simp; lia, h4, h5, r', by simp [h6], h7, h8⟩
    · rw [List.mem_singleton.mp hr]
      have hn : (⟨tN t, m, ""⟩ : Row).n ∉ Mine.names rows := by
        unfold Mine.names at hnd ⊢
        rw [List.map_append, List.nodup_append] at hnd
        exact fun h => hnd.2.2 _ h _ (.head _) rfl
      exact ⟨tN t, [], ents_last hn, .top (ents_last hn) rfl, by simp, rfl, ⟨fun _ => rfl, fun _ => rfl⟩, ⟨tN t, m, ""⟩, by simp, rfl, rfl⟩
  | @bel t j rows m r0 R hr0 hm ih =>
    intro r hr
    have hnd := allN_nodup ht hj
    rw [← (RowsP.bel R hr0 hm).names] at hnd
    rcases List.mem_append.mp hr with hr | hr
    · obtain ⟨x, l, h1, h2, h3, h4, h5, r', h6, h7, h8⟩ := ih (by lia) (by lia) r hr
      exact ⟨x, l, ents_app h1, h2.app, by simp; lia, h4, h5, r', by simp [h6], h7, h8⟩
    · rw [List.mem_singleton.mp hr]
      have hn : (⟨bN j, m, r0.n⟩ : Row).n ∉ Mine.names rows := by
        unfold Mine.names at hnd ⊢
        rw [List.map_append, List.nodup_append] at hnd
        exact fun h => hnd.2.2 _ h _ (.head _) rfl
      obtain ⟨x, l, h1, h2, h3, h4, h5, r', h6, h7, h8⟩ := ih (by lia) (by lia) r0 hr0
      have hne : r0.n ≠ "" := (R.nm (by lia) (by lia) r0 hr0).2.2.2.2.1
      refine ⟨x, r0.n :: l, ents_last hn, .up (r := ⟨bN j, m, r0.n⟩) (ents_last hn) hne h2.app, by simp; lia, h4, ⟨fun e => ?_, fun e => absurd e hne⟩, r', by simp [h6], h7, h8⟩
      have hmm : r'.n ∈ Mine.names rows := List.mem_map_of_mem h6
      rw [h7, e] at hmm
      exact absurd hmm hn
theorem RowsP.tp {t j : Nat} {rows : List Row} (R : RowsP t j rows) (ht : t ≤ 3) (hj : j ≤ 3) : ∃ tp : Str → Str, ∀ r ∈ rows, Top rows r.n (tp r.n) ∧ tp r.n ≠ "" ∧ (tp r.n = r.n ↔ r.par = "") ∧ (∃ r' ∈ rows, r'.n = tp r.n ∧ r'.par = "") := by
  have hnd : (Mine.names rows).Nodup := by rw [R.names]; exact allN_nodup ht hj
  have h := R.tops ht hj
  have hlen := R.len
  have key : ∀ x : Str, ∃ y : Str, ∀ r ∈ rows, r.n = x → Top rows r.n y ∧ y ≠ "" ∧ (y = r.n ↔ r.par = "") ∧ (∃ r' ∈ rows, r'.n = y ∧ r'.par = "") := by
    intro x
    by_cases hx : ∃ r ∈ rows, r.n = x
    · obtain ⟨r, hr, rfl⟩ := hx
      obtain ⟨y, l, h1, h2, h3, h4, h5, r', h6, h7, h8⟩ := h r hr
      refine ⟨y, fun r2 hr2 e => ?_⟩
      have e2 := names_inj hnd hr2 hr e
      subst e2
      exact ⟨⟨r2, l, h1, h2, by lia, h4⟩, by rw [← h7]; exact (R.nm ht hj r' h6).2.2.2.2.1, h5, r', h6, h7, h8⟩
    · exact ⟨"", fun r hr e => absurd ⟨r, hr, e⟩ hx⟩
  exact ⟨fun x => Classical.choose (key x), fun r hr => Classical.choose_spec (key r.n) r hr rfl⟩
noncomputable def bigN (t : Nat) : List Str := (List.range t).flatMap fun i => (List.range 3).map (atomName (tN i))
theorem RowsP.atomsSub {t j : Nat} {rows : List Row} (R : RowsP t j rows) (ht : t ≤ 3) (hj : j ≤ 3) {f : Str → Bool × Nat} (hf : ∀ x, (f x).2 ≤ 3) : (atoms f rows).nm.Sublist (bigN t) := by
  induction R with
  | nil => exact List.nil_sublist _
  | @top t rows m R hm ih =>
    have h := ih (by lia) hj
    unfold atoms at *
    rw [List.foldl_append, List.foldl_cons, List.foldl_nil]
    generalize rows.foldl (atStep f) ⟨[], []⟩ = x at h ⊢
    unfold atStep bigN
    rw [if_pos rfl, List.range_succ (n := t), List.flatMap_append]
    refine List.Sublist.append h ?_
    rw [List.flatMap_singleton]
    refine List.Sublist.map _ ?_
    have : ∀ n, n ≤ 3 → (List.range n).Sublist (List.range 3) := by
      intro n hn
      have : n = 0 ∨ n = 1 ∨ n = 2 ∨ n = 3 := by lia
      rcases this with rfl | rfl | rfl | rfl <;> decide
    exact this _ (hf _)
  | @bel t j rows m r0 R hr0 hm ih =>
    have h := ih (by lia) (by lia)
    have hne : r0.n ≠ "" := (R.nm (by lia) (by lia) r0 hr0).2.2.2.2.1
    unfold atoms at *
    rw [List.foldl_append, List.foldl_cons, List.foldl_nil]
    generalize rows.foldl (atStep f) ⟨[], []⟩ = x at h ⊢
    unfold atStep
    rw [if_neg hne]
    exact h
theorem bigN_ok {t : Nat} (ht : t ≤ 3) : (bigN t).Nodup ∧ ∀ x ∈ bigN t, sOk x := by
  have h1 : t = 0 ∨ t = 1 ∨ t = 2 ∨ t = 3 := by lia
  rcases h1 with rfl | rfl | rfl | rfl <;> exact ⟨by decide +kernel, by decide +kernel⟩
end
section
theorem nodup_rev {α : Type} {l : List α} (h : l.Nodup) : l.reverse.Nodup := (List.Perm.nodup_iff (List.reverse_perm l)).mpr h
structure OrdP (rows : List Row) (os : List Ord) : Prop where
  nd : (os.map (·.als)).Nodup
  al : ∀ o ∈ os, o.als = "o" ∨ o.als = "p"
  sg : ∀ o ∈ os, ∃ r ∈ rows, r.n = o.sig ∧ r.par = ""
  len : os.length ≤ 2
theorem OrdP.rev {rows : List Row} {os : List Ord} (O : OrdP rows os) : OrdP rows os.reverse :=
  ⟨by rw [List.map_reverse]; exact nodup_rev O.nd, fun o h => O.al o (List.mem_reverse.mp h), fun o h => O.sg o (List.mem_reverse.mp h), by rw [List.length_reverse]; exact O.len⟩
theorem OrdP.ordsOk {rows : List Row} {os : List Ord} (O : OrdP rows os) : OrdsOk rows os := by
  refine ⟨O.nd, fun o h => ?_, by have := O.len; lia⟩
  obtain ⟨r, hr, e, _⟩ := O.sg o h
  refine ⟨?_, e ▸ List.mem_map_of_mem hr, ?_⟩
  · rcases O.al o h with h | h <;> rw [h] <;> decide
  · rcases O.al o h with h | h <;> rw [h] <;> decide +kernel
theorem lookup_mem {α : Type} {l : List (Str × α)} {x : Str} {v : α} (h : l.lookup x = some v) : (x, v) ∈ l := by
  induction l with
  | nil => cases h
  | cons y l ih =>
    rw [List.lookup_cons] at h
    split at h
    · rename_i e
      have e2 := beq_iff_eq.mp e
      cases h
      rw [e2]; exact .head _
    · exact .tail _ (ih h)
theorem mem_lookup {α : Type} {l : List (Str × α)} {x : Str} {v : α} (hnd : (l.map (·.1)).Nodup) (h : (x, v) ∈ l) : l.lookup x = some v := by
  induction l with
  | nil => cases h
  | cons y l ih =>
    rw [List.map_cons, List.nodup_cons] at hnd
    rw [List.lookup_cons]
    rcases List.mem_cons.mp h with h | h
    · rw [← h]; simp
    · have : (x == y.1) = false := by
        rw [beq_eq_false_iff_ne]
        rintro rfl
        exact hnd.1 (List.mem_map_of_mem (f := (·.1)) h)
      rw [this]; exact ih hnd.2 h
theorem lookup_rev {α : Type} {l : List (Str × α)} (hnd : (l.map (·.1)).Nodup) (x : Str) : l.reverse.lookup x = l.lookup x := by
  refine Option.ext fun v => ⟨fun h => mem_lookup hnd (List.mem_reverse.mp (lookup_mem h)), fun h => mem_lookup ?_ (List.mem_reverse.mpr (lookup_mem h))⟩
  rw [List.map_reverse]; exact nodup_rev hnd
theorem toldL_fst (tl : List (Bool × Int × Str)) : (toldL tl).map (·.1) = tl.map (·.2.2) := by unfold toldL; rw [List.map_map]; rfl
theorem toldL_rev {tl : List (Bool × Int × Str)} (hnd : (tl.map (·.2.2)).Nodup) (x : Str) : (toldL tl.reverse).lookup x = (toldL tl).lookup x := by
  unfold toldL
  rw [List.map_reverse]
  exact lookup_rev (by rw [← toldL_fst] at hnd; exact hnd) x
theorem toldL_mem {tl : List (Bool × Int × Str)} {x : Str} {b : Bool} {m : Int} (h : (toldL tl).lookup x = some (b, m)) : (b, m, x) ∈ tl := by
  have := lookup_mem h
  unfold toldL at this
  obtain ⟨y, hy, e⟩ := List.mem_map.mp this
  cases e; exact hy
theorem TellP.rev {rows : List Row} {tl : List (Bool × Int × Str)} {left : List Row} (T : TellP rows tl left) : TellP rows tl.reverse left :=
  ⟨by rw [List.map_reverse]; exact nodup_rev T.tnd, T.lnd, T.sub, fun x h => T.dis x (List.mem_reverse.mp h), fun x h => T.ok x (List.mem_reverse.mp h), by rw [List.length_reverse]; exact T.len⟩
theorem lot_two {rows : List Row} {os : List Ord} {n : Nat} {tl : List (Bool × Int × Str)} {left : List Row} (T : TellP rows tl left) (hn : n ≤ 2) (x : Str) : (lotF rows os n tl x).2 ≤ 2 := by
  have key : 0 ≤ (((toldL tl).lookup x).getD (false, (n : Int))).2 ∧ (((toldL tl).lookup x).getD (false, (n : Int))).2 ≤ 2 := by
    cases e : (toldL tl).lookup x with
    | none => simp; lia
    | some y =>
      obtain ⟨r, _, _, h0, h2, _⟩ := T.ok _ (toldL_mem (b := y.1) (m := y.2) e)
      exact ⟨h0, h2⟩
  show Int.toNat (lot _ _ _ _).2 ≤ 2
  unfold lot
  split
  · decide
  · show Int.toNat (if multOf rows x = "lone" then min _ 1 else _) ≤ 2
    split <;> lia
theorem lotF_rev {rows : List Row} {os : List Ord} {n : Nat} {tl : List (Bool × Int × Str)} (hnd : (tl.map (·.2.2)).Nodup) : lotF rows os.reverse n tl.reverse = lotF rows os n tl := by
  funext x
  unfold lotF
  rw [toldL_rev hnd, ordF_some, ordF_some, List.map_reverse]
  simp
theorem ordN_ne {rows : List Row} {os : List Ord} (O : OrdP rows os) : (os.map ordN).Nodup := by
  have h := O.nd
  unfold List.Nodup at h ⊢
  rw [List.pairwise_map] at h ⊢
  refine List.Pairwise.imp_of_mem (fun {a b} ha hb hab => ?_) h
  unfold ordN
  rcases O.al a ha with ea | ea <;> rcases O.al b hb with eb | eb
  · exact absurd (ea.trans eb.symm) hab
  · rw [ea, eb]; decide
  · rw [ea, eb]; decide
  · exact absurd (ea.trans eb.symm) hab
theorem scOk {t j : Nat} {rows : List Row} (R : RowsP t j rows) (ht : t ≤ 3) (hj : j ≤ 3) {os : List Ord} (O : OrdP rows os) {n : Nat} (hn : n ≤ 2) {tl : List (Bool × Int × Str)} {left : List Row} (T : TellP rows tl left) (htl : tl.length ≤ 3) {tp : Str → Str}
    (P : ∀ r ∈ rows, Top rows r.n (tp r.n) ∧ tp r.n ≠ "" ∧ (tp r.n = r.n ↔ r.par = "") ∧ (∃ r' ∈ rows, r'.n = tp r.n ∧ r'.par = "")) : ScOk rows os n tl tp where
  len := by rw [R.len]; lia
  olen := by have := O.len; lia
  tlen := by lia
  nodup := (R.rowsOk ht hj).nodup
  top := P
  nm := fun r hr => by have := R.nm ht hj r hr; exact ⟨this.1, this.2.1, this.2.2.1, this.2.2.2.1⟩
  ord := fun o ho => ⟨O.sg o ho, by rcases O.al o ho with e | e <;> rw [e] <;> decide⟩
  onm := by
    rw [List.nodup_append]
    refine ⟨(R.rowsOk ht hj).nodup, ordN_ne O, fun x hx y hy => ?_⟩
    obtain ⟨r, hr, rfl⟩ := List.mem_map.mp hx
    obtain ⟨o, ho, rfl⟩ := List.mem_map.mp hy
    have := R.nm ht hj r hr
    unfold ordN
    rcases O.al o ho with e | e
    · rw [e]; exact this.2.2.2.2.2.2.1
    · rw [e]; exact this.2.2.2.2.2.2.2
  told := fun x hx => by
    obtain ⟨r, hr, e, h0, _⟩ := T.ok x hx
    exact ⟨e ▸ List.mem_map_of_mem hr, h0⟩
  tnd := T.tnd
  one := fun r hr b m e hp ho => by
    obtain ⟨r', hr', e', _, _, h1, _⟩ := T.ok _ (toldL_mem e)
    have e2 := names_inj (R.rowsOk ht hj).nodup hr' hr e'
    subst e2
    exact h1 hp ho
  lone := fun r hr m e hp ho => by
    obtain ⟨r', hr', e', _, _, _, h1⟩ := T.ok _ (toldL_mem e)
    have e2 := names_inj (R.rowsOk ht hj).nodup hr' hr e'
    subst e2
    exact h1 hp ho rfl
  few := fun x => by have := lot_two (os := os) T hn x; lia
  anm := (R.atomsSub ht hj (fun x => by have := lot_two (os := os) T hn x; lia)).nodup (bigN_ok ht).1
end
section
theorem setsL_filter (high : List Int) (d : List Int) : (setsL d).filter (fun s => decide (s.filter (fun a => !decide (a ∈ high)) = [])) = setsL (d.filter fun a => decide (a ∈ high)) := by
  have key : ∀ (d : List Int) (S T : List (List Int)), S.filter (fun s => decide (s.filter (fun a => !decide (a ∈ high)) = [])) = T →
      (d.foldl (fun S a => S ++ S.map (· ++ [a])) S).filter (fun s => decide (s.filter (fun a => !decide (a ∈ high)) = [])) = (d.filter fun a => decide (a ∈ high)).foldl (fun S a => S ++ S.map (· ++ [a])) T := by
    intro d
    induction d with
    | nil => intro S T h; exact h
    | cons a d ih =>
      intro S T h
      rw [List.foldl_cons, List.filter_cons]
      by_cases ha : a ∈ high
      · rw [if_pos (by simpa using ha), List.foldl_cons]
        refine ih _ _ ?_
        rw [List.filter_append, List.filter_map, h]
        congr 1
        rw [← h]
        congr 1
        refine List.filter_congr fun s _ => ?_
        simp [List.filter_append, ha]
        exact ⟨fun h x hx => h x (.inl hx), fun h x hx => hx.elim (h x) (fun e => e ▸ ha)⟩
      · rw [if_neg (by simpa using ha)]
        refine ih _ _ ?_
        rw [List.filter_append, List.filter_map, h]
        have : S.filter ((fun s => decide (s.filter (fun a => !decide (a ∈ high)) = [])) ∘ (· ++ [a])) = [] := by
          rw [List.filter_eq_nil_iff]
          intro s _
          simp [List.filter_append, ha]
        rw [this]; simp
  exact key d [[]] [[]] (by simp)
theorem rng_in {N b c : Nat} (hN : N ≤ 6) (hc : c ≤ 2) (h : b + c ≤ N) : (rngI 0 N).filter (fun a => decide (a ∈ rngI b c)) = rngI b c := by
  have h1 : ∀ N : Fin 7, ∀ b : Fin 7, ∀ c : Fin 3, b.val + c.val ≤ N.val → (rngI 0 N.val).filter (fun a => decide (a ∈ rngI b.val c.val)) = rngI b.val c.val := by decide +kernel
  exact h1 ⟨N, by lia⟩ ⟨b, by lia⟩ ⟨c, by lia⟩ h
noncomputable def okF (fs : List (Nat × Bool × Int × Str)) (r : Nat) (s : List Int) : Bool := fs.all fun f => !decide (f.1 = r) || okC f.2.1 f.2.2.1 s
theorem filter_okL {low : List Int} {N b c r : Nat} {fs : List (Nat × Bool × Int × Str)} (hN : N ≤ 6) (hc : c ≤ 2) (h : b + c ≤ N) : (setsL (rngI 0 N)).filter (okL low (rngI b c) fs r) = (setsL (rngI b c)).filter fun s => decide (low.filter (fun a => !decide (a ∈ s)) = []) && okF fs r s := by
  have e : okL low (rngI b c) fs r = fun s => (decide (low.filter (fun a => !decide (a ∈ s)) = []) && okF fs r s) && decide (s.filter (fun a => !decide (a ∈ rngI b c)) = []) := by
    funext s
    unfold okL okF
    cases decide (low.filter (fun a => !decide (a ∈ s)) = []) <;> cases decide (s.filter (fun a => !decide (a ∈ rngI b c)) = []) <;> simp
  rw [e, ← List.filter_filter, setsL_filter, rng_in hN hc h]
theorem sure_one {b c : Nat} (hb : b ≤ 6) (hc : c ≤ 2) : sortM ((setsL (rngI b c)).filter fun s => decide ((rngI b c).filter (fun a => !decide (a ∈ s)) = [])) = [rngI b c] := by
  have h1 : ∀ b : Fin 7, ∀ c : Fin 3, sortM ((setsL (rngI b.val c.val)).filter fun s => decide ((rngI b.val c.val).filter (fun a => !decide (a ∈ s)) = [])) = [rngI b.val c.val] := by decide +kernel
  exact h1 ⟨b, by lia⟩ ⟨c, by lia⟩
theorem sort_okC {b c m : Nat} (hb : b ≤ 6) (hc : c ≤ 2) (hm : m ≤ 2) (ie : Bool) : sortM ((setsL (rngI b c)).filter (okC ie m)) = (sortM (setsL (rngI b c))).filter (okC ie m) := by
  have h1 : ∀ b : Fin 7, ∀ c : Fin 3, ∀ m : Fin 3, ∀ ie : Bool, sortM ((setsL (rngI b.val c.val)).filter (okC ie (m.val : Int))) = (sortM (setsL (rngI b.val c.val))).filter (okC ie (m.val : Int)) := by decide +kernel
  exact h1 ⟨b, by lia⟩ ⟨c, by lia⟩ ⟨m, by lia⟩ ie
theorem sort_small {b c : Nat} (hb : b ≤ 6) (hc : c ≤ 2) : (∀ l ∈ sortM (setsL (rngI b c)), l.length ≤ 2) ∧ (sortM (setsL (rngI b c))).length ≤ 4 := by
  have h1 : ∀ b : Fin 7, ∀ c : Fin 3, (∀ l ∈ sortM (setsL (rngI b.val c.val)), l.length ≤ 2) ∧ (sortM (setsL (rngI b.val c.val))).length ≤ 4 := by decide +kernel
  exact h1 ⟨b, by lia⟩ ⟨c, by lia⟩
theorem fold_narrow {tl : List (Bool × Int × Str)} {x : Str} (hnd : (tl.map (·.2.2)).Nodup) (F : List (List Int)) : tl.foldl (narrow x) F = match (toldL tl).lookup x with | none => F | some (ie, m) => F.filter (okC ie m) := by
  induction tl generalizing F with
  | nil => rfl
  | cons y l ih =>
    rw [List.map_cons, List.nodup_cons] at hnd
    rw [List.foldl_cons, ih hnd.2]
    unfold toldL narrow
    rw [List.map_cons, List.lookup_cons]
    by_cases h : y.2.2 = x
    · have e1 : (x == y.2.2) = true := by rw [beq_iff_eq]; exact h.symm
      rw [if_pos h, e1]
      have hno : (l.map fun x => (x.2.2, x.1, x.2.1)).lookup x = none := by
        refine lookup_no fun z hz e => ?_
        obtain ⟨w, hw, rfl⟩ := List.mem_map.mp hz
        refine hnd.1 ?_
        rw [h, ← e]
        exact List.mem_map_of_mem (f := (·.2.2)) hw
      rw [hno]
    · have e1 : (x == y.2.2) = false := by rw [beq_eq_false_iff_ne]; exact fun e => h e.symm
      rw [if_neg h, e1]
theorem forms_get {tp : Str → Str} {D : List (Str × Bool × Int)} {rows : List Row} {i : Nat} {r : Row} (hi : rows[i]? = some r) (s : List Int) : okF (forms tp D rows) i s = match (if tp r.n = r.n then none else D.lookup r.n) with | none => true | some (ie, m) => okC ie m s := by
  have key : ∀ (l : List Row) (b i : Nat) (r : Row), l[i]? = some r → okF ((l.zipIdx b).filterMap fun x => match (if tp x.1.n = x.1.n then Option.none else D.lookup x.1.n) with | Option.none => Option.none | some (b, n) => some (x.2, b, n, x.1.n)) (b + i) s = match (if tp r.n = r.n then none else D.lookup r.n) with | none => true | some (ie, m) => okC ie m s := by
    have low : ∀ (l : List Row) (b j : Nat), j < b → okF ((l.zipIdx b).filterMap fun x => match (if tp x.1.n = x.1.n then Option.none else D.lookup x.1.n) with | Option.none => Option.none | some (b, n) => some (x.2, b, n, x.1.n)) j s = true := by
      intro l
      induction l with
      | nil => intro b j _; rfl
      | cons a l ih =>
        intro b j hj
        rw [List.zipIdx_cons, List.filterMap_cons]
        have := ih (b + 1) j (by lia)
        cases e : (if tp a.n = a.n then Option.none else D.lookup a.n) with
        | none => simpa [e] using this
        | some y =>
          simp only [e]
          unfold okF at this ⊢
          rw [List.all_cons, this, Bool.and_true]
          have : ¬ b = j := by lia
          simp [this]
    intro l
    induction l with
    | nil => intro b i r h; cases h
    | cons a l ih =>
      intro b i r h
      rw [List.zipIdx_cons, List.filterMap_cons]
      cases i with
      | zero =>
        have e0 : a = r := by simpa using h
        subst e0
        have := low l (b + 1) b (by lia)
        cases e : (if tp a.n = a.n then Option.none else D.lookup a.n) with
        | none => simpa [e] using this
        | some y =>
          simp only [e]
          unfold okF at this ⊢
          rw [List.all_cons, Nat.add_zero, this, Bool.and_true]
          simp
      | succ i =>
        have := ih (b + 1) i r (by simpa using h)
        have e3 : b + 1 + i = b + (i + 1) := by lia
        rw [e3] at this
        cases e : (if tp a.n = a.n then Option.none else D.lookup a.n) with
        | none => simpa [e] using this
        | some y =>
          simp only [e]
          rw [← this]
          unfold okF
          rw [List.all_cons]
          have : ¬ b = b + (i + 1) := by lia
          simp [this]
  have := key rows 0 i r hi
  rw [Nat.zero_add] at this
  exact this
theorem let_due {rows : List Row} {tp : Str → Str} {tl : List (Bool × Int × Str)} {i N b c : Nat} {r : Row} {s : Bool} {low : List Int} (hi : rows[i]? = some r) (hN : N ≤ 6) (hc : c ≤ 2) (hb : b + c ≤ N) (hnd : (tl.map (·.2.2)).Nodup)
    (htp : tp r.n = r.n ↔ r.par = "") (hlow : low = if r.par = "" ∧ s = true then rngI b c else []) (h02 : ∀ x ∈ tl, 0 ≤ x.2.1 ∧ x.2.1 ≤ 2) :
    letL low (rngI b c) (forms tp (toldL tl) rows) i N = dueL r.par r.n s (rngI b c) tl := by
  unfold letL
  rw [filter_okL hN hc hb]
  unfold dueL
  have hF := fun s' => forms_get (tp := tp) (D := toldL tl) hi s'
  by_cases hp : r.par = ""
  · rw [if_pos hp]
    have hT : ∀ s', okF (forms tp (toldL tl) rows) i s' = true := fun s' => by rw [hF s', if_pos (htp.mpr hp)]
    simp only [hT, Bool.and_true]
    cases s
    · rw [hlow, if_neg (fun h => nomatch h.2)]
      simp
      rw [List.filter_eq_self.mpr (fun _ _ => rfl)]
    · rw [hlow, if_pos ⟨hp, rfl⟩, if_pos rfl]
      exact sure_one (by lia) hc
  · rw [if_neg hp, fold_narrow hnd]
    rw [hlow, if_neg (fun h => hp h.1)]
    have hne : ¬ tp r.n = r.n := fun h => hp (htp.mp h)
    simp only [hF, if_neg hne, List.filter_nil, decide_true, Bool.true_and]
    cases e : (toldL tl).lookup r.n with
    | none => show sortM (List.filter (fun s => true) _) = _; rw [List.filter_eq_self.mpr (fun _ _ => rfl)]
    | some y =>
      obtain ⟨ie, m⟩ := y
      have h := h02 _ (toldL_mem e)
      obtain ⟨k, rfl⟩ : ∃ k : Nat, m = k := ⟨m.toNat, by have h1 : 0 ≤ m := h.1; lia⟩
      have := h.2
      exact sort_okC (by lia) hc (by show k ≤ 2; have : ((k : Nat) : Int) ≤ 2 := h.2; lia) ie
end
section
noncomputable def belowN (rows : List Row) (tl : List (Bool × Int × Str)) : List Str := rows.filterMap fun r => if ¬ r.par = ("" : Str) ∧ r.n ∈ tl.map (·.2.2) then some r.n else none
theorem toldL_some {tl : List (Bool × Int × Str)} {x : Str} : ((toldL tl).lookup x).isSome = decide (x ∈ tl.map (·.2.2)) := by
  induction tl with
  | nil => rfl
  | cons y l ih =>
    unfold toldL at ih ⊢
    rw [List.map_cons, List.map_cons, List.lookup_cons]
    by_cases h : x = y.2.2
    · rw [beq_iff_eq.mpr h]; simp [h]
    · rw [beq_eq_false_iff_ne.mpr h, ih]; simp [h]
theorem fmCongr {α β : Type} {f g : α → Option β} : ∀ {l : List α}, (∀ x ∈ l, f x = g x) → l.filterMap f = l.filterMap g
  | [], _ => rfl
  | a :: l, h => by rw [List.filterMap_cons, List.filterMap_cons, h a (.head _), fmCongr fun x hx => h x (.tail _ hx)]
theorem forms_names {tp : Str → Str} {rows : List Row} {tl : List (Bool × Int × Str)} (h : ∀ r ∈ rows, (tp r.n = r.n ↔ r.par = "")) : (forms tp (toldL tl) rows).map (·.2.2.2) = belowN rows tl := by
  unfold forms
  rw [List.map_filterMap]
  have e : ∀ x ∈ rows.zipIdx, (Option.map (fun y : Nat × Bool × Int × Str => y.2.2.2) (match (if tp x.1.n = x.1.n then Option.none else (toldL tl).lookup x.1.n) with | Option.none => Option.none | some (b, n) => some (x.2, b, n, x.1.n))) = (fun r : Row => if ¬ r.par = ("" : Str) ∧ r.n ∈ tl.map (·.2.2) then some r.n else none) x.1 := by
    intro x hx
    have hr : x.1 ∈ rows := by
      have := List.mem_map_of_mem (f := (·.1)) hx
      rwa [List.zipIdx_map_fst] at this
    have ha := h x.1 hr
    have hs := toldL_some (tl := tl) (x := x.1.n)
    show _ = if _ then _ else _
    by_cases hp : x.1.par = ""
    · rw [if_pos (ha.mpr hp), if_neg (fun k => k.1 hp)]; rfl
    · rw [if_neg (fun k => hp (ha.mp k))]
      cases e2 : (toldL tl).lookup x.1.n with
      | none =>
        rw [e2] at hs
        rw [if_neg (fun k => by rw [decide_eq_true k.2] at hs; cases hs)]; rfl
      | some y =>
        rw [e2] at hs
        rw [if_pos ⟨hp, of_decide_eq_true hs.symm⟩]; rfl
  refine (fmCongr e).trans ?_
  unfold belowN
  have key : ∀ (G : Row → Option Str), rows.zipIdx.filterMap (fun x => G x.1) = rows.filterMap G := fun G => by
    rw [show (fun x : Row × Nat => G x.1) = G ∘ Prod.fst from rfl, ← List.filterMap_map, List.zipIdx_map_fst]
  exact key (fun r => if ¬ r.par = ("" : Str) ∧ r.n ∈ tl.map (·.2.2) then some r.n else none)
theorem forms_rev {tp : Str → Str} {rows : List Row} {tl : List (Bool × Int × Str)} (hnd : (tl.map (·.2.2)).Nodup) : forms tp (toldL tl.reverse) rows = forms tp (toldL tl) rows := by
  unfold forms
  congr 1
  funext x
  rw [toldL_rev hnd]
theorem numD_at {xs : List Str} (hnd : xs.Nodup) {i : Nat} {x : Str} (h : xs[i]? = some x) : (numD xs).lookup x = some (.int i) := by
  refine mem_lookup ?_ ?_
  · unfold numD
    rw [List.map_map]
    have : ((fun (x : Str × PV) => x.1) ∘ fun (x : Str × Nat) => (x.1, PV.int x.2)) = (·.1) := rfl
    rw [this, List.zipIdx_map_fst]; exact hnd
  · unfold numD
    refine List.mem_map.mpr ⟨(x, i), ?_, rfl⟩
    rw [List.mem_iff_getElem?]
    refine ⟨i, ?_⟩
    rw [List.getElem?_zipIdx, h]; simp
mutual
theorem eqvRefl : ∀ d : PyData, d.canLay0 = true → PyData.eqv d d = true
  | .none, _ => by simp [PyData.eqv]
  | .bool b, _ => by simp [PyData.eqv]
  | .int i, _ => by simp [PyData.eqv]
  | .str x, _ => by simp [PyData.eqv]
  | .list xs, h => by
    unfold PyData.canLay0 at h
    unfold PyData.eqv
    exact eqvAllRefl xs h
  | .tuple xs, h => by
    unfold PyData.canLay0 at h
    unfold PyData.eqv
    exact eqvAllRefl xs h
  | .dict _, h => by simp [PyData.canLay0] at h
theorem eqvAllRefl : ∀ ds : List PyData, PyData.canLayAll0 ds = true → PyData.eqvAll ds ds = true
  | [], _ => by simp [PyData.eqvAll]
  | d :: ds, h => by
    unfold PyData.canLayAll0 at h
    rw [Bool.and_eq_true] at h
    unfold PyData.eqvAll
    rw [eqvRefl d h.1, eqvAllRefl ds h.2]; rfl
end
section
variable {σ : Sto}
/-- plain data: what it reads as, may be laid, is not deep -/
structure Pln (σ : Sto) (v : PV) (d : PyData) (n : Nat) : Prop where
  dat : DatV σ v d
  can : d.canLay0 = true
  deep : d.depth ≤ n
structure PlnL (σ : Sto) (vs : List PV) (ds : List PyData) (n : Nat) : Prop where
  dat : DatVs σ vs ds
  can : PyData.canLayAll0 ds = true
  deep : PyData.depthAll ds ≤ n
theorem Pln.shaped {v : PV} {d : PyData} {n : Nat} (h : Pln σ v d n) (hn : n ≤ 64) : SeqAt.shaped d = true := by
  unfold SeqAt.shaped
  rw [h.can, Bool.true_and]
  exact decide_eq_true (by have := h.deep; lia)
theorem Pln.eqP {v : PV} {d : PyData} {n : Nat} (h : Pln σ v d n) (hn : n ≤ 64) : EqP σ v v := ⟨d, d, h.dat, h.dat, h.shaped hn, h.shaped hn, eqvRefl d h.can⟩
theorem Pln.int {i : Int} : Pln σ (.int i) (.int i) 1 := ⟨.int, by simp [PyData.canLay0], by simp [PyData.depth]⟩
theorem Pln.str {x : Str} (h : sOk x) : Pln σ (.str x) (.str x) 1 := ⟨.str, h, by simp [PyData.depth]⟩
theorem PlnL.nil {n : Nat} : PlnL σ [] [] n := ⟨.nil, by simp [PyData.canLayAll0], by simp [PyData.depthAll]⟩
theorem PlnL.cons {v : PV} {d : PyData} {vs : List PV} {ds : List PyData} {n : Nat} (h : Pln σ v d n) (t : PlnL σ vs ds n) : PlnL σ (v :: vs) (d :: ds) n :=
  ⟨.cons h.dat t.dat, by unfold PyData.canLayAll0; rw [h.can, t.can]; rfl, by have := h.deep; have := t.deep; unfold PyData.depthAll; lia⟩
theorem Pln.mono {v : PV} {d : PyData} {n m : Nat} (h : Pln σ v d n) (hm : n ≤ m) : Pln σ v d m := ⟨h.dat, h.can, by have := h.deep; lia⟩
theorem Pln.tup {vs : List PV} {ds : List PyData} {n : Nat} (h : PlnL σ vs ds n) : Pln σ (.tup vs) (.tuple ds) (n + 1) := ⟨.tup h.dat, by unfold PyData.canLay0; exact h.can, by have := h.deep; simp only [PyData.depth]; lia⟩
theorem Pln.lst {vs : List PV} {ds : List PyData} {n : Nat} (h : PlnL σ vs ds n) : Pln σ (.lst vs) (.list ds) (n + 1) := ⟨.lst h.dat, by unfold PyData.canLay0; exact h.can, by have := h.deep; simp only [PyData.depth]; lia⟩
theorem PlnL.map {α : Type} {f : α → PV} {g : α → PyData} {n : Nat} : ∀ {l : List α}, (∀ a ∈ l, Pln σ (f a) (g a) n) → PlnL σ (l.map f) (l.map g) n
  | [], _ => .nil
  | a :: l, h => .cons (h a (.head _)) (PlnL.map fun b hb => h b (.tail _ hb))
theorem Pln.rel (l : List (List Int)) : Pln σ (rel l) (.tuple (l.map dTup)) 3 := .tup (PlnL.map fun a _ => Pln.tup (PlnL.map fun i _ => Pln.int))
theorem Pln.entry {nm : Str} (h : sOk nm) (m : Nat) (lo up : List (List Int)) : Pln σ (entry nm m lo up) (.tuple [.str nm, .int m, .tuple (lo.map dTup), .tuple (up.map dTup)]) 4 :=
  .tup (.cons ((Pln.str h).mono (by lia)) (.cons (Pln.int.mono (by lia)) (.cons (Pln.rel lo) (.cons (Pln.rel up) .nil))))
end
end
section
variable {p : Pk} {σ : Sto} {ρ : Rho} {Q : Post}
structure LawSt (ρ : Rho) (a : At) (rows : List Row) (os : List Ord) (tl : List (Bool × Int × Str)) (tp : Str → Str) (dn : Nat) : Prop where
  bds : ρ.lookup ("bounds" : Str) = some (bndPV a (rows.map (rowB a tp) ++ os.map (ordB a)) (names rows ++ os.map ordN))
  nbs : ρ.lookup ("numbers" : Str) = some (.sd (numD (names rows ++ os.map ordN)))
  lbl : ρ.lookup ("labelled" : Str) = some (.lst ((forms tp (toldL tl) rows).map lblV))
  rws : ρ.lookup ("rows" : Str) = some (.lst (rows.map rowT))
  lnd : ρ.lookup ("lined" : Str) = some (.lst (os.map opened))
  scp : ρ.lookup ("scope" : Str) = some (.tup [.int dn, .tup (tl.map tr)])
  lts : ρ.lookup ("lots" : Str) = some (.sd (lawD a))
  mny : ρ.lookup ("many" : Str) = some (.int a.nm.length)
  tld : ρ.lookup ("told" : Str) = some (outB a rows os tp tl)
noncomputable def lawNames : List Str := ["bounds", "numbers", "labelled", "rows", "lined", "scope", "lots", "many", "told"]
theorem LawSt.set {a : At} {rows : List Row} {os : List Ord} {tl : List (Bool × Int × Str)} {tp : Str → Str} {dn : Nat} (S : LawSt ρ a rows os tl tp dn) {x : Str} {v : PV} (hx : x ∉ lawNames) : LawSt (rset x v ρ) a rows os tl tp dn := by
  have h : ∀ y ∈ lawNames, y ≠ x := fun y hy e => hx (e ▸ hy)
  exact ⟨look_ne S.bds (h _ (by decide)), look_ne S.nbs (h _ (by decide)), look_ne S.lbl (h _ (by decide)), look_ne S.rws (h _ (by decide)), look_ne S.lnd (h _ (by decide)), look_ne S.scp (h _ (by decide)), look_ne S.lts (h _ (by decide)), look_ne S.mny (h _ (by decide)), look_ne S.tld (h _ (by decide))⟩
structure LawC (t j : Nat) (rows : List Row) (os : List Ord) (tl : List (Bool × Int × Str)) (left : List Row) (tp : Str → Str) (dn : Nat) (a : At) : Prop where
  R : RowsP t j rows
  t2 : 2 ≤ t
  t3 : t ≤ 3
  j3 : j ≤ 3
  O : OrdP rows os
  T : TellP rows tl left
  tlen : tl.length ≤ 3
  dn2 : dn ≤ 2
  P : ∀ r ∈ rows, Top rows r.n (tp r.n) ∧ tp r.n ≠ "" ∧ (tp r.n = r.n ↔ r.par = "") ∧ (∃ r' ∈ rows, r'.n = tp r.n ∧ r'.par = "")
  at_ : atoms (lotF rows os dn tl) rows = a
theorem LawC.sc {t j : Nat} {rows : List Row} {os : List Ord} {tl : List (Bool × Int × Str)} {left : List Row} {tp : Str → Str} {dn : Nat} {a : At} (L : LawC t j rows os tl left tp dn a) : ScOk rows os dn tl tp := scOk L.R L.t3 L.j3 L.O L.dn2 L.T L.tlen L.P
theorem atoms_le {t j : Nat} {rows : List Row} (R : RowsP t j rows) (ht : t ≤ 3) (hj : j ≤ 3) {f : Str → Bool × Nat} (hf : ∀ x, (f x).2 ≤ 2) : (atoms f rows).nm.length ≤ 2 * t := by
  induction R with
  | nil => exact Nat.le_refl _
  | @top t rows m R hm ih =>
    have h := ih (by lia) hj
    unfold atoms at *
    rw [List.foldl_append, List.foldl_cons, List.foldl_nil]
    generalize rows.foldl (atStep f) ⟨[], []⟩ = x at h ⊢
    unfold atStep
    rw [if_pos rfl]
    have := hf (tN t)
    simp
    lia
  | @bel t j rows m r0 R hr0 hm ih =>
    have h := ih (by lia) (by lia)
    have hne : r0.n ≠ "" := (R.nm (by lia) (by lia) r0 hr0).2.2.2.2.1
    unfold atoms at *
    rw [List.foldl_append, List.foldl_cons, List.foldl_nil]
    generalize rows.foldl (atStep f) ⟨[], []⟩ = x at h ⊢
    unfold atStep
    rw [if_neg hne]
    exact h
theorem LawC.small {t j : Nat} {rows : List Row} {os : List Ord} {tl : List (Bool × Int × Str)} {left : List Row} {tp : Str → Str} {dn : Nat} {a : At} (L : LawC t j rows os tl left tp dn a) : a.nm.length ≤ 6 ∧ rows.length ≤ 6 ∧ os.length ≤ 2 := by
  have h := atoms_le L.R L.t3 L.j3 (f := lotF rows os dn tl) (fun x => lot_two L.T L.dn2 x)
  rw [L.at_] at h
  have := L.R.len
  have := L.t3
  have := L.j3
  exact ⟨by lia, by lia, L.O.len⟩
/-- the lot of a row -/
theorem LawC.lot {t j : Nat} {rows : List Row} {os : List Ord} {tl : List (Bool × Int × Str)} {left : List Row} {tp : Str → Str} {dn : Nat} {a : At} (L : LawC t j rows os tl left tp dn a) {r : Row} (hr : r ∈ rows) :
    ∃ b c s, a.lots.lookup (tp r.n) = some (b, c, s) ∧ c ≤ 2 ∧ b + c ≤ a.nm.length ∧ upR a (tp r.n) = (rngI b c).map (fun x => [x]) ∧ loR a r.n = (if r.par = "" ∧ s = true then rngI b c else []).map (fun x => [x]) := by
  have C := L.sc
  obtain ⟨b, e, hb⟩ := (C.tops hr).ex
  rw [L.at_] at e hb
  have h2 := lot_two (os := os) L.T L.dn2 (tp r.n)
  have hr1 : rngT b (lotF rows os dn tl (tp r.n)).2 = (rngI b (lotF rows os dn tl (tp r.n)).2).map (fun x => [x]) := by unfold rngT rngI; rw [List.map_map]; rfl
  refine ⟨b, _, _, e, h2, hb, ?_, ?_⟩
  · unfold upR lkA; rw [e]; exact hr1
  · by_cases hp : r.par = ""
    · have e2 := (L.P r hr).2.2.1.mpr hp
      rw [e2] at e
      unfold loR; rw [e]
      cases hs : (lotF rows os dn tl (tp r.n)).1
      · rw [e2] at hs
        rw [hs, if_neg (fun h => nomatch h.2)]; rfl
      · rw [e2] at hs hr1
        rw [hs, if_pos ⟨hp, rfl⟩, e2]; exact hr1
    · have := lots_below (f := lotF rows os dn tl) C.nodup hr hp
      rw [L.at_] at this
      unfold loR; rw [this, if_neg (fun h => hp h.1)]; rfl
end
section
variable {p : Pk} {σ : Sto} {ρ : Rho} {Q : Post}
theorem o2_ne_ints {c : Cx} {a b : List Int} {Q : Post} (q : Q (.bool (!decide (a = b))) σ) : O2 c (fun v w => operate [v, w] (compareOp .NotEq v w)) (.lst (a.map .int)) (.lst (b.map .int)) σ Q := by
  refine o2_ne (.lst (datInts a)) (.lst (datInts b)) (shapedInts a) (shapedInts b) ?_
  show Q (.bool (!PyData.eqvAll _ _)) σ
  rw [eqvInts]; exact q
theorem num_row {rows : List Row} {xs : List Str} (hnd : (names rows ++ xs).Nodup) {i : Nat} {r : Row} (h : rows[i]? = some r) : (numD (names rows ++ xs)).lookup r.n = some (.int i) := by
  refine numD_at hnd ?_
  have hi := (List.getElem?_eq_some_iff.mp h).1
  rw [List.getElem?_append_left (by unfold names; simpa using hi)]
  unfold names
  rw [List.getElem?_map, h]; rfl
theorem c_rest0 (ok : p.G.Ok) {k : Nat} {A : Addr} {Qn : Rho → Sto → Prop} {Qr : Post} {t j : Nat} {rows : List Row} {os : List Ord} {tl : List (Bool × Int × Str)} {left : List Row} {tp : Str → Str} {dn : Nat} {a : At} (L : LawC t j rows os tl left tp dn a) (S : LawSt ρ a rows os tl tp dn)
    (next : ∀ ρ', LawSt ρ' a rows os tl tp dn → SWP ⟨p.G, k + 8, callEnvC (fd p 634) A 634⟩ ((bd p 634).drop 10) ρ' σ Qn Qr) : SWP ⟨p.G, k + 8, callEnvC (fd p 634) A 634⟩ ((bd p 634).drop 8) ρ σ Qn Qr := by
  have C := L.sc
  obtain ⟨hsa, hsr, hso⟩ := L.small
  have hS := S
  obtain ⟨s1, s2, s3, s4, s5, s6, s7, s8, s9⟩ := id S
  walk_at "open"
  walk_at "if"
  repeat walk_at "w"
  refine KAttr.i (C := 284) .f (at_284_universe p) rfl ?_
  with_reducible refine KM.i (m1_of ok .f (me_207_size p) rfl) (k_176 p) ?_
  repeat walk_at "w"
  with_reducible refine c_usize ok uni_f (by lia) ?_
  repeat walk_at "w"
  rw [show ((a.nm.length : Int) != a.nm.length) = false from by simp]
  repeat walk_at "w"
  walk_at "ecmp"
  repeat walk_at "w"
  refine ⟨rows.map rowT, szl (by rw [List.length_map]; lia), fun C1 => ?_⟩
  with_reducible refine comp_filterE (fun x : Row × Nat => rowT x.1) (fun x => some (.int x.2)) (fun ρ => ρ.lookup ("numbers" : Str) = some (.sd (numD (names rows ++ os.map ordN)))) rows.zipIdx ?hL (.lst .f) (fun x hx ρ' hj => ?_) ?hi ?_
  case hL =>
    have : rows = rows.zipIdx.map (·.1) := by rw [List.zipIdx_map_fst]
    conv => lhs; rw [this]
    rw [List.map_map]; rfl
  case hi => exact rfree_keep rfl s2
  · have hx2 : rows[x.2]? = some x.1 := by
      have := List.mem_zipIdx_iff_getElem?.mp hx
      simpa using this
    walk_at "tgt"
    have hj2 := look_ne (v := rowT x.1) (x := "row") hj (by decide)
    with_reducible refine tests_nil ?_
    repeat walk_at "w"
    with_reducible refine sub_row 0 (x := x.1.n) ?e1 (by decide) rfl ?_ ?isub
    case e1 => rfl
    case isub => intro _ _; rfl
    with_reducible refine sub_dict ok .f (num_row C.onm hx2) ?_ ?isub
    case isub => intro _ _; rfl
    exact ⟨rfl, rfl, hj2⟩
  have hfm : rows.zipIdx.filterMap (fun x => some (PV.int (x.2 : Int))) = ((List.range rows.length).map fun (i : Nat) => (i : Int)).map .int := by
    rw [mapFilter (fun x : Row × Nat => PV.int (x.2 : Int)), List.map_map]
    have : rows.zipIdx.map (·.2) = List.range rows.length := by rw [List.zipIdx_map_snd, List.range_eq_range']
    rw [← this, List.map_map]; rfl
  rw [hfm]
  repeat walk_at "w"
  with_reducible refine cwp_len_lst .f (by rw [List.length_map]; lia) ?_
  rw [List.length_map]
  repeat walk_at "w"
  with_reducible refine cwp_range1 ?_
  repeat walk_at "w"
  with_reducible refine cwp_list_rng (by unfold RngOk; lia) (by lia) ?_
  have hr0 : rngL 0 (rows.length : Int) = ((List.range rows.length).map fun (i : Nat) => (i : Int)).map .int := by
    unfold rngL
    rw [List.map_map]
    simp
  rw [hr0]
  with_reducible refine o2_ne_ints ?_
  rw [decide_eq_true rfl]
  repeat walk_at "w"
  with_reducible refine swp_nil ?_
  with_reducible refine swp_cons (s1_for ?_ ?hset)
  case hset => intro _; rfl
  repeat walk_at "w"
  refine ⟨rows.map rowT, ?_⟩
  with_reducible refine for_ind rowT rows (fun d ρ σ' => σ' = σ ∧ LawSt ρ a rows os tl tp dn) rfl ?hS ?step ?h0 ?_
  case hS => refine fun d ρ σ' => an2 fun eq0 _ => ?_; subst eq0; exact .lst .f
  case h0 => exact ⟨rfl, hS⟩
  case step =>
    refine fun d r rr e ρ σ' => an2 fun eq0 S => ?_
    subst eq0
    have hr : r ∈ rows := by rw [← e]; simp
    have hi : rows[d.length]? = some r := by rw [← e]; simp
    obtain ⟨b, c, s, hl, hc2, hbc, hup, hlo⟩ := L.lot hr
    walk_at "loc"
    have S2 : LawSt (rset "row" (rowT r) ρ) a rows os tl tp dn := S.set (by decide)
    have s10 := rset_self ("row" : Str) (rowT r) ρ
    generalize rset "row" (rowT r) ρ = ρ1 at S2 s10 ⊢
    obtain ⟨s1, s2, s3, s4, s5, s6, s7, s8, s9⟩ := id S2
    have hbs : (rows.map (rowB a tp) ++ os.map (ordB a))[d.length]? = some (entry r.n 1 (ones (if r.par = "" ∧ s = true then rngI b c else [])) (ones (rngI b c))) := by
      have hi' := (List.getElem?_eq_some_iff.mp hi).1
      rw [List.getElem?_append_left (by rw [List.length_map]; exact hi'), List.getElem?_map, hi]
      show some (entry r.n 1 (loR a r.n) (upR a (tp r.n))) = _
      rw [hup, hlo]
    have hrl : (rngI b c).length = c := by simp [rngI]
    have hss := sort_small (b := b) (c := c) (by lia) hc2
    have hlen4 : ((setsL (rngI 0 a.nm.length)).filter (okL (if r.par = "" ∧ s = true then rngI b c else []) (rngI b c) (forms tp (toldL tl) rows) d.length)).length ≤ 4 := by
      rw [filter_okL hsa hc2 hbc]
      refine Nat.le_trans (List.length_filter_le _ _) ?_
      rw [setsL_len, hrl]
      exact Nat.pow_le_pow_right (n := 2) (by lia) hc2
    have hfl : (forms tp (toldL tl) rows).length ≤ 100 := by
      unfold forms
      exact Nat.le_trans (List.length_filterMap_le _ _) (by rw [List.length_zipIdx]; lia)
    have hld := let_due (tl := tl) (s := s) hi hsa hc2 hbc L.T.tnd (L.P r hr).2.2.1 rfl (fun x hx => by obtain ⟨_, _, _, h0, h2, _⟩ := L.T.ok x hx; exact ⟨h0, h2⟩)
    walk_at "if"
    repeat walk_at "w"
    refine ⟨k_619 p, ?_⟩
    repeat walk_at "w"
    with_reducible refine sub_row 0 (x := r.n) ?e1 (by decide) rfl ?_ ?isub
    case e1 => rfl
    case isub => intro _ _; rfl
    with_reducible refine sub_dict ok .f (num_row C.onm hi) ?_ ?isub
    case isub => intro _ _; rfl
    repeat walk_at "w"
    with_reducible refine c_let ok bv_f .f rfl rfl ?hb hbs (by lia) ?hlow ?hhigh hfl hlen4 ?_
    case hb => simp; lia
    case hlow => split <;> simp [hrl] <;> lia
    case hhigh => rw [hrl]; lia
    repeat walk_at "w"
    refine ⟨k_614 p, ?_⟩
    repeat walk_at "w"
    with_reducible refine c_due ok C.nodup (by lia) hr (L.P r hr).1 hl hc2 (by have := L.tlen; lia) hss.1 hss.2 ?_
    with_reducible refine o2_ne_lists ?_
    rw [decide_eq_true hld]
    repeat walk_at "w"
    with_reducible refine swp_nil ?_
    with_reducible refine swp_nil ?_
    exact ⟨rfl, S2⟩
  refine fun ρ σ' => an2 fun eq0 S => ?_
  subst eq0
  exact next ρ S
end
section
variable {p : Pk} {σ : Sto} {ρ : Rho} {Q : Post}
theorem o2_ne_self {c : Cx} {v : PV} {d : PyData} {n : Nat} {Q : Post} (h : Pln σ v d n) (hn : n ≤ 64) (q : Q (.bool false) σ) : O2 c (fun v w => operate [v, w] (compareOp .NotEq v w)) v v σ Q := by
  refine o2_ne h.dat h.dat (h.shaped hn) (h.shaped hn) ?_
  rw [eqvRefl d h.can]; exact q
theorem below_mem {rows : List Row} {tl : List (Bool × Int × Str)} {x : Str} (h : x ∈ belowN rows tl) : ∃ r ∈ rows, r.n = x := by
  unfold belowN at h
  obtain ⟨r, hr, e⟩ := List.mem_filterMap.mp h
  split at e
  · cases e; exact ⟨r, hr, rfl⟩
  · cases e
theorem below_fm (rows : List Row) (tl : List (Bool × Int × Str)) : rows.filterMap (fun r => if ¬ r.par = ("" : Str) ∧ r.n ∈ tl.map (·.2.2) then some (PV.str r.n) else none) = (belowN rows tl).map .str := by
  unfold belowN
  rw [List.map_filterMap]
  refine fmCongr fun r _ => ?_
  split <;> rfl
theorem c_rest1 (ok : p.G.Ok) {k : Nat} {A : Addr} {Qn : Rho → Sto → Prop} {Qr : Post} {t j : Nat} {rows : List Row} {os : List Ord} {tl : List (Bool × Int × Str)} {left : List Row} {tp : Str → Str} {dn : Nat} {a : At} (L : LawC t j rows os tl left tp dn a) (S : LawSt ρ a rows os tl tp dn)
    (next : ∀ ρ', LawSt ρ' a rows os tl tp dn → SWP ⟨p.G, k + 8, callEnvC (fd p 634) A 634⟩ ((bd p 634).drop 12) ρ' σ Qn Qr) : SWP ⟨p.G, k + 8, callEnvC (fd p 634) A 634⟩ ((bd p 634).drop 10) ρ σ Qn Qr := by
  have C := L.sc
  obtain ⟨hsa, hsr, hso⟩ := L.small
  have htl := L.tlen
  obtain ⟨s1, s2, s3, s4, s5, s6, s7, s8, s9⟩ := id S
  have hnmT : ∀ y ∈ tl.map (·.2.2), sOk y := by
    intro y hy
    obtain ⟨x, hx, rfl⟩ := List.mem_map.mp hy
    obtain ⟨r, hr, e, _⟩ := L.T.ok x hx
    rw [← e]; exact (L.R.nm L.t3 L.j3 r hr).1
  walk_at "open"
  walk_at "cmp"
  repeat walk_at "w"
  refine ⟨rows.map rowT, szl (by rw [List.length_map]; lia), fun C1 => ?_⟩
  with_reducible refine comp_filterE rowT (fun r => if ¬ r.par = ("" : Str) ∧ r.n ∈ tl.map (·.2.2) then some (PV.str r.n) else none) (fun ρ => ρ.lookup ("scope" : Str) = some (.tup [.int dn, .tup (tl.map tr)])) rows rfl (.lst .f) (fun r hr ρ' hj => ?_) ?hi ?_
  case hi => exact rfree_keep rfl s6
  · walk_at "tgt"
    have hj2 := look_ne (v := rowT r) (x := "row") hj (by decide)
    with_reducible refine tests_one ?_
    with_reducible refine BWP.mono (Q := fun b s => b = decide (¬ r.par = ("" : Str) ∧ r.n ∈ tl.map (·.2.2)) ∧ s = σ) ?_ ?_
    · repeat walk_at "w"
      with_reducible refine sub_row 2 (x := r.par) ?e1 (by decide) rfl ?_ ?isub
      case e1 => rfl
      case isub => intro _ _; rfl
      repeat walk_at "w"
      by_cases hp : r.par = ""
      · rw [decide_eq_true hp]
        repeat walk_at "w"
        exact ⟨(decide_eq_false (fun h => h.1 hp)).symm, rfl⟩
      · rw [decide_eq_false hp]
        repeat walk_at "w"
        with_reducible refine sub_row 0 (x := r.n) ?e1 (by decide) rfl ?_ ?isub
        case e1 => rfl
        case isub => intro _ _; rfl
        walk_at "ecmp"
        repeat walk_at "w"
        with_reducible refine sub_tupN 1 (p := .tup (tl.map tr)) ?e1 (by decide) ?e2 ?_ ?isub
        case e1 => rfl
        case e2 => exact rfl
        case isub => intro _ _; rfl
        refine ⟨tl.map tr, szl (by rw [List.length_map]; lia), fun C2 => ?_⟩
        with_reducible refine comp_filterE tr (fun y => some (.str y.2.2)) (fun _ => True) tl rfl .tup (fun y hy ρ'' _ => ?_) trivial ?_
        · walk_at "tgt"
          with_reducible refine tests_nil ?_
          repeat walk_at "w"
          show SubA _ _ _ (.tup [.bool y.1, .int y.2.1, .str y.2.2]) _ _ _
          with_reducible refine sub_tupN 2 (p := .str y.2.2) ?e1 (by decide) ?e2 ?_ ?isub
          case e1 => rfl
          case e2 => exact rfl
          case isub => intro _ _; rfl
          exact ⟨rfl, rfl, trivial⟩
        rw [mapFilter (fun y : Bool × Int × Str => PV.str y.2.2), show tl.map (fun y : Bool × Int × Str => PV.str y.2.2) = (tl.map (·.2.2)).map .str from by rw [List.map_map]; rfl]
        with_reducible refine o2_in_strs .f (L.R.nm L.t3 L.j3 r hr).1 hnmT ?_
        repeat walk_at "w"
        by_cases hm : r.n ∈ tl.map (·.2.2)
        · rw [decide_eq_true hm]
          repeat walk_at "w"
          exact ⟨(decide_eq_true ⟨hp, hm⟩).symm, rfl⟩
        · rw [decide_eq_false hm]
          with_reducible refine iteF ⟨(decide_eq_false (fun h => absurd h.2 hm)).symm, rfl⟩
    · refine fun b s => an2 fun eq0 eq1 => ?_; subst eq0 eq1
      by_cases hc : ¬ r.par = ("" : Str) ∧ r.n ∈ tl.map (·.2.2)
      · rw [decide_eq_true hc, if_pos hc]
        repeat walk_at "w"
        with_reducible refine sub_row 0 (x := r.n) ?e1 (by decide) rfl ?_ ?isub
        case e1 => rfl
        case isub => intro _ _; rfl
        exact ⟨rfl, rfl, hj2⟩
      · rw [decide_eq_false hc, if_neg hc]
        with_reducible refine iteF ⟨rfl, rfl, hj2⟩
  rw [below_fm]
  show KS _ _ _ _ _ _
  have S2 : LawSt (rset "below" (.lst ((belowN rows tl).map .str)) ρ) a rows os tl tp dn := S.set (by decide)
  have s10 := rset_self ("below" : Str) (.lst ((belowN rows tl).map .str)) ρ
  generalize rset "below" (.lst ((belowN rows tl).map .str)) ρ = ρ1 at S2 s10 ⊢
  clear s1 s2 s3 s4 s5 s6 s7 s8 s9
  obtain ⟨s1, s2, s3, s4, s5, s6, s7, s8, s9⟩ := id S2
  have hfl : (forms tp (toldL tl) rows).length ≤ 100 := by
    unfold forms
    exact Nat.le_trans (List.length_filterMap_le _ _) (by rw [List.length_zipIdx]; lia)
  have hbl : (belowN rows tl).length ≤ 100 := by
    unfold belowN
    exact Nat.le_trans (List.length_filterMap_le _ _) (by lia)
  have hnm : ∀ x ∈ belowN rows tl, sOk (("scope " : Str) ++ x) ∧ x.length ≤ 100 := by
    intro x hx
    obtain ⟨r, hr, rfl⟩ := below_mem hx
    have := L.R.nm L.t3 L.j3 r hr
    exact ⟨this.2.2.2.2.2.1, this.2.2.2.1⟩
  have hsc : (Str.ofString "scope ").length = 6 := rfl
  walk_at "if"
  repeat walk_at "w"
  walk_at "ecmp"
  repeat walk_at "w"
  refine ⟨(forms tp (toldL tl) rows).map lblV, szl (by rw [List.length_map]; lia), fun C3 => ?_⟩
  with_reducible refine comp_filterE lblV (fun f => some (.str (("scope " : Str) ++ f.2.2.2))) (fun _ => True) (forms tp (toldL tl) rows) rfl (.lst .f) (fun f hf ρ' _ => ?_) trivial ?_
  · show AWP _ _ _ (.tup [.str _, fmV f.2.1 f.1 f.2.2.1]) _ _ _
    with_reducible refine awp_tuple own_comp ?_ rfl ?he
    case he => exact rfl
    with_reducible refine als_cons ?_
    walk_at "tgt"
    with_reducible refine als_cons ?_
    walk_at "tgt"
    with_reducible refine als_nil ?_
    have m1 : (rset "formula" (fmV f.2.1 f.1 f.2.2.1) (rset "label" (.str (("scope " : Str) ++ f.2.2.2)) ρ')).lookup ("label" : Str) = some (.str (("scope " : Str) ++ f.2.2.2)) := look_ne (rset_self _ _ _) (by decide)
    with_reducible refine tests_nil ?_
    repeat walk_at "w"
    exact ⟨rfl, rfl, trivial⟩
  rw [mapFilter (fun f : Nat × Bool × Int × Str => PV.str (("scope " : Str) ++ f.2.2.2)), show (forms tp (toldL tl) rows).map (fun f : Nat × Bool × Int × Str => PV.str (("scope " : Str) ++ f.2.2.2)) = (belowN rows tl).map (fun x => PV.str (("scope " : Str) ++ x)) from by rw [← forms_names (tp := tp) (fun r hr => (L.P r hr).2.2.1), List.map_map]; rfl]
  walk_at "ecmp"
  repeat walk_at "w"
  refine ⟨(belowN rows tl).map .str, szl (by rw [List.length_map]; lia), fun C4 => ?_⟩
  with_reducible refine comp_filterE PV.str (fun x => some (.str (("scope " : Str) ++ x))) (fun _ => True) (belowN rows tl) rfl (.lst .f) (fun x hx ρ' _ => ?_) trivial ?_
  · have hxl := (hnm x hx).2
    walk_at "tgt"
    with_reducible refine tests_nil ?_
    repeat walk_at "w"
    with_reducible refine o2_add_str (szl (by rw [len_app]; lia)) ?_
    exact ⟨rfl, rfl, trivial⟩
  rw [mapFilter (fun x : Str => PV.str (("scope " : Str) ++ x))]
  with_reducible refine o2_ne_self (n := 2) (.lst (PlnL.map (g := fun x => .str (("scope " : Str) ++ x)) fun x hx => Pln.str (hnm x hx).1)) (by lia) ?_
  repeat walk_at "w"
  with_reducible refine swp_nil ?_
  exact next _ S2
end
section
variable {p : Pk} {σ : Sto} {ρ : Rho} {Q : Post}
theorem pick_tail {α : Type} {l : List α} (h : l.length ≤ 2) : pickL l (some 1) none none = l.tail := by
  match l, h with
  | [], _ => rfl
  | [x], _ => rfl
  | [x, y], _ =>
    have h : sliceRange (sliceBounds (some 1) none none 2).1 (sliceBounds (some 1) none none 2).2.1 (sliceBounds (some 1) none none 2).2.2 = [1] := by decide +kernel
    exact (congrArg (fun is => List.filterMap ([x, y][·]?) is) h).trans rfl
theorem zip_pairs {b c : Nat} (hc : c ≤ 2) : zipP ((rngI b c).map .int) = (pairsT b c).map tupI := by
  have : c = 0 ∨ c = 1 ∨ c = 2 := by lia
  rcases this with rfl | rfl | rfl <;> rfl
theorem LawC.ord {t j : Nat} {rows : List Row} {os : List Ord} {tl : List (Bool × Int × Str)} {left : List Row} {tp : Str → Str} {dn : Nat} {a : At} (L : LawC t j rows os tl left tp dn a) {o : Ord} (ho : o ∈ os) :
    ∃ b c s, a.lots.lookup o.sig = some (b, c, s) ∧ c ≤ 2 ∧ ordB a o = entry (ordN o) 2 (pairsT b c) (pairsT b c) := by
  have C := L.sc
  obtain ⟨r, hr, e, hp⟩ := L.O.sg o ho
  obtain ⟨b, h1, h2⟩ := lots_spec (f := lotF rows os dn tl) C.nodup hr hp
  rw [L.at_, e] at h1
  refine ⟨b, _, _, h1, lot_two L.T L.dn2 _, ?_⟩
  unfold ordB lkA
  rw [h1]
theorem ordN_ok {o : Ord} (h : o.als = "o" ∨ o.als = "p") : sOk (ordN o) ∧ o.als.length ≤ 100 := by
  unfold ordN
  rcases h with h | h <;> rw [h] <;> decide +kernel
theorem c_rest2 (ok : p.G.Ok) {k : Nat} {A : Addr} {Qn : Rho → Sto → Prop} {Qr : Post} {t j : Nat} {rows : List Row} {os : List Ord} {tl : List (Bool × Int × Str)} {left : List Row} {tp : Str → Str} {dn : Nat} {a : At} (L : LawC t j rows os tl left tp dn a) (S : LawSt ρ a rows os tl tp dn)
    (next : ∀ ρ', LawSt ρ' a rows os tl tp dn → SWP ⟨p.G, k + 8, callEnvC (fd p 634) A 634⟩ ((bd p 634).drop 13) ρ' σ Qn Qr) : SWP ⟨p.G, k + 8, callEnvC (fd p 634) A 634⟩ ((bd p 634).drop 12) ρ σ Qn Qr := by
  have C := L.sc
  obtain ⟨hsa, hsr, hso⟩ := L.small
  have s5 := S.lnd
  walk_at "open"
  with_reducible refine swp_cons (s1_for ?_ ?hset)
  case hset => intro _; rfl
  repeat walk_at "w"
  refine ⟨os.map opened, ?_⟩
  with_reducible refine for_ind opened os (fun d ρ σ' => σ' = σ ∧ LawSt ρ a rows os tl tp dn) rfl ?hS ?step ?h0 ?_
  case hS => refine fun d ρ σ' => an2 fun eq0 _ => ?_; subst eq0; exact .lst .f
  case h0 => exact ⟨rfl, S⟩
  case step =>
    refine fun d o rr e ρ σ' => an2 fun eq0 S => ?_
    subst eq0
    have ho : o ∈ os := by rw [← e]; simp
    have hi : os[d.length]? = some o := by rw [← e]; simp
    obtain ⟨b, c, s, hl, hc2, hob⟩ := L.ord ho
    have hok := ordN_ok (L.O.al o ho)
    have hnl : (Str.ofString "/next").length = 5 := rfl
    with_reducible refine awp_tuple (fun _ h => h) ?_ rfl ?he
    case he => exact rfl
    with_reducible refine als_cons ?_
    walk_at "loc"
    with_reducible refine als_cons ?_
    walk_at "loc"
    with_reducible refine als_nil ?_
    have S2 : LawSt (rset "sig" (.str o.sig) (rset "alias" (.str o.als) ρ)) a rows os tl tp dn := (S.set (by decide)).set (by decide)
    have s10 := rset_self ("sig" : Str) (.str o.sig) (rset "alias" (.str o.als) ρ)
    have s11 : (rset "sig" (.str o.sig) (rset "alias" (.str o.als) ρ)).lookup ("alias" : Str) = some (.str o.als) := look_ne (rset_self _ _ _) (by decide)
    generalize rset "sig" (.str o.sig) (rset "alias" (.str o.als) ρ) = ρ1 at S2 s10 s11 ⊢
    obtain ⟨s1, s2, s3, s4, s5, s6, s7, s8, s9⟩ := id S2
    have hlw : (lawD a).lookup o.sig = some (.tup [.bool s, .lst ((rngI b c).map .int)]) := by rw [look_lawD, hl]; rfl
    have hrl : (rngI b c).length = c := by simp [rngI]
    walk_at "asg"
    with_reducible refine ewp_tuple_zip ok (fun _ _ q => ?ht) (fun _ _ q => ?hz) ?_ ?ha ?he2
    case ht => walk_at "w"; exact q
    case hz => walk_at "w"; exact q
    case ha => rfl
    case he2 => rfl
    repeat walk_at "w"
    with_reducible refine sub_dict ok .f hlw ?_ ?isub
    case isub => intro _ _; rfl
    repeat walk_at "w"
    with_reducible refine sub_tupN 1 (p := .lst ((rngI b c).map .int)) ?e1 (by decide) ?e2 ?_ ?isub
    case e1 => rfl
    case e2 => exact rfl
    case isub => intro _ _; rfl
    walk_at "w"
    with_reducible refine ewp_slice (ops := fun o i => [i, o]) ?_ ?hsl
    case hsl => intro _ _; rfl
    repeat walk_at "w"
    with_reducible refine sub_dict ok .f hlw ?_ ?isub
    case isub => intro _ _; rfl
    repeat walk_at "w"
    with_reducible refine sub_tupN 1 (p := .lst ((rngI b c).map .int)) ?e1 (by decide) ?e2 ?_ ?isub
    case e1 => rfl
    case e2 => exact rfl
    case isub => intro _ _; rfl
    with_reducible refine part_some ?_
    repeat walk_at "w"
    refine ⟨1, rfl, ?_⟩
    with_reducible refine part_none ?_
    with_reducible refine part_none ?_
    refine ⟨(rngI b c).map .int, by rw [List.length_map]; lia, rfl, .inl ⟨.f, ?_⟩⟩
    rw [pick_tail (by rw [List.length_map]; lia)]
    repeat walk_at "w"
    refine ⟨_, _, (rngI b c).map .int, rfl, .f, .f, by rw [List.length_map]; lia, ?_⟩
    rw [zip_pairs hc2]
    walk_at "loc"
    have S3 : LawSt (rset "pairs" (rel (pairsT b c)) ρ1) a rows os tl tp dn := S2.set (by decide)
    have s12 := rset_self ("pairs" : Str) (rel (pairsT b c)) ρ1
    have s13 := look_ne (v := rel (pairsT b c)) (x := "pairs") s11 (by decide)
    generalize rset "pairs" (rel (pairsT b c)) ρ1 = ρ2 at S3 s12 s13 ⊢
    clear s1 s2 s3 s4 s5 s6 s7 s8 s9
    obtain ⟨s1, s2, s3, s4, s5, s6, s7, s8, s9⟩ := id S3
    have hnl2 : (names rows).length = rows.length := by unfold names; rw [List.length_map]
    have hnum : (numD (names rows ++ os.map ordN)).lookup (ordN o) = some (.int ((rows.length + d.length : Nat) : Int)) := by
      refine numD_at C.onm ?_
      rw [List.getElem?_append_right (by lia), hnl2, Nat.add_sub_cancel_left, List.getElem?_map, hi]; rfl
    have hbd : (rows.map (rowB a tp) ++ os.map (ordB a))[rows.length + d.length]? = some (entry (ordN o) 2 (pairsT b c) (pairsT b c)) := by
      rw [List.getElem?_append_right (by rw [List.length_map]; lia), List.length_map, Nat.add_sub_cancel_left, List.getElem?_map, hi]
      exact congrArg some hob
    walk_at "if"
    repeat walk_at "w"
    with_reducible refine KM.i (m1_of ok .f (me_284_bound p) rfl) (k_253 p) ?_
    repeat walk_at "w"
    with_reducible refine o2_add_str (szl (by rw [len_app]; lia)) ?_
    have hnum2 : (numD (names rows ++ os.map ordN)).lookup (o.als ++ ("/next" : Str)) = some (.int ((rows.length + d.length : Nat) : Int)) := hnum
    with_reducible refine sub_dict ok .f hnum2 ?_ ?isub
    case isub => intro _ _; rfl
    repeat walk_at "w"
    with_reducible refine c_bound ok bv_f (by simp; lia) hbd (lowEntry ..) ?_
    repeat walk_at "w"
    with_reducible refine o2_add_str (szl (by rw [len_app]; lia)) ?_
    repeat walk_at "w"
    refine ⟨Nat.le_of_ble_eq_true rfl, ?_⟩
    show O2 _ _ (entry (ordN o) 2 (pairsT b c) (pairsT b c)) (entry (ordN o) 2 (pairsT b c) (pairsT b c)) _ _
    with_reducible refine o2_ne_self (Pln.entry hok.1 2 (pairsT b c) (pairsT b c)) (by lia) ?_
    repeat walk_at "w"
    with_reducible refine swp_nil ?_
    with_reducible refine swp_nil ?_
    exact ⟨rfl, S3⟩
  refine fun ρ σ' => an2 fun eq0 S => ?_
  subst eq0
  exact next ρ S
end
section
variable {p : Pk} {σ : Sto} {ρ : Rho} {Q : Post}
theorem pick_rev {α : Type} {l : List α} (h : l.length ≤ 2) : pickL l none none (some (-1)) = l.reverse := by
  match l, h with
  | [], _ =>
    have h : sliceRange (sliceBounds none none (some (-1)) 0).1 (sliceBounds none none (some (-1)) 0).2.1 (sliceBounds none none (some (-1)) 0).2.2 = [] := by decide +kernel
    exact (congrArg (fun is => List.filterMap (([] : List α)[·]?) is) h).trans rfl
  | [x], _ =>
    have h : sliceRange (sliceBounds none none (some (-1)) 1).1 (sliceBounds none none (some (-1)) 1).2.1 (sliceBounds none none (some (-1)) 1).2.2 = [0] := by decide +kernel
    exact (congrArg (fun is => List.filterMap ([x][·]?) is) h).trans rfl
  | [x, y], _ =>
    have h : sliceRange (sliceBounds none none (some (-1)) 2).1 (sliceBounds none none (some (-1)) 2).2.1 (sliceBounds none none (some (-1)) 2).2.2 = [1, 0] := by decide +kernel
    exact (congrArg (fun is => List.filterMap ([x, y][·]?) is) h).trans rfl
theorem pickT_map {α β : Type} (f : α → β) (l : List α) (lo hi st : Option Int) : pickT (l.map f) lo hi st = (pickT l lo hi st).map f := by
  unfold pickT
  rw [List.length_map, List.map_filterMap]
  refine fmCongr fun i _ => ?_
  rw [List.getElem?_map]
theorem pickT_rev {α : Type} {l : List α} (h : l.length ≤ 3) : pickT l none none (some (-1)) = l.reverse := by
  match l, h with
  | [], _ => rfl
  | [x], _ =>
    have h : pickT [0] none none (some (-1)) = [0] := by decide +kernel
    have e := pickT_map (fun _ : Nat => x) [0] none none (some (-1))
    rw [h] at e; exact e
  | [x, y], _ =>
    have h : pickT [0, 1] none none (some (-1)) = [1, 0] := by decide +kernel
    have e := pickT_map (fun i : Nat => match i with | 0 => x | _ => y) [0, 1] none none (some (-1))
    rw [h] at e; exact e
  | [x, y, z], _ =>
    have h : pickT [0, 1, 2] none none (some (-1)) = [2, 1, 0] := by decide +kernel
    have e := pickT_map (fun i : Nat => match i with | 0 => x | 1 => y | _ => z) [0, 1, 2] none none (some (-1))
    rw [h] at e; exact e
theorem eqP_at {σ : Sto} {f : List PV} (h : ∀ p ∈ f, EqP σ p p) : ∀ (i : Nat) (p q : PV), f[i]? = some p → f[i]? = some q → EqP σ p q := by
  intro i p q h1 h2
  have e : p = q := Option.some.inj (h1.symm.trans h2)
  subst e
  exact h p (List.mem_of_getElem? h1)
theorem LawC.rev {t j : Nat} {rows : List Row} {os : List Ord} {tl : List (Bool × Int × Str)} {left : List Row} {tp : Str → Str} {dn : Nat} {a : At} (L : LawC t j rows os tl left tp dn a) : LawC t j rows os.reverse tl.reverse left tp dn a :=
  ⟨L.R, L.t2, L.t3, L.j3, L.O.rev, L.T.rev, by rw [List.length_reverse]; exact L.tlen, L.dn2, L.P, by rw [lotF_rev L.T.tnd]; exact L.at_⟩
theorem LawC.nmOk {t j : Nat} {rows : List Row} {os : List Ord} {tl : List (Bool × Int × Str)} {left : List Row} {tp : Str → Str} {dn : Nat} {a : At} (L : LawC t j rows os tl left tp dn a) : ∀ x ∈ a.nm, sOk x := by
  have h := L.R.atomsSub L.t3 L.j3 (f := lotF rows os dn tl) L.sc.few
  rw [L.at_] at h
  exact fun x hx => (bigN_ok L.t3).2 x (h.subset hx)
theorem plnLbl {σ : Sto} {x : Nat × Bool × Int × Str} (h : sOk (("scope " : Str) ++ x.2.2.2)) : Pln σ (lblV x) (.tuple [.str (("scope " : Str) ++ x.2.2.2), .tuple [.str (if x.2.1 then "eq" else "le"), aboutD x.1, .tuple [.str "num", .int x.2.2.1]]]) 6 :=
  .tup (.cons ((Pln.str h).mono (by lia)) (.cons (.tup (.cons ((Pln.str (by cases x.2.1 <;> decide +kernel)).mono (by lia)) (.cons (.tup (.cons ((Pln.str (by decide +kernel)).mono (by lia)) (.cons (.tup (.cons ((Pln.str (by decide +kernel)).mono (by lia)) (.cons (Pln.int.mono (by lia)) .nil))) .nil))) (.cons (.tup (.cons ((Pln.str (by decide +kernel)).mono (by lia)) (.cons (Pln.int.mono (by lia)) .nil))) .nil)))) .nil))
theorem c_rest3 (ok : p.G.Ok) {k : Nat} {A : Addr} {Qn : Rho → Sto → Prop} {Qr : Post} {t j : Nat} {rows : List Row} {os : List Ord} {tl : List (Bool × Int × Str)} {left : List Row} {tp : Str → Str} {dn : Nat} {a : At} (L : LawC t j rows os tl left tp dn a) (S : LawSt ρ a rows os tl tp dn)
    (q : Qr (.bool true) σ) : SWP ⟨p.G, k + 8, callEnvC (fd p 634) A 634⟩ ((bd p 634).drop 13) ρ σ Qn Qr := by
  have C := L.sc
  have L' := L.rev
  have C' := L'.sc
  obtain ⟨hsa, hsr, hso⟩ := L.small
  have htl := L.tlen
  obtain ⟨s1, s2, s3, s4, s5, s6, s7, s8, s9⟩ := id S
  walk_at "open"
  walk_at "asg"
  repeat walk_at "w"
  refine ⟨k_624 p, ?_⟩
  walk_at "w"
  walk_at "w"
  walk_at "w"
  with_reducible refine ewp_slice (ops := fun o i => [o, i]) ?_ ?hsl
  case hsl => intro _ _; rfl
  repeat walk_at "w"
  with_reducible refine part_none ?_
  with_reducible refine part_none ?_
  with_reducible refine part_some ?_
  repeat walk_at "w"
  refine ⟨1, rfl, -1, rfl, ?_⟩
  refine ⟨os.map opened, by rw [List.length_map]; lia, rfl, .inl ⟨.f, ?_⟩⟩
  rw [pick_rev (by rw [List.length_map]; exact hso), ← List.map_reverse]
  walk_at "w"
  walk_at "w"
  walk_at "w"
  repeat walk_at "w"
  with_reducible refine sub_tupN 0 (p := .int dn) ?e1 (by decide) ?e2 ?_ ?isub
  case e1 => rfl
  case e2 => exact rfl
  case isub => intro _ _; rfl
  walk_at "w"
  with_reducible refine ewp_slice (ops := fun o i => [o, i]) ?_ ?hsl
  case hsl => intro _ _; rfl
  repeat walk_at "w"
  with_reducible refine sub_tupN 1 (p := .tup (tl.map tr)) ?e1 (by decide) ?e2 ?_ ?isub
  case e1 => rfl
  case e2 => exact rfl
  case isub => intro _ _; rfl
  with_reducible refine part_none ?_
  with_reducible refine part_none ?_
  with_reducible refine part_some ?_
  repeat walk_at "w"
  refine ⟨1, rfl, -1, rfl, ?_⟩
  have hpt : pickT (tl.map tr) none none (some (-1)) = tl.reverse.map tr := by rw [pickT_rev (by rw [List.length_map]; exact htl), List.map_reverse]
  refine ⟨tl.map tr, by rw [List.length_map]; lia, rfl, .inr ⟨rfl, ?hwh, szl (by rw [hpt, List.length_map, List.length_reverse]; lia), ?_⟩⟩
  case hwh => unfold wholeT; simp
  rw [hpt]
  repeat walk_at "w"
  refine ⟨Nat.le_of_ble_eq_true rfl, ?_⟩
  repeat walk_at "w"
  with_reducible refine c_ltold ok (L.R.rowsOk L.t3 L.j3) L'.O.ordsOk C' ?_
  rw [L'.at_]
  walk_at "loc"
  have S2 : LawSt (rset "otherwise" (outB a rows os.reverse tp tl.reverse) ρ) a rows os tl tp dn := S.set (by decide)
  have s10 := rset_self ("otherwise" : Str) (outB a rows os.reverse tp tl.reverse) ρ
  generalize rset "otherwise" (outB a rows os.reverse tp tl.reverse) ρ = ρ1 at S2 s10 ⊢
  clear s1 s2 s3 s4 s5 s6 s7 s8 s9
  obtain ⟨s1, s2, s3, s4, s5, s6, s7, s8, s9⟩ := id S2
  walk_at "ret"
  repeat walk_at "w"
  refine ⟨k_629 p, ?_⟩
  repeat walk_at "w"
  with_reducible refine c_ltable ok C.len C'.olen C'.onm (by lia) ?_
  repeat walk_at "w"
  refine ⟨k_629 p, ?_⟩
  repeat walk_at "w"
  with_reducible refine c_ltable ok C.len C.olen C.onm (by lia) ?_
  have hpm : ∀ (k : Str) (v : PV), (k, v) ∈ tblD a rows os.reverse tp → (k, v) ∈ tblD a rows os tp := by
    intro k v h
    unfold tblD at h ⊢
    rcases List.mem_append.mp h with h | h
    · exact List.mem_append_left _ h
    · refine List.mem_append_right _ ?_
      obtain ⟨o, ho, e⟩ := List.mem_map.mp h
      exact List.mem_map.mpr ⟨o, List.mem_reverse.mp ho, e⟩
  have hsk : ∀ y ∈ tblD a rows os tp, sOk y.1 := by
    intro y hy
    unfold tblD at hy
    rcases List.mem_append.mp hy with h | h
    · obtain ⟨r, hr, rfl⟩ := List.mem_map.mp h
      exact (L.R.nm L.t3 L.j3 r hr).1
    · obtain ⟨o, ho, rfl⟩ := List.mem_map.mp h
      exact (ordN_ok (L.O.al o ho)).1
  have hforms : forms tp (toldL tl.reverse) rows = forms tp (toldL tl) rows := forms_rev L.T.tnd
  have hlbl : ∀ f ∈ forms tp (toldL tl) rows, sOk (("scope " : Str) ++ f.2.2.2) := by
    intro f hf
    have hm := List.mem_map_of_mem (f := fun f : Nat × Bool × Int × Str => f.2.2.2) hf
    have hm2 : f.2.2.2 ∈ belowN rows tl := by rw [← forms_names (tp := tp) (fun r hr => (L.P r hr).2.2.1)]; exact hm
    obtain ⟨r, hr, e⟩ := below_mem hm2
    rw [← e]
    exact (L.R.nm L.t3 L.j3 r hr).2.2.2.2.2.1
  unfold tableV
  rw [hforms]
  refine o2_eq_tbl ?h1 (fun k v h => ?_) rfl (eqP_at fun p hp => ?_) q
  case h1 => unfold tblD; simp
  · have hm := hpm k v h
    refine ⟨v, mem_lookup (by rw [tblD_fst]; exact C.onm) hm, ?_⟩
    obtain ⟨m, lo, up, e⟩ := tblD_entry _ hm
    have e2 : v = entry k m lo up := e
    rw [e2]
    exact (Pln.entry (hsk _ hm) m lo up).eqP (by lia)
  · rcases List.mem_cons.mp hp with rfl | hp
    · exact (Pln.lst (n := 1) (PlnL.map (g := fun x => .str x) fun x hx => Pln.str (L.nmOk x hx))).eqP (by lia)
    · rw [List.mem_singleton.mp hp]
      exact (Pln.lst (n := 6) (PlnL.map fun f hf => plnLbl (hlbl f hf))).eqP (by lia)
end
section
variable {p : Pk} {σ : Sto} {ρ : Rho} {Q : Post}
theorem pick_map {α β : Type} (f : α → β) (l : List α) (lo hi st : Option Int) : pickL (l.map f) lo hi st = (pickL l lo hi st).map f := by
  unfold pickL
  rw [List.length_map, List.map_filterMap]
  refine fmCongr fun i _ => ?_
  rw [List.getElem?_map]
theorem fmLen {α β : Type} (f : α → Option β) (l : List α) : (l.filterMap f).length ≤ l.length := List.length_filterMap_le _ _
theorem head_len {n : Nat} (h : n ≤ 63) : (sliceRange (sliceBounds none (some 40) none n).1 (sliceBounds none (some 40) none n).2.1 (sliceBounds none (some 40) none n).2.2).length ≤ 100 := by
  have h1 : ∀ n : Fin 64, (sliceRange (sliceBounds none (some 40) none n.val).1 (sliceBounds none (some 40) none n.val).2.1 (sliceBounds none (some 40) none n.val).2.2).length ≤ 100 := by decide +kernel
  exact h1 ⟨n, by lia⟩
noncomputable def topsN (rows : List Row) : List Str := (rows.filter fun r => decide (r.par = ("" : Str))).map (·.n)
theorem tops_fm (rows : List Row) : rows.filterMap (fun r => if r.par = ("" : Str) then some (PV.str r.n) else Option.none) = (topsN rows).map .str := by
  unfold topsN
  induction rows with
  | nil => rfl
  | cons a l ih =>
    rw [List.filterMap_cons, List.filter_cons, ih]
    by_cases h : a.par = ""
    · rw [if_pos h, if_pos (decide_eq_true h)]; rfl
    · rw [if_neg h, if_neg (by rw [decide_eq_true_iff]; exact h)]
theorem tops_mem {rows : List Row} {x : Str} (h : x ∈ topsN rows) : ∃ r ∈ rows, r.n = x ∧ r.par = "" := by
  unfold topsN at h
  obtain ⟨r, hr, e⟩ := List.mem_map.mp h
  have := List.mem_filter.mp hr
  exact ⟨r, this.1, e, of_decide_eq_true this.2⟩
theorem RowsP.topsPos {t j : Nat} {rows : List Row} (R : RowsP t j rows) (ht1 : 2 ≤ t) (ht : t ≤ 3) (hj : j ≤ 3) : 0 < (topsN rows).length := by
  have hl := R.len
  have h0 : 0 < rows.length := by lia
  obtain ⟨_, _, _, _, _, _, _, r', hr', _, hp⟩ := R.tops ht hj rows[0] (List.getElem_mem h0)
  refine List.length_pos_of_mem (a := r'.n) ?_
  unfold topsN
  exact List.mem_map_of_mem (List.mem_filter.mpr ⟨hr', decide_eq_true hp⟩)
theorem topsLe (rows : List Row) : (topsN rows).length ≤ rows.length := by unfold topsN; rw [List.length_map]; exact List.length_filter_le _ _
theorem op_at {i : Nat} (h : i < 2) : ∃ cp, (seqIndex? (i : Int) ("op" : Str).length).bind (("op" : Str).cps[·]?) = some cp ∧ (["o", "p"] : List Str).take (i + 1) = (["o", "p"] : List Str).take i ++ [⟨#[cp]⟩] := by
  have : i = 0 ∨ i = 1 := by lia
  rcases this with rfl | rfl
  · exact ⟨111, by decide +kernel, by decide +kernel⟩
  · exact ⟨112, by decide +kernel, by decide +kernel⟩
theorem ordP_of {rows : List Row} {os : List Ord} {m : Nat} (h1 : os.length = m) (hm : m ≤ 2) (h2 : os.map (·.als) = (["o", "p"] : List Str).take m) (h3 : ∀ o ∈ os, ∃ r ∈ rows, r.n = o.sig ∧ r.par = "") : OrdP rows os := by
  refine ⟨?_, fun o ho => ?_, h3, by lia⟩
  · rw [h2]
    exact List.Sublist.nodup (List.take_sublist _ _) (by decide)
  · have : o.als ∈ os.map (·.als) := List.mem_map_of_mem ho
    rw [h2] at this
    simpa using List.mem_of_mem_take this
theorem c_law (ok : p.G.Ok) {k : Nat} {sc : PV} {cs : List Int} (V : LstV σ sc (cs.map .int)) (hcs : cs.length ≤ 63) (q : ∀ σ', Q (.bool true) σ') {env : Env} : CWP ⟨p.G, k + 9, env⟩ (.cst (.ref 634)) [sc] σ Q := by
  refine cwp_def ok (ok_law p) (Nat.le_refl _) rfl fun L => ?_
  walk_at "open"
  walk_at "asg"
  with_reducible refine ewp_dict2 (by decide) ?_
  walk_at "ecmp"
  with_reducible refine ewp_slice (ops := fun o i => [i, o]) ?_ ?hsl
  case hsl => intro _ _; rfl
  repeat walk_at "w"
  with_reducible refine part_none ?_
  with_reducible refine part_some ?_
  repeat walk_at "w"
  refine ⟨40, rfl, ?_⟩
  with_reducible refine part_none ?_
  refine ⟨cs.map .int, by rw [List.length_map]; lia, rfl, .inl ⟨V, ?_⟩⟩
  rw [pick_map]
  have hpl : (pickL cs none (some 40) none).length ≤ 100 := Nat.le_trans (fmLen _ _) (head_len hcs)
  generalize pickL cs none (some 40) none = cs1 at hpl ⊢
  refine ⟨cs1.map .int, szl (by rw [List.length_map]; lia), fun C0 => ?_⟩
  with_reducible refine comp_filterE PV.int (fun x => some (.int ((if x < 0 then -x else x).fmod 1000003))) (fun _ => True) cs1 rfl (.lst .f) (fun x hx ρ' _ => ?_) trivial ?_
  · walk_at "tgt"
    with_reducible refine tests_nil ?_
    repeat walk_at "w"
    with_reducible refine cwp_abs ?_
    repeat walk_at "w"
    with_reducible refine o2_mod (by lia) ?_
    exact ⟨rfl, rfl, trivial⟩
  rw [mapFilter (fun x : Int => PV.int ((if x < 0 then -x else x).fmod 1000003)), show cs1.map (fun x : Int => PV.int ((if x < 0 then -x else x).fmod 1000003)) = (cs1.map fun x => ((if x < 0 then -x else x).fmod 1000003 : Int)).map .int from by rw [List.map_map]; rfl]
  have hcl : (cs1.map fun x => ((if x < 0 then -x else x).fmod 1000003 : Int)).length < 1000 := by rw [List.length_map]; lia
  generalize (cs1.map fun x => ((if x < 0 then -x else x).fmod 1000003 : Int)) = cells at hcl ⊢
  repeat walk_at "w"
  walk_at "cell"
  have hg : ∀ (a : Int), (σ ++ [purse cells a])[σ.length]? = some (purse cells a) := fun a => by simp
  have hw : ∀ (a b : Int), (σ ++ [purse cells a]).set σ.length (purse cells b) = σ ++ [purse cells b] := fun a b => by rw [List.set_append_right _ _ (by lia)]; simp
  walk_at "asg"
  repeat walk_at "w"
  refine ⟨k_587 p, ?_⟩
  repeat walk_at "w"
  with_reducible refine c_rows ok (hg 0) (by lia) (by lia) hcl (fun t j rows a1 R ht1 ht hj ha1 ha1' => ?_)
  rw [hw]
  walk_at "loc"
  have hlen := R.len
  have hnd := (R.rowsOk ht hj).nodup
  walk_at "asg"
  walk_at "ecmp"
  repeat walk_at "w"
  refine ⟨rows.map rowT, szl (by rw [List.length_map]; lia), fun C1 => ?_⟩
  with_reducible refine comp_filterE rowT (fun r => if r.par = ("" : Str) then some (.str r.n) else none) (fun _ => True) rows rfl (.lst .f) (fun r hr ρ' _ => ?_) trivial ?_
  · walk_at "tgt"
    with_reducible refine tests_one ?_
    repeat walk_at "w"
    with_reducible refine sub_row 2 (x := r.par) ?e1 (by decide) rfl ?_ ?isub
    case e1 => rfl
    case isub => intro _ _; rfl
    repeat walk_at "w"
    by_cases hp : r.par = ""
    · rw [decide_eq_true hp, if_pos hp]
      repeat walk_at "w"
      with_reducible refine sub_row 0 (x := r.n) ?e1 (by decide) rfl ?_ ?isub
      case e1 => rfl
      case isub => intro _ _; rfl
      exact ⟨rfl, rfl, trivial⟩
    · rw [decide_eq_false hp, if_neg hp]
      with_reducible refine iteF ⟨rfl, rfl, trivial⟩
  rw [tops_fm]
  walk_at "cell"
  have htp := R.topsPos ht1 ht hj
  have htl := topsLe rows
  walk_at "cmp"
  repeat walk_at "w"
  refine ⟨k_582 p, ?_⟩
  repeat walk_at "w"
  with_reducible refine c_draw ok (hg _) (by lia) (by lia) hcl (by lia) (fun x x1 x2 => ?_) _
  rw [hw]
  repeat walk_at "w"
  with_reducible refine cwp_range1 ?_
  have hr1 : rngL 0 x = (List.range x.toNat).map fun (i : Nat) => PV.int (i : Int) := by unfold rngL; simp
  refine ⟨rngL 0 x, szl (by rw [hr1]; simp; lia), fun C2 => ?_⟩
  with_reducible refine comp_ind (fun (i : Nat) => PV.int (i : Int)) (List.range x.toNat) (fun d acc ρ σ' => ∃ os : List Ord, acc = os.map opened ∧ os.length = d.length ∧ os.map (·.als) = (["o", "p"] : List Str).take d.length ∧ (∀ o ∈ os, ∃ r ∈ rows, r.n = o.sig ∧ r.par = "") ∧ σ' = σ ++ [purse cells (a1 + 1 + d.length)] ∧ ρ.lookup ("purse" : Str) = some (.ref σ.length) ∧ ρ.lookup ("tops" : Str) = some (.lst ((topsN rows).map .str))) hr1 ?hS ?step ?h0 ?_
  case hS => rintro d acc ρ σ' _; exact .rng (by unfold RngOk; lia)
  case h0 => exact ⟨[], rfl, rfl, rfl, (fun _ h => nomatch h), by simp, rfl, rfl⟩
  case step =>
    rintro d i r e acc ρ σ' ⟨os, rfl, ho1, ho2, ho3, rfl, h1, h2⟩
    obtain ⟨rfl, hi⟩ := range_pos e
    walk_at "tgt"
    have g1 := look_ne (v := PV.int (d.length : Int)) (x := "k") h1 (by decide)
    have g2 := look_ne (v := PV.int (d.length : Int)) (x := "k") h2 (by decide)
    with_reducible refine tests_nil ?_
    repeat walk_at "w"
    obtain ⟨cp, hcp, htk⟩ := op_at (i := d.length) (by lia)
    with_reducible refine sub_str ?hk hcp ?_ ?isub
    case hk => rw [Bool.or_eq_false_iff]; exact ⟨decide_eq_false (by lia), decide_eq_false (by lia)⟩
    case isub => intro _ _; rfl
    repeat walk_at "w"
    refine ⟨k_582 p, ?_⟩
    repeat walk_at "w"
    with_reducible refine cwp_len_lst .f (by rw [List.length_map]; lia) ?_
    rw [List.length_map]
    repeat walk_at "w"
    with_reducible refine c_draw ok (hg _) (by lia) (by lia) hcl (by lia) (fun y y1 y2 => ?_) _
    rw [hw]
    have hy : y.toNat < (topsN rows).length := by lia
    with_reducible refine sub_lstN .f y.toNat (p := .str (topsN rows)[y.toNat]) ?hk2 (by lia) ?hx ?_ ?isub
    case hk2 => lia
    case hx => rw [List.getElem?_map, List.getElem?_eq_getElem hy]; rfl
    case isub => intro _ _; rfl
    repeat walk_at "w"
    refine ⟨Nat.le_of_ble_eq_true rfl, os ++ [⟨⟨#[cp]⟩, (topsN rows)[y.toNat]⟩], ?_, ?_, ?_, ?_, ?_, g1, g2⟩
    · rw [List.map_append]; rfl
    · simp [ho1]
    · rw [List.map_append, ho2, List.length_append]; exact htk.symm
    · intro o ho
      rcases List.mem_append.mp ho with ho | ho
      · exact ho3 o ho
      · rw [List.mem_singleton.mp ho]
        exact tops_mem (List.getElem_mem hy)
    · rw [List.length_append]
      congr 2
      congr 1
      show _ = a1 + 1 + ((d.length + 1 : Nat) : Int)
      lia
  rintro acc ρ' σ' ⟨os, rfl, ho1, ho2, ho3, rfl, _, _⟩
  rw [List.length_range] at ho1 ho2 ⊢
  have O : OrdP rows os := ordP_of ho1 (by lia) ho2 ho3
  have hol := O.len
  walk_at "asg"
  repeat walk_at "w"
  refine ⟨k_599 p, ?_⟩
  repeat walk_at "w"
  with_reducible refine c_lscope ok (hg _) (by lia) (by lia) hcl hnd (by lia) (fun tl left dn a2 T htl3 hdn _ _ => ?_)
  rw [hw]
  walk_at "cell"
  obtain ⟨tp, P⟩ := R.tp ht hj
  have C := scOk R ht hj O hdn T htl3 P
  walk_at "asg"
  repeat walk_at "w"
  refine ⟨k_624 p, ?_⟩
  repeat walk_at "w"
  with_reducible refine c_ltold ok (R.rowsOk ht hj) O.ordsOk C ?_
  walk_at "loc"
  walk_at "asg"
  repeat walk_at "w"
  obtain ⟨a, hat⟩ : ∃ a, atoms (lotF rows os dn tl) rows = a := ⟨_, rfl⟩
  rw [hat]
  show AWP _ _ _ (.tup [bndPV a _ _, .sd _, .lst _]) _ _ _
  with_reducible refine awp_tuple (fun _ h => h) ?_ rfl ?he
  case he => exact rfl
  with_reducible refine als_cons ?_
  walk_at "loc"
  with_reducible refine als_cons ?_
  walk_at "cell"
  with_reducible refine als_cons ?_
  walk_at "loc"
  with_reducible refine als_nil ?_
  walk_at "asg"
  repeat walk_at "w"
  refine ⟨k_609 p, ?_⟩
  repeat walk_at "w"
  with_reducible refine c_llots ok C ?_
  rw [hat]
  with_reducible refine awp_tuple (fun _ h => h) ?_ rfl ?he
  case he => exact rfl
  with_reducible refine als_cons ?_
  walk_at "loc"
  with_reducible refine als_cons ?_
  walk_at "loc"
  with_reducible refine als_nil ?_
  have LC : LawC t j rows os tl left tp dn a := ⟨R, ht1, ht, hj, O, T, htl3, hdn, P, hat⟩
  refine c_rest0 ok LC ⟨rfl, rfl, rfl, rfl, rfl, rfl, rfl, rfl, rfl⟩ fun ρ₁ S₁ => c_rest1 ok LC S₁ fun ρ₂ S₂ => c_rest2 ok LC S₂ fun ρ₃ S₃ => c_rest3 ok LC S₃ ?_
  exact leave_pure (.low .bool) (q _)
end
section
theorem g_law (p : Pk) : nsIn p.G.K mainGlobals "law" = some (some (.ref 634)) := by kernel_rfl
theorem ints_of {p : Pk} {h : Heap} {P : Params} {cs : List Int} : ∀ {vs : List Value}, WellAll P h vs (ofPys (cs.map PyData.int)) → VRels p.G h [] [] (cs.map .int) vs := by
  induction cs with
  | nil => intro vs r; cases r; exact .nil
  | cons x xs ih => intro vs r; cases r with | cons a r => cases a with | int => exact .cons .int (ih r)
theorem law_end {p : Pk} (ok : p.G.Ok) {s : Shared} (hs : s.heap = p.h₀) {fa a : Addr} (hf : p.mg ("law" : Str) = some (.ref fa)) {cs : List Int} {P : Params} (W : Well P s.heap (.ref a) (ofPy (.list (cs.map PyData.int)))) (hcs : cs.length ≤ 63) {R : Value → Shared → Prop} {E : Value → Shared → Prop}
    (hR : ∀ s', (∀ b o, s.heap.get? b = some o → s'.heap.get? b = some o) → s'.gens = s.gens → s'.os = s.os → R (.bool true) s') : wpAny (model p.prog p.w) callerA (call (.ref fa) [.ref a]) R E s := by
  have e := mg_of ok.X ok.g (g_law p)
  have e2 : some (Value.ref fa) = some (.ref 634) := hf.symm.trans e
  obtain rfl : fa = 634 := by injection e2 with e3; injection e3
  have I : Inv p.G s [] [] [] := ⟨fun b o h => (by rw [hs]; exact h), fun a h => (by rcases h with h | h <;> exact nomatch h), (fun a h => nomatch h), (fun a h => nomatch h), rfl, (fun n p o h => by rw [List.getElem?_nil] at h; exact nomatch h), (fun m n p q _ h => by rw [List.getElem?_nil] at h; exact nomatch h)⟩
  have W2 : Well P s.heap (.ref a) (.list (ofPys (cs.map PyData.int))) := W
  cases W2 with
  | @list _ vs _ hg hw =>
    have V : VRel p.G s.heap [] [] (.lst (cs.map .int)) (.ref a) := .lst (n := 0) hg ⟨by simp [adr], by simp⟩ (ints_of hw)
    have h := c_law ok (k := 0) (σ := []) (sc := .lst (cs.map .int)) .f hcs (Q := fun v _ => v = .bool true) (fun _ => rfl) (env := default) [] s [] (.ref 634) [.ref a] I (.cst rfl) (.cons V .nil)
    refine h callerA ⟨rfl, by show callerA.depth + 6 * 9 < 900; decide, by show callerA.units + 30 * 9 < 5000; decide⟩ R E fun v s' φ' g pp => pp.e fun pv σ' I' r' e => ?_
    subst e
    refine r'.boolE fun e => ?_
    subst e
    exact hR s' (fun b o hb => g.keep b o hb (by simp [adr]) (by simp)) g.gens g.os
end
end Mine
namespace Mine
theorem impNone : importsNone hd.view_39 = true := by kernel_rfl
theorem postT (args ds : List WData) : PySem.Challenge.rw_rr0098_01.row.claim.post args (.bool true) ds = true := by kernel_rfl
set_option maxHeartbeats 8000000 in
theorem cw : PySem.Challenge.rw_rr0098_01.Holds :=
  hdO (by
  intro w s₀ s₁ mg mb G Y fa o pm cd doc dV kV ho hd2 hcd hD hmg hg args vals as hpre hlay hrd hwl hlo
  have KX := kIn_of (K := hd.heap_39) Y
  have hmg2 : mg ("law" : Str) = some (.ref fa) := hmg
  refine Ground.open G ?_
  intro T B D TE TW
  have ok : (Pk.mk PySem.Challenge.rw_rr0098_01.row.prog w s₁.heap mg mb).G.Ok :=
    ⟨KX, T.g, T.b, T.nolimit, T.nodigits, T.builtins, let ⟨_, ⟨o, _, _, e, _⟩, _⟩ := (T.seer impNone).mods; ⟨o, e⟩⟩
  clear B D TE TW T KX hmg hD hcd hd2 ho Y G
  wrow_args hpre hlay hrd hwl hlo
  all_goals (
    have W := ‹Well _ _ _ _›
    refine law_end (p := ⟨PySem.Challenge.rw_rr0098_01.row.prog, w, s₁.heap, mg, mb⟩) ok rfl hmg2 W (by lia) fun s' k1 k2 k3 => ?_
    refine GoodW.toG ⟨.inl ⟨_, .bool true, [], rfl, ?_, .bool true, ?_, ?_⟩, k1, k3, k2.trans hg⟩
    · intro cls; rfl
    · exact postT _ _
    · intro _; exact ⟨.nil, fun _ h => nomatch h⟩))
end Mine
theorem PySem.Challenge.cw_rr0098_01_holds : PySem.Challenge.rw_rr0098_01.Holds :=
  Mine.cw
