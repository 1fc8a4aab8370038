import PyProof.Rows.All
import Wide.All
import OpenK.AllK
import Wide.FinOn
import Lean
import PySem.Challenge.RW_pq1429_01
open PySem PySem.W PyProof.Rows
set_option Elab.async false
set_option maxRecDepth 100000
set_option maxHeartbeats 4000000
set_option linter.all false
set_option rowWalk.seconds 0
set_option compiler.extract_closed false
namespace Mine
namespace H
noncomputable abbrev pw:Program:=PySem.Challenge.pw_pq1429_01
noncomputable abbrev n:Value:=.none
noncomputable abbrev r (a:Nat):Value:=.ref a
noncomputable abbrev i (k:Int):Value:=.int k 0
noncomputable abbrev s (x:String) (t:Nat):Value:=.str (Str.ofString x) t
noncomputable abbrev ty (x:String):Value:=.type x
noncomputable abbrev bu (x:String):Value:=.builtin x
noncomputable abbrev e (P:Params) (x:String) (t:Nat) (v:Value):DictEntry:=⟨PyData.keyHash P (Str.ofString x),.str (Str.ofString x) t,v⟩
noncomputable abbrev tu (l:List Value):Obj:={ cls:=.type "tuple", data:=.seq ⟨l⟩ }
noncomputable abbrev fl (c:Value) (l:List Value):Obj:={ cls:=c,data:=.fields ⟨l⟩ }
noncomputable def coO (nm qn:String) (t l1 ac r8 u fl:Nat) (b:Bool) (c1 c2 c3:Value):Obj:={ cls:=.type "code", data:=.fields ⟨[s nm t,s qn (t + 1),s "/claim/cut.py" (t + 2),.int (Int.ofNat l1) 0,.int (Int.ofNat ac) 0,i 0,i 0,.int (Int.ofNat fl) 0,r r8,.bool b,i 181,r (r8 + 1),n,c1,c2,c3,.int (Int.ofNat u) 0,.int (Int.ofNat l1) 0,s "/claim/cut.py" (u + 1)]⟩ }
noncomputable def coA (nm qn:String) (t l1 ac r8 u:Nat):Obj:=coO nm qn t l1 ac r8 u 3 true (r (r8 + 2)) (r (r8 + 3)) (r (r8 + 4))
noncomputable def coB (nm qn:String) (t l1 ac r8 u:Nat):Obj:=coO nm qn t l1 ac r8 u 3 true n n (r (r8 + 2))
noncomputable def coC (nm qn:String) (t l1 ac r8 u:Nat):Obj:=coO nm qn t l1 ac r8 u 0 false n n n
noncomputable abbrev di (c:Value) (l:List DictEntry) (k:Nat):Obj:={ cls:=c,data:=.dict ⟨l⟩ k }
noncomputable abbrev mo (d:Nat):Obj:={ cls:=.type "module", dict:=some d }
noncomputable abbrev pl (c:Value):Obj:={ cls:=c }
noncomputable abbrev cl (c:Value) (d:ClassData):Obj:={ cls:=c,data:=.cls d }
noncomputable abbrev slo (o:Obj) (l:List (Option Value)):Obj:={ o with slots:=⟨l⟩ }
noncomputable def nth:List Stmt→Nat→Stmt
  | [],_=>.Pass ⟨0,0,0,0⟩
  | x::_,0=>x
  | _::l,k + 1=>nth l k
noncomputable def fdE {α:Type} (s:Stmt) (f:Str→Arguments→List Stmt→Scope→α) (g:α):α:=if h:s.ctorIdx = 0 then Stmt.FunctionDef.elim s h fun a b c _ _ _ d _ _ _=>f a b c d else g
noncomputable def cdE {α:Type} (s:Stmt) (f:List Stmt→α) (g:α):α:=if h:s.ctorIdx = 2 then Stmt.ClassDef.elim s h fun _ _ _ b _ _ _ _ _ _ _=>f b else g
noncomputable def fName (s:Stmt):Str:=fdE s (fun a _ _ _=>a) Str.empty
noncomputable def fPar (s:Stmt):Arguments:=fdE s (fun _ a _ _=>a) { posonlyargs:=[],args:=[],vararg:=none,kwonlyargs:=[],kw_defaults:=[],kwarg:=none,defaults:=[] }
noncomputable def fBody (s:Stmt):List Stmt:=fdE s (fun _ _ b _=>b) (cdE s (fun b=>b) [])
noncomputable def fScope (s:Stmt):Scope:=fdE s (fun _ _ _ d=>d) { kind:=.module,names:=[],isGenerator:=false,isCoroutine:=false,more:=[] }
noncomputable def A (k:Nat):Stmt:=nth pw.main.body k
noncomputable def M (k j:Nat):Stmt:=nth (fBody (A k)) j
noncomputable abbrev pf (f:Stmt) (q:String):Obj:={ cls:=.none,data:=.func { name:=fName f,qualname:=Str.ofString q,params:=fPar f,body:=.stmts (fBody f),scope:=fScope f,globals:=0,closure:=[],defaults:=.none,kwdefaults:=.none } }
noncomputable def fo (f:Stmt) (q:String) (dV kV doc pm cd ct:Value):Obj:={ cls:=.type "function", data:=.func { name:=fName f,qualname:=Str.ofString q,params:=fPar f,body:=.stmts (fBody f),scope:=fScope f,globals:=3,closure:=[],defaults:=dV,kwdefaults:=kV,doc:=doc,pyModule:=pm,code:=cd,closureTuple:=ct } }
noncomputable def names (P:Params):List DictEntry:=[e P "__doc__" 166 n,e P "__package__" 167 n,e P "__loader__" 168 (bu "__main__.__loader__#opaque"),e P "__spec__" 169 n,e P "__annotations__" 170 (r 6),e P "__builtins__" 171 (r 4),e P "__file__" 173 (s "/claim/cut.py" 172),e P "__cached__" 174 n,e P "_wall" 193 (r 21),e P "get_attr" 203 (r 28),e P "names_of" 209 (r 33),e P "dim_of" 217 (r 40),e P "dimnames_of" 223 (r 45),e P "class_attr" 231 (r 52),e P "language_class" 239 (r 59),e P "shape_class" 247 (r 66),e P "plain_class" 255 (r 73),e P "class_of" 263 (r 80),e P "inherits" 272 (r 87),e P "CoveError" 294 (r 97),e P "Refusal" 319 (r 117),e P "RError" 348 (r 136),e P "LimitReached" 373 (r 155),e P "ReturnSignal" 400 (r 174),e P "LoopSignal" 427 (r 193),e P "Null" 458 (r 212),e P "Missing" 487 (r 233),e P "Vector" 529 (r 262),e P "Environment" 566 (r 284),e P "Promise" 602 (r 305),e P "Dots" 633 (r 326),e P "null" 639 (r 337),e P "missing" 645 (r 344),e P "character" 652 (r 351),e P "flag" 659 (r 358),e P "text" 666 (r 365),e P "length" 674 (r 372),e P "is_atomic" 681 (r 379),e P "is_function" 688 (r 386),e P "share" 695 (r 393),e P "Matching" 780 (r 450),e P "doubled_text" 787 (r 461),e P "argument_text" 799 (r 468),e P "plain_text" 807 (r 475),e P "unused_text" 813 (r 480),e P "match_names" 819 (r 486),e P "needed" 827 (r 493),e P "take" 833 (r 499),e P "NAN" 838 (r 500),e P "INF" 841 (r 501),e P "ZERO" 844 (r 502),e P "MOST_FIGURES" 846 (.int (5000) 845),e P "MOST_PART" 849 (.int (Int.ofNat ((10 ^ 250) ^ 20)) 848),e P "gcd" 857 (r 509),e P "bounded" 865 (r 516),e P "make" 874 (r 523),e P "from_int" 881 (r 530),e P "is_na" 888 (r 537),e P "is_nan" 895 (r 544),e P "is_finite" 902 (r 551),e P "marked" 910 (r 558),e P "neg" 917 (r 565),e P "add" 925 (r 572),e P "sub" 933 (r 579),e P "mul" 941 (r 586),e P "div" 949 (r 593),e P "isqrt" 958 (r 600),e P "root" 967 (r 607),e P "floor" 974 (r 614),e P "to_whole" 982 (r 621),e P "nearest_whole" 992 (r 628),e P "exponent" 1002 (r 635),e P "compare" 1012 (r 642),e P "MOST_EXPONENT" 1016 (.int (4096) 1015),e P "MOST_SIGNS" 1018 (.int (5000) 1017),e P "whole_text" 1028 (r 649),e P "special_text" 1035 (r 656),e P "scaled" 1045 (r 663),e P "significant" 1055 (r 670),e P "without_tail" 1063 (r 677),e P "scientific_text" 1075 (r 684),e P "fixed_text" 1085 (r 691),e P "measures" 1098 (r 698),e P "chosen_form" 1115 (r 705),e P "formed" 1124 (r 712),e P "common_texts" 1130 (r 717),e P "number_text" 1139 (r 725),e P "digits_value" 1149 (r 732),e P "digit_run" 1158 (r 739),e P "exponent_value" 1167 (r 746),e P "powered" 1176 (r 753),e P "unsigned_number" 1195 (r 760),e P "parse_number" 1207 (r 767),e P "MOST_INTEGER" 1211 (.int (2147483647) 1210),e P "note" 1219 (r 774),e P "as_logical_text" 1226 (r 781),e P "double_to_integer" 1235 (r 788),e P "text_to_double" 1245 (r 795),e P "to_logical" 1253 (r 802),e P "to_integer" 1262 (r 809),e P "to_double" 1271 (r 816),e P "to_text" 1279 (r 823),e P "item_as" 1289 (r 830),e P "is_atomic_kind" 1296 (r 837),e P "list_item_as" 1306 (r 844),e P "refuse_type" 1314 (r 851),e P "as_vector_kind" 1320 (r 856),e P "with_names" 1328 (r 863),e P "as_kind" 1334 (r 868),e P "truth_item" 1344 (r 875),e P "MOST_SCALE" 1350 (.int (Int.ofNat ((10 ^ 150) ^ 2)) 1349),e P "is_lacking" 1358 (r 882),e P "double_sum" 1367 (r 889),e P "number_items" 1373 (r 894),e P "mean_items" 1380 (r 901),e P "var_of" 1392 (r 908),e P "joined_ascending" 1403 (r 915),e P "by_comparing" 1409 (r 920),e P "cov_of" 1421 (r 927),e P "trimmed_mean" 1431 (r 934),e P "ascending" 1441 (r 941),e P "lacking_item" 1449 (r 948),e P "median_of" 1460 (r 955),e P "quantile_item" 1471 (r 962),e P "quantile7" 1477 (r 967),e P "finish" 1488 (r 974),e P "is_set" 1495 (r 981),e P "without_lacking" 1501 (r 986),e P "untagged" 1510 (r 993),e P "numeric_arg" 1521 (r 1000),e P "trim_part" 1529 (r 1007),e P "b_mean" 1535 (r 1012),e P "b_median" 1544 (r 1019),e P "pairs_kept" 1552 (r 1026),e P "b_var" 1558 (r 1031),e P "b_sd" 1567 (r 1038),e P "b_quantile" 1585 (r 1045),e P "lookup_here" 1595 (r 1052),e P "lookup" 1604 (r 1059),e P "done_promise" 1615 (r 1066),e P "bound_argument" 1622 (r 1073),e P "dots_argument" 1631 (r 1080),e P "default_binding" 1640 (r 1087),e P "bind_formals" 1646 (r 1093),e P "dots_of" 1654 (r 1100),e P "is_dots_place" 1662 (r 1107),e P "dots_place" 1673 (r 1114),e P "is_empty_formal" 1683 (r 1121),e P "is_empty_name" 1691 (r 1128),e P "Frame" 1732 (r 1145),e P "Evaluator" 2071 (r 1355),e P "hands_on" 2078 (r 1366),e P "_law_coins" 2091 (r 1373),e P "_law_coin" 2099 (r 1380),e P "_law_told" 2105 (r 1385),e P "_law_fraction" 2115 (r 1392),e P "_law_plain_holds" 2121 (r 1397),e P "law" 2141 (r 1404)]
noncomputable def stat1 (P:Params):Obj:=di n [e P "type.__subclasses__.Exception.0" 291 (i 97),e P "type.__subclasses__.Exception.n" 292 (i 1)] 2
end H
namespace hd
open H
noncomputable def heap_1:Params→Frag:=fun P =>
  (nat_lit 2,stat1 P) ::
  (nat_lit 3,di (ty "dict") (⟨PyData.keyHash P (Str.ofString "__name__"),.str (Str.ofString "__name__") 165,s "law_pq1429_01" 2079⟩::(names P).take 158) 159) ::
  (nat_lit 15,tu []) ::
  (nat_lit 17,tu [s "k" 190]) ::
  (nat_lit 18,tu []) ::
  (nat_lit 20,coA "_wall" "_wall" (nat_lit 187) (nat_lit 1) (nat_lit 1) (nat_lit 15) (nat_lit 191)) ::
  (nat_lit 21,fo (A 0) "_wall" n n n (s "__main__" 164) (r 20) n) ::
  (nat_lit 22,tu []) ::
  (nat_lit 24,tu [s "v" 199,s "name" 200]) ::
  (nat_lit 25,tu []) ::
  (nat_lit 27,coA "get_attr" "get_attr" (nat_lit 196) (nat_lit 5) (nat_lit 2) (nat_lit 22) (nat_lit 201)) ::
  (nat_lit 28,fo (A 2) "get_attr" n n n (s "vectorcove.attrs" 194) (r 27) n) ::
  (nat_lit 29,tu []) ::
  (nat_lit 32,coB "names_of" "names_of" (nat_lit 204) (nat_lit 9) (nat_lit 1) (nat_lit 29) (nat_lit 207)) ::
  (nat_lit 33,fo (A 3) "names_of" n n n (s "vectorcove.attrs" 194) (r 32) n) ::
  (nat_lit 34,tu []) ::
  (nat_lit 36,tu [s "v" 213,s "dims" 214]) ::
  (nat_lit 37,tu []) ::
  (nat_lit 39,coA "dim_of" "dim_of" (nat_lit 210) (nat_lit 25) (nat_lit 1) (nat_lit 34) (nat_lit 215)) ::
  (nat_lit 40,fo (A 4) "dim_of" n n n (s "vectorcove.attrs" 194) (r 39) n) ::
  (nat_lit 41,tu []) ::
  (nat_lit 44,coB "dimnames_of" "dimnames_of" (nat_lit 218) (nat_lit 30) (nat_lit 1) (nat_lit 41) (nat_lit 221)) ::
  (nat_lit 45,fo (A 5) "dimnames_of" n n n (s "vectorcove.attrs" 194) (r 44) n) ::
  (nat_lit 46,tu []) ::
  (nat_lit 48,tu [s "v" 227,s "found" 228]) ::
  (nat_lit 49,tu []) ::
  (nat_lit 51,coA "class_attr" "class_attr" (nat_lit 224) (nat_lit 35) (nat_lit 1) (nat_lit 46) (nat_lit 229)) ::
  (nat_lit 52,fo (A 6) "class_attr" n n n (s "vectorcove.attrs" 194) (r 51) n) ::
  (nat_lit 53,tu []) ::
  (nat_lit 55,tu [s "v" 235,s "head" 236]) ::
  (nat_lit 56,tu []) ::
  (nat_lit 58,coA "language_class" "language_class" (nat_lit 232) (nat_lit 40) (nat_lit 1) (nat_lit 53) (nat_lit 237)) ::
  (nat_lit 59,fo (A 7) "language_class" n n n (s "vectorcove.attrs" 194) (r 58) n) ::
  (nat_lit 60,tu []) ::
  (nat_lit 62,tu [s "v" 243,s "dims" 244]) ::
  (nat_lit 63,tu []) ::
  (nat_lit 65,coA "shape_class" "shape_class" (nat_lit 240) (nat_lit 45) (nat_lit 1) (nat_lit 60) (nat_lit 245)) ::
  (nat_lit 66,fo (A 8) "shape_class" n n n (s "vectorcove.attrs" 194) (r 65) n) ::
  (nat_lit 67,tu []) ::
  (nat_lit 69,tu [s "v" 251,s "kind" 252]) ::
  (nat_lit 70,tu []) ::
  (nat_lit 72,coA "plain_class" "plain_class" (nat_lit 248) (nat_lit 50) (nat_lit 1) (nat_lit 67) (nat_lit 253)) ::
  (nat_lit 73,fo (A 9) "plain_class" n n n (s "vectorcove.attrs" 194) (r 72) n) ::
  (nat_lit 74,tu []) ::
  (nat_lit 76,tu [s "v" 259,s "rows" 260]) ::
  (nat_lit 77,tu []) ::
  (nat_lit 79,coA "class_of" "class_of" (nat_lit 256) (nat_lit 61) (nat_lit 1) (nat_lit 74) (nat_lit 261)) ::
  (nat_lit 80,fo (A 10) "class_of" n n n (s "vectorcove.attrs" 194) (r 79) n) ::
  (nat_lit 81,tu []) ::
  (nat_lit 83,tu [s "v" 267,s "names" 268,s "one" 269]) ::
  (nat_lit 84,tu []) ::
  (nat_lit 86,coA "inherits" "inherits" (nat_lit 264) (nat_lit 69) (nat_lit 2) (nat_lit 81) (nat_lit 270)) ::
  (nat_lit 87,fo (A 11) "inherits" n n n (s "vectorcove.attrs" 194) (r 86) n) ::
  (nat_lit 88,tu [ty "Exception"]) ::
  (nat_lit 95,tu []) ::
  (nat_lit 96,di (ty "dict") [e P "__module__" 282 (s "vectorcove.errors" 273),e P "__firstlineno__" 286 (.int (75) 285),e P "__static_attributes__" 287 (r 95),e P "__weakref__" 289 (r 98),e P "__doc__" 290 n] 3) ::
  (nat_lit 97,slo (cl (ty "type") { name:=Str.ofString "CoveError", bases:=[ty "Exception"],mro:=[r 97,ty "Exception", ty "BaseException", ty "object"],ns:=96,qualname:=Str.ofString "CoveError", hasDict:=true,slotNames:=[],subclasses:=[r 117,r 136,r 155,r 174,r 193],abstract:=false,collection:=none,hasDel:=false }) [some (r 88),none,some (s "CoveError" 275),some (s "CoveError" 283),some (bu "Exception.__new__"),some (.bool true)]) ::
  (nat_lit 98,fl (ty "getset_descriptor") [s "__weakref__" 288,r 97,bu "ExceptionGroup.__weakref__", n]) ::
  (nat_lit 101,tu [r 97]) ::
  (nat_lit 108,tu []) ::
  (nat_lit 110,tu [s "self" 310,s "message" 311]) ::
  (nat_lit 111,tu []) ::
  (nat_lit 113,coA "__init__" "Refusal.__init__" (nat_lit 307) (nat_lit 79) (nat_lit 2) (nat_lit 108) (nat_lit 312)) ::
  (nat_lit 114,fo (M 14 0) "Refusal.__init__" n n n (s "vectorcove.errors" 273) (r 113) n) ::
  (nat_lit 115,tu [s "message" 315]) ::
  (nat_lit 116,di (ty "dict") [e P "__module__" 302 (s "vectorcove.errors" 273),e P "__firstlineno__" 306 (.int (77) 305),e P "__init__" 314 (r 114),e P "__static_attributes__" 316 (r 115),e P "__doc__" 317 n] 2) ::
  (nat_lit 117,slo (cl (ty "type") { name:=Str.ofString "Refusal", bases:=[r 97],mro:=[r 117,r 97,ty "Exception", ty "BaseException", ty "object"],ns:=116,qualname:=Str.ofString "Refusal", hasDict:=true,slotNames:=[],subclasses:=[],abstract:=false,collection:=none,hasDel:=false }) [some (r 101),none,some (s "Refusal" 295),some (s "Refusal" 303),some (bu "Exception.__new__"),some (.bool true)]) ::
  (nat_lit 120,tu [r 97]) ::
  (nat_lit 127,tu []) ::
  (nat_lit 129,tu [s "self" 335,s "message" 336,s "call" 337,s "condition" 338]) ::
  (nat_lit 130,tu []) ::
  (nat_lit 132,coA "__init__" "RError.__init__" (nat_lit 332) (nat_lit 83) (nat_lit 4) (nat_lit 127) (nat_lit 339)) ::
  (nat_lit 133,fo (M 15 0) "RError.__init__" n n n (s "vectorcove.errors" 273) (r 132) n) ::
  (nat_lit 134,tu [s "call" 342,s "condition" 343,s "message" 344]) ::
  (nat_lit 135,di (ty "dict") [e P "__module__" 327 (s "vectorcove.errors" 273),e P "__firstlineno__" 331 (.int (81) 330),e P "__init__" 341 (r 133),e P "__static_attributes__" 345 (r 134),e P "__doc__" 346 n] 2) ::
  (nat_lit 136,slo (cl (ty "type") { name:=Str.ofString "RError", bases:=[r 97],mro:=[r 136,r 97,ty "Exception", ty "BaseException", ty "object"],ns:=135,qualname:=Str.ofString "RError", hasDict:=true,slotNames:=[],subclasses:=[],abstract:=false,collection:=none,hasDel:=false }) [some (r 120),none,some (s "RError" 320),some (s "RError" 328),some (bu "Exception.__new__"),some (.bool true)]) ::
  (nat_lit 139,tu [r 97]) ::
  (nat_lit 146,tu []) ::
  (nat_lit 148,tu [s "self" 364,s "what" 365]) ::
  (nat_lit 149,tu []) ::
  (nat_lit 151,coA "__init__" "LimitReached.__init__" (nat_lit 361) (nat_lit 89) (nat_lit 2) (nat_lit 146) (nat_lit 366)) ::
  (nat_lit 152,fo (M 16 0) "LimitReached.__init__" n n n (s "vectorcove.errors" 273) (r 151) n) ::
  (nat_lit 153,tu [s "what" 369]) ::
  (nat_lit 154,di (ty "dict") [e P "__module__" 356 (s "vectorcove.errors" 273),e P "__firstlineno__" 360 (.int (87) 359),e P "__init__" 368 (r 152),e P "__static_attributes__" 370 (r 153),e P "__doc__" 371 n] 2) ::
  (nat_lit 155,slo (cl (ty "type") { name:=Str.ofString "LimitReached", bases:=[r 97],mro:=[r 155,r 97,ty "Exception", ty "BaseException", ty "object"],ns:=154,qualname:=Str.ofString "LimitReached", hasDict:=true,slotNames:=[],subclasses:=[],abstract:=false,collection:=none,hasDel:=false }) [some (r 139),none,some (s "LimitReached" 349),some (s "LimitReached" 357),some (bu "Exception.__new__"),some (.bool true)]) ::
  (nat_lit 158,tu [r 97]) ::
  (nat_lit 165,tu []) ::
  (nat_lit 167,tu [s "self" 389,s "number" 390,s "value" 391]) ::
  (nat_lit 168,tu []) ::
  (nat_lit 170,coA "__init__" "ReturnSignal.__init__" (nat_lit 386) (nat_lit 93) (nat_lit 3) (nat_lit 165) (nat_lit 392)) ::
  (nat_lit 171,fo (M 17 0) "ReturnSignal.__init__" n n n (s "vectorcove.errors" 273) (r 170) n) ::
  (nat_lit 172,tu [s "number" 395,s "value" 396]) ::
  (nat_lit 173,di (ty "dict") [e P "__module__" 381 (s "vectorcove.errors" 273),e P "__firstlineno__" 385 (.int (91) 384),e P "__init__" 394 (r 171),e P "__static_attributes__" 397 (r 172),e P "__doc__" 398 n] 2) ::
  (nat_lit 174,slo (cl (ty "type") { name:=Str.ofString "ReturnSignal", bases:=[r 97],mro:=[r 174,r 97,ty "Exception", ty "BaseException", ty "object"],ns:=173,qualname:=Str.ofString "ReturnSignal", hasDict:=true,slotNames:=[],subclasses:=[],abstract:=false,collection:=none,hasDel:=false }) [some (r 158),none,some (s "ReturnSignal" 374),some (s "ReturnSignal" 382),some (bu "Exception.__new__"),some (.bool true)]) ::
  (nat_lit 177,tu [r 97]) ::
  (nat_lit 184,tu []) ::
  (nat_lit 186,tu [s "self" 416,s "number" 417,s "again" 418]) ::
  (nat_lit 187,tu []) ::
  (nat_lit 189,coA "__init__" "LoopSignal.__init__" (nat_lit 413) (nat_lit 98) (nat_lit 3) (nat_lit 184) (nat_lit 419)) ::
  (nat_lit 190,fo (M 18 0) "LoopSignal.__init__" n n n (s "vectorcove.errors" 273) (r 189) n) ::
  (nat_lit 191,tu [s "again" 422,s "number" 423]) ::
  (nat_lit 192,di (ty "dict") [e P "__module__" 408 (s "vectorcove.errors" 273),e P "__firstlineno__" 412 (.int (96) 411),e P "__init__" 421 (r 190),e P "__static_attributes__" 424 (r 191),e P "__doc__" 425 n] 2) ::
  (nat_lit 193,slo (cl (ty "type") { name:=Str.ofString "LoopSignal", bases:=[r 97],mro:=[r 193,r 97,ty "Exception", ty "BaseException", ty "object"],ns:=192,qualname:=Str.ofString "LoopSignal", hasDict:=true,slotNames:=[],subclasses:=[],abstract:=false,collection:=none,hasDel:=false }) [some (r 177),none,some (s "LoopSignal" 401),some (s "LoopSignal" 409),some (bu "Exception.__new__"),some (.bool true)]) ::
  (nat_lit 203,tu []) ::
  (nat_lit 205,tu [s "self" 445]) ::
  (nat_lit 206,tu []) ::
  (nat_lit 208,coA "__init__" "Null.__init__" (nat_lit 442) (nat_lit 104) (nat_lit 1) (nat_lit 203) (nat_lit 446)) ::
  (nat_lit 209,fo (M 20 0) "Null.__init__" n n n (s "vectorcove.values" 428) (r 208) n) ::
  (nat_lit 210,tu [s "attrs" 449,s "kind" 450]) ::
  (nat_lit 211,di (ty "dict") [e P "__module__" 437 (s "vectorcove.values" 428),e P "__firstlineno__" 441 (.int (102) 440),e P "__init__" 448 (r 209),e P "__static_attributes__" 451 (r 210),e P "__dict__" 453 (r 213),e P "__weakref__" 455 (r 214),e P "__doc__" 456 n] 4) ::
  (nat_lit 212,slo (cl (ty "type") { name:=Str.ofString "Null", bases:=[ty "object"],mro:=[r 212,ty "object"],ns:=211,qualname:=Str.ofString "Null", hasDict:=true,slotNames:=[],subclasses:=[],abstract:=false,collection:=none,hasDel:=false }) [none,none,some (s "Null" 430),some (s "Null" 438),some (bu "object.__new__"),some (.bool true)]) ::
  (nat_lit 213,fl (ty "getset_descriptor") [s "__dict__" 452,r 212,bu "function.__dict__", bu "function.__dict__#set"]) ::
  (nat_lit 214,fl (ty "getset_descriptor") [s "__weakref__" 454,r 212,bu "ExceptionGroup.__weakref__", n]) ::
  (nat_lit 224,tu []) ::
  (nat_lit 226,tu [s "self" 474]) ::
  (nat_lit 227,tu []) ::
  (nat_lit 229,coA "__init__" "Missing.__init__" (nat_lit 471) (nat_lit 109) (nat_lit 1) (nat_lit 224) (nat_lit 475)) ::
  (nat_lit 230,fo (M 21 0) "Missing.__init__" n n n (s "vectorcove.values" 428) (r 229) n) ::
  (nat_lit 231,tu [s "attrs" 478,s "kind" 479]) ::
  (nat_lit 232,di (ty "dict") [e P "__module__" 466 (s "vectorcove.values" 428),e P "__firstlineno__" 470 (.int (107) 469),e P "__init__" 477 (r 230),e P "__static_attributes__" 480 (r 231),e P "__dict__" 482 (r 234),e P "__weakref__" 484 (r 235),e P "__doc__" 485 n] 4) ::
  (nat_lit 233,slo (cl (ty "type") { name:=Str.ofString "Missing", bases:=[ty "object"],mro:=[r 233,ty "object"],ns:=232,qualname:=Str.ofString "Missing", hasDict:=true,slotNames:=[],subclasses:=[],abstract:=false,collection:=none,hasDel:=false }) [none,none,some (s "Missing" 459),some (s "Missing" 467),some (bu "object.__new__"),some (.bool true)]) ::
  (nat_lit 234,fl (ty "getset_descriptor") [s "__dict__" 481,r 233,bu "function.__dict__", bu "function.__dict__#set"]) ::
  (nat_lit 235,fl (ty "getset_descriptor") [s "__weakref__" 483,r 233,bu "ExceptionGroup.__weakref__", n]) ::
  (nat_lit 245,tu [n]) ::
  (nat_lit 246,tu []) ::
  (nat_lit 248,tu [s "self" 503,s "kind" 504,s "items" 505,s "attrs" 506]) ::
  (nat_lit 249,tu []) ::
  (nat_lit 251,coA "__init__" "Vector.__init__" (nat_lit 500) (nat_lit 114) (nat_lit 4) (nat_lit 246) (nat_lit 507)) ::
  (nat_lit 252,fo (M 22 0) "Vector.__init__" (r 245) n n (s "vectorcove.values" 428) (r 251) n) ::
  (nat_lit 253,tu []) ::
  (nat_lit 255,tu [s "self" 513]) ::
  (nat_lit 256,tu []) ::
  (nat_lit 258,coA "copy" "Vector.copy" (nat_lit 510) (nat_lit 121) (nat_lit 1) (nat_lit 253) (nat_lit 514)) ::
  (nat_lit 259,fo (M 22 1) "Vector.copy" n n n (s "vectorcove.values" 428) (r 258) n) ::
  (nat_lit 260,tu [s "attrs" 517,s "items" 518,s "kind" 519,s "loose" 520,s "shared" 521]) ::
  (nat_lit 261,di (ty "dict") [e P "__module__" 495 (s "vectorcove.values" 428),e P "__firstlineno__" 499 (.int (112) 498),e P "__init__" 509 (r 252),e P "copy" 516 (r 259),e P "__static_attributes__" 522 (r 260),e P "__dict__" 524 (r 263),e P "__weakref__" 526 (r 264),e P "__doc__" 527 n] 4) ::
  (nat_lit 262,slo (cl (ty "type") { name:=Str.ofString "Vector", bases:=[ty "object"],mro:=[r 262,ty "object"],ns:=261,qualname:=Str.ofString "Vector", hasDict:=true,slotNames:=[],subclasses:=[],abstract:=false,collection:=none,hasDel:=false }) [none,none,some (s "Vector" 488),some (s "Vector" 496),some (bu "object.__new__"),some (.bool true)]) ::
  (nat_lit 263,fl (ty "getset_descriptor") [s "__dict__" 523,r 262,bu "function.__dict__", bu "function.__dict__#set"]) ::
  (nat_lit 264,fl (ty "getset_descriptor") [s "__weakref__" 525,r 262,bu "ExceptionGroup.__weakref__", n]) ::
  (nat_lit 274,tu [n]) ::
  (nat_lit 275,tu []) ::
  (nat_lit 277,tu [s "self" 545,s "number" 546,s "parent" 547,s "attrs" 548]) ::
  (nat_lit 278,tu []) ::
  (nat_lit 280,coA "__init__" "Environment.__init__" (nat_lit 542) (nat_lit 125) (nat_lit 4) (nat_lit 275) (nat_lit 549)) ::
  (nat_lit 281,fo (M 23 0) "Environment.__init__" (r 274) n n (s "vectorcove.values" 428) (r 280) n) ::
  (nat_lit 282,tu [s "attrs" 552,s "frame" 553,s "kind" 554,s "locked" 555,s "locks" 556,s "number" 557,s "parent" 558]) ::
  (nat_lit 283,di (ty "dict") [e P "__module__" 537 (s "vectorcove.values" 428),e P "__firstlineno__" 541 (.int (123) 540),e P "__init__" 551 (r 281),e P "__static_attributes__" 559 (r 282),e P "__dict__" 561 (r 285),e P "__weakref__" 563 (r 286),e P "__doc__" 564 n] 4) ::
  (nat_lit 284,slo (cl (ty "type") { name:=Str.ofString "Environment", bases:=[ty "object"],mro:=[r 284,ty "object"],ns:=283,qualname:=Str.ofString "Environment", hasDict:=true,slotNames:=[],subclasses:=[],abstract:=false,collection:=none,hasDel:=false }) [none,none,some (s "Environment" 530),some (s "Environment" 538),some (bu "object.__new__"),some (.bool true)]) ::
  (nat_lit 285,fl (ty "getset_descriptor") [s "__dict__" 560,r 284,bu "function.__dict__", bu "function.__dict__#set"]) ::
  (nat_lit 286,fl (ty "getset_descriptor") [s "__weakref__" 562,r 284,bu "ExceptionGroup.__weakref__", n]) ::
  (nat_lit 296,tu []) ::
  (nat_lit 298,tu [s "self" 582,s "expr" 583,s "env" 584]) ::
  (nat_lit 299,tu []) ::
  (nat_lit 301,coA "__init__" "Promise.__init__" (nat_lit 579) (nat_lit 135) (nat_lit 3) (nat_lit 296) (nat_lit 585)) ::
  (nat_lit 302,fo (M 24 0) "Promise.__init__" n n n (s "vectorcove.values" 428) (r 301) n) ::
  (nat_lit 303,tu [s "attrs" 588,s "default" 589,s "env" 590,s "expr" 591,s "kind" 592,s "state" 593,s "value" 594]) ::
  (nat_lit 304,di (ty "dict") [e P "__module__" 574 (s "vectorcove.values" 428),e P "__firstlineno__" 578 (.int (133) 577),e P "__init__" 587 (r 302),e P "__static_attributes__" 595 (r 303),e P "__dict__" 597 (r 306),e P "__weakref__" 599 (r 307),e P "__doc__" 600 n] 4) ::
  (nat_lit 305,slo (cl (ty "type") { name:=Str.ofString "Promise", bases:=[ty "object"],mro:=[r 305,ty "object"],ns:=304,qualname:=Str.ofString "Promise", hasDict:=true,slotNames:=[],subclasses:=[],abstract:=false,collection:=none,hasDel:=false }) [none,none,some (s "Promise" 567),some (s "Promise" 575),some (bu "object.__new__"),some (.bool true)]) ::
  (nat_lit 306,fl (ty "getset_descriptor") [s "__dict__" 596,r 305,bu "function.__dict__", bu "function.__dict__#set"]) ::
  (nat_lit 307,fl (ty "getset_descriptor") [s "__weakref__" 598,r 305,bu "ExceptionGroup.__weakref__", n]) ::
  (nat_lit 317,tu []) ::
  (nat_lit 319,tu [s "self" 618,s "args" 619]) ::
  (nat_lit 320,tu []) ::
  (nat_lit 322,coA "__init__" "Dots.__init__" (nat_lit 615) (nat_lit 145) (nat_lit 2) (nat_lit 317) (nat_lit 620)) ::
  (nat_lit 323,fo (M 25 0) "Dots.__init__" n n n (s "vectorcove.values" 428) (r 322) n) ::
  (nat_lit 324,tu [s "args" 623,s "attrs" 624,s "kind" 625]) ::
  (nat_lit 325,di (ty "dict") [e P "__module__" 610 (s "vectorcove.values" 428),e P "__firstlineno__" 614 (.int (143) 613),e P "__init__" 622 (r 323),e P "__static_attributes__" 626 (r 324),e P "__dict__" 628 (r 327),e P "__weakref__" 630 (r 328),e P "__doc__" 631 n] 4) ::
  (nat_lit 326,slo (cl (ty "type") { name:=Str.ofString "Dots", bases:=[ty "object"],mro:=[r 326,ty "object"],ns:=325,qualname:=Str.ofString "Dots", hasDict:=true,slotNames:=[],subclasses:=[],abstract:=false,collection:=none,hasDel:=false }) [none,none,some (s "Dots" 603),some (s "Dots" 611),some (bu "object.__new__"),some (.bool true)]) ::
  (nat_lit 327,fl (ty "getset_descriptor") [s "__dict__" 627,r 326,bu "function.__dict__", bu "function.__dict__#set"]) ::
  (nat_lit 328,fl (ty "getset_descriptor") [s "__weakref__" 629,r 326,bu "ExceptionGroup.__weakref__", n]) ::
  (nat_lit 331,tu []) ::
  (nat_lit 333,tu []) ::
  (nat_lit 334,tu []) ::
  (nat_lit 336,coA "null" "null" (nat_lit 634) (nat_lit 149) (nat_lit 0) (nat_lit 331) (nat_lit 637)) ::
  (nat_lit 337,fo (A 26) "null" n n n (s "vectorcove.values" 428) (r 336) n) ::
  (nat_lit 338,tu []) ::
  (nat_lit 340,tu []) ::
  (nat_lit 341,tu []) ::
  (nat_lit 343,coA "missing" "missing" (nat_lit 640) (nat_lit 151) (nat_lit 0) (nat_lit 338) (nat_lit 643)) ::
  (nat_lit 344,fo (A 27) "missing" n n n (s "vectorcove.values" 428) (r 343) n) ::
  (nat_lit 345,tu []) ::
  (nat_lit 347,tu [s "items" 649]) ::
  (nat_lit 348,tu []) ::
  (nat_lit 350,coA "character" "character" (nat_lit 646) (nat_lit 153) (nat_lit 1) (nat_lit 345) (nat_lit 650)) ::
  (nat_lit 351,fo (A 28) "character" n n n (s "vectorcove.values" 428) (r 350) n) ::
  (nat_lit 352,tu []) ::
  (nat_lit 354,tu [s "b" 656]) ::
  (nat_lit 355,tu []) ::
  (nat_lit 357,coA "flag" "flag" (nat_lit 653) (nat_lit 155) (nat_lit 1) (nat_lit 352) (nat_lit 657)) ::
  (nat_lit 358,fo (A 29) "flag" n n n (s "vectorcove.values" 428) (r 357) n) ::
  (nat_lit 359,tu []) ::
  (nat_lit 361,tu [s "s" 663]) ::
  (nat_lit 362,tu []) ::
  (nat_lit 364,coA "text" "text" (nat_lit 660) (nat_lit 159) (nat_lit 1) (nat_lit 359) (nat_lit 664)) ::
  (nat_lit 365,fo (A 30) "text" n n n (s "vectorcove.values" 428) (r 364) n) ::
  (nat_lit 366,tu []) ::
  (nat_lit 368,tu [s "v" 670,s "kind" 671]) ::
  (nat_lit 369,tu []) ::
  (nat_lit 371,coA "length" "length" (nat_lit 667) (nat_lit 161) (nat_lit 1) (nat_lit 366) (nat_lit 672)) ::
  (nat_lit 372,fo (A 31) "length" n n n (s "vectorcove.values" 428) (r 371) n) ::
  (nat_lit 373,tu []) ::
  (nat_lit 375,tu [s "v" 678]) ::
  (nat_lit 376,tu []) ::
  (nat_lit 378,coA "is_atomic" "is_atomic" (nat_lit 675) (nat_lit 172) (nat_lit 1) (nat_lit 373) (nat_lit 679)) ::
  (nat_lit 379,fo (A 32) "is_atomic" n n n (s "vectorcove.values" 428) (r 378) n) ::
  (nat_lit 380,tu []) ::
  (nat_lit 382,tu [s "v" 685]) ::
  (nat_lit 383,tu []) ::
  (nat_lit 385,coA "is_function" "is_function" (nat_lit 682) (nat_lit 174) (nat_lit 1) (nat_lit 380) (nat_lit 686)) ::
  (nat_lit 386,fo (A 33) "is_function" n n n (s "vectorcove.values" 428) (r 385) n) ::
  (nat_lit 387,tu []) ::
  (nat_lit 389,tu [s "v" 692]) ::
  (nat_lit 390,tu []) ::
  (nat_lit 392,coA "share" "share" (nat_lit 689) (nat_lit 176) (nat_lit 1) (nat_lit 387) (nat_lit 693)) ::
  (nat_lit 393,fo (A 34) "share" n n n (s "vectorcove.values" 428) (r 392) n) ::
  (nat_lit 401,tu []) ::
  (nat_lit 403,tu [s "self" 713,s "formals" 714,s "tags" 715]) ::
  (nat_lit 404,tu []) ::
  (nat_lit 406,coA "__init__" "Matching.__init__" (nat_lit 710) (nat_lit 183) (nat_lit 3) (nat_lit 401) (nat_lit 716)) ::
  (nat_lit 407,fo (M 36 0) "Matching.__init__" n n n (s "vectorcove.callargs" 696) (r 406) n) ::
  (nat_lit 408,tu []) ::
  (nat_lit 410,tu [s "self" 722,s "name" 723,s "place" 724]) ::
  (nat_lit 411,tu []) ::
  (nat_lit 413,coA "exact" "Matching.exact" (nat_lit 719) (nat_lit 189) (nat_lit 1) (nat_lit 408) (nat_lit 725)) ::
  (nat_lit 414,fo (M 36 1) "Matching.exact" n n n (s "vectorcove.callargs" 696) (r 413) n) ::
  (nat_lit 415,tu []) ::
  (nat_lit 417,tu [s "self" 731,s "name" 732]) ::
  (nat_lit 418,tu []) ::
  (nat_lit 420,coA "partial" "Matching.partial" (nat_lit 728) (nat_lit 199) (nat_lit 1) (nat_lit 415) (nat_lit 733)) ::
  (nat_lit 421,fo (M 36 2) "Matching.partial" n n n (s "vectorcove.callargs" 696) (r 420) n) ::
  (nat_lit 422,tu []) ::
  (nat_lit 424,tu [s "self" 739,s "name" 740,s "place" 741,s "tag" 742]) ::
  (nat_lit 425,tu []) ::
  (nat_lit 427,coA "partial_of" "Matching.partial_of" (nat_lit 736) (nat_lit 206) (nat_lit 2) (nat_lit 422) (nat_lit 743)) ::
  (nat_lit 428,fo (M 36 3) "Matching.partial_of" n n n (s "vectorcove.callargs" 696) (r 427) n) ::
  (nat_lit 429,tu []) ::
  (nat_lit 431,tu [s "self" 749,s "place" 750,s "name" 751]) ::
  (nat_lit 432,tu []) ::
  (nat_lit 434,coA "positional" "Matching.positional" (nat_lit 746) (nat_lit 217) (nat_lit 1) (nat_lit 429) (nat_lit 752)) ::
  (nat_lit 435,fo (M 36 4) "Matching.positional" n n n (s "vectorcove.callargs" 696) (r 434) n) ::
  (nat_lit 436,tu []) ::
  (nat_lit 438,tu [s "self" 758,s "place" 759]) ::
  (nat_lit 439,tu []) ::
  (nat_lit 441,coA "is_free" "Matching.is_free" (nat_lit 755) (nat_lit 229) (nat_lit 2) (nat_lit 436) (nat_lit 760)) ::
  (nat_lit 442,fo (M 36 5) "Matching.is_free" n n n (s "vectorcove.callargs" 696) (r 441) n) ::
  (nat_lit 443,tu []) ::
  (nat_lit 446,coB "rest" "Matching.rest" (nat_lit 763) (nat_lit 232) (nat_lit 1) (nat_lit 443) (nat_lit 766)) ::
  (nat_lit 447,fo (M 36 6) "Matching.rest" n n n (s "vectorcove.callargs" 696) (r 446) n) ::
  (nat_lit 448,tu [s "formals" 769,s "places" 770,s "tags" 771,s "used" 772]) ::
  (nat_lit 449,di (ty "dict") [e P "__module__" 705 (s "vectorcove.callargs" 696),e P "__firstlineno__" 709 (.int (181) 708),e P "__init__" 718 (r 407),e P "exact" 727 (r 414),e P "partial" 735 (r 421),e P "partial_of" 745 (r 428),e P "positional" 754 (r 435),e P "is_free" 762 (r 442),e P "rest" 768 (r 447),e P "__static_attributes__" 773 (r 448),e P "__dict__" 775 (r 451),e P "__weakref__" 777 (r 452),e P "__doc__" 778 n] 4) ::
  (nat_lit 450,slo (cl (ty "type") { name:=Str.ofString "Matching", bases:=[ty "object"],mro:=[r 450,ty "object"],ns:=449,qualname:=Str.ofString "Matching", hasDict:=true,slotNames:=[],subclasses:=[],abstract:=false,collection:=none,hasDel:=false }) [none,none,some (s "Matching" 698),some (s "Matching" 706),some (bu "object.__new__"),some (.bool true)]) ::
  (nat_lit 451,fl (ty "getset_descriptor") [s "__dict__" 774,r 450,bu "function.__dict__", bu "function.__dict__#set"]) ::
  (nat_lit 452,fl (ty "getset_descriptor") [s "__weakref__" 776,r 450,bu "ExceptionGroup.__weakref__", n]) ::
  (nat_lit 455,tu []) ::
  (nat_lit 457,tu [s "name" 784]) ::
  (nat_lit 458,tu []) ::
  (nat_lit 460,coA "doubled_text" "doubled_text" (nat_lit 781) (nat_lit 234) (nat_lit 1) (nat_lit 455) (nat_lit 785)) ::
  (nat_lit 461,fo (A 37) "doubled_text" n n n (s "vectorcove.callargs" 696) (r 460) n) ::
  (nat_lit 462,tu []) ::
  (nat_lit 464,tu [s "args" 791,s "place" 792,s "show" 793,s "tag" 794,s "value" 795,s "told" 796]) ::
  (nat_lit 465,tu []) ::
  (nat_lit 467,coA "argument_text" "argument_text" (nat_lit 788) (nat_lit 236) (nat_lit 3) (nat_lit 462) (nat_lit 797)) ::
  (nat_lit 468,fo (A 38) "argument_text" n n n (s "vectorcove.callargs" 696) (r 467) n) ::
  (nat_lit 469,tu []) ::
  (nat_lit 471,tu [s "value" 803,s "item" 804]) ::
  (nat_lit 472,tu []) ::
  (nat_lit 474,coA "plain_text" "plain_text" (nat_lit 800) (nat_lit 242) (nat_lit 1) (nat_lit 469) (nat_lit 805)) ::
  (nat_lit 475,fo (A 39) "plain_text" n n n (s "vectorcove.callargs" 696) (r 474) n) ::
  (nat_lit 476,tu []) ::
  (nat_lit 479,coB "unused_text" "unused_text" (nat_lit 808) (nat_lit 257) (nat_lit 3) (nat_lit 476) (nat_lit 811)) ::
  (nat_lit 480,fo (A 40) "unused_text" n n n (s "vectorcove.callargs" 696) (r 479) n) ::
  (nat_lit 481,tu [n]) ::
  (nat_lit 482,tu []) ::
  (nat_lit 485,coB "match_names" "match_names" (nat_lit 814) (nat_lit 263) (nat_lit 3) (nat_lit 482) (nat_lit 817)) ::
  (nat_lit 486,fo (A 41) "match_names" (r 481) n n (s "vectorcove.callargs" 696) (r 485) n) ::
  (nat_lit 487,tu []) ::
  (nat_lit 489,tu [s "value" 823,s "name" 824]) ::
  (nat_lit 490,tu []) ::
  (nat_lit 492,coA "needed" "needed" (nat_lit 820) (nat_lit 272) (nat_lit 2) (nat_lit 487) (nat_lit 825)) ::
  (nat_lit 493,fo (A 42) "needed" n n n (s "vectorcove.callargs" 696) (r 492) n) ::
  (nat_lit 494,tu [n]) ::
  (nat_lit 495,tu []) ::
  (nat_lit 498,coB "take" "take" (nat_lit 828) (nat_lit 276) (nat_lit 3) (nat_lit 495) (nat_lit 831)) ::
  (nat_lit 499,fo (A 43) "take" (r 494) n n (s "vectorcove.callargs" 696) (r 498) n) ::
  (nat_lit 500,tu [.int (0) 836,.int (0) 837]) ::
  (nat_lit 501,tu [.int (1) 839,.int (0) 840]) ::
  (nat_lit 502,tu [.int (0) 842,.int (1) 843]) ::
  (nat_lit 503,tu []) ::
  (nat_lit 505,tu [s "a" 853,s "b" 854]) ::
  (nat_lit 506,tu []) ::
  (nat_lit 508,coA "gcd" "gcd" (nat_lit 850) (nat_lit 293) (nat_lit 2) (nat_lit 503) (nat_lit 855)) ::
  (nat_lit 509,fo (A 50) "gcd" n n n (s "vectorcove.rational" 834) (r 508) n) ::
  (nat_lit 510,tu []) ::
  (nat_lit 512,tu [s "n" 861,s "d" 862]) ::
  (nat_lit 513,tu []) ::
  (nat_lit 515,coA "bounded" "bounded" (nat_lit 858) (nat_lit 297) (nat_lit 2) (nat_lit 510) (nat_lit 863)) ::
  (nat_lit 516,fo (A 51) "bounded" n n n (s "vectorcove.rational" 834) (r 515) n) ::
  (nat_lit 517,tu []) ::
  (nat_lit 519,tu [s "n" 869,s "d" 870,s "common" 871]) ::
  (nat_lit 520,tu []) ::
  (nat_lit 522,coA "make" "make" (nat_lit 866) (nat_lit 301) (nat_lit 2) (nat_lit 517) (nat_lit 872)) ::
  (nat_lit 523,fo (A 52) "make" n n n (s "vectorcove.rational" 834) (r 522) n) ::
  (nat_lit 524,tu []) ::
  (nat_lit 526,tu [s "n" 878]) ::
  (nat_lit 527,tu []) ::
  (nat_lit 529,coA "from_int" "from_int" (nat_lit 875) (nat_lit 311) (nat_lit 1) (nat_lit 524) (nat_lit 879)) ::
  (nat_lit 530,fo (A 53) "from_int" n n n (s "vectorcove.rational" 834) (r 529) n) ::
  (nat_lit 531,tu []) ::
  (nat_lit 533,tu [s "x" 885]) ::
  (nat_lit 534,tu []) ::
  (nat_lit 536,coA "is_na" "is_na" (nat_lit 882) (nat_lit 315) (nat_lit 1) (nat_lit 531) (nat_lit 886)) ::
  (nat_lit 537,fo (A 54) "is_na" n n n (s "vectorcove.rational" 834) (r 536) n) ::
  (nat_lit 538,tu []) ::
  (nat_lit 540,tu [s "x" 892]) ::
  (nat_lit 541,tu []) ::
  (nat_lit 543,coA "is_nan" "is_nan" (nat_lit 889) (nat_lit 317) (nat_lit 1) (nat_lit 538) (nat_lit 893)) ::
  (nat_lit 544,fo (A 55) "is_nan" n n n (s "vectorcove.rational" 834) (r 543) n) ::
  (nat_lit 545,tu []) ::
  (nat_lit 547,tu [s "x" 899]) ::
  (nat_lit 548,tu []) ::
  (nat_lit 550,coA "is_finite" "is_finite" (nat_lit 896) (nat_lit 319) (nat_lit 1) (nat_lit 545) (nat_lit 900)) ::
  (nat_lit 551,fo (A 56) "is_finite" n n n (s "vectorcove.rational" 834) (r 550) n) ::
  (nat_lit 552,tu []) ::
  (nat_lit 554,tu [s "x" 906,s "y" 907]) ::
  (nat_lit 555,tu []) ::
  (nat_lit 557,coA "marked" "marked" (nat_lit 903) (nat_lit 321) (nat_lit 2) (nat_lit 552) (nat_lit 908)) ::
  (nat_lit 558,fo (A 57) "marked" n n n (s "vectorcove.rational" 834) (r 557) n) ::
  (nat_lit 559,tu []) ::
  (nat_lit 561,tu [s "x" 914]) ::
  (nat_lit 562,tu []) ::
  (nat_lit 564,coA "neg" "neg" (nat_lit 911) (nat_lit 325) (nat_lit 1) (nat_lit 559) (nat_lit 915)) ::
  (nat_lit 565,fo (A 58) "neg" n n n (s "vectorcove.rational" 834) (r 564) n) ::
  (nat_lit 566,tu []) ::
  (nat_lit 568,tu [s "x" 921,s "y" 922]) ::
  (nat_lit 569,tu []) ::
  (nat_lit 571,coA "add" "add" (nat_lit 918) (nat_lit 329) (nat_lit 2) (nat_lit 566) (nat_lit 923)) ::
  (nat_lit 572,fo (A 59) "add" n n n (s "vectorcove.rational" 834) (r 571) n) ::
  (nat_lit 573,tu []) ::
  (nat_lit 575,tu [s "x" 929,s "y" 930]) ::
  (nat_lit 576,tu []) ::
  (nat_lit 578,coA "sub" "sub" (nat_lit 926) (nat_lit 339) (nat_lit 2) (nat_lit 573) (nat_lit 931)) ::
  (nat_lit 579,fo (A 60) "sub" n n n (s "vectorcove.rational" 834) (r 578) n) ::
  (nat_lit 580,tu []) ::
  (nat_lit 582,tu [s "x" 937,s "y" 938]) ::
  (nat_lit 583,tu []) ::
  (nat_lit 585,coA "mul" "mul" (nat_lit 934) (nat_lit 341) (nat_lit 2) (nat_lit 580) (nat_lit 939)) ::
  (nat_lit 586,fo (A 61) "mul" n n n (s "vectorcove.rational" 834) (r 585) n) ::
  (nat_lit 587,tu []) ::
  (nat_lit 589,tu [s "x" 945,s "y" 946]) ::
  (nat_lit 590,tu []) ::
  (nat_lit 592,coA "div" "div" (nat_lit 942) (nat_lit 345) (nat_lit 2) (nat_lit 587) (nat_lit 947)) ::
  (nat_lit 593,fo (A 62) "div" n n n (s "vectorcove.rational" 834) (r 592) n) ::
  (nat_lit 594,tu []) ::
  (nat_lit 596,tu [s "n" 953,s "guess" 954,s "better" 955]) ::
  (nat_lit 597,tu []) ::
  (nat_lit 599,coA "isqrt" "isqrt" (nat_lit 950) (nat_lit 353) (nat_lit 1) (nat_lit 594) (nat_lit 956)) ::
  (nat_lit 600,fo (A 63) "isqrt" n n n (s "vectorcove.rational" 834) (r 599) n) ::
  (nat_lit 601,tu []) ::
  (nat_lit 603,tu [s "x" 962,s "n" 963,s "d" 964]) ::
  (nat_lit 604,tu []) ::
  (nat_lit 606,coA "root" "root" (nat_lit 959) (nat_lit 364) (nat_lit 1) (nat_lit 601) (nat_lit 965)) ::
  (nat_lit 607,fo (A 64) "root" n n n (s "vectorcove.rational" 834) (r 606) n) ::
  (nat_lit 608,tu []) ::
  (nat_lit 610,tu [s "x" 971]) ::
  (nat_lit 611,tu []) ::
  (nat_lit 613,coA "floor" "floor" (nat_lit 968) (nat_lit 374) (nat_lit 1) (nat_lit 608) (nat_lit 972)) ::
  (nat_lit 614,fo (A 65) "floor" n n n (s "vectorcove.rational" 834) (r 613) n) ::
  (nat_lit 615,tu []) ::
  (nat_lit 617,tu [s "x" 978,s "found" 979]) ::
  (nat_lit 618,tu []) ::
  (nat_lit 620,coA "to_whole" "to_whole" (nat_lit 975) (nat_lit 378) (nat_lit 1) (nat_lit 615) (nat_lit 980)) ::
  (nat_lit 621,fo (A 66) "to_whole" n n n (s "vectorcove.rational" 834) (r 620) n) ::
  (nat_lit 622,tu []) ::
  (nat_lit 624,tu [s "n" 986,s "d" 987,s "low" 988,s "rest" 989]) ::
  (nat_lit 625,tu []) ::
  (nat_lit 627,coA "nearest_whole" "nearest_whole" (nat_lit 983) (nat_lit 383) (nat_lit 2) (nat_lit 622) (nat_lit 990)) ::
  (nat_lit 628,fo (A 67) "nearest_whole" n n n (s "vectorcove.rational" 834) (r 627) n) ::
  (nat_lit 629,tu []) ::
  (nat_lit 631,tu [s "x" 996,s "n" 997,s "d" 998,s "e" 999]) ::
  (nat_lit 632,tu []) ::
  (nat_lit 634,coA "exponent" "exponent" (nat_lit 993) (nat_lit 389) (nat_lit 1) (nat_lit 629) (nat_lit 1000)) ::
  (nat_lit 635,fo (A 68) "exponent" n n n (s "vectorcove.rational" 834) (r 634) n) ::
  (nat_lit 636,tu []) ::
  (nat_lit 638,tu [s "x" 1006,s "y" 1007,s "left" 1008,s "right" 1009]) ::
  (nat_lit 639,tu []) ::
  (nat_lit 641,coA "compare" "compare" (nat_lit 1003) (nat_lit 400) (nat_lit 2) (nat_lit 636) (nat_lit 1010)) ::
  (nat_lit 642,fo (A 69) "compare" n n n (s "vectorcove.rational" 834) (r 641) n) ::
  (nat_lit 643,tu []) ::
  (nat_lit 645,tu [s "n" 1022,s "rest" 1023,s "row" 1024,s "part" 1025]) ::
  (nat_lit 646,tu []) ::
  (nat_lit 648,coA "whole_text" "whole_text" (nat_lit 1019) (nat_lit 421) (nat_lit 1) (nat_lit 643) (nat_lit 1026)) ::
  (nat_lit 649,fo (A 73) "whole_text" n n n (s "vectorcove.numtext" 1013) (r 648) n) ::
  (nat_lit 650,tu []) ::
  (nat_lit 652,tu [s "x" 1032]) ::
  (nat_lit 653,tu []) ::
  (nat_lit 655,coA "special_text" "special_text" (nat_lit 1029) (nat_lit 432) (nat_lit 1) (nat_lit 650) (nat_lit 1033)) ::
  (nat_lit 656,fo (A 74) "special_text" n n n (s "vectorcove.numtext" 1013) (r 655) n) ::
  (nat_lit 657,tu []) ::
  (nat_lit 659,tu [s "x" 1039,s "e" 1040,s "digits" 1041,s "shift" 1042]) ::
  (nat_lit 660,tu []) ::
  (nat_lit 662,coA "scaled" "scaled" (nat_lit 1036) (nat_lit 440) (nat_lit 3) (nat_lit 657) (nat_lit 1043)) ::
  (nat_lit 663,fo (A 75) "scaled" n n n (s "vectorcove.numtext" 1013) (r 662) n) ::
  (nat_lit 664,tu []) ::
  (nat_lit 666,tu [s "x" 1049,s "digits" 1050,s "e" 1051,s "n" 1052]) ::
  (nat_lit 667,tu []) ::
  (nat_lit 669,coA "significant" "significant" (nat_lit 1046) (nat_lit 445) (nat_lit 2) (nat_lit 664) (nat_lit 1053)) ::
  (nat_lit 670,fo (A 76) "significant" n n n (s "vectorcove.numtext" 1013) (r 669) n) ::
  (nat_lit 671,tu []) ::
  (nat_lit 673,tu [s "text" 1059,s "end" 1060]) ::
  (nat_lit 674,tu []) ::
  (nat_lit 676,coA "without_tail" "without_tail" (nat_lit 1056) (nat_lit 454) (nat_lit 1) (nat_lit 671) (nat_lit 1061)) ::
  (nat_lit 677,fo (A 77) "without_tail" n n n (s "vectorcove.numtext" 1013) (r 676) n) ::
  (nat_lit 678,tu []) ::
  (nat_lit 680,tu [s "x" 1067,s "digits" 1068,s "side" 1069,s "text" 1070,s "e" 1071,s "row" 1072]) ::
  (nat_lit 681,tu []) ::
  (nat_lit 683,coA "scientific_text" "scientific_text" (nat_lit 1064) (nat_lit 459) (nat_lit 2) (nat_lit 678) (nat_lit 1073)) ::
  (nat_lit 684,fo (A 78) "scientific_text" n n n (s "vectorcove.numtext" 1013) (r 683) n) ::
  (nat_lit 685,tu []) ::
  (nat_lit 687,tu [s "x" 1079,s "places" 1080,s "n" 1081,s "text" 1082]) ::
  (nat_lit 688,tu []) ::
  (nat_lit 690,coA "fixed_text" "fixed_text" (nat_lit 1076) (nat_lit 466) (nat_lit 2) (nat_lit 685) (nat_lit 1083)) ::
  (nat_lit 691,fo (A 79) "fixed_text" n n n (s "vectorcove.numtext" 1013) (r 690) n) ::
  (nat_lit 692,tu []) ::
  (nat_lit 694,tu [s "x" 1089,s "digits" 1090,s "side" 1091,s "text" 1092,s "e" 1093,s "count" 1094,s "left" 1095]) ::
  (nat_lit 695,tu []) ::
  (nat_lit 697,coA "measures" "measures" (nat_lit 1086) (nat_lit 474) (nat_lit 2) (nat_lit 692) (nat_lit 1096)) ::
  (nat_lit 698,fo (A 80) "measures" n n n (s "vectorcove.numtext" 1013) (r 697) n) ::
  (nat_lit 699,tu []) ::
  (nat_lit 701,tu [s "xs" 1102,s "digits" 1103,s "count" 1104,s "left" 1105,s "places" 1106,s "wide" 1107,s "minus" 1108,s "x" 1109,s "row" 1110,s "fixed_width" 1111,s "scientific_width" 1112]) ::
  (nat_lit 702,tu []) ::
  (nat_lit 704,coA "chosen_form" "chosen_form" (nat_lit 1099) (nat_lit 481) (nat_lit 2) (nat_lit 699) (nat_lit 1113)) ::
  (nat_lit 705,fo (A 81) "chosen_form" n n n (s "vectorcove.numtext" 1013) (r 704) n) ::
  (nat_lit 706,tu []) ::
  (nat_lit 708,tu [s "x" 1119,s "form" 1120,s "text" 1121]) ::
  (nat_lit 709,tu []) ::
  (nat_lit 711,coA "formed" "formed" (nat_lit 1116) (nat_lit 501) (nat_lit 2) (nat_lit 706) (nat_lit 1122)) ::
  (nat_lit 712,fo (A 82) "formed" n n n (s "vectorcove.numtext" 1013) (r 711) n) ::
  (nat_lit 713,tu []) ::
  (nat_lit 716,coB "common_texts" "common_texts" (nat_lit 1125) (nat_lit 508) (nat_lit 2) (nat_lit 713) (nat_lit 1128)) ::
  (nat_lit 717,fo (A 83) "common_texts" n n n (s "vectorcove.numtext" 1013) (r 716) n) ::
  (nat_lit 718,tu [.int (7) 1131]) ::
  (nat_lit 719,tu []) ::
  (nat_lit 721,tu [s "x" 1135,s "digits" 1136]) ::
  (nat_lit 722,tu []) ::
  (nat_lit 724,coA "number_text" "number_text" (nat_lit 1132) (nat_lit 512) (nat_lit 2) (nat_lit 719) (nat_lit 1137)) ::
  (nat_lit 725,fo (A 84) "number_text" (r 718) n n (s "vectorcove.numtext" 1013) (r 724) n) ::
  (nat_lit 726,tu []) ::
  (nat_lit 728,tu [s "text" 1143,s "base" 1144,s "value" 1145,s "char" 1146]) ::
  (nat_lit 729,tu []) ::
  (nat_lit 731,coA "digits_value" "digits_value" (nat_lit 1140) (nat_lit 514) (nat_lit 2) (nat_lit 726) (nat_lit 1147)) ::
  (nat_lit 732,fo (A 85) "digits_value" n n n (s "vectorcove.numtext" 1013) (r 731) n) ::
  (nat_lit 733,tu []) ::
  (nat_lit 735,tu [s "text" 1153,s "at" 1154,s "digits" 1155]) ::
  (nat_lit 736,tu []) ::
  (nat_lit 738,coA "digit_run" "digit_run" (nat_lit 1150) (nat_lit 519) (nat_lit 3) (nat_lit 733) (nat_lit 1156)) ::
  (nat_lit 739,fo (A 86) "digit_run" n n n (s "vectorcove.numtext" 1013) (r 738) n) ::
  (nat_lit 740,tu []) ::
  (nat_lit 742,tu [s "text" 1162,s "start" 1163,s "value" 1164]) ::
  (nat_lit 743,tu []) ::
  (nat_lit 745,coA "exponent_value" "exponent_value" (nat_lit 1159) (nat_lit 523) (nat_lit 1) (nat_lit 740) (nat_lit 1165)) ::
  (nat_lit 746,fo (A 87) "exponent_value" n n n (s "vectorcove.numtext" 1013) (r 745) n) ::
  (nat_lit 747,tu []) ::
  (nat_lit 749,tu [s "n" 1171,s "base" 1172,s "e" 1173]) ::
  (nat_lit 750,tu []) ::
  (nat_lit 752,coA "powered" "powered" (nat_lit 1168) (nat_lit 533) (nat_lit 3) (nat_lit 747) (nat_lit 1174)) ::
  (nat_lit 753,fo (A 88) "powered" n n n (s "vectorcove.numtext" 1013) (r 752) n) ::
  (nat_lit 754,tu []) ::
  (nat_lit 756,tu [s "text" 1180,s "base" 1181,s "digits" 1182,s "mark" 1183,s "scale" 1184,s "end" 1185,s "before" 1186,s "behind" 1187,s "start" 1188,s "e" 1189,s "ok" 1190,s "n" 1191,s "found" 1192]) ::
  (nat_lit 757,tu []) ::
  (nat_lit 759,coA "unsigned_number" "unsigned_number" (nat_lit 1177) (nat_lit 543) (nat_lit 1) (nat_lit 754) (nat_lit 1193)) ::
  (nat_lit 760,fo (A 89) "unsigned_number" n n n (s "vectorcove.numtext" 1013) (r 759) n) ::
  (nat_lit 761,tu []) ::
  (nat_lit 763,tu [s "text" 1199,s "body" 1200,s "negative" 1201,s "small" 1202,s "found" 1203,s "ok" 1204]) ::
  (nat_lit 764,tu []) ::
  (nat_lit 766,coA "parse_number" "parse_number" (nat_lit 1196) (nat_lit 577) (nat_lit 1) (nat_lit 761) (nat_lit 1205)) ::
  (nat_lit 767,fo (A 90) "parse_number" n n n (s "vectorcove.numtext" 1013) (r 766) n) ::
  (nat_lit 768,tu []) ::
  (nat_lit 770,tu [s "notes" 1215,s "message" 1216]) ::
  (nat_lit 771,tu []) ::
  (nat_lit 773,coA "note" "note" (nat_lit 1212) (nat_lit 596) (nat_lit 2) (nat_lit 768) (nat_lit 1217)) ::
  (nat_lit 774,fo (A 93) "note" n n n (s "vectorcove.coerce" 1208) (r 773) n) ::
  (nat_lit 775,tu []) ::
  (nat_lit 777,tu [s "s" 1223]) ::
  (nat_lit 778,tu []) ::
  (nat_lit 780,coA "as_logical_text" "as_logical_text" (nat_lit 1220) (nat_lit 599) (nat_lit 1) (nat_lit 775) (nat_lit 1224)) ::
  (nat_lit 781,fo (A 94) "as_logical_text" n n n (s "vectorcove.coerce" 1208) (r 780) n) ::
  (nat_lit 782,tu []) ::
  (nat_lit 784,tu [s "x" 1230,s "notes" 1231,s "found" 1232]) ::
  (nat_lit 785,tu []) ::
  (nat_lit 787,coA "double_to_integer" "double_to_integer" (nat_lit 1227) (nat_lit 605) (nat_lit 2) (nat_lit 782) (nat_lit 1233)) ::
  (nat_lit 788,fo (A 95) "double_to_integer" n n n (s "vectorcove.coerce" 1208) (r 787) n) ::
  (nat_lit 789,tu []) ::
  (nat_lit 791,tu [s "s" 1239,s "notes" 1240,s "ok" 1241,s "found" 1242]) ::
  (nat_lit 792,tu []) ::
  (nat_lit 794,coA "text_to_double" "text_to_double" (nat_lit 1236) (nat_lit 613) (nat_lit 2) (nat_lit 789) (nat_lit 1243)) ::
  (nat_lit 795,fo (A 96) "text_to_double" n n n (s "vectorcove.coerce" 1208) (r 794) n) ::
  (nat_lit 796,tu []) ::
  (nat_lit 798,tu [s "kind" 1249,s "item" 1250]) ::
  (nat_lit 799,tu []) ::
  (nat_lit 801,coA "to_logical" "to_logical" (nat_lit 1246) (nat_lit 619) (nat_lit 2) (nat_lit 796) (nat_lit 1251)) ::
  (nat_lit 802,fo (A 97) "to_logical" n n n (s "vectorcove.coerce" 1208) (r 801) n) ::
  (nat_lit 803,tu []) ::
  (nat_lit 805,tu [s "kind" 1257,s "item" 1258,s "notes" 1259]) ::
  (nat_lit 806,tu []) ::
  (nat_lit 808,coA "to_integer" "to_integer" (nat_lit 1254) (nat_lit 629) (nat_lit 3) (nat_lit 803) (nat_lit 1260)) ::
  (nat_lit 809,fo (A 98) "to_integer" n n n (s "vectorcove.coerce" 1208) (r 808) n) ::
  (nat_lit 810,tu []) ::
  (nat_lit 812,tu [s "kind" 1266,s "item" 1267,s "notes" 1268]) ::
  (nat_lit 813,tu []) ::
  (nat_lit 815,coA "to_double" "to_double" (nat_lit 1263) (nat_lit 637) (nat_lit 3) (nat_lit 810) (nat_lit 1269)) ::
  (nat_lit 816,fo (A 99) "to_double" n n n (s "vectorcove.coerce" 1208) (r 815) n) ::
  (nat_lit 817,tu []) ::
  (nat_lit 819,tu [s "kind" 1275,s "item" 1276]) ::
  (nat_lit 820,tu []) ::
  (nat_lit 822,coA "to_text" "to_text" (nat_lit 1272) (nat_lit 643) (nat_lit 2) (nat_lit 817) (nat_lit 1277)) ::
  (nat_lit 823,fo (A 100) "to_text" n n n (s "vectorcove.coerce" 1208) (r 822) n) ::
  (nat_lit 824,tu []) ::
  (nat_lit 826,tu [s "kind" 1283,s "item" 1284,s "to" 1285,s "notes" 1286]) ::
  (nat_lit 827,tu []) ::
  (nat_lit 829,coA "item_as" "item_as" (nat_lit 1280) (nat_lit 651) (nat_lit 4) (nat_lit 824) (nat_lit 1287)) ::
  (nat_lit 830,fo (A 101) "item_as" n n n (s "vectorcove.coerce" 1208) (r 829) n) ::
  (nat_lit 831,tu []) ::
  (nat_lit 833,tu [s "kind" 1293]) ::
  (nat_lit 834,tu []) ::
  (nat_lit 836,coA "is_atomic_kind" "is_atomic_kind" (nat_lit 1290) (nat_lit 665) (nat_lit 1) (nat_lit 831) (nat_lit 1294)) ::
  (nat_lit 837,fo (A 102) "is_atomic_kind" n n n (s "vectorcove.coerce" 1208) (r 836) n) ::
  (nat_lit 838,tu []) ::
  (nat_lit 840,tu [s "kind" 1300,s "item" 1301,s "to" 1302,s "notes" 1303]) ::
  (nat_lit 841,tu []) ::
  (nat_lit 843,coA "list_item_as" "list_item_as" (nat_lit 1297) (nat_lit 667) (nat_lit 4) (nat_lit 838) (nat_lit 1304)) ::
  (nat_lit 844,fo (A 103) "list_item_as" n n n (s "vectorcove.coerce" 1208) (r 843) n) ::
  (nat_lit 845,tu []) ::
  (nat_lit 847,tu [s "v" 1310,s "kind" 1311]) ::
  (nat_lit 848,tu []) ::
  (nat_lit 850,coA "refuse_type" "refuse_type" (nat_lit 1307) (nat_lit 673) (nat_lit 2) (nat_lit 845) (nat_lit 1312)) ::
  (nat_lit 851,fo (A 104) "refuse_type" n n n (s "vectorcove.coerce" 1208) (r 850) n) ::
  (nat_lit 852,tu []) ::
  (nat_lit 855,coB "as_vector_kind" "as_vector_kind" (nat_lit 1315) (nat_lit 675) (nat_lit 2) (nat_lit 852) (nat_lit 1318)) ::
  (nat_lit 856,fo (A 105) "as_vector_kind" n n n (s "vectorcove.coerce" 1208) (r 855) n) ::
  (nat_lit 857,tu []) ::
  (nat_lit 859,tu [s "v" 1324,s "names" 1325]) ::
  (nat_lit 860,tu []) ::
  (nat_lit 862,coA "with_names" "with_names" (nat_lit 1321) (nat_lit 689) (nat_lit 2) (nat_lit 857) (nat_lit 1326)) ::
  (nat_lit 863,fo (A 106) "with_names" n n n (s "vectorcove.coerce" 1208) (r 862) n) ::
  (nat_lit 864,tu []) ::
  (nat_lit 867,coB "as_kind" "as_kind" (nat_lit 1329) (nat_lit 693) (nat_lit 3) (nat_lit 864) (nat_lit 1332)) ::
  (nat_lit 868,fo (A 107) "as_kind" n n n (s "vectorcove.coerce" 1208) (r 867) n) ::
  (nat_lit 869,tu []) ::
  (nat_lit 871,tu [s "kind" 1340,s "item" 1341]) ::
  (nat_lit 872,tu []) ::
  (nat_lit 874,coA "truth_item" "truth_item" (nat_lit 1337) (nat_lit 701) (nat_lit 2) (nat_lit 869) (nat_lit 1342)) ::
  (nat_lit 875,fo (A 109) "truth_item" n n n (s "vectorcove.logic" 1335) (r 874) n) ::
  (nat_lit 876,tu []) ::
  (nat_lit 878,tu [s "kind" 1354,s "item" 1355]) ::
  (nat_lit 879,tu []) ::
  (nat_lit 881,coA "is_lacking" "is_lacking" (nat_lit 1351) (nat_lit 711) (nat_lit 2) (nat_lit 876) (nat_lit 1356)) ::
  (nat_lit 882,fo (A 112) "is_lacking" n n n (s "vectorcove.summaries" 1345) (r 881) n) ::
  (nat_lit 883,tu []) ::
  (nat_lit 885,tu [s "items" 1362,s "total" 1363,s "item" 1364]) ::
  (nat_lit 886,tu []) ::
  (nat_lit 888,coA "double_sum" "double_sum" (nat_lit 1359) (nat_lit 715) (nat_lit 1) (nat_lit 883) (nat_lit 1365)) ::
  (nat_lit 889,fo (A 113) "double_sum" n n n (s "vectorcove.summaries" 1345) (r 888) n) ::
  (nat_lit 890,tu []) ::
  (nat_lit 893,coB "number_items" "number_items" (nat_lit 1368) (nat_lit 720) (nat_lit 1) (nat_lit 890) (nat_lit 1371)) ::
  (nat_lit 894,fo (A 114) "number_items" n n n (s "vectorcove.summaries" 1345) (r 893) n) ::
  (nat_lit 895,tu []) ::
  (nat_lit 897,tu [s "items" 1377]) ::
  (nat_lit 898,tu []) ::
  (nat_lit 900,coA "mean_items" "mean_items" (nat_lit 1374) (nat_lit 726) (nat_lit 1) (nat_lit 895) (nat_lit 1378)) ::
  (nat_lit 901,fo (A 115) "mean_items" n n n (s "vectorcove.summaries" 1345) (r 900) n) ::
  (nat_lit 902,tu []) ::
  (nat_lit 904,tu [s "v" 1384,s "items" 1385,s "middle" 1386,s "total" 1387,s "item" 1388,s "gap" 1389]) ::
  (nat_lit 905,tu []) ::
  (nat_lit 907,coA "var_of" "var_of" (nat_lit 1381) (nat_lit 730) (nat_lit 1) (nat_lit 902) (nat_lit 1390)) ::
  (nat_lit 908,fo (A 116) "var_of" n n n (s "vectorcove.summaries" 1345) (r 907) n) ::
  (nat_lit 909,tu []) ::
  (nat_lit 911,tu [s "left" 1396,s "right" 1397,s "found" 1398,s "i" 1399,s "item" 1400]) ::
  (nat_lit 912,tu []) ::
  (nat_lit 914,coA "joined_ascending" "joined_ascending" (nat_lit 1393) (nat_lit 740) (nat_lit 2) (nat_lit 909) (nat_lit 1401)) ::
  (nat_lit 915,fo (A 117) "joined_ascending" n n n (s "vectorcove.summaries" 1345) (r 914) n) ::
  (nat_lit 916,tu []) ::
  (nat_lit 919,coB "by_comparing" "by_comparing" (nat_lit 1404) (nat_lit 749) (nat_lit 1) (nat_lit 916) (nat_lit 1407)) ::
  (nat_lit 920,fo (A 118) "by_comparing" n n n (s "vectorcove.summaries" 1345) (r 919) n) ::
  (nat_lit 921,tu []) ::
  (nat_lit 923,tu [s "left" 1413,s "right" 1414,s "one" 1415,s "other" 1416,s "total" 1417,s "i" 1418]) ::
  (nat_lit 924,tu []) ::
  (nat_lit 926,coA "cov_of" "cov_of" (nat_lit 1410) (nat_lit 755) (nat_lit 2) (nat_lit 921) (nat_lit 1419)) ::
  (nat_lit 927,fo (A 119) "cov_of" n n n (s "vectorcove.summaries" 1345) (r 926) n) ::
  (nat_lit 928,tu []) ::
  (nat_lit 930,tu [s "items" 1425,s "part" 1426,s "row" 1427,s "away" 1428]) ::
  (nat_lit 931,tu []) ::
  (nat_lit 933,coA "trimmed_mean" "trimmed_mean" (nat_lit 1422) (nat_lit 764) (nat_lit 2) (nat_lit 928) (nat_lit 1429)) ::
  (nat_lit 934,fo (A 120) "trimmed_mean" n n n (s "vectorcove.summaries" 1345) (r 933) n) ::
  (nat_lit 935,tu []) ::
  (nat_lit 937,tu [s "items" 1435,s "item" 1436,s "place" 1437]) ::
  (nat_lit 938,tu [s "scale" 1438]) ::
  (nat_lit 940,coA "ascending" "ascending" (nat_lit 1432) (nat_lit 774) (nat_lit 1) (nat_lit 935) (nat_lit 1439)) ::
  (nat_lit 941,fo (A 121) "ascending" n n n (s "vectorcove.summaries" 1345) (r 940) n) ::
  (nat_lit 942,tu []) ::
  (nat_lit 944,tu [s "items" 1445,s "item" 1446]) ::
  (nat_lit 945,tu []) ::
  (nat_lit 947,coA "lacking_item" "lacking_item" (nat_lit 1442) (nat_lit 787) (nat_lit 1) (nat_lit 942) (nat_lit 1447)) ::
  (nat_lit 948,fo (A 122) "lacking_item" n n n (s "vectorcove.summaries" 1345) (r 947) n) ::
  (nat_lit 949,tu []) ::
  (nat_lit 951,tu [s "v" 1453,s "items" 1454,s "kind" 1455,s "row" 1456,s "half" 1457]) ::
  (nat_lit 952,tu []) ::
  (nat_lit 954,coA "median_of" "median_of" (nat_lit 1450) (nat_lit 792) (nat_lit 1) (nat_lit 949) (nat_lit 1458)) ::
  (nat_lit 955,fo (A 123) "median_of" n n n (s "vectorcove.summaries" 1345) (r 954) n) ::
  (nat_lit 956,tu []) ::
  (nat_lit 958,tu [s "row" 1464,s "p" 1465,s "place" 1466,s "low" 1467,s "part" 1468]) ::
  (nat_lit 959,tu []) ::
  (nat_lit 961,coA "quantile_item" "quantile_item" (nat_lit 1461) (nat_lit 804) (nat_lit 2) (nat_lit 956) (nat_lit 1469)) ::
  (nat_lit 962,fo (A 124) "quantile_item" n n n (s "vectorcove.summaries" 1345) (r 961) n) ::
  (nat_lit 963,tu []) ::
  (nat_lit 966,coB "quantile7" "quantile7" (nat_lit 1472) (nat_lit 817) (nat_lit 2) (nat_lit 963) (nat_lit 1475)) ::
  (nat_lit 967,fo (A 125) "quantile7" n n n (s "vectorcove.summaries" 1345) (r 966) n) ::
  (nat_lit 968,tu []) ::
  (nat_lit 970,tu [s "interp" 1483,s "notes" 1484,s "value" 1485]) ::
  (nat_lit 971,tu []) ::
  (nat_lit 973,coA "finish" "finish" (nat_lit 1480) (nat_lit 824) (nat_lit 3) (nat_lit 968) (nat_lit 1486)) ::
  (nat_lit 974,fo (A 127) "finish" n n n (s "vectorcove.sumcalls" 1478) (r 973) n) ::
  (nat_lit 975,tu []) ::
  (nat_lit 977,tu [s "v" 1492]) ::
  (nat_lit 978,tu []) ::
  (nat_lit 980,coA "is_set" "is_set" (nat_lit 1489) (nat_lit 828) (nat_lit 1) (nat_lit 975) (nat_lit 1493)) ::
  (nat_lit 981,fo (A 128) "is_set" n n n (s "vectorcove.sumcalls" 1478) (r 980) n) ::
  (nat_lit 982,tu []) ::
  (nat_lit 985,coB "without_lacking" "without_lacking" (nat_lit 1496) (nat_lit 832) (nat_lit 2) (nat_lit 982) (nat_lit 1499)) ::
  (nat_lit 986,fo (A 129) "without_lacking" n n n (s "vectorcove.sumcalls" 1478) (r 985) n) ::
  (nat_lit 987,tu []) ::
  (nat_lit 989,tu [s "rest" 1505,s "tag" 1506,s "value" 1507]) ::
  (nat_lit 990,tu []) ::
  (nat_lit 992,coA "untagged" "untagged" (nat_lit 1502) (nat_lit 836) (nat_lit 1) (nat_lit 987) (nat_lit 1508)) ::
  (nat_lit 993,fo (A 130) "untagged" n n n (s "vectorcove.sumcalls" 1478) (r 992) n) ::
  (nat_lit 994,tu []) ::
  (nat_lit 996,tu [s "args" 1514,s "fault" 1515,s "x" 1516,s "rest" 1517,s "skip" 1518]) ::
  (nat_lit 997,tu []) ::
  (nat_lit 999,coA "numeric_arg" "numeric_arg" (nat_lit 1511) (nat_lit 841) (nat_lit 2) (nat_lit 994) (nat_lit 1519)) ::
  (nat_lit 1000,fo (A 131) "numeric_arg" n n n (s "vectorcove.sumcalls" 1478) (r 999) n) ::
  (nat_lit 1001,tu []) ::
  (nat_lit 1003,tu [s "value" 1525,s "parts" 1526]) ::
  (nat_lit 1004,tu []) ::
  (nat_lit 1006,coA "trim_part" "trim_part" (nat_lit 1522) (nat_lit 846) (nat_lit 1) (nat_lit 1001) (nat_lit 1527)) ::
  (nat_lit 1007,fo (A 132) "trim_part" n n n (s "vectorcove.sumcalls" 1478) (r 1006) n) ::
  (nat_lit 1008,tu []) ::
  (nat_lit 1011,coB "b_mean" "b_mean" (nat_lit 1530) (nat_lit 853) (nat_lit 3) (nat_lit 1008) (nat_lit 1533)) ::
  (nat_lit 1012,fo (A 133) "b_mean" n n n (s "vectorcove.sumcalls" 1478) (r 1011) n) ::
  (nat_lit 1013,tu []) ::
  (nat_lit 1015,tu [s "interp" 1539,s "args" 1540,s "env" 1541]) ::
  (nat_lit 1016,tu []) ::
  (nat_lit 1018,coA "b_median" "b_median" (nat_lit 1536) (nat_lit 866) (nat_lit 3) (nat_lit 1013) (nat_lit 1542)) ::
  (nat_lit 1019,fo (A 134) "b_median" n n n (s "vectorcove.sumcalls" 1478) (r 1018) n) ::
  (nat_lit 1020,tu []) ::
  (nat_lit 1022,tu [s "use" 1548,s "skip" 1549]) ::
  (nat_lit 1023,tu []) ::
  (nat_lit 1025,coA "pairs_kept" "pairs_kept" (nat_lit 1545) (nat_lit 868) (nat_lit 2) (nat_lit 1020) (nat_lit 1550)) ::
  (nat_lit 1026,fo (A 135) "pairs_kept" n n n (s "vectorcove.sumcalls" 1478) (r 1025) n) ::
  (nat_lit 1027,tu []) ::
  (nat_lit 1030,coB "b_var" "b_var" (nat_lit 1553) (nat_lit 878) (nat_lit 3) (nat_lit 1027) (nat_lit 1556)) ::
  (nat_lit 1031,fo (A 136) "b_var" n n n (s "vectorcove.sumcalls" 1478) (r 1030) n) ::
  (nat_lit 1032,tu []) ::
  (nat_lit 1034,tu [s "interp" 1562,s "args" 1563,s "env" 1564]) ::
  (nat_lit 1035,tu []) ::
  (nat_lit 1037,coA "b_sd" "b_sd" (nat_lit 1559) (nat_lit 897) (nat_lit 3) (nat_lit 1032) (nat_lit 1565)) ::
  (nat_lit 1038,fo (A 137) "b_sd" n n n (s "vectorcove.sumcalls" 1478) (r 1037) n) ::
  (nat_lit 1039,tu []) ::
  (nat_lit 1041,tu [s "interp" 1571,s "args" 1572,s "env" 1573,s "x" 1574,s "probs" 1575,s "skip" 1576,s "headed" 1577,s "sort" 1578,s "shares" 1579,s "result" 1580,s "heads" 1581,s "share" 1582]) ::
  (nat_lit 1042,tu []) ::
  (nat_lit 1044,coA "b_quantile" "b_quantile" (nat_lit 1568) (nat_lit 899) (nat_lit 3) (nat_lit 1039) (nat_lit 1583)) ::
  (nat_lit 1045,fo (A 138) "b_quantile" n n n (s "vectorcove.sumcalls" 1478) (r 1044) n) ::
  (nat_lit 1046,tu []) ::
  (nat_lit 1048,tu [s "env" 1591,s "name" 1592]) ::
  (nat_lit 1049,tu []) ::
  (nat_lit 1051,coA "lookup_here" "lookup_here" (nat_lit 1588) (nat_lit 916) (nat_lit 2) (nat_lit 1046) (nat_lit 1593)) ::
  (nat_lit 1052,fo (A 140) "lookup_here" n n n (s "vectorcove.scope" 1586) (r 1051) n) ::
  (nat_lit 1053,tu []) ::
  (nat_lit 1055,tu [s "env" 1599,s "name" 1600,s "found" 1601]) ::
  (nat_lit 1056,tu []) ::
  (nat_lit 1058,coA "lookup" "lookup" (nat_lit 1596) (nat_lit 918) (nat_lit 2) (nat_lit 1053) (nat_lit 1602)) ::
  (nat_lit 1059,fo (A 141) "lookup" n n n (s "vectorcove.scope" 1586) (r 1058) n) ::
  (nat_lit 1060,tu []) ::
  (nat_lit 1062,tu [s "expr" 1610,s "value" 1611,s "promise" 1612]) ::
  (nat_lit 1063,tu []) ::
  (nat_lit 1065,coA "done_promise" "done_promise" (nat_lit 1607) (nat_lit 926) (nat_lit 2) (nat_lit 1060) (nat_lit 1613)) ::
  (nat_lit 1066,fo (A 143) "done_promise" n n n (s "vectorcove.funcall" 1605) (r 1065) n) ::
  (nat_lit 1067,tu []) ::
  (nat_lit 1069,tu [s "value" 1619]) ::
  (nat_lit 1070,tu []) ::
  (nat_lit 1072,coA "bound_argument" "bound_argument" (nat_lit 1616) (nat_lit 931) (nat_lit 1) (nat_lit 1067) (nat_lit 1620)) ::
  (nat_lit 1073,fo (A 144) "bound_argument" n n n (s "vectorcove.funcall" 1605) (r 1072) n) ::
  (nat_lit 1074,tu []) ::
  (nat_lit 1076,tu [s "arg" 1626,s "tag" 1627,s "value" 1628]) ::
  (nat_lit 1077,tu []) ::
  (nat_lit 1079,coA "dots_argument" "dots_argument" (nat_lit 1623) (nat_lit 935) (nat_lit 1) (nat_lit 1074) (nat_lit 1629)) ::
  (nat_lit 1080,fo (A 145) "dots_argument" n n n (s "vectorcove.funcall" 1605) (r 1079) n) ::
  (nat_lit 1081,tu []) ::
  (nat_lit 1083,tu [s "default" 1635,s "env" 1636,s "promise" 1637]) ::
  (nat_lit 1084,tu []) ::
  (nat_lit 1086,coA "default_binding" "default_binding" (nat_lit 1632) (nat_lit 940) (nat_lit 2) (nat_lit 1081) (nat_lit 1638)) ::
  (nat_lit 1087,fo (A 146) "default_binding" n n n (s "vectorcove.funcall" 1605) (r 1086) n) ::
  (nat_lit 1088,tu [n]) ::
  (nat_lit 1089,tu []) ::
  (nat_lit 1092,coB "bind_formals" "bind_formals" (nat_lit 1641) (nat_lit 946) (nat_lit 4) (nat_lit 1089) (nat_lit 1644)) ::
  (nat_lit 1093,fo (A 147) "bind_formals" (r 1088) n n (s "vectorcove.funcall" 1605) (r 1092) n) ::
  (nat_lit 1094,tu []) ::
  (nat_lit 1096,tu [s "env" 1650,s "found" 1651]) ::
  (nat_lit 1097,tu []) ::
  (nat_lit 1099,coA "dots_of" "dots_of" (nat_lit 1647) (nat_lit 959) (nat_lit 1) (nat_lit 1094) (nat_lit 1652)) ::
  (nat_lit 1100,fo (A 148) "dots_of" n n n (s "vectorcove.funcall" 1605) (r 1099) n) ::
  (nat_lit 1101,tu []) ::
  (nat_lit 1103,tu [s "name" 1658,s "char" 1659]) ::
  (nat_lit 1104,tu []) ::
  (nat_lit 1106,coA "is_dots_place" "is_dots_place" (nat_lit 1655) (nat_lit 964) (nat_lit 1) (nat_lit 1101) (nat_lit 1660)) ::
  (nat_lit 1107,fo (A 149) "is_dots_place" n n n (s "vectorcove.funcall" 1605) (r 1106) n) ::
  (nat_lit 1108,tu []) ::
  (nat_lit 1110,tu [s "env" 1666,s "name" 1667,s "dots" 1668,s "place" 1669,s "word" 1670]) ::
  (nat_lit 1111,tu []) ::
  (nat_lit 1113,coA "dots_place" "dots_place" (nat_lit 1663) (nat_lit 971) (nat_lit 2) (nat_lit 1108) (nat_lit 1671)) ::
  (nat_lit 1114,fo (A 150) "dots_place" n n n (s "vectorcove.funcall" 1605) (r 1113) n) ::
  (nat_lit 1115,tu []) ::
  (nat_lit 1117,tu [s "name" 1677,s "env" 1678,s "seen" 1679,s "bound" 1680]) ::
  (nat_lit 1118,tu []) ::
  (nat_lit 1120,coA "is_empty_formal" "is_empty_formal" (nat_lit 1674) (nat_lit 980) (nat_lit 2) (nat_lit 1115) (nat_lit 1681)) ::
  (nat_lit 1121,fo (A 151) "is_empty_formal" n n n (s "vectorcove.funcall" 1605) (r 1120) n) ::
  (nat_lit 1122,tu []) ::
  (nat_lit 1124,tu [s "e" 1687,s "env" 1688]) ::
  (nat_lit 1125,tu []) ::
  (nat_lit 1127,coA "is_empty_name" "is_empty_name" (nat_lit 1684) (nat_lit 992) (nat_lit 2) (nat_lit 1122) (nat_lit 1689)) ::
  (nat_lit 1128,fo (A 152) "is_empty_name" n n n (s "vectorcove.funcall" 1605) (r 1127) n) ::
  (nat_lit 1136,tu []) ::
  (nat_lit 1138,tu [s "self" 1709,s "call" 1710,s "function" 1711,s "env" 1712,s "caller" 1713,s "args" 1714]) ::
  (nat_lit 1139,tu []) ::
  (nat_lit 1141,coA "__init__" "Frame.__init__" (nat_lit 1706) (nat_lit 997) (nat_lit 6) (nat_lit 1136) (nat_lit 1715)) ::
  (nat_lit 1142,fo (M 154 0) "Frame.__init__" n n n (s "vectorcove.evaluator" 1692) (r 1141) n) ::
  (nat_lit 1143,tu [s "args" 1718,s "call" 1719,s "caller" 1720,s "dispatch" 1721,s "env" 1722,s "function" 1723,s "on_exit" 1724]) ::
  (nat_lit 1144,di (ty "dict") [e P "__module__" 1701 (s "vectorcove.evaluator" 1692),e P "__firstlineno__" 1705 (.int (995) 1704),e P "__init__" 1717 (r 1142),e P "__static_attributes__" 1725 (r 1143),e P "__dict__" 1727 (r 1146),e P "__weakref__" 1729 (r 1147),e P "__doc__" 1730 n] 4) ::
  (nat_lit 1145,slo (cl (ty "type") { name:=Str.ofString "Frame", bases:=[ty "object"],mro:=[r 1145,ty "object"],ns:=1144,qualname:=Str.ofString "Frame", hasDict:=true,slotNames:=[],subclasses:=[],abstract:=false,collection:=none,hasDel:=false }) [none,none,some (s "Frame" 1694),some (s "Frame" 1702),some (bu "object.__new__"),some (.bool true)]) ::
  (nat_lit 1146,fl (ty "getset_descriptor") [s "__dict__" 1726,r 1145,bu "function.__dict__", bu "function.__dict__#set"]) ::
  (nat_lit 1147,fl (ty "getset_descriptor") [s "__weakref__" 1728,r 1145,bu "ExceptionGroup.__weakref__", n]) ::
  (nat_lit 1157,tu [.int (20000) 1745,.int (40) 1746]) ::
  (nat_lit 1158,tu []) ::
  (nat_lit 1160,tu [s "self" 1750,s "limit" 1751,s "most_frames" 1752]) ::
  (nat_lit 1161,tu []) ::
  (nat_lit 1163,coA "__init__" "Evaluator.__init__" (nat_lit 1747) (nat_lit 1007) (nat_lit 3) (nat_lit 1158) (nat_lit 1753)) ::
  (nat_lit 1164,fo (M 155 0) "Evaluator.__init__" (r 1157) n n (s "vectorcove.evaluator" 1692) (r 1163) n) ::
  (nat_lit 1165,tu []) ::
  (nat_lit 1167,tu [s "self" 1759,s "parent" 1760,s "env" 1761]) ::
  (nat_lit 1168,tu []) ::
  (nat_lit 1170,coA "new_env" "Evaluator.new_env" (nat_lit 1756) (nat_lit 1028) (nat_lit 2) (nat_lit 1165) (nat_lit 1762)) ::
  (nat_lit 1171,fo (M 155 1) "Evaluator.new_env" n n n (s "vectorcove.evaluator" 1692) (r 1170) n) ::
  (nat_lit 1172,tu [s "" 1765]) ::
  (nat_lit 1173,tu []) ::
  (nat_lit 1175,tu [s "self" 1769,s "name" 1770,s "special" 1771,s "fn" 1772,s "group" 1773]) ::
  (nat_lit 1176,tu []) ::
  (nat_lit 1178,coA "define" "Evaluator.define" (nat_lit 1766) (nat_lit 1033) (nat_lit 5) (nat_lit 1173) (nat_lit 1774)) ::
  (nat_lit 1179,fo (M 155 2) "Evaluator.define" (r 1172) n n (s "vectorcove.evaluator" 1692) (r 1178) n) ::
  (nat_lit 1180,tu []) ::
  (nat_lit 1182,tu [s "self" 1780]) ::
  (nat_lit 1183,tu []) ::
  (nat_lit 1185,coA "tick" "Evaluator.tick" (nat_lit 1777) (nat_lit 1036) (nat_lit 1) (nat_lit 1180) (nat_lit 1781)) ::
  (nat_lit 1186,fo (M 155 3) "Evaluator.tick" n n n (s "vectorcove.evaluator" 1692) (r 1185) n) ::
  (nat_lit 1187,tu []) ::
  (nat_lit 1189,tu [s "self" 1787,s "message" 1788,s "call" 1789]) ::
  (nat_lit 1190,tu []) ::
  (nat_lit 1192,coA "signal_error" "Evaluator.signal_error" (nat_lit 1784) (nat_lit 1041) (nat_lit 3) (nat_lit 1187) (nat_lit 1790)) ::
  (nat_lit 1193,fo (M 155 4) "Evaluator.signal_error" n n n (s "vectorcove.evaluator" 1692) (r 1192) n) ::
  (nat_lit 1194,tu [n]) ::
  (nat_lit 1195,tu []) ::
  (nat_lit 1197,tu [s "self" 1796,s "notes" 1797,s "call" 1798,s "visible" 1799,s "note" 1800]) ::
  (nat_lit 1198,tu []) ::
  (nat_lit 1200,coA "warn_all" "Evaluator.warn_all" (nat_lit 1793) (nat_lit 1046) (nat_lit 3) (nat_lit 1195) (nat_lit 1801)) ::
  (nat_lit 1201,fo (M 155 5) "Evaluator.warn_all" (r 1194) n n (s "vectorcove.evaluator" 1692) (r 1200) n) ::
  (nat_lit 1202,tu []) ::
  (nat_lit 1204,tu [s "self" 1807]) ::
  (nat_lit 1205,tu []) ::
  (nat_lit 1207,coA "running_call" "Evaluator.running_call" (nat_lit 1804) (nat_lit 1057) (nat_lit 1) (nat_lit 1202) (nat_lit 1808)) ::
  (nat_lit 1208,fo (M 155 6) "Evaluator.running_call" n n n (s "vectorcove.evaluator" 1692) (r 1207) n) ::
  (nat_lit 1209,tu []) ::
  (nat_lit 1211,tu [s "self" 1814,s "e" 1815,s "env" 1816,s "kind" 1817]) ::
  (nat_lit 1212,tu []) ::
  (nat_lit 1214,coA "eval" "Evaluator.eval" (nat_lit 1811) (nat_lit 1062) (nat_lit 3) (nat_lit 1209) (nat_lit 1818)) ::
  (nat_lit 1215,fo (M 155 7) "Evaluator.eval" n n n (s "vectorcove.evaluator" 1692) (r 1214) n) ::
  (nat_lit 1216,tu []) ::
  (nat_lit 1218,tu [s "self" 1824,s "name" 1825,s "env" 1826,s "found" 1827,s "message" 1828]) ::
  (nat_lit 1219,tu []) ::
  (nat_lit 1221,coA "variable" "Evaluator.variable" (nat_lit 1821) (nat_lit 1075) (nat_lit 3) (nat_lit 1216) (nat_lit 1829)) ::
  (nat_lit 1222,fo (M 155 8) "Evaluator.variable" n n n (s "vectorcove.evaluator" 1692) (r 1221) n) ::
  (nat_lit 1223,tu []) ::
  (nat_lit 1225,tu [s "self" 1835,s "name" 1836,s "env" 1837,s "refusal" 1838]) ::
  (nat_lit 1226,tu []) ::
  (nat_lit 1228,coA "dots_value" "Evaluator.dots_value" (nat_lit 1832) (nat_lit 1093) (nat_lit 3) (nat_lit 1223) (nat_lit 1839)) ::
  (nat_lit 1229,fo (M 155 9) "Evaluator.dots_value" n n n (s "vectorcove.evaluator" 1692) (r 1228) n) ::
  (nat_lit 1230,tu []) ::
  (nat_lit 1232,tu [s "self" 1845,s "promise" 1846]) ::
  (nat_lit 1233,tu []) ::
  (nat_lit 1235,coA "force" "Evaluator.force" (nat_lit 1842) (nat_lit 1099) (nat_lit 2) (nat_lit 1230) (nat_lit 1847)) ::
  (nat_lit 1236,fo (M 155 10) "Evaluator.force" n n n (s "vectorcove.evaluator" 1692) (r 1235) n) ::
  (nat_lit 1237,tu [n]) ::
  (nat_lit 1238,tu []) ::
  (nat_lit 1240,tu [s "self" 1853,s "name" 1854,s "env" 1855,s "call" 1856,s "found" 1857]) ::
  (nat_lit 1241,tu []) ::
  (nat_lit 1243,coA "find_function" "Evaluator.find_function" (nat_lit 1850) (nat_lit 1113) (nat_lit 4) (nat_lit 1238) (nat_lit 1858)) ::
  (nat_lit 1244,fo (M 155 11) "Evaluator.find_function" (r 1237) n n (s "vectorcove.evaluator" 1692) (r 1243) n) ::
  (nat_lit 1245,tu []) ::
  (nat_lit 1247,tu [s "self" 1864,s "call" 1865,s "env" 1866,s "head" 1867,s "found" 1868]) ::
  (nat_lit 1248,tu []) ::
  (nat_lit 1250,coA "function_of" "Evaluator.function_of" (nat_lit 1861) (nat_lit 1126) (nat_lit 3) (nat_lit 1245) (nat_lit 1869)) ::
  (nat_lit 1251,fo (M 155 12) "Evaluator.function_of" n n n (s "vectorcove.evaluator" 1692) (r 1250) n) ::
  (nat_lit 1252,tu []) ::
  (nat_lit 1254,tu [s "self" 1875,s "call" 1876,s "env" 1877]) ::
  (nat_lit 1255,tu []) ::
  (nat_lit 1257,coA "eval_call" "Evaluator.eval_call" (nat_lit 1872) (nat_lit 1137) (nat_lit 3) (nat_lit 1252) (nat_lit 1878)) ::
  (nat_lit 1258,fo (M 155 13) "Evaluator.eval_call" n n n (s "vectorcove.evaluator" 1692) (r 1257) n) ::
  (nat_lit 1259,tu []) ::
  (nat_lit 1261,tu [s "self" 1884,s "call" 1885,s "env" 1886,s "f" 1887,s "keep" 1888,s "args" 1889]) ::
  (nat_lit 1262,tu []) ::
  (nat_lit 1264,coA "plain_call" "Evaluator.plain_call" (nat_lit 1881) (nat_lit 1140) (nat_lit 3) (nat_lit 1259) (nat_lit 1890)) ::
  (nat_lit 1265,fo (M 155 14) "Evaluator.plain_call" n n n (s "vectorcove.evaluator" 1692) (r 1264) n) ::
  (nat_lit 1266,tu []) ::
  (nat_lit 1268,tu [s "self" 1896,s "env" 1897,s "dots" 1898]) ::
  (nat_lit 1269,tu []) ::
  (nat_lit 1271,coA "spread_dots" "Evaluator.spread_dots" (nat_lit 1893) (nat_lit 1153) (nat_lit 2) (nat_lit 1266) (nat_lit 1899)) ::
  (nat_lit 1272,fo (M 155 15) "Evaluator.spread_dots" n n n (s "vectorcove.evaluator" 1692) (r 1271) n) ::
  (nat_lit 1273,tu []) ::
  (nat_lit 1275,tu [s "self" 1905,s "items" 1906,s "tags" 1907,s "env" 1908,s "args" 1909,s "place" 1910,s "item" 1911]) ::
  (nat_lit 1276,tu []) ::
  (nat_lit 1278,coA "promise_args" "Evaluator.promise_args" (nat_lit 1902) (nat_lit 1159) (nat_lit 4) (nat_lit 1273) (nat_lit 1912)) ::
  (nat_lit 1279,fo (M 155 16) "Evaluator.promise_args" n n n (s "vectorcove.evaluator" 1692) (r 1278) n) ::
  (nat_lit 1280,tu [.bool false,n]) ::
  (nat_lit 1281,tu []) ::
  (nat_lit 1283,tu [s "self" 1918,s "items" 1919,s "tags" 1920,s "env" 1921,s "keep" 1922,s "call" 1923,s "args" 1924,s "place" 1925,s "item" 1926,s "tag" 1927,s "value" 1928]) ::
  (nat_lit 1284,tu []) ::
  (nat_lit 1286,coA "eager_args" "Evaluator.eager_args" (nat_lit 1915) (nat_lit 1171) (nat_lit 6) (nat_lit 1281) (nat_lit 1929)) ::
  (nat_lit 1287,fo (M 155 17) "Evaluator.eager_args" (r 1280) n n (s "vectorcove.evaluator" 1692) (r 1286) n) ::
  (nat_lit 1288,tu []) ::
  (nat_lit 1290,tu [s "self" 1935,s "item" 1936,s "keep" 1937,s "place" 1938,s "call" 1939,s "told" 1940]) ::
  (nat_lit 1291,tu []) ::
  (nat_lit 1293,coA "empty_arg" "Evaluator.empty_arg" (nat_lit 1932) (nat_lit 1189) (nat_lit 5) (nat_lit 1288) (nat_lit 1941)) ::
  (nat_lit 1294,fo (M 155 18) "Evaluator.empty_arg" n n n (s "vectorcove.evaluator" 1692) (r 1293) n) ::
  (nat_lit 1295,tu []) ::
  (nat_lit 1297,tu [s "self" 1947,s "f" 1948,s "call" 1949,s "env" 1950,s "saved" 1951,s "refusal" 1952,s "message" 1953]) ::
  (nat_lit 1298,tu []) ::
  (nat_lit 1300,coA "call_special" "Evaluator.call_special" (nat_lit 1944) (nat_lit 1195) (nat_lit 4) (nat_lit 1295) (nat_lit 1954)) ::
  (nat_lit 1301,fo (M 155 19) "Evaluator.call_special" n n n (s "vectorcove.evaluator" 1692) (r 1300) n) ::
  (nat_lit 1302,tu []) ::
  (nat_lit 1304,tu [s "self" 1960,s "builtin" 1961,s "call" 1962,s "args" 1963,s "env" 1964,s "saved" 1965,s "found" 1966,s "value" 1967,s "refusal" 1968,s "message" 1969]) ::
  (nat_lit 1305,tu []) ::
  (nat_lit 1307,coA "call_builtin" "Evaluator.call_builtin" (nat_lit 1957) (nat_lit 1207) (nat_lit 5) (nat_lit 1302) (nat_lit 1970)) ::
  (nat_lit 1308,fo (M 155 20) "Evaluator.call_builtin" n n n (s "vectorcove.evaluator" 1692) (r 1307) n) ::
  (nat_lit 1309,tu [n]) ::
  (nat_lit 1310,tu []) ::
  (nat_lit 1312,tu [s "self" 1976,s "closure" 1977,s "args" 1978,s "call" 1979,s "caller" 1980,s "dispatch" 1981,s "env" 1982,s "message" 1983,s "refusal" 1984,s "frame" 1985,s "value" 1986,s "lost" 1987,s "signal" 1988]) ::
  (nat_lit 1313,tu []) ::
  (nat_lit 1315,coA "apply_closure" "Evaluator.apply_closure" (nat_lit 1973) (nat_lit 1225) (nat_lit 6) (nat_lit 1310) (nat_lit 1989)) ::
  (nat_lit 1316,fo (M 155 21) "Evaluator.apply_closure" (r 1309) n n (s "vectorcove.evaluator" 1692) (r 1315) n) ::
  (nat_lit 1317,tu []) ::
  (nat_lit 1319,tu [s "self" 1995,s "frame" 1996,s "value" 1997,s "visible" 1998,s "lost" 1999,s "signal" 2000]) ::
  (nat_lit 1320,tu []) ::
  (nat_lit 1322,coA "leave" "Evaluator.leave" (nat_lit 1992) (nat_lit 1259) (nat_lit 3) (nat_lit 1317) (nat_lit 2001)) ::
  (nat_lit 1323,fo (M 155 22) "Evaluator.leave" n n n (s "vectorcove.evaluator" 1692) (r 1322) n) ::
  (nat_lit 1324,tu []) ::
  (nat_lit 1326,tu [s "self" 2007,s "frame" 2008,s "failed" 2009,s "first" 2010,s "fault" 2011]) ::
  (nat_lit 1327,tu []) ::
  (nat_lit 1329,coA "run_exits" "Evaluator.run_exits" (nat_lit 2004) (nat_lit 1279) (nat_lit 2) (nat_lit 1324) (nat_lit 2012)) ::
  (nat_lit 1330,fo (M 155 23) "Evaluator.run_exits" n n n (s "vectorcove.evaluator" 1692) (r 1329) n) ::
  (nat_lit 1331,tu []) ::
  (nat_lit 1333,tu [s "self" 2018,s "show" 2019]) ::
  (nat_lit 1334,tu [s "deparser" 2020]) ::
  (nat_lit 1336,coA "shower" "Evaluator.shower" (nat_lit 2015) (nat_lit 1290) (nat_lit 1) (nat_lit 1331) (nat_lit 2021)) ::
  (nat_lit 1337,fo (M 155 24) "Evaluator.shower" n n n (s "vectorcove.evaluator" 1692) (r 1336) n) ::
  (nat_lit 1338,tu [n]) ::
  (nat_lit 1339,tu []) ::
  (nat_lit 1341,tu [s "self" 2027,s "f" 2028,s "args" 2029,s "env" 2030,s "call" 2031]) ::
  (nat_lit 1342,tu []) ::
  (nat_lit 1344,coA "call_value" "Evaluator.call_value" (nat_lit 2024) (nat_lit 1301) (nat_lit 5) (nat_lit 1339) (nat_lit 2032)) ::
  (nat_lit 1345,fo (M 155 25) "Evaluator.call_value" (r 1338) n n (s "vectorcove.evaluator" 1692) (r 1344) n) ::
  (nat_lit 1346,tu []) ::
  (nat_lit 1348,tu [s "self" 2038,s "program" 2039,s "value" 2040,s "e" 2041]) ::
  (nat_lit 1349,tu []) ::
  (nat_lit 1351,coA "run" "Evaluator.run" (nat_lit 2035) (nat_lit 1304) (nat_lit 2) (nat_lit 1346) (nat_lit 2042)) ::
  (nat_lit 1352,fo (M 155 26) "Evaluator.run" n n n (s "vectorcove.evaluator" 1692) (r 1351) n) ::
  (nat_lit 1353,tu [s "base" 2045,s "current" 2046,s "deparser" 2047,s "dispatcher" 2048,s "frames" 2049,s "globals" 2050,s "handlers" 2051,s "limit" 2052,s "most_frames" 2053,s "next_number" 2054,s "out" 2055,s "restarts" 2056,s "s4" 2057,s "signaller" 2058,s "steps" 2059,s "targets" 2060,s "visible" 2061,s "warner" 2062,s "warnings" 2063]) ::
  (nat_lit 1354,di (ty "dict") [e P "__module__" 1740 (s "vectorcove.evaluator" 1692),e P "__firstlineno__" 1744 (.int (1005) 1743),e P "__init__" 1755 (r 1164),e P "new_env" 1764 (r 1171),e P "define" 1776 (r 1179),e P "tick" 1783 (r 1186),e P "signal_error" 1792 (r 1193),e P "warn_all" 1803 (r 1201),e P "running_call" 1810 (r 1208),e P "eval" 1820 (r 1215),e P "variable" 1831 (r 1222),e P "dots_value" 1841 (r 1229),e P "force" 1849 (r 1236),e P "find_function" 1860 (r 1244),e P "function_of" 1871 (r 1251),e P "eval_call" 1880 (r 1258),e P "plain_call" 1892 (r 1265),e P "spread_dots" 1901 (r 1272),e P "promise_args" 1914 (r 1279),e P "eager_args" 1931 (r 1287),e P "empty_arg" 1943 (r 1294),e P "call_special" 1956 (r 1301),e P "call_builtin" 1972 (r 1308),e P "apply_closure" 1991 (r 1316),e P "leave" 2003 (r 1323),e P "run_exits" 2014 (r 1330),e P "shower" 2023 (r 1337),e P "call_value" 2034 (r 1345),e P "run" 2044 (r 1352),e P "__static_attributes__" 2064 (r 1353),e P "__dict__" 2066 (r 1356),e P "__weakref__" 2068 (r 1357),e P "__doc__" 2069 n] 4) ::
  (nat_lit 1355,slo (cl (ty "type") { name:=Str.ofString "Evaluator", bases:=[ty "object"],mro:=[r 1355,ty "object"],ns:=1354,qualname:=Str.ofString "Evaluator", hasDict:=true,slotNames:=[],subclasses:=[],abstract:=false,collection:=none,hasDel:=false }) [none,none,some (s "Evaluator" 1733),some (s "Evaluator" 1741),some (bu "object.__new__"),some (.bool true)]) ::
  (nat_lit 1356,fl (ty "getset_descriptor") [s "__dict__" 2065,r 1355,bu "function.__dict__", bu "function.__dict__#set"]) ::
  (nat_lit 1357,fl (ty "getset_descriptor") [s "__weakref__" 2067,r 1355,bu "ExceptionGroup.__weakref__", n]) ::
  (nat_lit 1360,tu []) ::
  (nat_lit 1362,tu [s "f" 2075]) ::
  (nat_lit 1363,tu []) ::
  (nat_lit 1365,coA "hands_on" "hands_on" (nat_lit 2072) (nat_lit 1309) (nat_lit 1) (nat_lit 1360) (nat_lit 2076)) ::
  (nat_lit 1366,fo (A 156) "hands_on" n n n (s "vectorcove.evaluator" 1692) (r 1365) n) ::
  (nat_lit 1367,tu []) ::
  (nat_lit 1369,tu [s "script" 2084,s "coins" 2085,s "cell" 2086,s "grain" 2087,s "lap" 2088]) ::
  (nat_lit 1370,tu []) ::
  (nat_lit 1372,coA "_law_coins" "_law_coins" (nat_lit 2081) (nat_lit 1312) (nat_lit 1) (nat_lit 1367) (nat_lit 2089)) ::
  (nat_lit 1373,fo (A 158) "_law_coins" n n n (s "law_pq1429_01" 2079) (r 1372) n) ::
  (nat_lit 1374,tu []) ::
  (nat_lit 1376,tu [s "coins" 2095,s "many" 2096]) ::
  (nat_lit 1377,tu []) ::
  (nat_lit 1379,coA "_law_coin" "_law_coin" (nat_lit 2092) (nat_lit 1324) (nat_lit 2) (nat_lit 1374) (nat_lit 2097)) ::
  (nat_lit 1380,fo (A 159) "_law_coin" n n n (s "law_pq1429_01" 2079) (r 1379) n) ::
  (nat_lit 1381,tu []) ::
  (nat_lit 1384,coB "_law_told" "_law_told" (nat_lit 2100) (nat_lit 1328) (nat_lit 4) (nat_lit 1381) (nat_lit 2103)) ::
  (nat_lit 1385,fo (A 160) "_law_told" n n n (s "law_pq1429_01" 2079) (r 1384) n) ::
  (nat_lit 1386,tu []) ::
  (nat_lit 1388,tu [s "top" 2109,s "below" 2110,s "one" 2111,s "other" 2112]) ::
  (nat_lit 1389,tu []) ::
  (nat_lit 1391,coA "_law_fraction" "_law_fraction" (nat_lit 2106) (nat_lit 1338) (nat_lit 2) (nat_lit 1386) (nat_lit 2113)) ::
  (nat_lit 1392,fo (A 161) "_law_fraction" n n n (s "law_pq1429_01" 2079) (r 1391) n) ::
  (nat_lit 1393,tu []) ::
  (nat_lit 1396,coB "_law_plain_holds" "_law_plain_holds" (nat_lit 2116) (nat_lit 1344) (nat_lit 4) (nat_lit 1393) (nat_lit 2119)) ::
  (nat_lit 1397,fo (A 162) "_law_plain_holds" n n n (s "law_pq1429_01" 2079) (r 1396) n) ::
  (nat_lit 1398,tu []) ::
  (nat_lit 1400,tu [s "script" 2125,s "coins" 2126,s "interp" 2127,s "many" 2128,s "entries" 2129,s "lap" 2130,s "draw" 2131,s "ordered_one" 2132,s "skip" 2133,s "plain_row" 2134,s "words" 2135,s "f" 2136,s "remark_due" 2137,s "fn" 2138]) ::
  (nat_lit 1401,tu []) ::
  (nat_lit 1403,coA "law" "law" (nat_lit 2122) (nat_lit 1368) (nat_lit 1) (nat_lit 1398) (nat_lit 2139)) ::
  (nat_lit 1404,fo (A 163) "law" n n n (s "law_pq1429_01" 2079) (r 1403) n) ::
  []
end hd
namespace H
noncomputable def tk:Nat→List Obj→List Obj
  | 0,_=>[]
  | _ + 1,[]=>[]
  | n + 1,x::l=>x::tk n l
noncomputable def dr:Nat→List Obj→List Obj
  | 0,l=>l
  | _ + 1,[]=>[]
  | n + 1,_::l=>dr n l
noncomputable def snds:Frag→List Obj
  | []=>[]
  | p::l=>p.2::snds l
noncomputable def weave:List (Nat×List Obj)→List Obj→List Obj
  | [],l=>l
  | p::r,l=>tk p.1 l++(p.2++weave r (dr p.1 l))
noncomputable def oth0 (P:Params):List (Nat×List Obj):=[(1,[fl n []]),
  (2,[pf (A 0) "_wall"]),
  (3,[fl n []]),
  (2,[pf (A 2) "get_attr"]),
  (3,[fl n [],pf (A 3) "names_of"]),
  (3,[fl n []]),
  (2,[pf (A 4) "dim_of"]),
  (3,[fl n [],pf (A 5) "dimnames_of"]),
  (3,[fl n []]),
  (2,[pf (A 6) "class_attr"]),
  (3,[fl n []]),
  (2,[pf (A 7) "language_class"]),
  (3,[fl n []]),
  (2,[pf (A 8) "shape_class"]),
  (3,[fl n []]),
  (2,[pf (A 9) "plain_class"]),
  (3,[fl n []]),
  (2,[pf (A 10) "class_of"]),
  (3,[fl n []]),
  (2,[pf (A 11) "inherits"]),
  (3,[fl (ty "builtin_function_or_method") [bu "type.__prepare__", ty "type"],di (ty "dict") [e P "__module__" 282 (s "vectorcove.errors" 273),e P "__qualname__" 284 (s "CoveError" 283),e P "__firstlineno__" 286 (.int (75) 285),e P "__static_attributes__" 287 (r 95)] 4,tu [],fl n [],coC "CoveError" "CoveError" (nat_lit 277) (nat_lit 75) (nat_lit 0) (nat_lit 91) (nat_lit 280),slo (pl (ty "frame")) [some (r 93),some (r 3),some (r 90),none,some (s "vectorcove.errors" 273),none,some (r 0)]]),
  (4,[fl (ty "super") [r 97,r 97,r 97],fl (ty "builtin_function_or_method") [bu "object.__init_subclass__", r 97]]),
  (1,[fl (ty "builtin_function_or_method") [bu "type.__prepare__", ty "type"],di (ty "dict") [e P "__module__" 302 (s "vectorcove.errors" 273),e P "__qualname__" 304 (s "Refusal" 303),e P "__firstlineno__" 306 (.int (77) 305),e P "__init__" 314 (r 114),e P "__static_attributes__" 316 (r 115)] 5,tu [],fl n [i 79,i 4,r 113],coC "Refusal" "Refusal" (nat_lit 297) (nat_lit 77) (nat_lit 0) (nat_lit 104) (nat_lit 300),slo (pl (ty "frame")) [some (r 106),some (r 3),some (r 103),none,some (s "vectorcove.errors" 273),none,some (r 0)]]),
  (1,[fl n []]),
  (2,[pf (M 14 0) "Refusal.__init__"]),
  (5,[fl (ty "super") [r 117,r 117,r 117],fl (ty "builtin_function_or_method") [bu "object.__init_subclass__", r 117]]),
  (1,[fl (ty "builtin_function_or_method") [bu "type.__prepare__", ty "type"],di (ty "dict") [e P "__module__" 327 (s "vectorcove.errors" 273),e P "__qualname__" 329 (s "RError" 328),e P "__firstlineno__" 331 (.int (81) 330),e P "__init__" 341 (r 133),e P "__static_attributes__" 345 (r 134)] 5,tu [],fl n [i 83,i 4,r 132],coC "RError" "RError" (nat_lit 322) (nat_lit 81) (nat_lit 0) (nat_lit 123) (nat_lit 325),slo (pl (ty "frame")) [some (r 125),some (r 3),some (r 122),none,some (s "vectorcove.errors" 273),none,some (r 0)]]),
  (1,[fl n []]),
  (2,[pf (M 15 0) "RError.__init__"]),
  (5,[fl (ty "super") [r 136,r 136,r 136],fl (ty "builtin_function_or_method") [bu "object.__init_subclass__", r 136]]),
  (1,[fl (ty "builtin_function_or_method") [bu "type.__prepare__", ty "type"],di (ty "dict") [e P "__module__" 356 (s "vectorcove.errors" 273),e P "__qualname__" 358 (s "LimitReached" 357),e P "__firstlineno__" 360 (.int (87) 359),e P "__init__" 368 (r 152),e P "__static_attributes__" 370 (r 153)] 5,tu [],fl n [i 89,i 4,r 151],coC "LimitReached" "LimitReached" (nat_lit 351) (nat_lit 87) (nat_lit 0) (nat_lit 142) (nat_lit 354),slo (pl (ty "frame")) [some (r 144),some (r 3),some (r 141),none,some (s "vectorcove.errors" 273),none,some (r 0)]]),
  (1,[fl n []]),
  (2,[pf (M 16 0) "LimitReached.__init__"]),
  (5,[fl (ty "super") [r 155,r 155,r 155],fl (ty "builtin_function_or_method") [bu "object.__init_subclass__", r 155]]),
  (1,[fl (ty "builtin_function_or_method") [bu "type.__prepare__", ty "type"],di (ty "dict") [e P "__module__" 381 (s "vectorcove.errors" 273),e P "__qualname__" 383 (s "ReturnSignal" 382),e P "__firstlineno__" 385 (.int (91) 384),e P "__init__" 394 (r 171),e P "__static_attributes__" 397 (r 172)] 5,tu [],fl n [i 93,i 4,r 170],coC "ReturnSignal" "ReturnSignal" (nat_lit 376) (nat_lit 91) (nat_lit 0) (nat_lit 161) (nat_lit 379),slo (pl (ty "frame")) [some (r 163),some (r 3),some (r 160),none,some (s "vectorcove.errors" 273),none,some (r 0)]]),
  (1,[fl n []]),
  (2,[pf (M 17 0) "ReturnSignal.__init__"]),
  (5,[fl (ty "super") [r 174,r 174,r 174],fl (ty "builtin_function_or_method") [bu "object.__init_subclass__", r 174]]),
  (1,[fl (ty "builtin_function_or_method") [bu "type.__prepare__", ty "type"],di (ty "dict") [e P "__module__" 408 (s "vectorcove.errors" 273),e P "__qualname__" 410 (s "LoopSignal" 409),e P "__firstlineno__" 412 (.int (96) 411),e P "__init__" 421 (r 190),e P "__static_attributes__" 424 (r 191)] 5,tu [],fl n [i 98,i 4,r 189],coC "LoopSignal" "LoopSignal" (nat_lit 403) (nat_lit 96) (nat_lit 0) (nat_lit 180) (nat_lit 406),slo (pl (ty "frame")) [some (r 182),some (r 3),some (r 179),none,some (s "vectorcove.errors" 273),none,some (r 0)]]),
  (1,[fl n []]),
  (2,[pf (M 18 0) "LoopSignal.__init__"]),
  (5,[fl (ty "super") [r 193,r 193,r 193],fl (ty "builtin_function_or_method") [bu "object.__init_subclass__", r 193],tu [],fl (ty "builtin_function_or_method") [bu "type.__prepare__", ty "type"],di (ty "dict") [e P "__module__" 437 (s "vectorcove.values" 428),e P "__qualname__" 439 (s "Null" 438),e P "__firstlineno__" 441 (.int (102) 440),e P "__init__" 448 (r 209),e P "__static_attributes__" 451 (r 210)] 5,tu [],fl n [i 104,i 4,r 208],coC "Null" "Null" (nat_lit 432) (nat_lit 102) (nat_lit 0) (nat_lit 199) (nat_lit 435),slo (pl (ty "frame")) [some (r 201),some (r 3),some (r 198),none,some (s "vectorcove.values" 428),none,some (r 0)]]),
  (1,[fl n []]),
  (2,[pf (M 20 0) "Null.__init__"]),
  (7,[fl (ty "super") [r 212,r 212,r 212],fl (ty "builtin_function_or_method") [bu "object.__init_subclass__", r 212],tu [],fl (ty "builtin_function_or_method") [bu "type.__prepare__", ty "type"],di (ty "dict") [e P "__module__" 466 (s "vectorcove.values" 428),e P "__qualname__" 468 (s "Missing" 467),e P "__firstlineno__" 470 (.int (107) 469),e P "__init__" 477 (r 230),e P "__static_attributes__" 480 (r 231)] 5,tu [],fl n [i 109,i 4,r 229],coC "Missing" "Missing" (nat_lit 461) (nat_lit 107) (nat_lit 0) (nat_lit 220) (nat_lit 464),slo (pl (ty "frame")) [some (r 222),some (r 3),some (r 219),none,some (s "vectorcove.values" 428),none,some (r 0)]]),
  (1,[fl n []]),
  (2,[pf (M 21 0) "Missing.__init__"]),
  (7,[fl (ty "super") [r 233,r 233,r 233],fl (ty "builtin_function_or_method") [bu "object.__init_subclass__", r 233],tu [],fl (ty "builtin_function_or_method") [bu "type.__prepare__", ty "type"],di (ty "dict") [e P "__module__" 495 (s "vectorcove.values" 428),e P "__qualname__" 497 (s "Vector" 496),e P "__firstlineno__" 499 (.int (112) 498),e P "__init__" 509 (r 252),e P "copy" 516 (r 259),e P "__static_attributes__" 522 (r 260)] 6,tu [],fl n [i 114,i 4,r 251,i 121,i 4,r 258],coC "Vector" "Vector" (nat_lit 490) (nat_lit 112) (nat_lit 0) (nat_lit 241) (nat_lit 493),slo (pl (ty "frame")) [some (r 243),some (r 3),some (r 240),none,some (s "vectorcove.values" 428),none,some (r 0)]]),
  (2,[fl n []]),
  (2,[pf (M 22 0) "Vector.__init__"]),
  (3,[fl n []]),
  (2,[pf (M 22 1) "Vector.copy"]),
  (7,[fl (ty "super") [r 262,r 262,r 262],fl (ty "builtin_function_or_method") [bu "object.__init_subclass__", r 262],tu [],fl (ty "builtin_function_or_method") [bu "type.__prepare__", ty "type"],di (ty "dict") [e P "__module__" 537 (s "vectorcove.values" 428),e P "__qualname__" 539 (s "Environment" 538),e P "__firstlineno__" 541 (.int (123) 540),e P "__init__" 551 (r 281),e P "__static_attributes__" 559 (r 282)] 5,tu [],fl n [i 125,i 4,r 280],coC "Environment" "Environment" (nat_lit 532) (nat_lit 123) (nat_lit 0) (nat_lit 270) (nat_lit 535),slo (pl (ty "frame")) [some (r 272),some (r 3),some (r 269),none,some (s "vectorcove.values" 428),none,some (r 0)]]),
  (2,[fl n []]),
  (2,[pf (M 23 0) "Environment.__init__"]),
  (7,[fl (ty "super") [r 284,r 284,r 284],fl (ty "builtin_function_or_method") [bu "object.__init_subclass__", r 284],tu [],fl (ty "builtin_function_or_method") [bu "type.__prepare__", ty "type"],di (ty "dict") [e P "__module__" 574 (s "vectorcove.values" 428),e P "__qualname__" 576 (s "Promise" 575),e P "__firstlineno__" 578 (.int (133) 577),e P "__init__" 587 (r 302),e P "__static_attributes__" 595 (r 303)] 5,tu [],fl n [i 135,i 4,r 301],coC "Promise" "Promise" (nat_lit 569) (nat_lit 133) (nat_lit 0) (nat_lit 292) (nat_lit 572),slo (pl (ty "frame")) [some (r 294),some (r 3),some (r 291),none,some (s "vectorcove.values" 428),none,some (r 0)]]),
  (1,[fl n []]),
  (2,[pf (M 24 0) "Promise.__init__"]),
  (7,[fl (ty "super") [r 305,r 305,r 305],fl (ty "builtin_function_or_method") [bu "object.__init_subclass__", r 305],tu [],fl (ty "builtin_function_or_method") [bu "type.__prepare__", ty "type"],di (ty "dict") [e P "__module__" 610 (s "vectorcove.values" 428),e P "__qualname__" 612 (s "Dots" 611),e P "__firstlineno__" 614 (.int (143) 613),e P "__init__" 622 (r 323),e P "__static_attributes__" 626 (r 324)] 5,tu [],fl n [i 145,i 4,r 322],coC "Dots" "Dots" (nat_lit 605) (nat_lit 143) (nat_lit 0) (nat_lit 313) (nat_lit 608),slo (pl (ty "frame")) [some (r 315),some (r 3),some (r 312),none,some (s "vectorcove.values" 428),none,some (r 0)]]),
  (1,[fl n []])]
noncomputable def oth1 (P:Params):List (Nat×List Obj):=[(2,[pf (M 25 0) "Dots.__init__"]),
  (7,[fl (ty "super") [r 326,r 326,r 326],fl (ty "builtin_function_or_method") [bu "object.__init_subclass__", r 326]]),
  (1,[fl n []]),
  (2,[pf (A 26) "null"]),
  (3,[fl n []]),
  (2,[pf (A 27) "missing"]),
  (3,[fl n []]),
  (2,[pf (A 28) "character"]),
  (3,[fl n []]),
  (2,[pf (A 29) "flag"]),
  (3,[fl n []]),
  (2,[pf (A 30) "text"]),
  (3,[fl n []]),
  (2,[pf (A 31) "length"]),
  (3,[fl n []]),
  (2,[pf (A 32) "is_atomic"]),
  (3,[fl n []]),
  (2,[pf (A 33) "is_function"]),
  (3,[fl n []]),
  (2,[pf (A 34) "share"]),
  (2,[tu [],fl (ty "builtin_function_or_method") [bu "type.__prepare__", ty "type"],di (ty "dict") [e P "__module__" 705 (s "vectorcove.callargs" 696),e P "__qualname__" 707 (s "Matching" 706),e P "__firstlineno__" 709 (.int (181) 708),e P "__init__" 718 (r 407),e P "exact" 727 (r 414),e P "partial" 735 (r 421),e P "partial_of" 745 (r 428),e P "positional" 754 (r 435),e P "is_free" 762 (r 442),e P "rest" 768 (r 447),e P "__static_attributes__" 773 (r 448)] 11,tu [],fl n [i 183,i 4,r 406,i 189,i 4,r 413,i 199,i 4,r 420,i 206,i 4,r 427,i 217,i 4,r 434,i 229,i 4,r 441,i 232,i 4,r 446],coC "Matching" "Matching" (nat_lit 700) (nat_lit 181) (nat_lit 0) (nat_lit 397) (nat_lit 703),slo (pl (ty "frame")) [some (r 399),some (r 3),some (r 396),none,some (s "vectorcove.callargs" 696),none,some (r 0)]]),
  (1,[fl n []]),
  (2,[pf (M 36 0) "Matching.__init__"]),
  (3,[fl n []]),
  (2,[pf (M 36 1) "Matching.exact"]),
  (3,[fl n []]),
  (2,[pf (M 36 2) "Matching.partial"]),
  (3,[fl n []]),
  (2,[pf (M 36 3) "Matching.partial_of"]),
  (3,[fl n []]),
  (2,[pf (M 36 4) "Matching.positional"]),
  (3,[fl n []]),
  (2,[pf (M 36 5) "Matching.is_free"]),
  (3,[fl n [],pf (M 36 6) "Matching.rest"]),
  (7,[fl (ty "super") [r 450,r 450,r 450],fl (ty "builtin_function_or_method") [bu "object.__init_subclass__", r 450]]),
  (1,[fl n []]),
  (2,[pf (A 37) "doubled_text"]),
  (3,[fl n []]),
  (2,[pf (A 38) "argument_text"]),
  (3,[fl n []]),
  (2,[pf (A 39) "plain_text"]),
  (3,[fl n [],pf (A 40) "unused_text"]),
  (4,[fl n [],pf (A 41) "match_names"]),
  (3,[fl n []]),
  (2,[pf (A 42) "needed"]),
  (4,[fl n [],pf (A 43) "take"]),
  (6,[fl n []]),
  (2,[pf (A 50) "gcd"]),
  (3,[fl n []]),
  (2,[pf (A 51) "bounded"]),
  (3,[fl n []]),
  (2,[pf (A 52) "make"]),
  (3,[fl n []]),
  (2,[pf (A 53) "from_int"]),
  (3,[fl n []]),
  (2,[pf (A 54) "is_na"]),
  (3,[fl n []]),
  (2,[pf (A 55) "is_nan"]),
  (3,[fl n []]),
  (2,[pf (A 56) "is_finite"])]
noncomputable def oth2 (P:Params):List (Nat×List Obj):=[(3,[fl n []]),
  (2,[pf (A 57) "marked"]),
  (3,[fl n []]),
  (2,[pf (A 58) "neg"]),
  (3,[fl n []]),
  (2,[pf (A 59) "add"]),
  (3,[fl n []]),
  (2,[pf (A 60) "sub"]),
  (3,[fl n []]),
  (2,[pf (A 61) "mul"]),
  (3,[fl n []]),
  (2,[pf (A 62) "div"]),
  (3,[fl n []]),
  (2,[pf (A 63) "isqrt"]),
  (3,[fl n []]),
  (2,[pf (A 64) "root"]),
  (3,[fl n []]),
  (2,[pf (A 65) "floor"]),
  (3,[fl n []]),
  (2,[pf (A 66) "to_whole"]),
  (3,[fl n []]),
  (2,[pf (A 67) "nearest_whole"]),
  (3,[fl n []]),
  (2,[pf (A 68) "exponent"]),
  (3,[fl n []]),
  (2,[pf (A 69) "compare"]),
  (3,[fl n []]),
  (2,[pf (A 73) "whole_text"]),
  (3,[fl n []]),
  (2,[pf (A 74) "special_text"]),
  (3,[fl n []]),
  (2,[pf (A 75) "scaled"]),
  (3,[fl n []]),
  (2,[pf (A 76) "significant"]),
  (3,[fl n []]),
  (2,[pf (A 77) "without_tail"]),
  (3,[fl n []]),
  (2,[pf (A 78) "scientific_text"]),
  (3,[fl n []]),
  (2,[pf (A 79) "fixed_text"]),
  (3,[fl n []]),
  (2,[pf (A 80) "measures"]),
  (3,[fl n []]),
  (2,[pf (A 81) "chosen_form"]),
  (3,[fl n []]),
  (2,[pf (A 82) "formed"]),
  (3,[fl n [],pf (A 83) "common_texts"]),
  (4,[fl n []]),
  (2,[pf (A 84) "number_text"]),
  (3,[fl n []]),
  (2,[pf (A 85) "digits_value"]),
  (3,[fl n []]),
  (2,[pf (A 86) "digit_run"]),
  (3,[fl n []]),
  (2,[pf (A 87) "exponent_value"]),
  (3,[fl n []]),
  (2,[pf (A 88) "powered"]),
  (3,[fl n []]),
  (2,[pf (A 89) "unsigned_number"]),
  (3,[fl n []])]
noncomputable def oth3 (P:Params):List (Nat×List Obj):=[(2,[pf (A 90) "parse_number"]),
  (3,[fl n []]),
  (2,[pf (A 93) "note"]),
  (3,[fl n []]),
  (2,[pf (A 94) "as_logical_text"]),
  (3,[fl n []]),
  (2,[pf (A 95) "double_to_integer"]),
  (3,[fl n []]),
  (2,[pf (A 96) "text_to_double"]),
  (3,[fl n []]),
  (2,[pf (A 97) "to_logical"]),
  (3,[fl n []]),
  (2,[pf (A 98) "to_integer"]),
  (3,[fl n []]),
  (2,[pf (A 99) "to_double"]),
  (3,[fl n []]),
  (2,[pf (A 100) "to_text"]),
  (3,[fl n []]),
  (2,[pf (A 101) "item_as"]),
  (3,[fl n []]),
  (2,[pf (A 102) "is_atomic_kind"]),
  (3,[fl n []]),
  (2,[pf (A 103) "list_item_as"]),
  (3,[fl n []]),
  (2,[pf (A 104) "refuse_type"]),
  (3,[fl n [],pf (A 105) "as_vector_kind"]),
  (3,[fl n []]),
  (2,[pf (A 106) "with_names"]),
  (3,[fl n [],pf (A 107) "as_kind"]),
  (3,[fl n []]),
  (2,[pf (A 109) "truth_item"]),
  (3,[fl n []]),
  (2,[pf (A 112) "is_lacking"]),
  (3,[fl n []]),
  (2,[pf (A 113) "double_sum"]),
  (3,[fl n [],pf (A 114) "number_items"]),
  (3,[fl n []]),
  (2,[pf (A 115) "mean_items"]),
  (3,[fl n []]),
  (2,[pf (A 116) "var_of"]),
  (3,[fl n []]),
  (2,[pf (A 117) "joined_ascending"]),
  (3,[fl n [],pf (A 118) "by_comparing"]),
  (3,[fl n []]),
  (2,[pf (A 119) "cov_of"]),
  (3,[fl n []]),
  (2,[pf (A 120) "trimmed_mean"]),
  (3,[fl n []]),
  (2,[pf (A 121) "ascending"]),
  (3,[fl n []]),
  (2,[pf (A 122) "lacking_item"]),
  (3,[fl n []]),
  (2,[pf (A 123) "median_of"]),
  (3,[fl n []]),
  (2,[pf (A 124) "quantile_item"]),
  (3,[fl n [],pf (A 125) "quantile7"]),
  (3,[fl n []]),
  (2,[pf (A 127) "finish"]),
  (3,[fl n []]),
  (2,[pf (A 128) "is_set"])]
noncomputable def oth4 (P:Params):List (Nat×List Obj):=[(3,[fl n [],pf (A 129) "without_lacking"]),
  (3,[fl n []]),
  (2,[pf (A 130) "untagged"]),
  (3,[fl n []]),
  (2,[pf (A 131) "numeric_arg"]),
  (3,[fl n []]),
  (2,[pf (A 132) "trim_part"]),
  (3,[fl n [],pf (A 133) "b_mean"]),
  (3,[fl n []]),
  (2,[pf (A 134) "b_median"]),
  (3,[fl n []]),
  (2,[pf (A 135) "pairs_kept"]),
  (3,[fl n [],pf (A 136) "b_var"]),
  (3,[fl n []]),
  (2,[pf (A 137) "b_sd"]),
  (3,[fl n []]),
  (2,[pf (A 138) "b_quantile"]),
  (3,[fl n []]),
  (2,[pf (A 140) "lookup_here"]),
  (3,[fl n []]),
  (2,[pf (A 141) "lookup"]),
  (3,[fl n []]),
  (2,[pf (A 143) "done_promise"]),
  (3,[fl n []]),
  (2,[pf (A 144) "bound_argument"]),
  (3,[fl n []]),
  (2,[pf (A 145) "dots_argument"]),
  (3,[fl n []]),
  (2,[pf (A 146) "default_binding"]),
  (4,[fl n [],pf (A 147) "bind_formals"]),
  (3,[fl n []]),
  (2,[pf (A 148) "dots_of"]),
  (3,[fl n []]),
  (2,[pf (A 149) "is_dots_place"]),
  (3,[fl n []]),
  (2,[pf (A 150) "dots_place"]),
  (3,[fl n []]),
  (2,[pf (A 151) "is_empty_formal"]),
  (3,[fl n []]),
  (2,[pf (A 152) "is_empty_name"]),
  (2,[tu [],fl (ty "builtin_function_or_method") [bu "type.__prepare__", ty "type"],di (ty "dict") [e P "__module__" 1701 (s "vectorcove.evaluator" 1692),e P "__qualname__" 1703 (s "Frame" 1702),e P "__firstlineno__" 1705 (.int (995) 1704),e P "__init__" 1717 (r 1142),e P "__static_attributes__" 1725 (r 1143)] 5,tu [],fl n [i 997,i 4,r 1141],coC "Frame" "Frame" (nat_lit 1696) (nat_lit 995) (nat_lit 0) (nat_lit 1132) (nat_lit 1699),slo (pl (ty "frame")) [some (r 1134),some (r 3),some (r 1131),none,some (s "vectorcove.evaluator" 1692),none,some (r 0)]]),
  (1,[fl n []]),
  (2,[pf (M 154 0) "Frame.__init__"]),
  (7,[fl (ty "super") [r 1145,r 1145,r 1145],fl (ty "builtin_function_or_method") [bu "object.__init_subclass__", r 1145],tu [],fl (ty "builtin_function_or_method") [bu "type.__prepare__", ty "type"],di (ty "dict") [e P "__module__" 1740 (s "vectorcove.evaluator" 1692),e P "__qualname__" 1742 (s "Evaluator" 1741),e P "__firstlineno__" 1744 (.int (1005) 1743),e P "__init__" 1755 (r 1164),e P "new_env" 1764 (r 1171),e P "define" 1776 (r 1179),e P "tick" 1783 (r 1186),e P "signal_error" 1792 (r 1193),e P "warn_all" 1803 (r 1201),e P "running_call" 1810 (r 1208),e P "eval" 1820 (r 1215),e P "variable" 1831 (r 1222),e P "dots_value" 1841 (r 1229),e P "force" 1849 (r 1236),e P "find_function" 1860 (r 1244),e P "function_of" 1871 (r 1251),e P "eval_call" 1880 (r 1258),e P "plain_call" 1892 (r 1265),e P "spread_dots" 1901 (r 1272),e P "promise_args" 1914 (r 1279),e P "eager_args" 1931 (r 1287),e P "empty_arg" 1943 (r 1294),e P "call_special" 1956 (r 1301),e P "call_builtin" 1972 (r 1308),e P "apply_closure" 1991 (r 1316),e P "leave" 2003 (r 1323),e P "run_exits" 2014 (r 1330),e P "shower" 2023 (r 1337),e P "call_value" 2034 (r 1345),e P "run" 2044 (r 1352),e P "__static_attributes__" 2064 (r 1353)] 31,tu [],fl n [i 1007,i 4,r 1163,i 1028,i 4,r 1170,i 1033,i 4,r 1178,i 1036,i 4,r 1185,i 1041,i 4,r 1192,i 1046,i 4,r 1200,i 1057,i 4,r 1207,i 1062,i 4,r 1214,i 1075,i 4,r 1221,i 1093,i 4,r 1228,i 1099,i 4,r 1235,i 1113,i 4,r 1243,i 1126,i 4,r 1250,i 1137,i 4,r 1257,i 1140,i 4,r 1264,i 1153,i 4,r 1271,i 1159,i 4,r 1278,i 1171,i 4,r 1286,i 1189,i 4,r 1293,i 1195,i 4,r 1300,i 1207,i 4,r 1307,i 1225,i 4,r 1315,i 1259,i 4,r 1322,i 1279,i 4,r 1329,i 1290,i 4,r 1336,i 1301,i 4,r 1344,i 1304,i 4,r 1351],coC "Evaluator" "Evaluator" (nat_lit 1735) (nat_lit 1005) (nat_lit 0) (nat_lit 1153) (nat_lit 1738),slo (pl (ty "frame")) [some (r 1155),some (r 3),some (r 1152),none,some (s "vectorcove.evaluator" 1692),none,some (r 0)]]),
  (2,[fl n []]),
  (2,[pf (M 155 0) "Evaluator.__init__"]),
  (3,[fl n []]),
  (2,[pf (M 155 1) "Evaluator.new_env"]),
  (4,[fl n []]),
  (2,[pf (M 155 2) "Evaluator.define"]),
  (3,[fl n []]),
  (2,[pf (M 155 3) "Evaluator.tick"]),
  (3,[fl n []]),
  (2,[pf (M 155 4) "Evaluator.signal_error"]),
  (4,[fl n []]),
  (2,[pf (M 155 5) "Evaluator.warn_all"]),
  (3,[fl n []]),
  (2,[pf (M 155 6) "Evaluator.running_call"]),
  (3,[fl n []]),
  (2,[pf (M 155 7) "Evaluator.eval"])]
noncomputable def oth5 (P:Params):List (Nat×List Obj):=[(3,[fl n []]),
  (2,[pf (M 155 8) "Evaluator.variable"]),
  (3,[fl n []]),
  (2,[pf (M 155 9) "Evaluator.dots_value"]),
  (3,[fl n []]),
  (2,[pf (M 155 10) "Evaluator.force"]),
  (4,[fl n []]),
  (2,[pf (M 155 11) "Evaluator.find_function"]),
  (3,[fl n []]),
  (2,[pf (M 155 12) "Evaluator.function_of"]),
  (3,[fl n []]),
  (2,[pf (M 155 13) "Evaluator.eval_call"]),
  (3,[fl n []]),
  (2,[pf (M 155 14) "Evaluator.plain_call"]),
  (3,[fl n []]),
  (2,[pf (M 155 15) "Evaluator.spread_dots"]),
  (3,[fl n []]),
  (2,[pf (M 155 16) "Evaluator.promise_args"]),
  (4,[fl n []]),
  (2,[pf (M 155 17) "Evaluator.eager_args"]),
  (3,[fl n []]),
  (2,[pf (M 155 18) "Evaluator.empty_arg"]),
  (3,[fl n []]),
  (2,[pf (M 155 19) "Evaluator.call_special"]),
  (3,[fl n []]),
  (2,[pf (M 155 20) "Evaluator.call_builtin"]),
  (4,[fl n []]),
  (2,[pf (M 155 21) "Evaluator.apply_closure"]),
  (3,[fl n []]),
  (2,[pf (M 155 22) "Evaluator.leave"]),
  (3,[fl n []]),
  (2,[pf (M 155 23) "Evaluator.run_exits"]),
  (3,[fl n []]),
  (2,[pf (M 155 24) "Evaluator.shower"]),
  (4,[fl n []]),
  (2,[pf (M 155 25) "Evaluator.call_value"]),
  (3,[fl n []]),
  (2,[pf (M 155 26) "Evaluator.run"]),
  (7,[fl (ty "super") [r 1355,r 1355,r 1355],fl (ty "builtin_function_or_method") [bu "object.__init_subclass__", r 1355]]),
  (1,[fl n []]),
  (2,[pf (A 156) "hands_on"]),
  (3,[fl n []]),
  (2,[pf (A 158) "_law_coins"]),
  (3,[fl n []]),
  (2,[pf (A 159) "_law_coin"]),
  (3,[fl n [],pf (A 160) "_law_told"]),
  (3,[fl n []]),
  (2,[pf (A 161) "_law_fraction"]),
  (3,[fl n [],pf (A 162) "_law_plain_holds"]),
  (3,[fl n []]),
  (2,[pf (A 163) "law"])]
noncomputable def osAll (P:Params):List Obj:=weave (oth0 P++(oth1 P++(oth2 P++(oth3 P++(oth4 P++(oth5 P)))))) (dr 2 (snds (Mine.hd.heap_1 P)))
noncomputable def table12:List Value:=[i 1,i 0,r 20,i 5,i 0,r 27,i 9,i 0,r 32,i 25,i 0,r 39,i 30,i 0,r 44,i 35,i 0,r 51,i 40,i 0,r 58,i 45,i 0,r 65,i 50,i 0,r 72,i 61,i 0,r 79,i 69,i 0,r 86,i 75,i 0,r 93,i 77,i 0,r 106,i 81,i 0,r 125,i 87,i 0,r 144,i 91,i 0,r 163,i 96,i 0,r 182,i 102,i 0,r 201,i 107,i 0,r 222,i 112,i 0,r 243,i 123,i 0,r 272,i 133,i 0,r 294,i 143,i 0,r 315,i 149,i 0,r 336,i 151,i 0,r 343,i 153,i 0,r 350,i 155,i 0,r 357,i 159,i 0,r 364,i 161,i 0,r 371,i 172,i 0,r 378,i 174,i 0,r 385,i 176,i 0,r 392,i 181,i 0,r 399,i 234,i 0,r 460,i 236,i 0,r 467,i 242,i 0,r 474,i 257,i 0,r 479,i 263,i 0,r 485,i 272,i 0,r 492,i 276,i 0,r 498,i 293,i 0,r 508,i 297,i 0,r 515,i 301,i 0,r 522,i 311,i 0,r 529,i 315,i 0,r 536,i 317,i 0,r 543,i 319,i 0,r 550,i 321,i 0,r 557,i 325,i 0,r 564,i 329,i 0,r 571,i 339,i 0,r 578,i 341,i 0,r 585,i 345,i 0,r 592,i 353,i 0,r 599,i 364,i 0,r 606,i 374,i 0,r 613,i 378,i 0,r 620,i 383,i 0,r 627,i 389,i 0,r 634,i 400,i 0,r 641,i 421,i 0,r 648,i 432,i 0,r 655,i 440,i 0,r 662,i 445,i 0,r 669,i 454,i 0,r 676,i 459,i 0,r 683,i 466,i 0,r 690,i 474,i 0,r 697,i 481,i 0,r 704,i 501,i 0,r 711,i 508,i 0,r 716,i 512,i 0,r 724,i 514,i 0,r 731,i 519,i 0,r 738,i 523,i 0,r 745,i 533,i 0,r 752,i 543,i 0,r 759,i 577,i 0,r 766,i 596,i 0,r 773,i 599,i 0,r 780,i 605,i 0,r 787,i 613,i 0,r 794,i 619,i 0,r 801,i 629,i 0,r 808,i 637,i 0,r 815,i 643,i 0,r 822,i 651,i 0,r 829,i 665,i 0,r 836,i 667,i 0,r 843,i 673,i 0,r 850,i 675,i 0,r 855,i 689,i 0,r 862,i 693,i 0,r 867,i 701,i 0,r 874,i 711,i 0,r 881,i 715,i 0,r 888,i 720,i 0,r 893,i 726,i 0,r 900,i 730,i 0,r 907,i 740,i 0,r 914,i 749,i 0,r 919,i 755,i 0,r 926,i 764,i 0,r 933,i 774,i 0,r 940,i 787,i 0,r 947,i 792,i 0,r 954,i 804,i 0,r 961,i 817,i 0,r 966,i 824,i 0,r 973,i 828,i 0,r 980,i 832,i 0,r 985,i 836,i 0,r 992,i 841,i 0,r 999,i 846,i 0,r 1006,i 853,i 0,r 1011,i 866,i 0,r 1018,i 868,i 0,r 1025,i 878,i 0,r 1030,i 897,i 0,r 1037,i 899,i 0,r 1044,i 916,i 0,r 1051,i 918,i 0,r 1058,i 926,i 0,r 1065,i 931,i 0,r 1072,i 935,i 0,r 1079,i 940,i 0,r 1086,i 946,i 0,r 1092,i 959,i 0,r 1099,i 964,i 0,r 1106,i 971,i 0,r 1113,i 980,i 0,r 1120,i 992,i 0,r 1127,i 995,i 0,r 1134,i 1005,i 0,r 1155,i 1309,i 0,r 1365,i 1312,i 0,r 1372,i 1324,i 0,r 1379,i 1328,i 0,r 1384,i 1338,i 0,r 1391,i 1344,i 0,r 1396,i 1368,i 0,r 1403]
noncomputable def o13:Obj:=coC "<module>" "<module>" (nat_lit 182) (nat_lit 1) (nat_lit 0) (nat_lit 11) (nat_lit 185)
noncomputable def o14:Obj:=slo (pl (ty "frame")) [some (r 13),some (r 3),some (r 3),none,some (s "__main__" 164),none,some (r 0)]
noncomputable def evn:List Obj→List Obj
  | []=>[]
  | [x]=>[x]
  | x::_::l=>x::evn l
noncomputable def odn:List Obj→List Obj
  | []=>[]
  | [_]=>[]
  | _::y::l=>y::odn l
noncomputable def bt:Nat→List Obj→BT
  | 0,_=>.nil
  | _ + 1,[]=>.nil
  | k + 1,x::l=>.node x (bt k (evn l)) (bt k (odn l))
noncomputable def stat0:Obj:=di n [] 0
noncomputable def heapL (P:Params) (st:Obj) (nm:Value) (k3 k12 size:Nat):List Obj :=
  boot_o_0 P::boot_o_1 P::st::di (ty "dict") (⟨PyData.keyHash P (Str.ofString "__name__"),.str (Str.ofString "__name__") 165,nm⟩::(names P).take k3) (k3 + 1)::boot_o_4 P::boot_o_5 P::boot_o_6 P::boot_o_7 P::boot_o_8 P::boot_o_9 P::boot_o_10 P ::
    tu []::fl n (table12.take k12)::o13::o14::(osAll P).take (size - 15)
noncomputable def t0 (P:Params):BT:=bt 12 (heapL P stat0 (s "__main__" 164) 8 0 15)
noncomputable def t1 (P:Params):BT:=bt 12 (heapL P (stat1 P) (s "vectorcove.errors" 273) 25 51 196)
noncomputable def t2 (P:Params):BT:=bt 12 (heapL P (stat1 P) (s "vectorcove.callargs" 696) 41 99 455)
noncomputable def t3 (P:Params):BT:=bt 12 (heapL P (stat1 P) (s "vectorcove.coerce" 1208) 97 243 789)
noncomputable def t4 (P:Params):BT:=bt 12 (heapL P (stat1 P) (s "vectorcove.evaluator" 1692) 149 396 1129)
noncomputable def t5 (P:Params):BT:=bt 12 (heapL P (stat1 P) (s "law_pq1429_01" 2079) 158 423 1405)
noncomputable def env:Env:={ scope:=pw.main.scope,locals:=mainNs,globals:=mainNs,cells:=[],code:=.ref 13,frame:=some 14 }
noncomputable def code:Code:=.body (behindTheImports pw) env
noncomputable def pos0:Pos:=⟨0,0,0,0⟩
noncomputable def drop:Nat→List Stmt→List Stmt
  | 0,l=>l
  | _ + 1,[]=>[]
  | k + 1,_::l=>drop k l
noncomputable def take:Nat→List Stmt→List Stmt
  | 0,_=>[]
  | _ + 1,[]=>[]
  | k + 1,x::l=>x::take k l
noncomputable def part (a k:Nat):List Stmt:=take k (drop a pw.main.body)
end H
end Mine
namespace Mine.H
theorem pre:∀ (w:World) (os:OsState),topGo treeTable pw w 11 (some (.ref 6)) 12 ⟨boot_heap w.params,⟨[]⟩,boot_drawn,boot_toks,os⟩ (topStub pw) = some (SharedT.abs ⟨t0 w.params,15,{},⟨[]⟩,boot_drawn,187,os⟩,⟨denote treeTable code,code,pos0,[topFrame pos0]⟩):=by
  intro w os
  kernel_rfl
theorem block:∀ (w:World) (os:OsState),segRunT treeTable pw w 11 (some (.ref 6)) 1 1 ⟨t0 w.params,15,{},⟨[]⟩,boot_drawn,187,os⟩ (blockOf (behindTheImports pw) env code pos0 [topFrame pos0]) = some (.next,⟨t0 w.params,15,{},⟨[]⟩,boot_drawn,187,os⟩,code,pos0):=by
  intro w os
  kernel_rfl
end Mine.H
namespace Mine.H
theorem p1:∀ (w:World) (os:OsState),segRunT treeTable pw w 11 (some (.ref 6)) 1 1770 ⟨t0 w.params,15,{},⟨[]⟩,boot_drawn,187,os⟩ (piecesOf (part 0 19) env code pos0 [topFrame pos0]) = some (.next,⟨t1 w.params,196,{},⟨[]⟩,boot_drawn,428,os⟩,code,⟨96,0,100,26⟩):=by
  intro w os
  unfold piecesOf
  rw [PySem.W.Fast.te12563942051412417395,PySem.W.Fast.te10110043849684766642,PySem.W.Fast.te14364793385576792824]
  kernel_rfl
end Mine.H
namespace Mine.H
theorem p2:∀ (w:World) (os:OsState),segRunT treeTable pw w 11 (some (.ref 6)) 1 2085 ⟨t1 w.params,196,{},⟨[]⟩,boot_drawn,428,os⟩ (piecesOf (part 19 18) env code ⟨96,0,100,26⟩ [topFrame pos0]) = some (.next,⟨t2 w.params,455,{},⟨[]⟩,boot_drawn,781,os⟩,code,⟨181,0,233,82⟩):=by
  intro w os
  unfold piecesOf
  rw [PySem.W.Fast.te12563942051412417395,PySem.W.Fast.te10110043849684766642,PySem.W.Fast.te14364793385576792824]
  kernel_rfl
end Mine.H
namespace Mine.H
theorem p3:∀ (w:World) (os:OsState),segRunT treeTable pw w 11 (some (.ref 6)) 1 1596 ⟨t2 w.params,455,{},⟨[]⟩,boot_drawn,781,os⟩ (piecesOf (part 37 59) env code ⟨181,0,233,82⟩ [topFrame pos0]) = some (.next,⟨t3 w.params,789,{},⟨[]⟩,boot_drawn,1236,os⟩,code,⟨605,0,612,16⟩):=by
  intro w os
  unfold piecesOf
  rw [PySem.W.Fast.te12563942051412417395,PySem.W.Fast.te10110043849684766642,PySem.W.Fast.te14364793385576792824]
  kernel_rfl
end Mine.H
namespace Mine.H
theorem p4:∀ (w:World) (os:OsState),segRunT treeTable pw w 11 (some (.ref 6)) 1 1617 ⟨t3 w.params,789,{},⟨[]⟩,boot_drawn,1236,os⟩ (piecesOf (part 96 58) env code ⟨605,0,612,16⟩ [topFrame pos0]) = some (.next,⟨t4 w.params,1129,{},⟨[]⟩,boot_drawn,1694,os⟩,code,⟨994,0,994,8⟩):=by
  intro w os
  unfold piecesOf
  rw [PySem.W.Fast.te12563942051412417395,PySem.W.Fast.te10110043849684766642,PySem.W.Fast.te14364793385576792824]
  kernel_rfl
end Mine.H
namespace Mine.H
theorem p5:∀ (w:World) (os:OsState),segRunT treeTable pw w 11 (some (.ref 6)) 1 1623 ⟨t4 w.params,1129,{},⟨[]⟩,boot_drawn,1694,os⟩ (piecesOf (part 154 10) env code ⟨994,0,994,8⟩ [topFrame pos0]) = some (.next,⟨t5 w.params,1405,{},⟨[]⟩,boot_drawn,2142,os⟩,code,⟨1368,0,1398,121⟩):=by
  intro w os
  unfold piecesOf
  rw [PySem.W.Fast.te12563942051412417395,PySem.W.Fast.te10110043849684766642,PySem.W.Fast.te14364793385576792824]
  kernel_rfl
end Mine.H
namespace Mine.H
theorem bodyIs:behindTheImports pw = part 0 19++(part 19 18++(part 37 59++(part 96 58++(part 154 10++[])))):=by kernel_rfl
noncomputable def pos5:Pos:=⟨1368,0,1398,121⟩
theorem fin:∀ (w:World) (os:OsState),topRun treeTable pw w 11 (some (.ref 6)) 2 (SharedT.abs ⟨t5 w.params,1405,{},⟨[]⟩,boot_drawn,2142,os⟩) ⟨doneF .next,code,pos5,[topFrame pos0]⟩ = some (SharedT.abs ⟨t5 w.params,1405,{},⟨[]⟩,boot_drawn,2142,os⟩):=by
  intro w os
  rfl
theorem run:∀ (w:World) (os:OsState),topRun treeTable pw w 11 (some (.ref 6)) 8707 ⟨boot_heap w.params,⟨[]⟩,boot_drawn,boot_toks,os⟩ (topStub pw) = some ⟨absHeap (t5 w.params) 1405 {},⟨[]⟩,boot_drawn,2142,os⟩:=by
  intro w os
  refine go_top (n:=12) (N:=8695) (pre w os) ?_
  refine piece_block (n:=1) (N:=8694) (segRun_of (block w os)) ?_
  rw [bodyIs]
  refine piece_app (n:=1770) (N:=6924) (segRun_of (p1 w os)) ?_
  refine piece_app (n:=2085) (N:=4839) (segRun_of (p2 w os)) ?_
  refine piece_app (n:=1596) (N:=3243) (segRun_of (p3 w os)) ?_
  refine piece_app (n:=1617) (N:=1626) (segRun_of (p4 w os)) ?_
  refine piece_app (n:=1623) (N:=3) (segRun_of (p5 w os)) ?_
  refine piece_nil ?_
  exact topRun_mono 1 2 _ _ _ (fin w os)
end Mine.H
namespace Mine.H
noncomputable def H1 (P:Params):Heap:=absHeap (t5 P) 1405 {}
theorem lk1:∀ w:World,staticsOk (importedModules pw.main.body) (boot_heap w.params) (H1 w.params) = true:=by
  intro w;kernel_rfl
theorem lk2:∀ w:World,namesBound pw (H1 w.params) = true:=by
  intro w;unfold namesBound;rw [PySem.W.Fast.te18344453789297297638,PySem.W.Fast.sDec_eq];kernel_rfl
theorem lk3:∀ w:World,(fun os=>gensDone ⟨H1 w.params,⟨[]⟩,boot_drawn,2142,os⟩) = fun _=>true:=by
  intro w;kernel_rfl
theorem lk4:∀ w:World,laidKept (boot_heap w.params) (H1 w.params) = true:=by
  intro w;kernel_rfl
theorem sz:∀ w:World,((boot_heap w.params).isNs mainGlobals && (⟨[]⟩:Array GenState).size == 0,(boot_heap w.params).objs.size,(boot_heap w.params).nsMap mainGlobals "__annotations__") = (true,11,some (.ref 6)):=by
  intro w;kernel_rfl
end Mine.H
namespace Mine.H
noncomputable def q:Program:={ pw with main:={ pw.main with body:=part 163 1 } }
noncomputable def boundOf:List (Str×NameKind)→List Str
  | []=>[]
  | (x,.local)::l=>x::boundOf l
  | _::l=>boundOf l
noncomputable def loose:List Str:=boundOf pw.main.scope.names
theorem k1:∀ w:World,seen ((recsOf q).map (·.name)) (ownsOf q) [] ⟨H1 w.params,#[],boot_drawn,2142,default⟩ = expectedOf q:=by
  intro w;rw [PySem.W.Fast.te5160383126252970620];kernel_rfl
theorem k2:∀ w:World,(H1 w.params).bltView = bltViewBooted:=by
  intro w;kernel_rfl
theorem k3a:∀ w:World,(H1 w.params).keysOk (looseW q loose) ((recsOf q).map (·.name)) ((litsOf q).map (·.1)) ((clssOf q (looseW q loose)).map (·.name)) = true:=by
  intro w;rw [PySem.W.Fast.te10880121769531294198];kernel_rfl
theorem k3b:∀ w:World,(H1 w.params).accountedOkI (importedModules pw.main.body) = true:=by
  intro w;rw [PySem.W.Fast.te14722251495701143533];kernel_rfl
theorem k3c:∀ w:World,((H1 w.params).isNs mainGlobals && (H1 w.params).isNs builtinsNs && tablesOk q (H1 w.params)) = true:=by
  intro w;rw [PySem.W.Fast.te10994771534591457954];kernel_rfl
end Mine.H
namespace Mine.H
theorem k4:∀ w:World,(fun os=>tabsOk q ⟨H1 w.params,⟨[]⟩,boot_drawn,2142,os⟩) = fun _=>true:=by
  intro w;rw [PySem.W.Fast.te479339242167458305];kernel_rfl
theorem k5:∀ w:World,(fun os=>pinSeenD q (drecsOf q) ⟨H1 w.params,⟨[]⟩,boot_drawn,2142,os⟩) = fun _=>pinGoodD (drecsOf q):=by
  intro w;kernel_rfl
theorem k6:∀ w:World,(fun os=>plainSeenE q (looseW q loose) ⟨H1 w.params,⟨[]⟩,boot_drawn,2142,os⟩) = fun _=>plainGoodE q (looseW q loose):=by
  intro w;rw [PySem.W.Fast.te2386780881361962483];kernel_rfl
theorem k7:∀ w:World,(fun os=>plainSeenD q loose ⟨H1 w.params,⟨[]⟩,boot_drawn,2142,os⟩) = fun _=>plainGoodD q loose:=by
  intro w;kernel_rfl
theorem k8:∀ w:World,(fun os=>wideSeen q ⟨H1 w.params,⟨[]⟩,boot_drawn,2142,os⟩) = fun _=>wideGood q:=by
  intro w;rw [PySem.W.Fast.te7317090234206586261];kernel_rfl
theorem k9:∀ w:World,(fun os=>clsSeenW q loose ⟨H1 w.params,⟨[]⟩,boot_drawn,2142,os⟩) = fun _=>clsGoodW q loose:=by
  intro w;rw [PySem.W.Fast.te7369524293546568484];kernel_rfl
theorem k10:∀ w:World,(fun os=>xlAt q [] ⟨H1 w.params,⟨[]⟩,boot_drawn,2142,os⟩ && recOk [] ⟨H1 w.params,⟨[]⟩,boot_drawn,2142,os⟩) = fun _=>true:=by
  intro w;kernel_rfl
end Mine.H
namespace Mine.H
noncomputable def fsts:Frag→List Addr
  | []=>[]
  | p::l=>p.1::fsts l
noncomputable def asL:List Addr:=fsts (Mine.hd.heap_1 (aWorld 1).params)
theorem k11t:∀ P,asL.map (fun a=>(t5 P).get a) = (Mine.hd.heap_1 P).map fun p=>some p.2:=by
  intro P;kernel_rfl
end Mine.H
namespace Mine.H
noncomputable def live (o:Obj):Bool:=match o with
  | ⟨_,_,.freed,_⟩=>false
  | _=>true
theorem alive_of {o:Obj} (h:live o = true):alive o = some o:=by
  obtain ⟨c,d,dt,sl⟩:=o
  cases dt<;>first | rfl | cases h
theorem asIs:∀ P,asL = (Mine.hd.heap_1 P).map (·.1):=by intro P;kernel_rfl
theorem lowIs:asL.all (fun a=>Nat.ble a 1404) = true:=by kernel_rfl
theorem liveIs:∀ P,((Mine.hd.heap_1 P).map (·.2)).all live = true:=by intro P;kernel_rfl
theorem k11 (w:World):asL.map (H1 w.params).get? = (Mine.hd.heap_1 w.params).map fun p=>some p.2:=by
  rw [← k11t w.params]
  refine List.map_congr_left fun a ha=>?_
  have h1:a < 1405:=Nat.lt_succ_of_le (Nat.le_of_ble_eq_true (List.all_eq_true.mp lowIs a ha))
  have h2:=List.mem_map_of_mem (f:=fun a=>(t5 w.params).get a) ha
  rw [k11t w.params] at h2
  obtain ⟨p,hp,g⟩:=List.mem_map.mp h2
  rw [← g]
  exact (abs_get h1 g.symm).trans (alive_of (List.all_eq_true.mp (liveIs w.params) _ (List.mem_map_of_mem hp)))
end Mine.H
namespace Mine.H
theorem ws1:PySem.Challenge.rw_pq1429_01.row.wellSaid = true→PySem.Challenge.rw_pq1429_01.wellSaid = true:=by
  intro h
  rw [PySem.W.Fast.te17960256430627541270] at h
  rw [PySem.W.Fast.te9446332074065402090]
  unfold PySem.W.Fast.tw9446332074065402090
  repeat' (with_reducible refine look_both ?_ ?_)
  · exact h
  all_goals kernel_rfl
end Mine.H
namespace Mine.H
theorem ws2:looksOpen pw = true→PySem.Challenge.rw_pq1429_01.row.wellSaid = true:=by
  intro h
  rw [PySem.W.Fast.te12908688711261696721] at h
  rw [PySem.W.Fast.te17960256430627541270]
  unfold PySem.W.Fast.tw17960256430627541270 PySem.W.Fast.tw2436336058641802641
  repeat' (with_reducible refine look_both ?_ ?_)
  · exact h
  all_goals kernel_rfl
end Mine.H
namespace Mine.H
theorem lo1:sreFenced pw.main = true:=by kernel_rfl
theorem lo2:((moduleNames pw.main.body).isEmpty || lookedIntoSs (moduleNames pw.main.body) pw.main.body) = true:=by kernel_rfl
theorem lo3:namesResolve pw = true:=by rw [PySem.W.Fast.te8377067652309620493];kernel_rfl
theorem lo4:pw.boundNames.all (fun n=>!worldNames.contains n) = true:=by kernel_rfl
end Mine.H
namespace Mine.H
theorem rdv:readsOut pw pw.main.body "vars" = false:=by rw [PySem.W.Fast.te13343964577679436407];kernel_rfl
theorem rdd:readsOut pw pw.main.body "dir" = false:=by rw [PySem.W.Fast.te13343964577679436407];kernel_rfl
theorem rdl:readsOut pw pw.main.body "locals" = false:=by rw [PySem.W.Fast.te13343964577679436407];kernel_rfl
theorem nor:noRoadLSs { strict:=!(importedModules pw.main.body).all cThrough.contains,foot:=none,bare:=[] } pw.main.body = true:=by rw [PySem.W.Fast.te8326940854005059898];kernel_rfl
theorem fil {f:Str→Bool} {a b c:Str} (x:f a = false) (y:f b = false) (z:f c = false):[a,b,c].filter f = []:=by
  simp only [List.filter,x,y,z]
theorem lo5:noRoadLSs { strict:=!(importedModules pw.main.body).all cThrough.contains,foot:=none,bare:=(["vars", "dir", "locals"]:List Str).filter (readsOut pw pw.main.body) } pw.main.body = true:=by
  rw [fil rdv rdd rdl];exact nor
end Mine.H
namespace Mine.H
theorem lo6:namesMeet pw pw.main.body (fun _ n=>attrL n) = true:=by rw [PySem.W.Fast.te17119622794617984870,PySem.W.Fast.te17868728402115742887];kernel_rfl
end Mine.H
namespace Mine.H
theorem ws:PySem.Challenge.rw_pq1429_01.wellSaid = true:=by
  refine ws1 (ws2 ?_)
  unfold looksOpen
  exact look_both (look_both (look_both (look_both (look_both lo1 lo2) lo3) lo4) lo5) lo6
noncomputable abbrev hook:Hook:=kmHook Mine.hd.heap_1 asL asIs [936]
theorem t936:∀ P,(t5 P).get 936 = some (tabObj #[]):=by intro P;kernel_rfl
theorem k12 (w:World):[936].map (H1 w.params).get? = [936].map fun _=>some (tabObj #[]):=by
  have e:(H1 w.params).get? 936 = some (tabObj #[]):=(abs_get (by decide) (t936 w.params)).trans (alive_of rfl)
  show [(H1 w.params).get? 936] = [some (tabObj #[])]
  rw [e]
theorem opn:∀ w:World,(fencedOpening treeTable pw w 20000).map (fun s=>(s.heap,s.gens,s.drawn,s.toks)) = some (boot_heap w.params,Array.mk [],boot_drawn,boot_toks) :=
  boot_open (by kernel_rfl) (by decide) (by intro s;kernel_rfl)
theorem trip {α β γ:Type} {a a':α} {b b':β} {c c':γ} (x:a = a') (y:b = b') (z:c = c'):(a,b,c) = (a',b',c'):=by rw [x,y,z]
theorem seen9 {q:Program} {loose mods:List Str} {Xt:Shared→Bool} {h:Heap} {d:Drawn} {t:Nat} {os:OsState}
    (c1:seen ((recsOf q).map (·.name)) (ownsOf q) [] ⟨h,#[],d,t,os⟩ = expectedOf q) (c2:h.bltView = bltViewBooted)
    (c3:h.keysOk (looseW q loose) ((recsOf q).map (·.name)) ((litsOf q).map (·.1)) ((clssOf q (looseW q loose)).map (·.name)) = true) (c4:h.accountedOkI mods = true)
    (c5:(h.isNs mainGlobals && h.isNs builtinsNs && tablesOk q h) = true) (c6:Xt ⟨h,⟨[]⟩,d,t,os⟩ = true) (c7:tabsOk q ⟨h,⟨[]⟩,d,t,os⟩ = true)
    (c8:pinSeenD q (drecsOf q) ⟨h,⟨[]⟩,d,t,os⟩ = pinGoodD (drecsOf q)) (c9:plainSeenE q (looseW q loose) ⟨h,⟨[]⟩,d,t,os⟩ = plainGoodE q (looseW q loose))
    (c10:plainSeenD q loose ⟨h,⟨[]⟩,d,t,os⟩ = plainGoodD q loose) (c11:wideSeen q ⟨h,⟨[]⟩,d,t,os⟩ = wideGood q) (c12:clsSeenW q loose ⟨h,⟨[]⟩,d,t,os⟩ = clsGoodW q loose) :
    openSeen q loose mods Xt true ⟨h,⟨[]⟩,d,t,os⟩ = openGood q loose:=by
  unfold openSeen openGood
  rw [c7,c8,c9,c10,c11,c12]
  refine Prod.ext c1 (Prod.ext c2 (Prod.ext ?_ rfl))
  have b3:=Bool.and_eq_true_iff.mp c5
  have b4:=Bool.and_eq_true_iff.mp b3.1
  exact look_both (look_both (look_both (look_both (look_both (look_both c3 c4) b4.1) b4.2) b3.2) c6) rfl
theorem left:LeftO pw q loose (fun s=>xlAt q [] s && recOk [] s) hook.obs hook.val 20000 true :=
  LeftO.of_pieces (H₀:=boot_heap) (H₁:=H1) (gs₀:=⟨[]⟩) (gs₁:=⟨[]⟩) (d₀:=boot_drawn) (d₁:=boot_drawn) (k₀:=boot_toks) (k₁:=2142) (m₀:=11) (ann:=some (.ref 6)) (M:=8707) opn sz run (by kernel_rfl) fun w =>
    funext fun os=>trip (look_both (look_both (look_both (lk1 w) (lk2 w)) (congrFun (lk3 w) os)) (lk4 w))
      (seen9 (k1 w) (k2 w) (k3a w) (k3b w) (k3c w) (congrFun (k10 w) os) (congrFun (k4 w) os) (congrFun (k5 w) os) (congrFun (k6 w) os) (congrFun (k7 w) os) (congrFun (k8 w) os) (congrFun (k9 w) os)) (Prod.ext (k11 w) (k12 w))
end Mine.H
namespace Mine.H
noncomputable abbrev row:RowW:=PySem.Challenge.rw_pq1429_01.row.toRowW
noncomputable def dLaw:DefRec:=⟨fName (A 163),fPar (A 163),fBody (A 163),fScope (A 163),pos5⟩
theorem o1:chainsOk q = true:=by kernel_rfl
theorem o3:(!bearImports (behindTheImports pw)) = true:=by kernel_rfl
theorem o4:(frees row && row.within.isEmpty) = true:=by kernel_rfl
theorem o6:pw.theDef row.name = some (dLaw.params,dLaw.body,dLaw.scope):=by kernel_rfl
theorem o7:kwWritten? dLaw.params.kwonlyargs dLaw.params.kw_defaults = some []:=by kernel_rfl
theorem o5:defOf q row.name = some (dLaw,[]):=by kernel_rfl
theorem o8a:pw.tablesWhole = true:=by
  show TablesWhole.wProgram TablesWhole.holds pw = true
  unfold TablesWhole.wProgram TablesWhole.holds
  rw [PySem.W.Fast.te6116379765354995101,PySem.W.Fast.te15985051520779696433]
  kernel_rfl
theorem o8:pw.bare:=⟨rfl,rfl,rfl,rfl,rfl,o8a⟩
end Mine.H
namespace Mine.H
theorem o2:(opening pw).tameTopW = true:=by kernel_rfl
end Mine.H
namespace Mine.H
theorem wit:PySem.Challenge.rw_pq1429_01.row.toRowW.promised:=by w_witness2
theorem top (call:WalkO q loose (XL q []) hook.says row dLaw [] fun f vs=>PySem.call f vs):PySem.Challenge.rw_pq1429_01.Holds :=
  holds_law ws fun said=>holds_open (r:=PySem.Challenge.rw_pq1429_01.row) (q:=q) (loose:=loose) (Xt:=fun s=>xlAt q [] s && recOk [] s) (XP:=XL q []) (Yf:=hook.obs) (Ya:=hook.val) (YP:=hook.says) (N:=20000) (d:=dLaw) (kwd:=[]) left hook.of hook.keeps (fun s e=>xl_of s (Bool.and_eq_true_iff.mp e).1) XL.keeps o5 o6 o7 (fun s e=>recFacts_of (Bool.and_eq_true_iff.mp e).2) rfl said (look_both (look_both o1 (look_both o2 o3)) o4) o8 wit call
end Mine.H
open PySem.Spec PySem.Calls
namespace Mine
theorem kfill:PySem.Challenge.rw_pq1429_01 = PySem.Challenge.rw_pq1429_01∧Mine.hd.heap_1 = Mine.hd.heap_1:=by
  k_fill
  exact ⟨rfl,rfl⟩
noncomputable abbrev prog:=PySem.Challenge.pw_pq1429_01
noncomputable def LawEnd (g:Heap) (G:Array GenState) (D:Drawn) (O:OsState) (f:Flow) (s':Shared):Prop :=
  f = .ret (.bool true)∧∃ h tk ps,s' = ⟨h,G,D,tk,O⟩∧(∀ b o,g.get? b = some o→h.get? b = some o)∧h.get? 936 = some (tabObj ps)
noncomputable def looseC:List Str:=looseW H.q H.loose++(recsOf H.q).map (·.name)++(litsOf H.q).map (·.1)++(clssOf H.q (looseW H.q H.loose)).map (·.name)
noncomputable abbrev Cfg:=World×(ExcName→Option Value)×(Str→Option Value)×(Str→Option Value)×Array GenState×Drawn×OsState
noncomputable def Claim (c:Cfg):Prop:=∀ {dp un:Nat} {gd:Option (List Code)} {a:Addr} {ccd:Value} {A₀:Around} {h₀:Heap} {L:Addr}
  (_:Below A₀ h₀ [] h₀) (_:(hd.heap_1 (World.params c.1)).In h₀) (_:Top topProg looseC c.2.1 c.2.2.1 c.2.2.2.1 h₀) (_:dp + 60 < recursionLimit) (_:un + 700 < cLine)
  {m:Str→Option Value} {sl:Addr} {us:List Value} {l:List Int} {h:Heap} {tk:Nat} (_:Fr h₀ L h m) (_:News h₀ L h [(936,tabObj #[])]) (_:m = fun y=>List.lookup y [(Str.ofString "script", Value.ref sl)]) (_:h₀.IsList sl us.toArray) (_:IntsAre us l) (_:l.length≤63),
  wpAny (model prog c.1) (ktrTop dp un gd H.dLaw.name H.dLaw.scope L a ccd [] []) (execs (H.dLaw.body.drop 0) (envOf H.dLaw.name H.dLaw.scope L a ccd)) (LawEnd h₀ c.2.2.2.2.1 c.2.2.2.2.2.1 c.2.2.2.2.2.2) (fun _ _=>False) ⟨h,c.2.2.2.2.1,c.2.2.2.2.2.1,tk,c.2.2.2.2.2.2⟩
theorem cfg_ex:∃ c:Cfg,Claim c→∀ c',Claim c' :=
  (Classical.em (∀ c,Claim c)).elim (fun h=>⟨⟨aWorld 1,fun _=>none,fun _=>none,fun _=>none,#[],{},{}⟩,fun _=>h⟩) fun h=>(Classical.not_forall.mp h).elim fun c hc=>⟨c,fun q=>absurd @q hc⟩
noncomputable def cfg:Cfg:=Classical.choose cfg_ex
theorem cfg_all (h:Claim cfg):∀ c,Claim c:=Classical.choose_spec cfg_ex h
@[irreducible] noncomputable def w:World:=cfg.1
noncomputable abbrev p:Program:=topProg
@[irreducible] noncomputable def loose:List Str:=looseC
@[irreducible] noncomputable def mean:ExcName→Option Value:=cfg.2.1
@[irreducible] noncomputable def mg:Str→Option Value:=cfg.2.2.1
@[irreducible] noncomputable def mb:Str→Option Value:=cfg.2.2.2.1
@[irreducible] noncomputable def GC:Array GenState:=cfg.2.2.2.2.1
@[irreducible] noncomputable def DC:Drawn:=cfg.2.2.2.2.2.1
@[irreducible] noncomputable def OC:OsState:=cfg.2.2.2.2.2.2
theorem claim_cfg (h:∀ {dp un:Nat} {gd:Option (List Code)} {a:Addr} {ccd:Value} {A₀:Around} {h₀:Heap} {L:Addr}
  (_:Below A₀ h₀ [] h₀) (_:(hd.heap_1 (World.params w)).In h₀) (_:Top p loose mean mg mb h₀) (_:dp + 60 < recursionLimit) (_:un + 700 < cLine)
  {m:Str→Option Value} {sl:Addr} {us:List Value} {l:List Int} {h:Heap} {tk:Nat} (_:Fr h₀ L h m) (_:News h₀ L h [(936,tabObj #[])]) (_:m = fun y=>List.lookup y [(Str.ofString "script", Value.ref sl)]) (_:h₀.IsList sl us.toArray) (_:IntsAre us l) (_:l.length≤63),
  wpAny (model prog w) (ktrTop dp un gd H.dLaw.name H.dLaw.scope L a ccd [] []) (execs (H.dLaw.body.drop 0) (envOf H.dLaw.name H.dLaw.scope L a ccd)) (LawEnd h₀ GC DC OC) (fun _ _=>False) ⟨h,GC,DC,tk,OC⟩):Claim cfg:=by
  unfold w loose mean mg mb GC DC OC at h
  exact h
def kx (q:String):Lean.TSyntax `tactic:=⟨Lean.mkNode `PySem.W.tacticK_extra_ #[Lean.mkAtom "k_extra ", Lean.Syntax.mkStrLit q]⟩
def f2 (a:Lean.TSyntax `tactic):List (Lean.TSyntax `tactic)→Lean.MacroM (Lean.TSyntax `tactic)
  | []=>return a
  | t::l=>do
    let r ← f2 t l
    `(tactic| first | $a:tactic | $r:tactic)
def kw (s:String) (_:Lean.Syntax):Lean.MacroM Lean.Syntax:=return (kx s).raw
def kg (k:Lean.Syntax):Lean.MacroM Lean.Syntax:=return (kx ("@" ++ Lean.TSyntax.getString ⟨k[1]⟩)).raw
def gs:Std.HashMap String (List String):=Std.HashMap.ofList (("BB=a;KP=a;NS=a;K_ROOM=a;MEN=a;MEM=a;MED=a;K_MEM=a;ite=a v;eval Call=a e g;eval Name=a e by b8 dc dn dp dv;subscriptTail=a t dp d8;K_IS=a;execs cons=b o p bf ds;KTR_ROOM=b o u bi;KTR_UNITS=b o bi;K_NE=c dd dh di;LTA=c dd;SEV=d;isTrue Compare=d e;eval Compare=d;spliced=d e;eval Subscript=d g;eval BinOp=d;isTrue Name=d;exec Assign=d e df dr;eval Call Attribute=d;exec Return some=e;exec If=f dr;eval Attribute Name=g;eval Constant int=h;eval Constant str=h;newTuple=h bg bh;newList=h;call builtin:list.append=h;eval Tuple=h;eval List=h;HK3=h j;K_STEPS=h;L_FACT=h;SIZE_FITS=h di;storeName=i o q;HK1=j;HK2=j;ENTER=k l m c6;ENTERC=k c6;LST=l m;call ref=m n r s w y z 0 1 2 4 5 6 bc bg bh bn bo bp bq br bs bt bu bv b0 b1 b3 b4 b9 ca cb cd cf cg ch ci cj ck cl cm cn cs ct c0 c1 c3 c4 c9 da db de dg dl dn dp dq dt du dw dy dz d3 d4 d5 d6;truthy ref=t dj;call builtin:len=t c2 c3 dp;subscriptTail Attribute=t;subscriptTail Name=t bn dp dq;eval ListComp=x bx dn;CompSrc=x bn c8 dn;exec For Name Name cons nil=3 9 bj bn bz b7 c5 de dk;pyIter ref=3 8 9 bd bj bn bw bz b7 ce cv c5 dk dw;CompEnd=7;exec For Name Call cons nil=8 bj cu;URest=8 bj c5 dk;UPost=8 bj c5 dk;UEnd=8 bj c5 dk;exec For Name Attribute cons nil=9;INMAP=ba;ALLNE=ba bg bh bn b6 dg;K_ALL=ba b6 cr dg;compareOp Eq str str=bb dq;exec While BoolOp cons nil=be;exec While Compare cons nil=be;compareOp In str ref=bk bn;getMethod ref=bl du;call builtin:dict.get=bl;setAttr ref=bm dt du;subscriptTail Name Subscript ref int=bn;call type:list=bn dx d0;RE=bp;exec Raise some none=bp;Exists=bp b5;leaving ref=bp;exec Assign cons ListComp=bx b5 c7;CompSrcT=bx c8;subscriptTail Name Constant ref int=b2 cz;call builtin:sorted=b7 dp;DEL=b8 cc cq de dw;exec FunctionDef=b8;ENTERN=b8;NE9=cc cq de;subscriptTail Name Slice ref ref=cc d1;subscriptTail Name Name ref int=cc cp;exec For Tuple Name cons nil=ce;ItemsRest=ce;QD=co;subscriptTail Name BinOp ref int=cp;MK=cp;TABNE=cr;K_UPDF=cr;APPNE=cr;exec For Name Subscript cons nil=cu;eval IfExp=cw;call builtin:list.reverse=cx;compareOp Eq ref ref=cy dp dq d8;K_UPD=dc;NE1=de;SHARES=de;H6=df;NEL=dh;ENTERR=dm;setItem ref ref=dn;setItem=dn;callWith ref=dn;noteFrame ref=dn;getAttr ref=dn dt;bind=dn;LT3=dn;binaryOp FloorDiv int int=do;compareOp NotEq ref ref=dp dz d3 d4 d5 d6;compareOp Eq int int=dp;call builtin:sum=dp;binaryOp Mult ref int=dq;NEC=dw;call type:range=dw;LT9=d2;LT8=d2;exec For Name List cons nil=d7;last subscriptTail=d8;subscriptTail Name Constant str ref str=d8".splitOn ";").map fun e=>match e.splitOn "=" with | [k,v]=>(k,v.splitOn " ") | _=>("", []))
def mq (g:String) (k:Lean.Syntax):Lean.MacroM Lean.Syntax:=do
  let s:=Lean.TSyntax.getString ⟨k[1]⟩
  unless s.startsWith "@" do Lean.Macro.throwUnsupported
  let s:=(s.drop 1).toString
  let a:=gs.getD s []
  let b:=if s.startsWith "subscriptTail " then gs.getD "subscriptTail" [] else []
  let f (x:String) (t:List (Lean.TSyntax `tactic)):List (Lean.TSyntax `tactic) :=
    let t:=if b.contains x then kx (x ++ " subscriptTail")::t else t
    if a.contains x then kx (x ++ " " ++ s)::t else t
  match (g.splitOn " ").foldr f [] with
  | []=>Lean.Macro.throwUnsupported
  | t::l=>do
    let t ← f2 t l
    if s.any Char.isLower then `(tactic| ((fail_if_success plain_pass);$t)) else return t
variable {dp un:Nat} {gd:Option (List Code)} {cn:Str} {cs:Scope} {a:Addr} {ccd:Value} {cl:List (Str×Addr)} {outer:List Env} {A₀:Around} {base h₀:Heap} {L:Addr} {m:Str→Option Value} {news:List (Addr×Obj)} {hpS:Heap} {tkS:Nat} {Q E:Value→Shared→Prop}
local macro_rules (kind := PyProof.Rows.tacticWalk_at_) | s => kg s
local macro_rules (kind := PySem.W.tacticK_room) | s => kw "@K_ROOM" s
local macro_rules (kind := PySem.W.tacticK_mem) | s => kw "@K_MEM" s
local macro_rules (kind := PySem.W.tacticK_is) | s => kw "@K_IS" s
local macro_rules (kind := PySem.W.tacticKtr_room) | s => kw "@KTR_ROOM" s
local macro_rules (kind := PySem.W.tacticKtr_units) | s => kw "@KTR_UNITS" s
local macro_rules | `(tactic| k_lt $h:ident) => `(tactic| (replace $h := PySem.W.allLt_of $h; dsimp only [PySem.W.AllLt] at $h:ident))
local macro_rules (kind := PySem.W.tacticK_ne) | s => kw "@K_NE" s
local macro_rules (kind := PySem.W.tacticK_steps) | s => kw "@K_STEPS" s
local macro_rules (kind := PySem.W.tacticL_fact) | s => kw "@L_FACT" s
local macro_rules (kind := tacticSize_fits) | s => kw "@SIZE_FITS" s
local macro_rules (kind := PySem.W.tacticK_all) | s => kw "@K_ALL" s
local macro_rules (kind := PySem.W.tacticK_updF) | s => kw "@K_UPDF" s
local macro_rules (kind := PySem.W.tacticK_upd) | s => kw "@K_UPD" s
example:True:=by
  k_with "a BB" => (with_reducible first | exact bbAll.1 | exact bbAll.2.1 | exact bbAll.2.2)
  k_with "a KP" => (with_reducible first | exact (kpAll _).2.2 | exact (kpAll _).2.1.1 | exact (kpAll _).1.2.2.2 | exact (kpAll _).2.1.2.1 | exact (kpAll _).2.1.2.2 | exact (kpAll _).1.1.2.2.1 | exact (kpAll _).1.1.2.2.2 | exact (kpAll _).1.2.1.1.1 | exact (kpAll _).1.2.1.1.2 | exact (kpAll _).1.2.1.2.1 | exact (kpAll _).1.2.1.2.2 | exact (kpAll _).1.2.2.1.1 | exact (kpAll _).1.2.2.1.2 | exact (kpAll _).1.1.2.1.1.2 | exact (kpAll _).1.1.2.1.2.1 | exact (kpAll _).1.1.2.1.2.2 | exact (kpAll _).1.1.1.1.1.1.1 | exact (kpAll _).1.1.1.1.1.1.2 | exact (kpAll _).1.1.1.1.1.2.1 | exact (kpAll _).1.1.1.1.1.2.2 | exact (kpAll _).1.1.1.1.2.1.1 | exact (kpAll _).1.1.1.1.2.1.2 | exact (kpAll _).1.1.1.1.2.2.1 | exact (kpAll _).1.1.1.1.2.2.2 | exact (kpAll _).1.1.1.2.1.1.1 | exact (kpAll _).1.1.1.2.1.1.2 | exact (kpAll _).1.1.1.2.1.2.1 | exact (kpAll _).1.1.1.2.1.2.2 | exact (kpAll _).1.1.1.2.2.1.1 | exact (kpAll _).1.1.1.2.2.1.2 | exact (kpAll _).1.1.1.2.2.2.1 | exact (kpAll _).1.1.1.2.2.2.2 | exact (kpAll _).1.1.2.1.1.1.1 | exact (kpAll _).1.1.2.1.1.1.2)
  k_with "a NS" => (with_reducible first | exact (nsAll _).1.1.2 | exact (nsAll _).2.1.2 | exact (nsAll _).2.1.1.1 | exact (nsAll _).1.2.1.1.2 | exact (nsAll _).1.2.1.2.1 | exact (nsAll _).1.2.2.2.2 | exact (nsAll _).2.1.1.2.2 | exact (nsAll _).2.2.1.1.1 | exact (nsAll _).2.2.1.1.2 | exact (nsAll _).2.2.1.2.1 | exact (nsAll _).1.1.1.2.1.2 | exact (nsAll _).1.1.1.2.2.1 | exact (nsAll _).1.1.1.2.2.2 | exact (nsAll _).1.2.1.1.1.1 | exact (nsAll _).1.2.1.1.1.2 | exact (nsAll _).1.2.1.2.2.2 | exact (nsAll _).1.2.2.1.1.1 | exact (nsAll _).1.2.2.1.1.2 | exact (nsAll _).1.2.2.1.2.1 | exact (nsAll _).1.2.2.1.2.2 | exact (nsAll _).1.2.2.2.1.1 | exact (nsAll _).1.2.2.2.1.2 | exact (nsAll _).2.1.1.2.1.1 | exact (nsAll _).1.1.1.1.1.2.1 | exact (nsAll _).1.1.1.1.1.2.2 | exact (nsAll _).1.1.1.1.2.1.1 | exact (nsAll _).1.1.1.1.2.1.2 | exact (nsAll _).1.1.1.1.2.2.1 | exact (nsAll _).1.1.1.1.2.2.2 | exact (nsAll _).1.1.1.2.1.1.1 | exact (nsAll _).1.1.1.2.1.1.2 | exact (nsAll _).1.2.1.2.2.1.1 | exact (nsAll _).1.1.1.1.1.1.1.1 | exact (nsAll _).1.1.1.1.1.1.1.2 | exact (nsAll _).1.1.1.1.1.1.2.1 | exact (nsAll _).1.1.1.1.1.1.2.2 | exact (nsAll _).1.2.1.2.2.1.2 | exact (nsAll _).2.1.1.2.1.2.1 | exact (nsAll _).2.1.1.2.1.2.2 | exact (nsAll _).2.2.1.2.2.1.1 | exact (nsAll _).2.2.1.2.2.1.2 | exact (nsAll _).2.2.1.2.2.2.1 | exact (nsAll _).2.2.1.2.2.2.2 | exact (nsAll _).2.2.2.1.1.1.1 | exact (nsAll _).2.2.2.1.1.1.2 | exact (nsAll _).2.2.2.1.1.2.1 | exact (nsAll _).2.2.2.1.1.2.2 | exact (nsAll _).2.2.2.1.2.1.1 | exact (nsAll _).2.2.2.1.2.1.2 | exact (nsAll _).2.2.2.1.2.2.1 | exact (nsAll _).2.2.2.1.2.2.2 | exact (nsAll _).2.2.2.2.1.1.1 | exact (nsAll _).2.2.2.2.1.1.2 | exact (nsAll _).2.2.2.2.1.2.1 | exact (nsAll _).2.2.2.2.1.2.2 | exact (nsAll _).2.2.2.2.2.1.1 | exact (nsAll _).2.2.2.2.2.1.2 | exact (nsAll _).2.2.2.2.2.2.1 | exact (nsAll _).2.2.2.2.2.2.2)
  k_with "a K_ROOM" => (ktr_room)
  k_with "a MEN" => (first | with_reducible exact List.mem_cons_self | (with_reducible refine' List.mem_cons_of_mem _ ?_;k_extra "@MEN") | (with_reducible refine' List.mem_append_right _ ?_;k_extra "@MEN") | (with_reducible refine' List.mem_append_left _ ?_;k_extra "@MEN") | with_reducible assumption)
  k_with "a MEM" => (first | with_reducible assumption | k_extra "@MEN")
  k_with "a MED" => (first | assumption | exact List.Mem.head _ | (refine' List.Mem.tail _ ?_;k_extra "@MED") | (refine' List.mem_append_right _ ?_;k_extra "@MED") | (refine' List.mem_append_left _ ?_;k_extra "@MED"))
  k_with "a K_MEM" => (first | k_extra "@MEM" | k_extra "@MED")
  k_with "a ite" => ((first | with_reducible refine PySem.W.ite_neg Bool.false_ne_true ?_ | with_reducible refine PySem.W.ite_pos (rfl:true = true) ?_ | (k_closed;first | (with_reducible refine' PySem.W.ite_pos ?ia__ ?_;(case ia__=>decide)) | (with_reducible refine' PySem.W.ite_neg ?ib__ ?_;(case ib__=>decide)))))
  k_with "a eval Call" => (first | (k_here;k_compRoot) | ((with_reducible refine (?_:wpAny _ _ (eval (Expr.Call (Expr.Name _ _) _ (_::_) _) _) _ _ _));k_dflt (refine wpAny_Call_Name_kw ?_)) | k_dflt (refine Call_ ?_))
  k_with "a eval Name" => ((k_here;(with_reducible refine (?_:wpAny _ _ (eval (Expr.Name _ _) (envOf _ _ _ _ _)) _ _ _));k_dflt (first | (refine' nameX_L ?F__ ?v__ ?_ ?a__ ?b__;(case F__=>k_asm);(case a__=>eq_refl);(case b__=>eq_refl);(case v__=>eq_refl);k_whole) | (refine' nameX_K ?F__ ?X__ ?T__ ?e__ ?_ ?a__ ?b__;(case F__=>k_asm);(case X__=>k_asm);(case T__=>k_asm);(case a__=>eq_refl);(case b__=>eq_refl);(case e__=>first | k_extra "@NS" | k_is);k_whole))))
  k_with "a subscriptTail" => ((k_here;(with_reducible refine (?_:wpAny _ _ (subscriptTail _ _ (Value.ref _) (Value.int _ _)) _ _ _));k_dflt (refine' item_tupleT ?t__ ?a__ ?b__ ?c__ ?d__ ?_;(case t__=>exact News.isTup (by k_asm) (by k_mem));(case a__=>decide);(case b__=>decide);(case c__=>eq_refl);(case d__=>eq_refl);k_whole)))
  k_with "a K_IS" => (((with_reducible apply look_fn);k_is;exact rfl))
  k_with "b execs cons" => ((k_here;first | (with_reducible refine execs_one ?_) | (with_reducible refine execs_let ?_;intro QL_)))
  k_with "b KTR_ROOM" => (first | exact room2 (by assumption) rfl | exact room1 (by assumption) rfl | exact room3 (by assumption) rfl | exact room0 (by assumption) | ((simp +zetaDelta only [depth_under_make,depth_under_kw,depth_in1,depth_deeper,depth_caller]);first | exact room2 (by assumption) rfl | exact room1 (by assumption) rfl | exact room3 (by assumption) rfl))
  k_with "b KTR_UNITS" => (first | exact room2 (by assumption) rfl | exact room1 (by assumption) rfl | exact room3 (by assumption) rfl)
  k_with "c K_NE" => (first | assumption | exact Ne.symm (by assumption) | (with_reducible exact Nat.ne_of_gt (by k_extra "@LTA")) | (with_reducible exact Nat.ne_of_lt (by k_extra "@LTA")) | (with_reducible refine' Nat.ne_of_gt (Nat.lt_trans ?a__ ?b__);(case b__=>with_reducible assumption);(case a__=>k_extra "@LTA")) | (with_reducible refine' Nat.ne_of_lt (Nat.lt_trans ?a__ ?b__);(case b__=>with_reducible assumption);(case a__=>k_extra "@LTA")))
  k_with "c LTA" => (first | with_reducible assumption | with_reducible exact And.left (by assumption) | with_reducible exact And.left (And.right (by assumption)) | with_reducible exact And.left (And.right (And.right (by assumption))) | with_reducible exact And.left (And.right (And.right (And.right (by assumption)))) | with_reducible exact And.left (And.right (And.right (And.right (And.right (by assumption))))) | with_reducible exact And.left (And.right (And.right (And.right (And.right (And.right (by assumption)))))) | with_reducible exact And.left (And.right (And.right (And.right (And.right (And.right (And.right (by assumption))))))))
  k_with "d SEV" => (first | eq_refl | assumption)
  k_with "d isTrue Compare" => ((k_here;k_dflt (refine' cmpT_S ?F__ ?k__ ?hs__ ?hm__ ?_;(case F__=>k_asm);(case k__=>k_extra "@SEV");(case hs__=>eq_refl);(case hm__=>with_unfolding_all rfl);k_whole)))
  k_with "d eval Compare" => ((k_here;k_dflt (refine' cmpE_S ?F__ ?k__ ?hs__ ?hm__ ?_;(case F__=>k_asm);(case k__=>k_extra "@SEV");(case hs__=>eq_refl);(case hm__=>with_unfolding_all rfl);k_whole)))
  k_with "d spliced" => ((k_here;k_dflt (refine' args_S ?F__ ?k__ ?hs__ ?_;(case F__=>k_asm);(case k__=>k_extra "@SEV");(case hs__=>eq_refl);k_whole)))
  k_with "d eval Subscript" => ((k_here;k_dflt (refine' subV_S ?F__ ?k__ ?hs__ ?_;(case F__=>k_asm);(case k__=>k_extra "@SEV");(case hs__=>eq_refl);k_whole)))
  k_with "d eval BinOp" => ((k_here;k_dflt (first | (refine' bin2_S ?F__ ?k__ ?h1__ ?h2__ ?_;(case F__=>k_asm);(case k__=>k_extra "@SEV");(case h1__=>eq_refl);(case h2__=>eq_refl);k_whole) | (refine' binL_S ?F__ ?k__ ?hs__ ?_;(case F__=>k_asm);(case k__=>k_extra "@SEV");(case hs__=>eq_refl);k_whole))))
  k_with "d isTrue Name" => ((k_here;k_dflt (first | (refine' testB_S ?F__ ?k__ ?hs__ ?he__ ?_;(case F__=>k_asm);(case k__=>k_extra "@SEV");(case hs__=>eq_refl);(case he__=>eq_refl);k_whole) | (refine' test_S ?F__ ?k__ ?hs__ ?_ ?he__;(case F__=>k_asm);(case k__=>k_extra "@SEV");(case hs__=>eq_refl);(case he__=>eq_refl);k_whole))))
  k_with "d exec Assign" => ((k_here;(with_reducible refine (?_:wpAny _ _ (exec (Stmt.Assign [Expr.Attribute _ _ _] _ _) _) _ _ _));k_dflt (refine' setA_S ?F__ ?k__ ?h1__ ?h2__ ?hw__ ?_;(case F__=>k_asm);(case k__=>k_extra "@SEV");(case h1__=>eq_refl);(case h2__=>eq_refl);(case hw__=>with_unfolding_all rfl);k_whole)))
  k_with "d eval Call Attribute" => ((k_here;(with_reducible refine (?_:wpAny _ _ (eval (Expr.Call (Expr.Attribute _ _ _) _ [] _) _) _ _ _));k_dflt (refine' mth_S ?F__ ?k__ ?hs__ ?_ ?he__;(case F__=>k_asm);(case k__=>k_extra "@SEV");(case hs__=>eq_refl);(case he__=>with_unfolding_all rfl);k_whole)))
  k_with "e eval Name" => ((k_here;(fail_if_success (with_reducible refine (?_:wpAny _ _ (eval (Expr.Name _ _) (compEnvC _ _ _ _)) _ _ _)));k_dflt (first | (refine' nameS ?F__ ?k__ ?hs__ ?_;(case F__=>k_asm);(case k__=>first | eq_refl | assumption);(case hs__=>eq_refl);k_whole) | (refine' nameG ?F__ ?X__ ?T__ ?k__ ?e__ ?hx__ ?_;(case F__=>k_asm);(case X__=>k_asm);(case T__=>k_asm);(case e__=>k_extra "@NS");(case k__=>first | eq_refl | assumption);(case hx__=>kernel_rfl);k_whole))))
  k_with "e eval Call" => ((k_here;(with_reducible refine (?_:wpAny _ _ (eval (Expr.Call (Expr.Name _ _) _ [] _) _) _ _ _));k_dflt (refine' callS ?F__ ?X__ ?T__ ?k__ ?e__ ?kk__ ?hx__ ?hs__ ?_;(case F__=>k_asm);(case X__=>k_asm);(case T__=>k_asm);(case k__=>first | eq_refl | assumption);(case e__=>first | k_extra "@NS" | k_is);(case hx__=>kernel_rfl);(case kk__=>first | k_extra "@KP" | k_is);(case hs__=>eq_refl);k_whole)))
  k_with "e spliced" => ((k_here;k_dflt (refine' sevs_ok ?F__ ?k__ ?hs__ ?_;(case F__=>k_asm);(case k__=>first | eq_refl | assumption);(case hs__=>eq_refl);k_whole;(try dsimp only [List.nil_append,List.cons_append]))))
  k_with "e isTrue Compare" => ((k_here;k_dflt (refine' sev2_isTrue ?F__ ?k__ ?h1__ ?h2__ ?_ ?hm__;(case F__=>k_asm);(case k__=>first | eq_refl | assumption);(case h1__=>eq_refl);(case h2__=>eq_refl);(case hm__=>with_unfolding_all rfl);k_whole)))
  k_with "e exec Assign" => ((k_here;(with_reducible refine (?_:wpAny _ _ (exec (Stmt.Assign [Expr.Name _ _] _ _) _) _ _ _));k_dflt (refine' sev_assign ?F__ ?k__ ?hs__ ?_ ?hw__;(case F__=>k_asm);(case k__=>first | eq_refl | assumption);(case hs__=>eq_refl);(case hw__=>eq_refl);k_whole)))
  k_with "e exec Return some" => ((k_here;k_dflt (refine' sev_return ?F__ ?k__ ?hs__ ?_;(case F__=>k_asm);(case k__=>first | eq_refl | assumption);(case hs__=>eq_refl);k_whole)))
  k_with "f exec If" => ((k_here;k_dflt (first | (refine' if_t ?F__ ?k__ ?hs__ ?_;(case F__=>k_asm);(case k__=>first | eq_refl | assumption);(case hs__=>eq_refl);k_whole) | (refine' if_f ?F__ ?k__ ?hs__ ?_;(case F__=>k_asm);(case k__=>first | eq_refl | assumption);(case hs__=>eq_refl);k_whole))))
  k_with "g eval Attribute Name" => ((k_here;k_dflt (refine' attr_S ?F__ ?k__ ?hs__ ?_;(case F__=>k_asm);(case k__=>first | eq_refl | assumption);(case hs__=>eq_refl);k_whole)))
  k_with "g eval Subscript" => ((k_here;k_dflt (refine' sub_S ?F__ ?k__ ?h1__ ?h2__ ?_;(case F__=>k_asm);(case k__=>first | eq_refl | assumption);(case h1__=>eq_refl);(case h2__=>eq_refl);k_whole)))
  k_with "g eval Call" => ((k_here;(with_reducible refine (?_:wpAny _ _ (eval (Expr.Call (Expr.Name _ _) (_::_) [] _) _) _ _ _));k_dflt (first | (refine' callB ?F__ ?X__ ?T__ ?k__ ?e__ ?hv__ ?hn__ ?hx__ ?hs__ ?_;(case hv__=>k_extra "@BB");(case F__=>k_asm);(case X__=>k_asm);(case T__=>k_asm);(case k__=>first | eq_refl | assumption);(case hn__=>decide);(case e__=>first | k_extra "@NS" | k_is);(case hx__=>kernel_rfl);(case hs__=>eq_refl);k_whole) | (refine' callS ?F__ ?X__ ?T__ ?k__ ?e__ ?kk__ ?hx__ ?hs__ ?_;(case F__=>k_asm);(case X__=>k_asm);(case T__=>k_asm);(case k__=>first | eq_refl | assumption);(case e__=>first | k_extra "@NS" | k_is);(case hx__=>kernel_rfl);(case kk__=>first | k_extra "@KP" | k_is);(case hs__=>eq_refl);k_whole))))
  k_with "h eval Constant int" => ((k_here;k_dflt (refine cIntE ?_)))
  k_with "h eval Constant str" => ((k_here;k_dflt (refine cStrE ?_)))
  k_with "h newTuple" => ((k_here;k_dflt (refine' newTupE ?F__ ?N__ ?_ ?z__;(case F__=>k_asm);(case N__=>k_asm);(case z__=>kmk_size));intro D'_ h'_ F'_ N'_ l1_;(first | (dsimp only [PySem.W.AllLt] at l1_) | (replace l1:=kst_ltOf l1_));(try k_sweep)))
  k_with "h newList" => ((k_here;k_dflt (refine' newListE ?F__ ?N__ ?_ ?z__;(case F__=>k_asm);(case N__=>k_asm);(case z__=>size_fits));intro l'_ h'_ F'_ N'_ l1_;(first | (dsimp only [PySem.W.AllLt] at l1_) | (replace l1:=kst_ltOf l1_));(try k_sweep)))
  k_with "h call builtin:list.append" => ((k_here;(with_reducible refine (?_:wpAny _ _ (call (Value.builtin _) [Value.ref _,_]) _ _ _));k_dflt (refine' appendE ?k1__ ?k2__ ?k3__ ?_ ?z__;(case k1__=>k_asm);(case k2__=>k_asm);(case k3__=>k_upd);(case z__=>size_fits);k_whole);intro h'_ F'_ N'_;(try k_sweep)))
  k_with "h eval Tuple" => ((k_here;k_dflt (refine' evTupE ?F__ ?N__ ?k__ ?hs__ ?z__ ?_;(case F__=>k_asm);(case N__=>k_asm);(case k__=>first | eq_refl | assumption);(case hs__=>eq_refl);(case z__=>eq_refl);k_whole);intro D'_ h'_ F'_ N'_ l1_;(first | (dsimp only [PySem.W.AllLt] at l1_) | (replace l1:=kst_ltOf l1_));(try k_sweep)))
  k_with "h eval List" => ((k_here;k_dflt (refine' evListE ?F__ ?N__ ?k__ ?hs__ ?z__ ?_;(case F__=>k_asm);(case N__=>k_asm);(case k__=>first | eq_refl | assumption);(case hs__=>eq_refl);(case z__=>eq_refl);k_whole);intro l'_ h'_ F'_ N'_ l1_;(first | (dsimp only [PySem.W.AllLt] at l1_) | (replace l1:=kst_ltOf l1_));(try k_sweep)))
  k_with "h HK3" => (skip)
  k_with "h K_STEPS" => (repeat' (first | ((fail_if_success (fail_if_success k_unfold));(with_reducible refine (?_:wpAny _ _ _ _ _ _))) | (k_unfold;(try dsimp only)) | (k_end;kc_close) | walk1 | (dsimp only;walk1) | (leave1;walk_say "STEP leave1"; (try dsimp only)) | fail "no step"))
  k_with "h L_FACT" => (first | with_reducible assumption | with_reducible exact lo64 (by assumption) | with_reducible exact hi64 (by assumption) | with_reducible exact lo64p (by assumption) | exact (by decide:(-2 ^ 64:Int) < 1) | exact (by decide:(1:Int) < 2 ^ 64) | exact (by decide:(-2 ^ 64:Int) < 0) | exact (by decide:(0:Int) < 2 ^ 64))
  k_with "h SIZE_FITS" => ((rw [PySem.sizeLine_eq];exact Nat.le_of_ble_eq_true rfl))
  k_with "i storeName" => ((k_here;k_dflt (refine' storeXE ?F__ ?N__ ?_ ?a__ ?b__;(case F__=>k_asm);(case N__=>k_asm);(case a__=>eq_refl);(case b__=>eq_refl);k_whole;intro h'_ F'_ N'_;(try k_sweep))))
  k_with "j HK1" => ((k_asm;k_asm;k_asm;k_asm;k_asm;(first | exact rfl | assumption)))
  k_with "j HK2" => ((ktr_room;ktr_units))
  k_with "j HK3" => (((try dsimp only);(try k_fold)))
  k_with "k ENTER" => ((refine wpAny_call ?_;k_dflt (refine' code_def ?k1__ ?k2__ ?k3__ ?k4__ ?k5__ ?kA__ ?kF__ ?kK__ ?k6__ ?k7__ ?k8__ ?k9__ ?kB__ ?_ ?c2__ ?c3__ ?c4__ ?c5__;(case kA__=>eq_refl);(case kF__=>eq_refl);(case kK__=>first | with_reducible assumption | assumption);(case k1__=>k_asm);(case k2__=>k_asm);(case k3__=>k_asm);(case k4__=>k_asm);(case k5__=>k_asm);(case k6__=>k_is);(case k7__=>k_is);(case k8__=>ktr_room);(case k9__=>first | exact BindsTo.of_eq rfl | exact binds_K (by k_in) rfl (by k_is) rfl rfl rfl);(case c5__=>decide);(case kB__=>exact locs rfl);(case c2__=>eq_refl);(case c3__=>eq_refl);(case c4__=>eq_refl);k_whole;intro g'_ L'_ h'_ FG'_ F'_ N'_ B'_ X'_ T'_;(try dsimp only);(try k_fold);refine let_body F'_ ?_;clear F'_;intro mL_ eL_ AL_ QL_ EL_ F9_)))
  k_with "k ENTERC" => ((refine wpAny_call ?_;k_dflt (refine' code_defC ?k1__ ?k2__ ?k3__ ?k4__ ?k5__ ?kA__ ?kF__ ?kK__ ?k6__ ?k7__ ?k8__ ?k9__ ?kB__ ?kD__ ?_ ?c2__ ?c3__ ?c4__;(case kA__=>eq_refl);(case kF__=>eq_refl);(case kK__=>first | with_reducible assumption | assumption);(case k1__=>k_asm);(case k2__=>k_asm);(case k3__=>k_asm);(case k4__=>k_asm);(case k5__=>k_asm);(case k6__=>k_is);(case k7__=>k_is);(case k8__=>ktr_room);(case k9__=>first | exact BindsTo.of_eq rfl | exact binds_K (by k_in) rfl (by k_is) rfl rfl rfl);(case kB__=>eq_refl);(case kD__=>decide +kernel);(case c2__=>eq_refl);(case c3__=>eq_refl);(case c4__=>eq_refl);k_whole;intro g'_ L'_ h'_ tk'_ cells'_ FG'_ F'_ N'_ Y'_ B'_ X'_ T'_ l1_;(try k_lt l1_);k_cells Y'_;(try simp only [List.cons_append,List.nil_append] at N'_);(try dsimp only);(try k_fold);refine let_body F'_ ?_;clear F'_;intro mL_ eL_ AL_ QL_ EL_ F9_)))
  k_with "l LST" => (first | exact lst1 rfl | exact lst2 rfl | exact lst3 rfl | exact lst4 rfl | exact lst5 rfl | exact lst0 rfl | exact rfl)
  k_with "l ENTER" => ((k_dflt (refine' enterF ?k1__ ?k2__ ?k3__ ?k4__ ?k5__ ?kA__ ?kF__ ?kK__ ?k6__ ?k7__ ?k8__ ?k9__ ?kB__ ?kL__ ?_ ?c2__ ?c3__ ?c4__ ?c5__;(case kA__=>eq_refl);(case kF__=>eq_refl);(case kK__=>first | eq_refl | assumption);(case k1__=>k_asm);(case k2__=>k_asm);(case k3__=>k_asm);(case k4__=>k_asm);(case k5__=>k_asm);(case k6__=>k_is);(case k7__=>k_is);(case k8__=>ktr_room);(case k9__=>first | exact BindsTo.of_eq rfl | exact binds_K (by k_in) rfl (by k_is) rfl rfl rfl);(case c5__=>decide);(case kB__=>exact locs rfl);(case kL__=>k_extra "@LST");(case c2__=>eq_refl);(case c3__=>eq_refl);(case c4__=>eq_refl);k_whole;intro g'_ L'_ h'_ tk'_ FG'_ N'_ B'_ X'_ T'_ mL_ eL_ AL_ RL_ QL_ EL_ F9_)))
  k_with "m LST" => (first | exact lst1 rfl | exact lst2 rfl | exact lst3 rfl | exact lst4 rfl | exact lst5 rfl | exact lst0 rfl | exact rfl)
  k_with "m ENTER" => ((k_dflt first | (refine' enterY ?k1__ ?k2__ ?k3__ ?k4__ ?k5__ ?kK__ ?k6__ ?k7__ ?k8__ ?kL__ ?k9__ ?kB__ ?_;(case k1__=>k_asm);(case k2__=>k_asm);(case k3__=>k_asm);(case k4__=>k_asm);(case k5__=>k_asm);(case kK__=>first | eq_refl | assumption);(case k6__=>k_is);(case k7__=>k_is);(case k8__=>ktr_room);(case kL__=>k_extra "@LST");(case k9__=>eq_refl);(case kB__=>eq_refl);k_whole;intro g'_ L'_ h'_ tk'_ FG'_ N'_ X'_ T'_ ouL_ dL_ uL_ A1L_ B'_ mL_ eL_ AL_ RL_ QL_ EL_ F9_) | (refine' enterH ?k1__ ?k2__ ?k3__ ?k4__ ?k5__ ?kK__ ?k6__ ?k7__ ?k8__ ?k9__ ?kB__ ?kL__ ?_ ?c2__ ?c3__ ?c4__ ?c5__;(case k1__=>k_asm);(case k2__=>k_asm);(case k3__=>k_asm);(case k4__=>k_asm);(case k5__=>k_asm);(case kK__=>first | eq_refl | assumption);(case k6__=>k_is);(case k7__=>k_is);(case k8__=>ktr_room);(case k9__=>first | exact BindsTo.of_eq rfl | exact binds_K (by k_in) rfl (by k_is) rfl rfl rfl);(case kB__=>exact locs rfl);(case kL__=>k_extra "@LST");(case c2__=>eq_refl);(case c3__=>eq_refl);(case c4__=>eq_refl);(case c5__=>decide);k_whole;intro g'_ L'_ h'_ tk'_ FG'_ N'_ X'_ T'_ ouL_ dL_ uL_ A1L_ B'_ mL_ eL_ AL_ RL_ QL_ EL_ F9_)))
  k_with "m call ref" => ((k_here;(with_reducible refine (?_:wpAny _ _ (PySem.call (Value.ref _) _ _) _ _ _));k_extra "@ENTER"))
  trivial
section
local macro_rules (kind := PySem.W.tacticK_extra_) | s => mq "m l k j i h g f e d c b a" s
@[reducible] noncomputable def Ns (P:Params) (x:String) (v:Option Value):Prop:=nsIn (Mine.hd.heap_1 P) mainGlobals (Str.ofString x) = some v
theorem nsAll (P:Params):(((((((Ns P "flag" (some (.ref 358))∧Ns P "plain_class" (some (.ref 73)))∧(Ns P "dim_of" (some (.ref 40))∧Ns P "shape_class" (some (.ref 66))))∧(Ns P "_law_fraction" (some (.ref 1392))∧Ns P "mean_items" (some (.ref 901))))∧((Ns P "whole_text" (some (.ref 649))∧Ns P "compare" (some (.ref 642)))∧(Ns P "mul" (some (.ref 586))∧Ns P "sub" (some (.ref 579)))))∧(((Ns P "neg" (some (.ref 565))∧Ns P "is_finite" (some (.ref 551)))∧Ns P "b_quantile" (some (.ref 1045)))∧(Ns P "numeric_arg" (some (.ref 1000))∧Ns P "marked" (some (.ref 558)))))∧Ns P "len" none)∧((((Ns P "Refusal" (some (.ref 117))∧Ns P "get_attr" (some (.ref 28)))∧Ns P "_law_told" (some (.ref 1385)))∧(Ns P "Vector" (some (.ref 262))∧((Ns P "is_nan" (some (.ref 544))∧Ns P "max" none)∧Ns P "abs" none)))∧(((Ns P "b_mean" (some (.ref 1012))∧Ns P "ascending" (some (.ref 941)))∧(Ns P "from_int" (some (.ref 530))∧Ns P "take" (some (.ref 499))))∧((Ns P "inherits" (some (.ref 87))∧Ns P "class_of" (some (.ref 80)))∧Ns P "number_items" (some (.ref 894))))))∧(((Ns P "needed" (some (.ref 493))∧((Ns P "class_attr" (some (.ref 52))∧(Ns P "_law_plain_holds" (some (.ref 1397))∧Ns P "_law_coins" (some (.ref 1373))))∧Ns P "_law_coin" (some (.ref 1380))))∧Ns P "is_na" (some (.ref 537)))∧(((Ns P "is_set" (some (.ref 981))∧Ns P "lacking_item" (some (.ref 948)))∧(Ns P "add" (some (.ref 572))∧((Ns P "Evaluator" (some (.ref 1355))∧Ns P "b_sd" (some (.ref 1038)))∧(Ns P "b_var" (some (.ref 1031))∧Ns P "pairs_kept" (some (.ref 1026))))))∧((((Ns P "b_median" (some (.ref 1019))∧Ns P "untagged" (some (.ref 993)))∧(Ns P "median_of" (some (.ref 955))∧Ns P "double_sum" (some (.ref 889))))∧((Ns P "measures" (some (.ref 698))∧Ns P "fixed_text" (some (.ref 691)))∧(Ns P "without_tail" (some (.ref 677))∧Ns P "significant" (some (.ref 670)))))∧(((Ns P "scaled" (some (.ref 663))∧Ns P "special_text" (some (.ref 656)))∧(Ns P "exponent" (some (.ref 635))∧Ns P "nearest_whole" (some (.ref 628))))∧((Ns P "floor" (some (.ref 614))∧Ns P "bounded" (some (.ref 516)))∧(Ns P "gcd" (some (.ref 509))∧Ns P "NAN" (some (.ref 500)))))))):=by
  refine ⟨⟨⟨⟨⟨⟨⟨⟨?_,?_⟩,⟨?_,?_⟩⟩,⟨?_,?_⟩⟩,⟨⟨?_,?_⟩,⟨?_,?_⟩⟩⟩,⟨⟨⟨?_,?_⟩,?_⟩,⟨?_,?_⟩⟩⟩,?_⟩,⟨⟨⟨⟨?_,?_⟩,?_⟩,⟨?_,⟨⟨?_,?_⟩,?_⟩⟩⟩,⟨⟨⟨?_,?_⟩,⟨?_,?_⟩⟩,⟨⟨?_,?_⟩,?_⟩⟩⟩⟩,⟨⟨⟨?_,⟨⟨?_,⟨?_,?_⟩⟩,?_⟩⟩,?_⟩,⟨⟨⟨?_,?_⟩,⟨?_,⟨⟨?_,?_⟩,⟨?_,?_⟩⟩⟩⟩,⟨⟨⟨⟨?_,?_⟩,⟨?_,?_⟩⟩,⟨⟨?_,?_⟩,⟨?_,?_⟩⟩⟩,⟨⟨⟨?_,?_⟩,⟨?_,?_⟩⟩,⟨⟨?_,?_⟩,⟨?_,?_⟩⟩⟩⟩⟩⟩⟩<;>kernel_rfl
@[reducible] noncomputable def Kp (P:Params) (a:Addr):Prop:=keepIn (Mine.hd.heap_1 P) (.ref a) = true
theorem kpAll (P:Params):((((((Kp P 1373∧Kp P 1355)∧(Kp P 1026∧Kp P 993))∧((Kp P 889∧Kp P 698)∧(Kp P 677∧Kp P 670)))∧(((Kp P 663∧Kp P 649)∧(Kp P 635∧Kp P 565))∧((Kp P 544∧Kp P 530)∧(Kp P 358∧Kp P 73))))∧((((Kp P 40∧Kp P 66)∧Kp P 1380)∧(Kp P 901∧Kp P 551))∧(Kp P 1000∧Kp P 558)))∧(((Kp P 117∧Kp P 28)∧(Kp P 941∧Kp P 572))∧((Kp P 80∧Kp P 52)∧Kp P 894)))∧((Kp P 493∧(Kp P 981∧Kp P 948))∧Kp P 537):=by
  refine ⟨⟨⟨⟨⟨⟨⟨?_,?_⟩,⟨?_,?_⟩⟩,⟨⟨?_,?_⟩,⟨?_,?_⟩⟩⟩,⟨⟨⟨?_,?_⟩,⟨?_,?_⟩⟩,⟨⟨?_,?_⟩,⟨?_,?_⟩⟩⟩⟩,⟨⟨⟨⟨?_,?_⟩,?_⟩,⟨?_,?_⟩⟩,⟨?_,?_⟩⟩⟩,⟨⟨⟨?_,?_⟩,⟨?_,?_⟩⟩,⟨⟨?_,?_⟩,?_⟩⟩⟩,⟨⟨?_,⟨?_,?_⟩⟩,?_⟩⟩<;>kernel_rfl
@[reducible] noncomputable def Bb (x:String) (v:Value):Prop:=bootBuiltins (Str.ofString x) = some v
theorem bbAll:Bb "len" (.builtin "len")∧(Bb "abs" (.builtin "abs")∧Bb "max" (.builtin "max")):=by
  refine ⟨?_,⟨?_,?_⟩⟩<;>kernel_rfl
theorem look_fn {K:Frag} {f:Addr} {st:Stmt} {q:String} {dV kV doc pm cd ct:Value} {name:Str} {params:Arguments} {b0:Stmt} {bs:List Stmt} {scope:Scope} {x1 x2 x3 x4 x5 x6} (h:K.lookup f = some (H.fo st q dV kV doc pm cd ct)) (e:st = Stmt.FunctionDef name params (b0::bs) x1 x2 x3 scope x4 x5 x6) :
    K.lookup f = some ⟨.type "function", none,.func (fnOf name (Str.ofString q) params (b0::bs) (H.fScope st) dV kV doc pm none cd ct),#[]⟩:=by subst e;exact h
section
variable {M:Model} {A:Around} {env:Env} {E:Value→Shared→Prop} {hpS:Heap} {tkS:Nat}
theorem let_body {g h:Heap} {L:Addr} {m:Str→Option Value} {tk:Nat} {b:List Stmt} {Q:Flow→Shared→Prop} (F:Fr g L h m) (k:let m':=m;let e':=env;let A':=A.deeper e';let Q':=Q;let E':=E;Fr g L h m'→wpAny M A' (execs b e') Q' E' ⟨h,GC,DC,tk,OC⟩):wpAny M (A.deeper env) (execs b env) Q E ⟨h,GC,DC,tk,OC⟩:=k F
theorem execs_one {st:Stmt} {Q:Flow→Shared→Prop} (h:wpAny M A (exec st env) Q E ⟨hpS,GC,DC,tkS,OC⟩):wpAny M A (execs [st] env) Q E ⟨hpS,GC,DC,tkS,OC⟩ :=
  wpAny_execs_cons (wpAny_mono h (fun f _ x=>by cases f<;>first | exact wpAny_execs_nil x | exact x) fun _ _ x=>x)
theorem execs_let {st st2:Stmt} {rest:List Stmt} {Q:Flow→Shared→Prop} (h:let Q':Flow→Shared→Prop:=fun f s'=>match f with | .next=>wpAny M A (execs (st2::rest) env) Q E s' | f=>Q f s';wpAny M A (exec st env) Q' E ⟨hpS,GC,DC,tkS,OC⟩):wpAny M A (execs (st::st2::rest) env) Q E ⟨hpS,GC,DC,tkS,OC⟩:=wpAny_execs_cons h
end
theorem stN_let {M:Model} {A:Around} {E:Value→Shared→Prop} {hpS:Heap} {tkS:Nat} {h₀:Heap} {L a:Addr} {m:Str→Option Value} {news:List (Addr×Obj)} {name:Str} {scope:Scope} {cd:Value} {x:Str} {v:Value} {Q:Unit→Shared→Prop} (F:Fr h₀ L hpS m) (N:News h₀ L hpS news)
    (h:let m':=fun y=>if y = x then some v else m y;∀ h',Fr h₀ L h' m'→News h₀ L h' news→Q () ⟨h',GC,DC,tkS + 1,OC⟩)
    (hk:scope.kind = .function) (hl:(envOf name scope L a cd).kindOf x = some .local) :
    wpAny M A (storeName (envOf name scope L a cd) x v) Q E ⟨hpS,GC,DC,tkS,OC⟩:=stN F N h hk hl
section
variable {dp a b c d R:Nat}
theorem room0 (h:dp + c < R):dp < R:=Nat.lt_of_le_of_lt (Nat.le_add_right _ _) h
theorem room1 (h:dp + c < R) (l:Nat.ble a c = true):dp + a < R:=Nat.lt_of_le_of_lt (Nat.add_le_add_left (Nat.le_of_ble_eq_true l) _) h
theorem room2 (h:dp + c < R) (l:Nat.ble (a + b) c = true):dp + a + b < R:=Nat.add_assoc dp a b▸room1 h l
theorem room3 (h:dp + c < R) (l:Nat.ble (a + b + d) c = true):dp + a + b + d < R:=Nat.add_assoc dp a b▸room2 h l
end
section
variable {M:Model} {A:Around} {env:Env} {E:Value→Shared→Prop} {h:Heap} {tk:Nat}
theorem execs_onet {st:Stmt} {Q:Flow→Shared→Prop} (k:∀ tk',wpAny M A (exec st env) Q E ⟨h,GC,DC,tk',OC⟩):wpAny M A (execs [st] env) Q E ⟨h,GC,DC,tk,OC⟩:=execs_one (k tk)
theorem execs_lett {st st2:Stmt} {rest:List Stmt} {Q:Flow→Shared→Prop} (k:let Q':Flow→Shared→Prop:=fun f s'=>match f with | .next=>wpAny M A (execs (st2::rest) env) Q E s' | f=>Q f s';∀ tk',wpAny M A (exec st env) Q' E ⟨h,GC,DC,tk',OC⟩):wpAny M A (execs (st::st2::rest) env) Q E ⟨h,GC,DC,tk,OC⟩:=execs_let (k tk)
end
section
variable {M:Model} {A:Around} {env:Env} {E:Value→Shared→Prop} {h g:Heap} {L:Addr} {led:List (Addr×Obj)} {tk:Nat}
theorem execs_oneN {st:Stmt} {Q:Flow→Shared→Prop} (N:News g L h led) (k:let nL:=led;News g L h nL→∀ tk',wpAny M A (exec st env) Q E ⟨h,GC,DC,tk',OC⟩):wpAny M A (execs [st] env) Q E ⟨h,GC,DC,tk,OC⟩:=execs_one (k N tk)
theorem execs_letN {st st2:Stmt} {rest:List Stmt} {Q:Flow→Shared→Prop} (N:News g L h led) (k:let Q':Flow→Shared→Prop:=fun f s'=>match f with | .next=>wpAny M A (execs (st2::rest) env) Q E s' | f=>Q f s';let nL:=led;News g L h nL→∀ tk',wpAny M A (exec st env) Q' E ⟨h,GC,DC,tk',OC⟩):wpAny M A (execs (st::st2::rest) env) Q E ⟨h,GC,DC,tk,OC⟩:=execs_let (k N tk)
end
noncomputable def nameE {α:Type} (e:PySem.Expr) (f:Str→Pos→Option α) (g:Option α):Option α:=if h:e.ctorIdx = 23 then PySem.Expr.Name.elim e h f else g
noncomputable def constE {α:Type} (e:PySem.Expr) (f:Const→Nat→Pos→Option α) (g:Option α):Option α:=if h:e.ctorIdx = 19 then PySem.Expr.Constant.elim e h f else g
theorem nameE_inv {α:Type} {e:PySem.Expr} {f:Str→Pos→Option α} {g:Option α} {r:α} (h:nameE e f g = some r):(∃ x p,e = .Name x p∧f x p = some r)∨g = some r :=
  (Nat.decEq e.ctorIdx 23).byCases
    (fun q=>.inl ((PySem.Expr.Name.elim (motive_1:=fun e=>nameE e f g = some r→∃ x p,e = .Name x p∧f x p = some r) e q fun x p h=>⟨x,p,rfl,h⟩) h))
    fun q=>.inr ((dif_neg q).symm.trans h)
theorem constE_inv {α:Type} {e:PySem.Expr} {f:Const→Nat→Pos→Option α} {g:Option α} {r:α} (h:constE e f g = some r):(∃ c k p,e = .Constant c k p∧f c k p = some r)∨g = some r :=
  (Nat.decEq e.ctorIdx 19).byCases
    (fun q=>.inl ((PySem.Expr.Constant.elim (motive_1:=fun e=>constE e f g = some r→∃ c k p,e = .Constant c k p∧f c k p = some r) e q fun c k p h=>⟨c,k,p,rfl,h⟩) h))
    fun q=>.inr ((dif_neg q).symm.trans h)
noncomputable def isLoc (o:Option NameKind):Bool:=o.any fun k=>Nat.beq k.ctorIdx (NameKind.ctorIdx .local)
noncomputable def isGl (cs:Scope) (f:Str):Bool:=bif f == ("__debug__" : Str) then false else (cs.names.lookup f).any fun k=>Nat.beq k.ctorIdx (NameKind.ctorIdx .globalImplicit)
theorem isGl_ok {cs:Scope} {f:Str} (h:isGl cs f = true):cs.names.lookup f = some .globalImplicit∧(f == ("__debug__" : Str)) = false:=by
  unfold isGl at h
  cases hd:(f == ("__debug__" : Str)) with
  | true=>rw [hd] at h;cases h
  | false =>
    rw [hd] at h
    refine ⟨?_,rfl⟩
    revert h
    cases cs.names.lookup f with
    | none=>intro h;cases h
    | some k=>intro h;cases k<;>first | rfl | cases h
noncomputable def sevN (cs:Scope) (m:Str→Option Value) (t:Nat) (x:Str):Option (Value×Nat) :=
  bif isLoc (cs.names.lookup x) then (bif x == ("__debug__" : Str) then none else (m x).map fun v=>(v,t)) else none
noncomputable def sevC (t:Nat):Const→Option (Value×Nat)
  | .none=>some (.none,t)
  | .bool b=>some (.bool b,t)
  | .int i=>some (.int i t,t + 1)
  | .str S=>some (.str S t,t + 1)
  | _=>none
noncomputable def sev (cs:Scope) (m:Str→Option Value) (e:PySem.Expr) (t:Nat):Option (Value×Nat):=nameE e (fun x _=>sevN cs m t x) (constE e (fun c _ _=>sevC t c) none)
theorem sev_inv {cs:Scope} {m:Str→Option Value} {e:PySem.Expr} {t:Nat} {r:Value×Nat} (h:sev cs m e t = some r):(∃ x p,e = .Name x p∧sevN cs m t x = some r)∨∃ c k p,e = .Constant c k p∧sevC t c = some r :=
  (nameE_inv h).imp_right fun h=>(constE_inv h).resolve_right fun h=>by cases h
theorem isLoc_ok {o:Option NameKind} (h:isLoc o = true):o = some .local:=by
  cases o with
  | none=>cases h
  | some k=>cases k<;>first | rfl | cases h
theorem sevN_inv {cs:Scope} {m:Str→Option Value} {t:Nat} {x:Str} {r:Value×Nat} (h:sevN cs m t x = some r):cs.names.lookup x = some .local∧(x == ("__debug__" : Str)) = false∧m x = some r.1∧r.2 = t:=by
  unfold sevN at h
  cases hl:isLoc (cs.names.lookup x) with
  | false=>rw [hl] at h;cases h
  | true =>
    cases hd:(x == ("__debug__" : Str)) with
    | true=>rw [hl,hd] at h;cases h
    | false =>
      rw [hl,hd] at h
      cases hm:m x with
      | none=>rw [hm] at h;cases h
      | some v=>rw [hm] at h;cases h;exact ⟨isLoc_ok hl,rfl,rfl,rfl⟩
noncomputable def sevs (cs:Scope) (m:Str→Option Value):List PySem.Expr→Nat→Option (List Value×Nat)
  | [],t=>some ([],t)
  | e::es,t=>match sev cs m e t with
    | some (v,t1)=>match sevs cs m es t1 with
      | some (vs,t2)=>some (v::vs,t2)
      | none=>none
    | none=>none
section
variable {M:Model} {A:Around} {E:Value→Shared→Prop} {g h:Heap} {L a:Addr} {m:Str→Option Value} {tk t':Nat} {cn:Str} {cs:Scope} {ccd:Value} {cl:List (Str×Addr)}
theorem sev_ok {e:PySem.Expr} {v:Value} {Q:Value→Shared→Prop} (F:Fr g L h m) (hk:cs.kind = .function) (hs:sev cs m e tk = some (v,t')) (hq:Q v ⟨h,GC,DC,t',OC⟩):wpAny M A (eval e (envX cn cs L a ccd cl)) Q E ⟨h,GC,DC,tk,OC⟩:=by
  rcases sev_inv hs with ⟨x,p,e0,h2⟩ | ⟨c,k,p,e0,h2⟩
  · obtain ⟨hl,hd,hm,ht⟩:=sevN_inv h2
    rw [e0]
    exact nameX_L F hm (ht▸hq) hk hl hd
  · rw [e0]
    clear hs e0
    cases c with
    | none=>cases h2;exact wpAny_Constant_none hq
    | bool b=>cases h2;exact wpAny_Constant_bool hq
    | int i=>cases h2;exact wpAny_Constant_int hq
    | str S=>cases h2;exact wpAny_Constant_str hq
    | _=>cases h2
theorem nameS {x:Str} {pos:Pos} {v:Value} {Q:Value→Shared→Prop} (F:Fr g L h m) (hk:cs.kind = .function) (hs:sevN cs m tk x = some (v,t')) (hq:Q v ⟨h,GC,DC,t',OC⟩):wpAny M A (eval (.Name x pos) (envX cn cs L a ccd cl)) Q E ⟨h,GC,DC,tk,OC⟩:=by
  obtain ⟨hl,hd,hm,ht⟩:=sevN_inv hs
  exact nameX_L F hm (ht▸hq) hk hl hd
theorem sev_each {e:PySem.Expr} {v:Value} {es:List PySem.Expr} {env:Env} (hs:sev cs m e tk = some (v,t')):starEach (e::es) env = (false,eval e env)::starEach es env:=by
  rcases sev_inv hs with ⟨x,p,e0,_⟩ | ⟨c,k,p,e0,_⟩<;>(rw [e0];rfl)
theorem sevs_inv {e:PySem.Expr} {es:List PySem.Expr} {tk t':Nat} {vs:List Value} (hs:sevs cs m (e::es) tk = some (vs,t')):∃ v t1 ws,sev cs m e tk = some (v,t1)∧sevs cs m es t1 = some (ws,t')∧vs = v::ws:=by
  unfold sevs at hs
  split at hs
  · rename_i v t1 h1
    split at hs
    · rename_i vs2 t2 h2
      cases hs
      exact ⟨_,_,_,h1,h2,rfl⟩
    · cases hs
  · cases hs
theorem sevs_plain {es:List PySem.Expr} {pos:Pos} {env:Env}:∀ {tk t':Nat} {vs:List Value},sevs cs m es tk = some (vs,t')→(backTo pos (starEach es env)).any (·.1) = false:=by
  induction es with
  | nil=>exact fun _=>rfl
  | cons e es ih =>
    intro tk t' vs hs
    obtain ⟨v,t1,ws,h1,h2,_⟩:=sevs_inv hs
    have r:=ih h2
    rw [sev_each h1]
    unfold backTo at r ⊢
    rw [List.map_cons,List.any_cons,r]
    rfl
theorem sevs_ok {es:List PySem.Expr} {pos:Pos}:∀ {tk t':Nat} {vs:List Value} {Q:List Value→Shared→Prop},Fr g L h m→cs.kind = .function→sevs cs m es tk = some (vs,t')→Q vs ⟨h,GC,DC,t',OC⟩→wpAny M A (spliced (backTo pos (starEach es (envX cn cs L a ccd cl)))) Q E ⟨h,GC,DC,tk,OC⟩:=by
  induction es with
  | nil=>intro tk t' vs Q F hk hs hq;cases hs;exact args_nil hq
  | cons e es ih =>
    intro tk t' vs Q F hk hs hq
    obtain ⟨v,t1,ws,h1,h2,e1⟩:=sevs_inv hs
    exact args_cons (sev_ok F hk h1 (ih F hk h2 (e1▸hq))) (sev_each h1)
theorem sev2_isTrue {l r:PySem.Expr} {op:CmpOp} {pos:Pos} {whole:Sem Value} {x y:Value} {t1:Nat} {Q:Bool→Shared→Prop} (F:Fr g L h m) (hk:cs.kind = .function) (h1:sev cs m l tk = some (x,t1)) (h2:sev cs m r t1 = some (y,t')) (hq:wpAny M A (compareOp op x y) (fun c s₃=>wpAny M A (truthy c) Q E s₃) E ⟨h,GC,DC,t',OC⟩) (hm:behindInMarks op r = false):wpAny M A (isTrue (.Compare l [op] [r] pos) (envX cn cs L a ccd cl) whole) Q E ⟨h,GC,DC,tk,OC⟩ :=
  wpAny_isTrue_Compare1 (sev_ok F hk h1 (sev_ok F hk h2 hq)) hm
theorem sev_assign {e:PySem.Expr} {x:Str} {p1 pos:Pos} {v:Value} {Q:Flow→Shared→Prop} (F:Fr g L h m) (hk:cs.kind = .function) (hs:sev cs m e tk = some (v,t')) (hq:wpAny M A (storeName (envX cn cs L a ccd cl) x v) (fun _ s'=>Q .next s') E ⟨h,GC,DC,t',OC⟩) (hw:swapsWith e (some (.Name x p1)) pos.line (envX cn cs L a ccd cl) = pure false):wpAny M A (exec (.Assign [.Name x p1] e pos) (envX cn cs L a ccd cl)) Q E ⟨h,GC,DC,tk,OC⟩ :=
  wpAny_Assign_Name (sev_ok F hk hs hq) hw
theorem sev_return {e:PySem.Expr} {pos:Pos} {v:Value} {Q:Flow→Shared→Prop} (F:Fr g L h m) (hk:cs.kind = .function) (hs:sev cs m e tk = some (v,t')) (hq:Q (.ret v) ⟨h,GC,DC,t',OC⟩):wpAny M A (exec (.Return (some e) pos) (envX cn cs L a ccd cl)) Q E ⟨h,GC,DC,tk,OC⟩ :=
  wpAny_Return_some (sev_ok F hk hs hq)
end
section
variable {A:Around} {E:Value→Shared→Prop} {K:Frag} {g h:Heap} {L a fa:Addr} {m:Str→Option Value} {tk t':Nat} {cn:Str} {cs:Scope} {ccd:Value} {cl:List (Str×Addr)}
theorem nameG {x:Str} {pos:Pos} {v:Value} {Q:Value→Shared→Prop} (F:Fr g L h m) (X:K.In g) (T:Top p loose mean mg mb g) (hk:cs.kind = .function) (e:nsIn K mainGlobals x = some (some v)) (hx:isGl cs x = true) (hq:Q v ⟨h,GC,DC,tk,OC⟩):wpAny (model prog w) A (eval (.Name x pos) (envX cn cs L a ccd cl)) Q E ⟨h,GC,DC,tk,OC⟩ :=
  nameX_K F X (topRead_of T) e hq hk (isGl_ok hx).1 (isGl_ok hx).2
theorem callS {f:Str} {p1 pos:Pos} {es:List PySem.Expr} {vs:List Value} {Q:Value→Shared→Prop} (F:Fr g L h m) (X:K.In g) (T:Top p loose mean mg mb g) (hk:cs.kind = .function) (e:nsIn K mainGlobals f = some (some (.ref fa))) (kk:keepIn K (.ref fa) = true) (hx:isGl cs f = true)
    (hs:sevs cs m es tk = some (vs,t')) (hq:wpAny (model prog w) A (call (.ref fa) vs) Q E ⟨h,GC,DC,t',OC⟩):wpAny (model prog w) A (eval (.Call (.Name f p1) es [] pos) (envX cn cs L a ccd cl)) Q E ⟨h,GC,DC,tk,OC⟩:=by
  have X':K.In h:=Frag.In.keeps X F.keep
  refine Call_ (nameX_K F X (topRead_of T) e ?_ hk (isGl_ok hx).1 (isGl_ok hx).2)
  cases es with
  | nil =>
    cases hs
    exact callWith_K0 X' kk hq
  | cons e1 es =>
    have h2:=hs
    unfold sevs at h2
    split at h2
    · rename_i v t1 h1
      split at h2
      · rename_i vs2 t2 h3
        exact callWith_K X kk (sevs_ok F hk hs ⟨X',hq⟩) (sev_each h1) (sevs_plain h3)
      · cases h2
    · cases h2
end
noncomputable def isNone (b:Value):Bool:=Nat.beq b.ctorIdx 0
noncomputable def isN (v:Value):Option Bool:=bif isNone v then some true else some false
noncomputable def intE {α:Type} (v:Value) (f:Int→Option α):Option α:=if h:v.ctorIdx = 4 then Value.int.elim v h fun i _=>f i else none
noncomputable def strV {α:Type} (v:Value) (f:Str→Option α):Option α:=if h:v.ctorIdx = 6 then Value.str.elim v h fun i _=>f i else none
noncomputable def intsOf2 (a b:Value):Option (Int×Int):=intE a fun i=>intE b fun j=>some (i,j)
noncomputable def strsOf2 (a b:Value):Option (Str×Str):=strV a fun i=>strV b fun j=>some (i,j)
noncomputable def cmpv (op:CmpOp) (a b:Value):Option Bool:=match op with
  | .Is=>bif isNone b then isN a else none
  | .IsNot=>bif isNone b then (isN a).map (!·) else none
  | .Eq=>bif Nat.beq a.ctorIdx 4 then (intsOf2 a b).map fun p=>p.1 == p.2 else (strsOf2 a b).map fun p=>p.1 == p.2
  | .NotEq=>(intsOf2 a b).map fun p=>p.1 != p.2
  | .Lt=>(intsOf2 a b).map fun p=>decide (p.1 < p.2)
  | .Gt=>(intsOf2 a b).map fun p=>decide (p.2 < p.1)
  | _=>none
theorem intE_inv {α:Type} {v:Value} {f:Int→Option α} {r:α} (h:intE v f = some r):∃ i t,v = .int i t∧f i = some r :=
  (Nat.decEq v.ctorIdx 4).byCases
    (fun q=>(Value.int.elim (motive:=fun v=>intE v f = some r→∃ i t,v = .int i t∧f i = some r) v q fun i t h=>⟨i,t,rfl,h⟩) h)
    fun q=>by have h:=(dif_neg q).symm.trans h;cases h
theorem strV_inv {α:Type} {v:Value} {f:Str→Option α} {r:α} (h:strV v f = some r):∃ i t,v = .str i t∧f i = some r :=
  (Nat.decEq v.ctorIdx 6).byCases
    (fun q=>(Value.str.elim (motive:=fun v=>strV v f = some r→∃ i t,v = .str i t∧f i = some r) v q fun i t h=>⟨i,t,rfl,h⟩) h)
    fun q=>by have h:=(dif_neg q).symm.trans h;cases h
theorem ints2 {a b:Value} {p:Int×Int} (h:intsOf2 a b = some p):∃ t u,a = .int p.1 t∧b = .int p.2 u:=by
  obtain ⟨i,t,e1,h⟩:=intE_inv h
  obtain ⟨j,u,e2,h⟩:=intE_inv h
  cases h
  exact ⟨t,u,e1,e2⟩
theorem strs2 {a b:Value} {p:Str×Str} (h:strsOf2 a b = some p):∃ t u,a = .str p.1 t∧b = .str p.2 u:=by
  obtain ⟨i,t,e1,h⟩:=strV_inv h
  obtain ⟨j,u,e2,h⟩:=strV_inv h
  cases h
  exact ⟨t,u,e1,e2⟩
theorem isNone_ok {b:Value} (h:isNone b = true):b = .none:=Value.none.elim (motive:=fun b=>b = .none) b (Nat.eq_of_beq_eq_true h) rfl
theorem map_inv {α β:Type} {o:Option α} {f:α→β} {r:β} (h:o.map f = some r):∃ x,o = some x∧f x = r:=by
  cases o with
  | none=>cases h
  | some x=>cases h;exact ⟨x,rfl,rfl⟩
noncomputable def trv (v:Value):Option Bool:=if h:v.ctorIdx = 3 then Value.bool.elim v h some else bif Nat.beq v.ctorIdx 0 then some false else none
noncomputable def bopv (f:PySem.Expr→Nat→Option (Bool×Nat)) (stop:Bool):List PySem.Expr→Nat→Option (Bool×Nat)
  | [],t=>some (!stop,t)
  | x::r,t=>match f x t with
    | some (b,t1)=>match (b == stop) with
      | true=>some (b,t1)
      | false=>bopv f stop r t1
    | none=>none
noncomputable def cmpE {α:Type} (e:PySem.Expr) (f:PySem.Expr→List CmpOp→List PySem.Expr→Pos→Option α) (g:Option α):Option α:=if h:e.ctorIdx = 15 then PySem.Expr.Compare.elim e h f else g
noncomputable def unE {α:Type} (e:PySem.Expr) (f:UnaryOp→PySem.Expr→Pos→Option α) (g:Option α):Option α:=if h:e.ctorIdx = 3 then PySem.Expr.UnaryOp.elim e h f else g
noncomputable def bopE {α:Type} (e:PySem.Expr) (f:BoolOp→List PySem.Expr→Pos→Option α) (g:Option α):Option α:=if h:e.ctorIdx = 0 then PySem.Expr.BoolOp.elim e h f else g
theorem cmpE_inv {α:Type} {e:PySem.Expr} {f:PySem.Expr→List CmpOp→List PySem.Expr→Pos→Option α} {g:Option α} {r:α} (h:cmpE e f g = some r):(∃ l ops rs p,e = .Compare l ops rs p∧f l ops rs p = some r)∨g = some r :=
  (Nat.decEq e.ctorIdx 15).byCases
    (fun q=>.inl ((PySem.Expr.Compare.elim (motive_1:=fun e=>cmpE e f g = some r→∃ l ops rs p,e = .Compare l ops rs p∧f l ops rs p = some r) e q fun l ops rs p h=>⟨l,ops,rs,p,rfl,h⟩) h))
    fun q=>.inr ((dif_neg q).symm.trans h)
theorem unE_inv {α:Type} {e:PySem.Expr} {f:UnaryOp→PySem.Expr→Pos→Option α} {g:Option α} {r:α} (h:unE e f g = some r):(∃ o x p,e = .UnaryOp o x p∧f o x p = some r)∨g = some r :=
  (Nat.decEq e.ctorIdx 3).byCases
    (fun q=>.inl ((PySem.Expr.UnaryOp.elim (motive_1:=fun e=>unE e f g = some r→∃ o x p,e = .UnaryOp o x p∧f o x p = some r) e q fun o x p h=>⟨o,x,p,rfl,h⟩) h))
    fun q=>.inr ((dif_neg q).symm.trans h)
theorem bopE_inv {α:Type} {e:PySem.Expr} {f:BoolOp→List PySem.Expr→Pos→Option α} {g:Option α} {r:α} (h:bopE e f g = some r):(∃ o xs p,e = .BoolOp o xs p∧f o xs p = some r)∨g = some r :=
  (Nat.decEq e.ctorIdx 0).byCases
    (fun q=>.inl ((PySem.Expr.BoolOp.elim (motive_1:=fun e=>bopE e f g = some r→∃ o xs p,e = .BoolOp o xs p∧f o xs p = some r) e q fun o xs p h=>⟨o,xs,p,rfl,h⟩) h))
    fun q=>.inr ((dif_neg q).symm.trans h)
noncomputable def tevC (cs:Scope) (m:Str→Option Value) (t:Nat) (l:PySem.Expr) (op:CmpOp) (r:PySem.Expr):Option (Bool×Nat) :=
  bif behindInMarks op r then none else (sev cs m l t).bind fun p1=>(sev cs m r p1.2).bind fun p2=>(cmpv op p1.1 p2.1).map fun c=>(c,p2.2)
noncomputable def one2 {α:Type} (ops:List CmpOp) (rs:List PySem.Expr) (f:CmpOp→PySem.Expr→Option α):Option α:=match ops with
  | op::os=>match rs with
    | r::rr=>bif os.isEmpty && rr.isEmpty then f op r else none
    | []=>none
  | []=>none
theorem one2_inv {α:Type} {ops:List CmpOp} {rs:List PySem.Expr} {f:CmpOp→PySem.Expr→Option α} {x:α} (h:one2 ops rs f = some x):∃ op r,ops = [op]∧rs = [r]∧f op r = some x:=by
  cases ops with
  | nil=>cases h
  | cons op os=>cases rs with
    | nil=>cases h
    | cons r rr=>cases os with
      | cons a b=>cases h
      | nil=>cases rr with
        | cons a b=>cases h
        | nil=>exact ⟨op,r,rfl,rfl,h⟩
noncomputable def tev (cs:Scope) (m:Str→Option Value):Nat→PySem.Expr→Nat→Option (Bool×Nat)
  | 0,_,_=>none
  | k + 1,e,t=>cmpE e (fun l ops rs _=>one2 ops rs (tevC cs m t l))
    (unE e (fun o x _=>bif Nat.beq o.ctorIdx 1 then (tev cs m k x t).map fun p=>(!p.1,p.2) else none)
    (bopE e (fun o xs _=>bif Nat.beq o.ctorIdx (BoolOp.ctorIdx .And) then bopv (tev cs m k) false xs t else bopv (tev cs m k) true xs t)
    (nameE e (fun x p=>(sev cs m (.Name x p) t).bind fun p1=>(trv p1.1).map fun b=>(b,p1.2)) none)))
theorem isN_ok {v:Value} {c:Bool} (h:isN v = some c):(c = true∧v = .none)∨(c = false∧v≠.none):=by
  have h:(bif isNone v then some true else some false) = some c:=h
  cases hb:isNone v with
  | true=>rw [hb] at h;cases h;exact .inl ⟨rfl,isNone_ok hb⟩
  | false=>rw [hb] at h;cases h;exact .inr ⟨rfl,fun e=>by rw [e] at hb;cases hb⟩
section
variable {A:Around} {E:Value→Shared→Prop} {hpS:Heap} {tkS:Nat}
theorem cmpI {op:CmpOp} {a b:Value} {c:Bool} {Q:Value→Shared→Prop} {g:Int×Int→Bool} (H:∀ i j t u,Q (.bool (g (i,j))) ⟨hpS,GC,DC,tkS,OC⟩→wpAny (model prog w) A (compareOp op (.int i t) (.int j u)) Q E ⟨hpS,GC,DC,tkS,OC⟩) (h:(intsOf2 a b).map g = some c) (hq:Q (.bool c) ⟨hpS,GC,DC,tkS,OC⟩):wpAny (model prog w) A (compareOp op a b) Q E ⟨hpS,GC,DC,tkS,OC⟩:=by
  obtain ⟨p,hp,rfl⟩:=map_inv h
  obtain ⟨t,u,rfl,rfl⟩:=ints2 hp
  exact H _ _ _ _ hq
theorem cmpIs {a c:Value} {r:Bool} {Q:Value→Shared→Prop} (hb:isNone c = true) (h:isN a = some r) (hq:Q (.bool r) ⟨hpS,GC,DC,tkS,OC⟩):wpAny (model prog w) A (compareOp .Is a c) Q E ⟨hpS,GC,DC,tkS,OC⟩:=by
  rw [isNone_ok hb]
  rcases isN_ok h with ⟨rfl,rfl⟩ | ⟨rfl,hv⟩
  · exact is_none_none hq
  · exact is_none_ne hv hq
theorem cmpNt {a c:Value} {r:Bool} {Q:Value→Shared→Prop} (hb:isNone c = true) (h:isN a = some r) (hq:Q (.bool !r) ⟨hpS,GC,DC,tkS,OC⟩):wpAny (model prog w) A (compareOp .IsNot a c) Q E ⟨hpS,GC,DC,tkS,OC⟩:=by
  rw [isNone_ok hb]
  rcases isN_ok h with ⟨rfl,rfl⟩ | ⟨rfl,hv⟩
  · exact isnot_none_none hq
  · exact isnot_none_ne hv hq
theorem cmpv_ok {op:CmpOp} {a b:Value} {c:Bool} {Q:Value→Shared→Prop} (h:cmpv op a b = some c) (hq:Q (.bool c) ⟨hpS,GC,DC,tkS,OC⟩):wpAny (model prog w) A (compareOp op a b) Q E ⟨hpS,GC,DC,tkS,OC⟩:=by
  cases op with
  | Is =>
    have h:(bif isNone b then isN a else none) = some c:=h
    cases hb:isNone b with
    | false=>rw [hb] at h;cases h
    | true=>rw [hb] at h;exact cmpIs hb h hq
  | IsNot =>
    have h:(bif isNone b then (isN a).map (!·) else none) = some c:=h
    cases hb:isNone b with
    | false=>rw [hb] at h;cases h
    | true =>
      rw [hb] at h
      obtain ⟨d,hd,rfl⟩:=map_inv h
      exact cmpNt hb hd hq
  | Eq =>
    have h:(bif Nat.beq a.ctorIdx 4 then (intsOf2 a b).map fun p=>p.1 == p.2 else (strsOf2 a b).map fun p=>p.1 == p.2) = some c:=h
    cases hi:Nat.beq a.ctorIdx 4 with
    | true=>rw [hi] at h;exact cmpI (fun _ _ _ _=>eq_int) h hq
    | false =>
      rw [hi] at h
      obtain ⟨p,hp,rfl⟩:=map_inv h
      obtain ⟨t,u,rfl,rfl⟩:=strs2 hp
      exact eq_str hq
  | NotEq=>exact cmpI (fun _ _ _ _=>ne_int) h hq
  | Lt=>exact cmpI (fun _ _ _ _=>lt_int) h hq
  | Gt=>exact cmpI (fun _ _ _ _=>gt_int) h hq
  | _=>cases h
theorem trv_ok {v:Value} {c:Bool} {Q:Bool→Shared→Prop} (h:trv v = some c) (hq:Q c ⟨hpS,GC,DC,tkS,OC⟩):wpAny (model prog w) A (truthy v) Q E ⟨hpS,GC,DC,tkS,OC⟩:=by
  cases v with
  | none=>cases h;exact truthy_none hq
  | bool b=>cases h;exact wpAny_truthy_bool hq
  | _=>cases h
end
section
variable {A:Around} {E:Value→Shared→Prop} {g h:Heap} {L a:Addr} {m:Str→Option Value} {cn:Str} {cs:Scope} {ccd:Value} {cl:List (Str×Addr)}
theorem bopv_ok {f:PySem.Expr→Nat→Option (Bool×Nat)} {op:BoolOp} {stop:Bool} (ho:(op = .And∧stop = false)∨(op = .Or∧stop = true)) (hf:∀ {e:PySem.Expr} {tk t':Nat} {b:Bool} {Q:Bool→Shared→Prop},f e tk = some (b,t')→Q b ⟨h,GC,DC,t',OC⟩→wpAny (model prog w) A (isTrue e (envX cn cs L a ccd cl) (eval e (envX cn cs L a ccd cl))) Q E ⟨h,GC,DC,tk,OC⟩) {es:List PySem.Expr}:∀ {tk t':Nat} {b:Bool} {Q:Bool→Shared→Prop},bopv f stop es tk = some (b,t')→Q b ⟨h,GC,DC,t',OC⟩→wpAny (model prog w) A (allTrue op es (envX cn cs L a ccd cl)) Q E ⟨h,GC,DC,tk,OC⟩:=by
  induction es with
  | nil =>
    intro tk t' b Q hs hq
    cases hs
    rcases ho with ⟨rfl,rfl⟩ | ⟨rfl,rfl⟩
    · exact wpAny_allTrue_And_nil hq
    · exact wpAny_allTrue_Or_nil hq
  | cons e es ih =>
    intro tk t' b Q hs hq
    have hs:(match f e tk with | some (b,t1)=>(match (b == stop) with | true=>some (b,t1) | false=>bopv f stop es t1) | none=>none) = some (b,t'):=hs
    cases h1:f e tk with
    | none=>rw [h1] at hs;cases hs
    | some q =>
      obtain ⟨c,t1⟩:=q
      rw [h1] at hs
      rcases ho with ⟨rfl,rfl⟩ | ⟨rfl,rfl⟩
      · cases c with
        | true=>exact wpAny_allTrue_And_cons (hf h1 (ih hs hq))
        | false=>cases hs;exact wpAny_allTrue_And_cons (hf h1 hq)
      · cases c with
        | true=>cases hs;exact wpAny_allTrue_Or_cons (hf h1 hq)
        | false=>exact wpAny_allTrue_Or_cons (hf h1 (ih hs hq))
theorem tev_ok (F:Fr g L h m) (hk:cs.kind = .function) {k:Nat}:∀ {e:PySem.Expr} {tk t':Nat} {b:Bool} {Q:Bool→Shared→Prop},tev cs m k e tk = some (b,t')→Q b ⟨h,GC,DC,t',OC⟩→wpAny (model prog w) A (isTrue e (envX cn cs L a ccd cl) (eval e (envX cn cs L a ccd cl))) Q E ⟨h,GC,DC,tk,OC⟩:=by
  induction k with
  | zero=>intro _ _ _ _ _ hs;cases hs
  | succ k ih =>
    intro e tk t' b Q hs hq
    rcases cmpE_inv hs with ⟨l,ops,rs,p,e0,h2⟩ | hs
    · obtain ⟨op,r,e1,e2,h3⟩:=one2_inv h2
      rw [e0,e1,e2]
      clear e0 e1 e2 h2 hs
      unfold tevC at h3
      cases hm:behindInMarks op r with
      | true=>rw [hm] at h3;cases h3
      | false =>
        rw [hm] at h3
        obtain ⟨q,h1,h3⟩:=Option.bind_eq_some_iff.mp h3
        obtain ⟨q2,h2,h3⟩:=Option.bind_eq_some_iff.mp h3
        obtain ⟨c,hc,e1⟩:=map_inv h3
        cases e1
        exact wpAny_isTrue_Compare1 (sev_ok F hk h1 (sev_ok F hk h2 (cmpv_ok hc (wpAny_truthy_bool hq)))) hm
    rcases unE_inv hs with ⟨o,x,p,e0,h2⟩ | hs
    · rw [e0]
      cases o<;>first | (cases h2;done) | skip
      obtain ⟨c,hc,e1⟩:=map_inv h2
      cases e1
      exact isTrue_not (ih hc hq)
    rcases bopE_inv hs with ⟨o,xs,p,e0,h2⟩ | hs
    · rw [e0]
      cases o with
      | And=>exact wpAny_isTrue_BoolOp (bopv_ok (.inl ⟨rfl,rfl⟩) ih h2 hq)
      | Or=>exact wpAny_isTrue_BoolOp (bopv_ok (.inr ⟨rfl,rfl⟩) ih h2 hq)
    rcases nameE_inv hs with ⟨x,p,e0,h2⟩ | hs
    · rw [e0]
      obtain ⟨q,h1,h3⟩:=Option.bind_eq_some_iff.mp h2
      obtain ⟨c,hc,e1⟩:=map_inv h3
      cases e1
      exact isTrue_plain (sev_ok F hk h1 (trv_ok hc hq))
    · cases hs
theorem if_sev {test:PySem.Expr} {body orelse:List Stmt} {pos:Pos} {tk t':Nat} {b:Bool} {Q:Flow→Shared→Prop} (F:Fr g L h m) (hk:cs.kind = .function) (hs:tev cs m 6 test tk = some (b,t')) (hq:wpAny (model prog w) A (execs (bif b then body else orelse) (envX cn cs L a ccd cl)) Q E ⟨h,GC,DC,t',OC⟩):wpAny (model prog w) A (exec (.If test body orelse pos) (envX cn cs L a ccd cl)) Q E ⟨h,GC,DC,tk,OC⟩ :=
  wpAny_If (tev_ok F hk hs (by cases b<;>exact hq))
theorem if_t {test:PySem.Expr} {body orelse:List Stmt} {pos:Pos} {tk t':Nat} {Q:Flow→Shared→Prop} (F:Fr g L h m) (hk:cs.kind = .function) (hs:tev cs m 6 test tk = some (true,t')) (hq:wpAny (model prog w) A (execs body (envX cn cs L a ccd cl)) Q E ⟨h,GC,DC,t',OC⟩):wpAny (model prog w) A (exec (.If test body orelse pos) (envX cn cs L a ccd cl)) Q E ⟨h,GC,DC,tk,OC⟩:=if_sev (b:=true) F hk hs hq
theorem if_f {test:PySem.Expr} {body orelse:List Stmt} {pos:Pos} {tk t':Nat} {Q:Flow→Shared→Prop} (F:Fr g L h m) (hk:cs.kind = .function) (hs:tev cs m 6 test tk = some (false,t')) (hq:wpAny (model prog w) A (execs orelse (envX cn cs L a ccd cl)) Q E ⟨h,GC,DC,t',OC⟩):wpAny (model prog w) A (exec (.If test body orelse pos) (envX cn cs L a ccd cl)) Q E ⟨h,GC,DC,tk,OC⟩:=if_sev (b:=false) F hk hs hq
end
theorem lst0 {l:List (Str×Value)} (h:l = []):l = []:=h
theorem lst1 {l:List (Str×Value)} {a:Str} {u:Value} (h:l = [(a,u)]):l = [(a,u)]:=h
theorem lst2 {l:List (Str×Value)} {a b:Str} {u v:Value} (h:l = [(a,u),(b,v)]):l = [(a,u),(b,v)]:=h
theorem lst3 {l:List (Str×Value)} {a b c:Str} {u v x:Value} (h:l = [(a,u),(b,v),(c,x)]):l = [(a,u),(b,v),(c,x)]:=h
theorem enterF {A A₀:Around} {hpS:Heap} {tkS:Nat} {K:Frag} {L:Addr} {h₀ base:Heap} {m:Str→Option Value} {news:List (Addr×Obj)} {env:Env} {outer:List Env} {name qual:Str} {params:Arguments} {body:List Stmt} {scope:Scope} {dV kV doc pm cdv ct oc:Value} {an od:Option Addr} {osl:Array (Option Value)} {f:Addr} {vs:List Value} {binds l':List (Str×Value)} {Q E:Value→Shared→Prop}
    (B:Below A₀ base outer h₀) (F:Fr h₀ L hpS m) (X₀:K.In h₀) (N:News h₀ L hpS news) (T:Top p loose mean mg mb h₀) (hA:A.frames = some (env::outer)) (hf:env.frame = some L) (hke:env.scope.kind = .function)
    (ho:K.lookup f = some ⟨oc,od,.func (fnOf name qual params body scope dV kV doc pm an cdv ct),osl⟩) (hcd:codeIn K cdv qual = true) (hroom:A.depth < recursionLimit)
    (hbind:BindsTo ⟨hpS,GC,DC,tkS,OC⟩ (fnOf name qual params body scope dV kV doc pm an cdv ct) ⟨vs,[]⟩ binds) (hloc:∀ y∈binds,scope.names.lookup y.1 = some .local) (hb:binds.reverse = l')
    (k:∀ g L' h₁ tk,Fr h₀ L g m→News g L' h₁ news→Below A base (env::outer) g→K.In g→Top p loose mean mg mb g →
      let m':=fun y=>l'.lookup y;let e':=envOf qual scope L' f cdv;let A':=A.deeper e';
      let R':Result→Shared→Prop:=fun r s'=>match r with | .ok (.ret v)=>Q v s' | .ok _=>False | .error e=>E e s';
      let Q':=fun fl s'=>LeaveK h₀ L m g R' (match fl with | .ret v=>v | _=>.none) s';
      let E':=fun e s'=>wpAny (model prog w) A' (leaving e' e) (fun _ s''=>E e s'') (fun e' s''=>E e' s'') s'
      Fr g L' h₁ m'→wpAny (model prog w) A' (execs body e') Q' E' ⟨h₁,GC,DC,tk,OC⟩)
    (hco:scope.isCoroutine = false) (hgen:scope.isGenerator = false) (hk:scope.kind = .function) (hcell:∀ x∈scope.names,x.2≠.cell):wpAny (model prog w) A (call (.ref f) vs) Q E ⟨hpS,GC,DC,tkS,OC⟩ :=
  wpAny_call (code_def B F X₀ N T hA hf hke ho hcd hroom hbind hloc (fun g L' h₁ FG F' N' B' X' T'=>k g L' h₁ _ FG N' B' X' T' (hb▸F')) hco hgen hk hcell)
section
variable {A:Around} {E:Value→Shared→Prop} {K:Frag} {g h:Heap} {L a:Addr} {m:Str→Option Value} {tk t':Nat} {cn:Str} {cs:Scope} {ccd:Value} {cl:List (Str×Addr)}
theorem attr_S {x attr:Str} {xp pos:Pos} {v:Value} {Q:Value→Shared→Prop} (F:Fr g L h m) (hk:cs.kind = .function) (hs:sev cs m (.Name x xp) tk = some (v,t')) (hq:wpAny (model prog w) A (getAttr v attr true) Q E ⟨h,GC,DC,t',OC⟩):wpAny (model prog w) A (eval (.Attribute (.Name x xp) attr pos) (envX cn cs L a ccd cl)) Q E ⟨h,GC,DC,tk,OC⟩ :=
  Attribute_Name_ (sev_ok F hk hs hq)
theorem sub_S {value slice:PySem.Expr} {pos:Pos} {o i:Value} {t1:Nat} {Q:Value→Shared→Prop} (F:Fr g L h m) (hk:cs.kind = .function) (h1:sev cs m value tk = some (o,t1)) (h2:sev cs m slice t1 = some (i,t')) (hq:wpAny (model prog w) A (subscriptTail value slice o i) Q E ⟨h,GC,DC,t',OC⟩):wpAny (model prog w) A (eval (.Subscript value slice pos) (envX cn cs L a ccd cl)) Q E ⟨h,GC,DC,tk,OC⟩ :=
  Subscript_ (sev_ok F hk h1 (sev_ok F hk h2 hq))
theorem callB {f:Str} {id:String} {p1 pos:Pos} {e1:PySem.Expr} {es:List PySem.Expr} {vs:List Value} {Q:Value→Shared→Prop} (F:Fr g L h m) (X:K.In g) (T:Top p loose mean mg mb g) (hk:cs.kind = .function) (e:nsIn K mainGlobals f = some none) (hv:bootBuiltins f = some (.builtin id)) (hn:f ≠ "__name__") (hx:isGl cs f = true)
    (hs:sevs cs m (e1::es) tk = some (vs,t')) (hq:wpAny (model prog w) A (call (.builtin id) vs) Q E ⟨h,GC,DC,t',OC⟩):wpAny (model prog w) A (eval (.Call (.Name f p1) (e1::es) [] pos) (envX cn cs L a ccd cl)) Q E ⟨h,GC,DC,tk,OC⟩:=by
  refine Call_ (nameX_B F X (topRead_of T) e hv hn ?_ hk (isGl_ok hx).1 (isGl_ok hx).2)
  have h2:=hs
  unfold sevs at h2
  split at h2
  · rename_i v t1 h1
    split at h2
    · rename_i vs2 t2 h3
      exact callWith_builtin1 (sevs_ok F hk hs hq) (sev_each h1) (sevs_plain h3)
    · cases h2
  · cases h2
end
section
variable {A:Around} {E:Value→Shared→Prop} {g h:Heap} {L a:Addr} {m:Str→Option Value} {tk t':Nat} {cn:Str} {cs:Scope} {ccd:Value} {cl:List (Str×Addr)}
theorem args_S {e:PySem.Expr} {rest:List PySem.Expr} {pos:Pos} {v:Value} {Q:List Value→Shared→Prop} (F:Fr g L h m) (hk:cs.kind = .function) (hs:sev cs m e tk = some (v,t')) (hq:wpAny (model prog w) A (spliced (backTo pos (starEach rest (envX cn cs L a ccd cl)))) (fun vs s=>Q (v::vs) s) E ⟨h,GC,DC,t',OC⟩) :
    wpAny (model prog w) A (spliced (backTo pos (starEach (e::rest) (envX cn cs L a ccd cl)))) Q E ⟨h,GC,DC,tk,OC⟩:=args_cons (sev_ok F hk hs hq) (sev_each hs)
theorem cmpT_S {l r:PySem.Expr} {op:CmpOp} {pos:Pos} {whole:Sem Value} {v:Value} {Q:Bool→Shared→Prop} (F:Fr g L h m) (hk:cs.kind = .function) (hs:sev cs m l tk = some (v,t')) (hm:behindInMarks op r = false) (hq:wpAny (model prog w) A (eval r (envX cn cs L a ccd cl)) (fun b s=>wpAny (model prog w) A (compareOp op v b) (fun c s=>wpAny (model prog w) A (truthy c) Q E s) E s) E ⟨h,GC,DC,t',OC⟩) :
    wpAny (model prog w) A (PySem.isTrue (.Compare l [op] [r] pos) (envX cn cs L a ccd cl) whole) Q E ⟨h,GC,DC,tk,OC⟩:=wpAny_isTrue_Compare1 (sev_ok F hk hs hq) hm
theorem cmpE_S {l r:PySem.Expr} {op:CmpOp} {pos:Pos} {v:Value} {Q:Value→Shared→Prop} (F:Fr g L h m) (hk:cs.kind = .function) (hs:sev cs m l tk = some (v,t')) (hm:behindInMarks op r = false) (hq:wpAny (model prog w) A (eval r (envX cn cs L a ccd cl)) (fun b s=>wpAny (model prog w) A (compareOp op v b) Q E s) E ⟨h,GC,DC,t',OC⟩) :
    wpAny (model prog w) A (eval (.Compare l [op] [r] pos) (envX cn cs L a ccd cl)) Q E ⟨h,GC,DC,tk,OC⟩:=wpAny_Compare1 (sev_ok F hk hs hq) hm
theorem subV_S {value slice:PySem.Expr} {pos:Pos} {o:Value} {Q:Value→Shared→Prop} (F:Fr g L h m) (hk:cs.kind = .function) (hs:sev cs m value tk = some (o,t')) (hq:wpAny (model prog w) A (eval slice (envX cn cs L a ccd cl)) (fun i s=>wpAny (model prog w) A (subscriptTail value slice o i) Q E s) E ⟨h,GC,DC,t',OC⟩) :
    wpAny (model prog w) A (eval (.Subscript value slice pos) (envX cn cs L a ccd cl)) Q E ⟨h,GC,DC,tk,OC⟩:=Subscript_ (sev_ok F hk hs hq)
theorem binL_S {l r:PySem.Expr} {op:Operator} {pos:Pos} {v:Value} {Q:Value→Shared→Prop} (F:Fr g L h m) (hk:cs.kind = .function) (hs:sev cs m l tk = some (v,t')) (hq:wpAny (model prog w) A (eval r (envX cn cs L a ccd cl)) (fun b s=>wpAny (model prog w) A (binaryOp op v b) Q E s) E ⟨h,GC,DC,t',OC⟩) :
    wpAny (model prog w) A (eval (.BinOp l op r pos) (envX cn cs L a ccd cl)) Q E ⟨h,GC,DC,tk,OC⟩:=wpAny_BinOp (sev_ok F hk hs hq)
theorem bin2_S {l r:PySem.Expr} {op:Operator} {pos:Pos} {v u:Value} {t1:Nat} {Q:Value→Shared→Prop} (F:Fr g L h m) (hk:cs.kind = .function) (h1:sev cs m l tk = some (v,t1)) (h2:sev cs m r t1 = some (u,t')) (hq:wpAny (model prog w) A (binaryOp op v u) Q E ⟨h,GC,DC,t',OC⟩) :
    wpAny (model prog w) A (eval (.BinOp l op r pos) (envX cn cs L a ccd cl)) Q E ⟨h,GC,DC,tk,OC⟩:=wpAny_BinOp (sev_ok F hk h1 (sev_ok F hk h2 hq))
theorem setA_S {o value:PySem.Expr} {attr:Str} {pos' pos:Pos} {v ov:Value} {t1:Nat} {Q:Flow→Shared→Prop} (F:Fr g L h m) (hk:cs.kind = .function) (h1:sev cs m value tk = some (v,t1)) (h2:sev cs m o t1 = some (ov,t')) (hw:swapsWith value (some (.Attribute o attr pos')) pos.line (envX cn cs L a ccd cl) = pure false) (hq:wpAny (model prog w) A (setAttr ov attr v) (fun _=>Q .next) E ⟨h,GC,DC,t',OC⟩) :
    wpAny (model prog w) A (exec (.Assign [.Attribute o attr pos'] value pos) (envX cn cs L a ccd cl)) Q E ⟨h,GC,DC,tk,OC⟩:=plainObj_wpAny_Assign_Attribute (sev_ok F hk h1 (sev_ok F hk h2 hq)) hw
theorem test_S {x:Str} {p:Pos} {whole:Sem Value} {v:Value} {Q:Bool→Shared→Prop} (F:Fr g L h m) (hk:cs.kind = .function) (hs:sev cs m (.Name x p) tk = some (v,t')) (hq:wpAny (model prog w) A (truthy v) Q E ⟨h,GC,DC,t',OC⟩) (he:whole = eval (.Name x p) (envX cn cs L a ccd cl)) :
    wpAny (model prog w) A (PySem.isTrue (.Name x p) (envX cn cs L a ccd cl) whole) Q E ⟨h,GC,DC,tk,OC⟩:=by
  subst he
  exact isTrue_plain (sev_ok F hk hs hq)
theorem testB_S {x:Str} {p:Pos} {whole:Sem Value} {b:Bool} {Q:Bool→Shared→Prop} (F:Fr g L h m) (hk:cs.kind = .function) (hs:sev cs m (.Name x p) tk = some (.bool b,t')) (he:whole = eval (.Name x p) (envX cn cs L a ccd cl)) (hq:Q b ⟨h,GC,DC,t',OC⟩) :
    wpAny (model prog w) A (PySem.isTrue (.Name x p) (envX cn cs L a ccd cl) whole) Q E ⟨h,GC,DC,tk,OC⟩:=test_S F hk hs (wpAny_truthy_bool hq) he
theorem mth_S {o:PySem.Expr} {name:Str} {apos pos:Pos} {args:List PySem.Expr} {pl:Sem Bool} {v:Value} {Q:Value→Shared→Prop} (F:Fr g L h m) (hk:cs.kind = .function) (hs:sev cs m o tk = some (v,t')) (hq:wpAny (model prog w) A (getMethod v name pl) (fun fx s=>wpAny (model prog w) A (callWith pos fx.1 fx.2 (backTo pos (starEach args (envX cn cs L a ccd cl))) []) Q E s) E ⟨h,GC,DC,t',OC⟩)
    (he:eval (.Call (.Attribute o name apos) args [] pos) (envX cn cs L a ccd cl) = (do
          let ov ← eval o (envX cn cs L a ccd cl)
          standAt apos.atName
          let (f,first) ← holding [ov] (getMethod ov name pl)
          callWith pos f first (backTo pos (starEach args (envX cn cs L a ccd cl))) [])) :
    wpAny (model prog w) A (eval (.Call (.Attribute o name apos) args [] pos) (envX cn cs L a ccd cl)) Q E ⟨h,GC,DC,tk,OC⟩:=MethodCall_ (sev_ok F hk hs hq) he
end
theorem lookup_none_of {β:Type} {y:Str} {l:List (Str×β)}:y ∉ l.map (·.1)→l.lookup y = none:=by
  induction l with
  | nil=>exact fun _=>rfl
  | cons p l ih =>
    intro h
    obtain ⟨a,b⟩:=p
    rw [List.lookup_cons]
    have h1:(y == a) = false:=by
      cases q:y == a with
      | false=>rfl
      | true=>exact absurd (List.mem_map.mpr ⟨(a,b),.head _,(eq_of_beq q).symm⟩) h
    rw [h1]
    exact ih fun q=>h (.tail _ q)
theorem lookup_append_ {β:Type} {y:Str}:∀ {l r:List (Str×β)},(l++r).lookup y = (l.lookup y).or (r.lookup y)
  | [],_=>rfl
  | (a,b)::l,r=>by
    rw [List.cons_append,List.lookup_cons,List.lookup_cons]
    cases y == a with
    | true=>rfl
    | false=>exact lookup_append_
theorem lookup_reverse_ {β:Type} {y:Str} {l:List (Str×β)}:(l.map (·.1)).Nodup→l.reverse.lookup y = l.lookup y:=by
  induction l with
  | nil=>exact fun _=>rfl
  | cons p l ih =>
    intro h
    obtain ⟨a,b⟩:=p
    rw [List.map_cons,List.nodup_cons] at h
    rw [List.reverse_cons,lookup_append_,ih h.2,List.lookup_cons]
    cases q:y == a with
    | true =>
      have:l.lookup y = none:=lookup_none_of (by rw [eq_of_beq q];exact h.1)
      rw [this,List.lookup_cons,q];rfl
    | false=>rw [List.lookup_cons,q];cases l.lookup y<;>rfl
theorem zip_nodup:∀ {l:List Str} {vs:List Value},l.Nodup→((l.zip vs).map (·.1)).Nodup
  | [],_,_=>by simp
  | _::_,[],_=>by simp
  | a::l,v::vs,h=>by
    rw [List.nodup_cons] at h
    simp only [List.zip_cons_cons,List.map_cons,List.nodup_cons]
    refine ⟨fun q=>h.1 ?_,zip_nodup h.2⟩
    obtain ⟨p,hp,e⟩:=List.mem_map.mp q
    exact e▸(List.of_mem_zip hp).1
noncomputable def zipR (params:Arguments) (vs:List Value):List (Str×Value):=(params.args.map (·.arg)).zip vs
theorem enterH {dp un:Nat} {gd:Option (List Code)} {cn:Str} {cs:Scope} {a:Addr} {ccd:Value} {cl:List (Str×Addr)} {A₀:Around} {hpS:Heap} {tkS:Nat} {K:Frag} {L:Addr} {h₀ base:Heap} {m:Str→Option Value} {news:List (Addr×Obj)} {outer:List Env} {name qual:Str} {params:Arguments} {body:List Stmt} {scope:Scope} {dV kV doc pm cdv ct oc:Value} {an od:Option Addr} {osl:Array (Option Value)} {f:Addr} {vs:List Value} {binds l':List (Str×Value)} {Q E:Value→Shared→Prop}
    (B:Below A₀ base outer h₀) (F:Fr h₀ L hpS m) (X₀:K.In h₀) (N:News h₀ L hpS news) (T:Top p loose mean mg mb h₀) (hke:cs.kind = .function)
    (ho:K.lookup f = some ⟨oc,od,.func (fnOf name qual params body scope dV kV doc pm an cdv ct),osl⟩) (hcd:codeIn K cdv qual = true) (hroom:dp < recursionLimit)
    (hbind:BindsTo ⟨hpS,GC,DC,tkS,OC⟩ (fnOf name qual params body scope dV kV doc pm an cdv ct) ⟨vs,[]⟩ binds) (hloc:∀ y∈binds,scope.names.lookup y.1 = some .local) (hb:binds.reverse = l')
    (k:∀ g L' h₁ tk,Fr h₀ L g m→News g L' h₁ news→K.In g→Top p loose mean mg mb g →
      let ou:=envX cn cs L a ccd cl::outer;let d':=dp + 1;let u':=un + 3;let A1:=ktrTop dp un gd cn cs L a ccd cl outer;Below A1 base ou g →
      let m':=fun y=>l'.lookup y;let e':=envX qual scope L' f cdv [];let A':=ktrTop d' u' gd qual scope L' f cdv [] ou;
      let R':Result→Shared→Prop:=fun r s'=>match r with | .ok (.ret v)=>Q v s' | .ok _=>False | .error e=>E e s';
      let Q':=fun fl s'=>LeaveK h₀ L m g R' (match fl with | .ret v=>v | _=>.none) s';
      let E':=fun e s'=>wpAny (model prog w) A' (leaving e' e) (fun _ s''=>E e s'') (fun e' s''=>E e' s'') s'
      Fr g L' h₁ m'→wpAny (model prog w) A' (execs body e') Q' E' ⟨h₁,GC,DC,tk,OC⟩)
    (hco:scope.isCoroutine = false) (hgen:scope.isGenerator = false) (hk:scope.kind = .function) (hcell:∀ x∈scope.names,x.2≠.cell):wpAny (model prog w) (ktrTop dp un gd cn cs L a ccd cl outer) (call (.ref f) vs) Q E ⟨hpS,GC,DC,tkS,OC⟩ :=
  wpAny_call (code_def B F X₀ N T rfl rfl hke ho hcd hroom hbind hloc (fun g L' h₁ FG F' N' B' X' T'=>k g L' h₁ _ FG N' X' T' B' (hb▸F')) hco hgen hk hcell)
theorem enterZ {dp un:Nat} {gd:Option (List Code)} {cn:Str} {cs:Scope} {a:Addr} {ccd:Value} {cl:List (Str×Addr)} {A₀:Around} {hpS:Heap} {tkS:Nat} {K:Frag} {L:Addr} {h₀ base:Heap} {m:Str→Option Value} {news:List (Addr×Obj)} {outer:List Env} {name qual:Str} {params:Arguments} {body:List Stmt} {scope:Scope} {dV kV doc pm cdv ct oc:Value} {an od:Option Addr} {osl:Array (Option Value)} {f:Addr} {vs:List Value} {binds:List (Str×Value)} {Q E:Value→Shared→Prop}
    (B:Below A₀ base outer h₀) (F:Fr h₀ L hpS m) (X₀:K.In h₀) (N:News h₀ L hpS news) (T:Top p loose mean mg mb h₀) (hke:cs.kind = .function)
    (ho:K.lookup f = some ⟨oc,od,.func (fnOf name qual params body scope dV kV doc pm an cdv ct),osl⟩) (hcd:codeIn K cdv qual = true) (hroom:dp < recursionLimit)
    (hz:zipR params vs = binds) (hbind:bindArgs (fnOf name qual params body scope dV kV doc pm an cdv ct) ⟨vs,[]⟩ = pure (zipR params vs)) (hloc:(params.args.all fun y=>match scope.names.lookup y.arg with | some .local=>true | _=>false) = true)
    (k:∀ g L' h₁ tk,Fr h₀ L g m→News g L' h₁ news→K.In g→Top p loose mean mg mb g →
      let ou:=envX cn cs L a ccd cl::outer;let d':=dp + 1;let u':=un + 3;let A1:=ktrTop dp un gd cn cs L a ccd cl outer;Below A1 base ou g →
      let m':=fun y=>binds.lookup y;let e':=envX qual scope L' f cdv [];let A':=ktrTop d' u' gd qual scope L' f cdv [] ou;
      let R':Result→Shared→Prop:=fun r s'=>match r with | .ok (.ret v)=>Q v s' | .ok _=>False | .error e=>E e s';
      let Q':=fun fl s'=>LeaveK h₀ L m g R' (match fl with | .ret v=>v | _=>.none) s';
      let E':=fun e s'=>wpAny (model prog w) A' (leaving e' e) (fun _ s''=>E e s'') (fun e' s''=>E e' s'') s'
      Fr g L' h₁ m'→wpAny (model prog w) A' (execs body e') Q' E' ⟨h₁,GC,DC,tk,OC⟩)
    (hnd:(params.args.map (·.arg)).Nodup) (hco:scope.isCoroutine = false) (hgen:scope.isGenerator = false) (hk:scope.kind = .function) (hcell:∀ x∈scope.names,x.2≠.cell):wpAny (model prog w) (ktrTop dp un gd cn cs L a ccd cl outer) (call (.ref f) vs) Q E ⟨hpS,GC,DC,tkS,OC⟩:=by
  refine enterH (l':=(zipR params vs).reverse) B F X₀ N T hke ho hcd hroom (BindsTo.of_eq hbind) (fun y hy=>?_) rfl (fun g L' h₁ tk FG N' X' T'=>?_) hco hgen hk hcell
  · have h1:y.1∈params.args.map (·.arg):=(List.of_mem_zip hy).1
    obtain ⟨q,hq,e⟩:=List.mem_map.mp h1
    have h2:=List.all_eq_true.mp hloc q hq
    rw [e] at h2
    split at h2
    · assumption
    · cases h2
  · have e:(fun y=>(zipR params vs).reverse.lookup y) = fun y=>binds.lookup y:=by
      rw [← hz]
      funext y
      exact lookup_reverse_ (zip_nodup hnd)
    intro ou d' u' A1 B' m' e' A' R' Q' E' F'
    exact k g L' h₁ tk FG N' X' T' B' (by rw [← e];exact F')
noncomputable def nodupB:List Str→Bool
  | []=>true
  | a::l=>!(l.contains a) && nodupB l
theorem nodupB_ok:∀ {l:List Str},nodupB l = true→l.Nodup
  | [],_=>.nil
  | a::l,h=>by
    have h2:=Bool.and_eq_true_iff.mp h
    refine List.nodup_cons.mpr ⟨fun q=>?_,nodupB_ok h2.2⟩
    rw [List.contains_iff_mem.mpr q] at h2
    cases h2.1
noncomputable def entOk (params:Arguments) (scope:Scope):Bool :=
  (params.args.all fun y=>match scope.names.lookup y.arg with | some .local=>true | _=>false) && (nodupB (params.args.map (·.arg)) && (!scope.isCoroutine && (!scope.isGenerator && ((match scope.kind with | .function=>true | _=>false) && scope.names.all fun x=>match x.2 with | .cell=>false | _=>true))))
@[reducible] noncomputable def RetR (Q E:Value→Shared→Prop):Result→Shared→Prop:=fun r s'=>match r with | .ok (.ret v)=>Q v s' | .ok _=>False | .error e=>E e s'
@[reducible] noncomputable def LeaveQ (h₀:Heap) (L:Addr) (m:Str→Option Value) (g:Heap) (R:Result→Shared→Prop):Flow→Shared→Prop:=fun fl s'=>LeaveK h₀ L m g R (match fl with | .ret v=>v | _=>.none) s'
@[reducible] noncomputable def LeaveE (A':Around) (e':Env) (E:Value→Shared→Prop):Value→Shared→Prop:=fun e s'=>wpAny (model prog w) A' (leaving e' e) (fun _ s''=>E e s'') (fun e' s''=>E e' s'') s'
theorem enterY {dp un:Nat} {gd:Option (List Code)} {cn:Str} {cs:Scope} {a:Addr} {ccd:Value} {cl:List (Str×Addr)} {A₀:Around} {hpS:Heap} {tkS:Nat} {K:Frag} {L:Addr} {h₀ base:Heap} {m:Str→Option Value} {news:List (Addr×Obj)} {outer:List Env} {name qual:Str} {params:Arguments} {body:List Stmt} {scope:Scope} {dV kV doc pm cdv ct oc:Value} {an od:Option Addr} {osl:Array (Option Value)} {f:Addr} {vs:List Value} {binds:List (Str×Value)} {Q E:Value→Shared→Prop}
    (B:Below A₀ base outer h₀) (F:Fr h₀ L hpS m) (X₀:K.In h₀) (N:News h₀ L hpS news) (T:Top p loose mean mg mb h₀) (hke:cs.kind = .function)
    (ho:K.lookup f = some ⟨oc,od,.func (fnOf name qual params body scope dV kV doc pm an cdv ct),osl⟩) (hcd:codeIn K cdv qual = true) (hroom:dp < recursionLimit)
    (hz:zipR params vs = binds) (hbind:bindArgs (fnOf name qual params body scope dV kV doc pm an cdv ct) ⟨vs,[]⟩ = pure (zipR params vs)) (hok:entOk params scope = true)
    (k:∀ g L' h₁ tk,Fr h₀ L g m→News g L' h₁ news→K.In g→Top p loose mean mg mb g →
      let ou:=envX cn cs L a ccd cl::outer;let d':=dp + 1;let u':=un + 3;let A1:=ktrTop dp un gd cn cs L a ccd cl outer;Below A1 base ou g →
      let m':=fun y=>binds.lookup y;let e':=envX qual scope L' f cdv [];let A':=ktrTop d' u' gd qual scope L' f cdv [] ou;
      let R':=RetR Q E;let Q':=LeaveQ h₀ L m g R';let E':=LeaveE A' e' E
      Fr g L' h₁ m'→wpAny (model prog w) A' (execs body e') Q' E' ⟨h₁,GC,DC,tk,OC⟩):wpAny (model prog w) (ktrTop dp un gd cn cs L a ccd cl outer) (call (.ref f) vs) Q E ⟨hpS,GC,DC,tkS,OC⟩:=by
  unfold entOk at hok
  have h1:=Bool.and_eq_true_iff.mp hok
  have h2:=Bool.and_eq_true_iff.mp h1.2
  have h3:=Bool.and_eq_true_iff.mp h2.2
  have h4:=Bool.and_eq_true_iff.mp h3.2
  have h5:=Bool.and_eq_true_iff.mp h4.2
  refine enterZ B F X₀ N T hke ho hcd hroom hz hbind h1.1 k (nodupB_ok h2.1) (Bool.eq_false_iff.mpr fun q=>by rw [q] at h3;cases h3.1) (Bool.eq_false_iff.mpr fun q=>by rw [q] at h4;cases h4.1) ?_ fun x hx e=>?_
  · have q:=h5.1
    split at q
    · assumption
    · cases q
  · have q:=List.all_eq_true.mp h5.2 x hx
    rw [e] at q
    cases q
theorem lo64 {n:Int} (h:n.natAbs < 10000):-2 ^ 64 < n:=by omega
theorem hi64 {n:Int} (h:n.natAbs < 10000):n < 2 ^ 64:=by omega
theorem lo64p {n:Int} (h:0 < n):-2 ^ 64 < n:=by omega
theorem in7 {i:Int} (h0:0≤i) (h:i < 7):i = 0∨i = 1∨i = 2∨i = 3∨i = 4∨i = 5∨i = 6:=by
  obtain ⟨k,rfl⟩:=Int.eq_ofNat_of_zero_le h0
  exact (by decide +kernel:∀ k:Nat,k < 7→((k:Int) = 0∨(k:Int) = 1∨(k:Int) = 2∨(k:Int) = 3∨(k:Int) = 4∨(k:Int) = 5∨(k:Int) = 6)) k (Int.ofNat_lt.mp h)
theorem in4 {i:Int} (h0:0≤i) (h:i < 4):i = 0∨i = 1∨i = 2∨i = 3:=by
  obtain ⟨k,rfl⟩:=Int.eq_ofNat_of_zero_le h0
  exact (by decide +kernel:∀ k:Nat,k < 4→((k:Int) = 0∨(k:Int) = 1∨(k:Int) = 2∨(k:Int) = 3)) k (Int.ofNat_lt.mp h)
theorem in13 {i:Int} (h:1≤i∧i≤3):i = 1∨i = 2∨i = 3:=(in4 (Int.le_trans (by decide) h.1) (Int.lt_add_one_of_le h.2)).elim (fun e=>by rw [e] at h;exact absurd h.1 (by decide)) id
theorem szL {n:Nat} (h:n≤6):n≤sizeLine:=Nat.le_trans h (by rw [sizeLine_eq];decide)
theorem c12 {a p i:Nat} (h:a≤12 * p + i) (hi:i < 12):a + 1≤12 * (p + 1):=Nat.le_trans (Nat.succ_le_succ h) (Nat.add_le_add_left hi _)
theorem nat6 {n:Nat} (h:n≤6) (h0:0 < n):n = 1∨n = 2∨n = 3∨n = 4∨n = 5∨n = 6:=(by decide +kernel:∀ n:Nat,n < 7→0 < n→(n = 1∨n = 2∨n = 3∨n = 4∨n = 5∨n = 6)) n (Nat.lt_succ_of_le h) h0
theorem nat26 {n:Nat} (h:n≤6) (h0:2≤n):n = 2∨n = 3∨n = 4∨n = 5∨n = 6:=(by decide +kernel:∀ n:Nat,n < 7→2≤n→(n = 2∨n = 3∨n = 4∨n = 5∨n = 6)) n (Nat.lt_succ_of_le h) h0
section
variable {A:Around} {E:Value→Shared→Prop} {hpS:Heap} {tkS:Nat} {h₀:Heap} {L:Addr} {m:Str→Option Value} {news:List (Addr×Obj)}
theorem cIntE {env:Env} {i:Int} {k:Nat} {pos:Pos} {Q:Value→Shared→Prop} (h:Q (.int i tkS) ⟨hpS,GC,DC,tkS + 1,OC⟩):wpAny (model prog w) A (eval (.Constant (.int i) k pos) env) Q E ⟨hpS,GC,DC,tkS,OC⟩:=wpAny_Constant_int h
theorem cStrE {env:Env} {x:Str} {k:Nat} {pos:Pos} {Q:Value→Shared→Prop} (h:Q (.str x tkS) ⟨hpS,GC,DC,tkS + 1,OC⟩):wpAny (model prog w) A (eval (.Constant (.str x) k pos) env) Q E ⟨hpS,GC,DC,tkS,OC⟩:=wpAny_Constant_str h
theorem newTupE {vs:List Value} {Q:Value→Shared→Prop} (F:Fr h₀ L hpS m) (N:News h₀ L hpS news)
    (h:∀ D h',Fr h₀ L h' m→News h₀ L h' ((D,({ cls:=.type "tuple", data:=.seq vs.toArray }:Obj))::news)→AllLt D news→Q (.ref D) ⟨h',GC,DC,tkS,OC⟩) (hz:vs.length≤sizeLine):wpAny (model prog w) A (newTuple vs) Q E ⟨hpS,GC,DC,tkS,OC⟩ :=
  kup_newTuple F N (fun D h' F' N' l=>h D h' F' N' (allLt_of l)) hz
theorem newListE {vs:List Value} {Q:Value→Shared→Prop} (F:Fr h₀ L hpS m) (N:News h₀ L hpS news)
    (h:∀ l h',Fr h₀ L h' m→News h₀ L h' ((l,listOf vs.toArray 0)::news)→AllLt l news→Q (.ref l) ⟨h',GC,DC,tkS,OC⟩) (hz:vs.length≤sizeLine):wpAny (model prog w) A (newList vs) Q E ⟨hpS,GC,DC,tkS,OC⟩ :=
  newList_K F N (fun D h' F' N' l=>h D h' F' N' (allLt_of l)) hz
theorem storeXE {a:Addr} {ccd:Value} {cn:Str} {cs:Scope} {cl:List (Str×Addr)} {x:Str} {v:Value} {Q:Unit→Shared→Prop} (F:Fr h₀ L hpS m) (N:News h₀ L hpS news)
    (h:∀ h',Fr h₀ L h' (fun y=>if y = x then some v else m y)→News h₀ L h' news→Q () ⟨h',GC,DC,tkS + 1,OC⟩)
    (hk:cs.kind = .function) (hx:(envX cn cs L a ccd cl).kindOf x = some .local):wpAny (model prog w) A (storeName (envX cn cs L a ccd cl) x v) Q E ⟨hpS,GC,DC,tkS,OC⟩:=storeX_L F N h hk hx
theorem stN_letE {a:Addr} {ccd:Value} {cn:Str} {cs:Scope} {cl:List (Str×Addr)} {x:Str} {v:Value} {Q:Unit→Shared→Prop} (F:Fr h₀ L hpS m) (N:News h₀ L hpS news)
    (h:let m':=fun y=>if y = x then some v else m y;∀ h',Fr h₀ L h' m'→News h₀ L h' news→Q () ⟨h',GC,DC,tkS + 1,OC⟩)
    (hk:cs.kind = .function) (hx:(envX cn cs L a ccd cl).kindOf x = some .local):wpAny (model prog w) A (storeName (envX cn cs L a ccd cl) x v) Q E ⟨hpS,GC,DC,tkS,OC⟩:=storeX_L F N h hk hx
theorem appendE {its:Array Value} {n:Nat} {D:Addr} {x:Value} {news':List (Addr×Obj)} {Q:Value→Shared→Prop} (F:Fr h₀ L hpS m) (N:News h₀ L hpS news) (U:Upd D (listOf its n) (listOf (its.push x) (n + 1)) news news')
    (h:∀ h',Fr h₀ L h' m→News h₀ L h' news'→Q .none ⟨h',GC,DC,tkS,OC⟩) (hz:its.size≤sizeLine):wpAny (model prog w) A (call (.builtin "list.append") [.ref D,x]) Q E ⟨hpS,GC,DC,tkS,OC⟩:=append_K F N U h hz
theorem evTupE {a:Addr} {ccd:Value} {cn:Str} {cs:Scope} {cl:List (Str×Addr)} {es:List PySem.Expr} {k t':Nat} {pos:Pos} {vs:List Value} {Q:Value→Shared→Prop} (F:Fr h₀ L hpS m) (N:News h₀ L hpS news) (hk:cs.kind = .function) (hs:sevs cs m es tkS = some (vs,t')) (hz:Nat.ble vs.length 6 = true)
    (h:∀ D h',Fr h₀ L h' m→News h₀ L h' ((D,({ cls:=.type "tuple", data:=.seq vs.toArray }:Obj))::news)→AllLt D news→Q (.ref D) ⟨h',GC,DC,t',OC⟩):wpAny (model prog w) A (eval (.Tuple es k pos) (envX cn cs L a ccd cl)) Q E ⟨hpS,GC,DC,tkS,OC⟩ :=
  Tuple_ (sevs_ok F hk hs (newTupE F N h (Nat.le_trans (Nat.le_of_ble_eq_true hz) (by rw [sizeLine_eq];decide))))
theorem evListE {a:Addr} {ccd:Value} {cn:Str} {cs:Scope} {cl:List (Str×Addr)} {es:List PySem.Expr} {t':Nat} {pos:Pos} {vs:List Value} {Q:Value→Shared→Prop} (F:Fr h₀ L hpS m) (N:News h₀ L hpS news) (hk:cs.kind = .function) (hs:sevs cs m es tkS = some (vs,t')) (hz:Nat.ble vs.length 6 = true)
    (h:∀ D h',Fr h₀ L h' m→News h₀ L h' ((D,listOf vs.toArray 0)::news)→AllLt D news→Q (.ref D) ⟨h',GC,DC,t',OC⟩):wpAny (model prog w) A (eval (.List es pos) (envX cn cs L a ccd cl)) Q E ⟨hpS,GC,DC,tkS,OC⟩ :=
  List_ (sevs_ok F hk hs (newListE F N h (Nat.le_trans (Nat.le_of_ble_eq_true hz) (by rw [sizeLine_eq];decide))))
end
inductive RatIn (news:List (Addr×Obj)):Value→Int→Int→Prop
  | led {x:Addr} {n d:Int} {tn td:Tok} {k:Nat}:(x,({ cls:=.type "tuple", data:=.seq #[.int n tn,.int d td] k }:Obj))∈news→RatIn news (.ref x) n d
  | zero:RatIn news (.ref 502) 0 1
theorem RatIn.mono {news news':List (Addr×Obj)} {v:Value} {n d:Int} (h:RatIn news v n d) (hs:∀ p∈news,p∈news'):RatIn news' v n d:=by
  cases h with
  | led hm=>exact .led (hs _ hm)
  | zero=>exact .zero
noncomputable abbrev RatNew (h₀:Heap) (L:Addr) (m:Str→Option Value) (news:List (Addr×Obj)) (Q:Value→Shared→Prop) (n d:Int):Prop :=
  ∀ (x:Addr) (tn td:Tok) (k:Nat) (h':Heap) (tk':Nat),Fr h₀ L h' m→News h₀ L h' ((x,{ cls:=.type "tuple", data:=.seq #[.int n tn,.int d td] k })::news)→(∀ q∈news,q.1 < x)→Q (.ref x) ⟨h',GC,DC,tk',OC⟩
theorem news_sub {h₀ h:Heap} {L:Addr} {news news':List (Addr×Obj)} (N:News h₀ L h news') (hs:∀ p∈news,p∈news'):News h₀ L h news:=fun p hp=>N p (hs p hp)
theorem gcd_turn {x y:Int} (h0:0≤x) (h1:0 < y):Int.gcd y (Int.fmod x y) = Int.gcd x y:=by
  obtain ⟨a,rfl⟩:=Int.eq_ofNat_of_zero_le h0
  obtain ⟨b,rfl⟩:=Int.eq_ofNat_of_zero_le (Int.le_of_lt h1)
  rw [Int.fmod_eq_emod_of_nonneg _ (by (first | lia | omega))]
  show Nat.gcd b (a % b) = Nat.gcd a b
  rw [Nat.gcd_comm b,Nat.gcd_comm a,← Nat.gcd_rec]
theorem gcd_state {x y x' y':Int} (h:Int.gcd x' y' = Int.gcd x y) (hp:0 < y') (h0:0≤x'):0≤y'∧0≤Int.fmod x' y'∧Int.gcd y' (Int.fmod x' y') = Int.gcd x y :=
  ⟨Int.le_of_lt hp,by rw [Int.fmod_eq_emod_of_nonneg _ (by (first | lia | omega))];exact Int.emod_nonneg _ (by (first | lia | omega)),(gcd_turn h0 hp).trans h⟩
theorem gcd_meas {x' y':Int} (hp:0 < y'):(Int.fmod x' y').toNat < y'.toNat:=by
  rw [Int.fmod_eq_emod_of_nonneg _ (by (first | lia | omega))]
  have:=Int.emod_lt_of_pos x' hp
  have:=Int.emod_nonneg x' (b:=y') (by (first | lia | omega))
  (first | lia | omega)
theorem gcd_end {x y x' y':Int} (h:Int.gcd x' y' = Int.gcd x y) (hp:¬ 0 < y') (h0:0≤x') (h1:0≤y'):x' = (Int.gcd x y:Int):=by
  have e:y' = 0:=by (first | lia | omega)
  subst e
  rw [← h,Int.gcd_zero_right]
  (first | lia | omega)
theorem gcd_pos {n d:Int} (h:0 < d):0 < (Int.gcd n d:Int):=by
  have:0 < Int.gcd n d:=Int.gcd_pos_of_ne_zero_right _ (by (first | lia | omega))
  (first | lia | omega)
section
variable (B:Below A₀ base outer h₀) (F:Fr h₀ L hpS m) (X:(Mine.hd.heap_1 (World.params w)).In h₀) (N:News h₀ L hpS news) (T:Top p loose mean mg mb h₀) (hk:cs.kind = .function)
include B F X N T hk
theorem is_na_ct {v:Value} {n d:Int} (hx:RatIn news v n d) (hd:dp + 2 < recursionLimit) (hu:un + 16 < cLine)
  (ret:∀ h' tk',Fr h₀ L h' m→News h₀ L h' news→Q (.bool (n == 0 && d == 0)) ⟨h',GC,DC,tk',OC⟩) :
  wpAny (model prog w) (ktrTop dp un gd cn cs L a ccd cl outer) (call (.ref 537) [v]) Q E ⟨hpS,GC,DC,tkS,OC⟩:=by
  cases hx
  all_goals (
    k_extra "@ENTER"
    k_steps)
  · have hz:n = 0:=by assumption
    rw [show (n == 0 && d == 0) = (d == 0) from by simp [hz]] at ret
    exact ret _ _ (by k_asm) (by k_asm)
  · have hz:¬ n = 0:=by assumption
    rw [show (n == 0 && d == 0) = (n == 0) from by simp [hz]] at ret
    exact ret _ _ (by k_asm) (by k_asm)
  · exact ret _ _ (by k_asm) (by k_asm)
theorem is_na_none_ct (hd:dp + 2 < recursionLimit) (hu:un + 16 < cLine)
  (ret:∀ h' tk',Fr h₀ L h' m→News h₀ L h' news→Q (.bool true) ⟨h',GC,DC,tk',OC⟩) :
  wpAny (model prog w) (ktrTop dp un gd cn cs L a ccd cl outer) (call (.ref 537) [.none]) Q E ⟨hpS,GC,DC,tkS,OC⟩:=by
  k_extra "@ENTER"
  k_steps
  all_goals exact ret _ _ (by k_asm) (by k_asm)
theorem gcd_ct {x y:Int} {tx ty:Tok} (h0:0≤x) (h1:0≤y) (hd:dp + 2 < recursionLimit) (hu:un + 16 < cLine)
  (ret:∀ t h' tk',Fr h₀ L h' m→News h₀ L h' news→Q (.int (Int.gcd x y) t) ⟨h',GC,DC,tk',OC⟩) :
  wpAny (model prog w) (ktrTop dp un gd cn cs L a ccd cl outer) (call (.ref 509) [.int x tx,.int y ty]) Q E ⟨hpS,GC,DC,tkS,OC⟩:=by
  k_extra "@ENTER"
  k_with "state" => exact gcd_state (by assumption) (by assumption) (by assumption)
  k_with "measure" => exact gcd_meas (by assumption)
  k_with "exec While Compare cons nil" => k_while (fun _ x' y'=>0≤x'∧0≤y'∧Int.gcd x' y' = Int.gcd x y) (fun _ _ y'=>y'.toNat) "a" "b"
  k_steps
  all_goals (
    have e:=gcd_end (by assumption) (by assumption) (by assumption) (by assumption)
    rw [← e] at ret
    exact ret _ _ _ (by k_asm) (by k_asm))
theorem gcd1_ct {x y:Int} {tx ty:Tok} (h0:0≤x) (h1:0 < y) (hd:dp + 2 < recursionLimit) (hu:un + 16 < cLine)
  (ret:∀ t h' tk',0 < (Int.gcd x y:Int)→(Int.gcd x y:Int)≤y→Fr h₀ L h' m→News h₀ L h' news→Q (.int (Int.gcd x y) t) ⟨h',GC,DC,tk',OC⟩) :
  wpAny (model prog w) (ktrTop dp un gd cn cs L a ccd cl outer) (call (.ref 509) [.int x tx,.int y ty]) Q E ⟨hpS,GC,DC,tkS,OC⟩ :=
  gcd_ct B F X N T hk h0 (Int.le_of_lt h1) hd hu fun t h' tk'=>ret t h' tk' (gcd_pos h1) (Int.le_of_dvd h1 (Int.gcd_dvd_right ..))
theorem bounded_ct {x y:Int} {tx ty:Tok} (h0:x.natAbs < 1000000000) (h1:y < 1000000000) (h2:0 < y) (hd:dp + 2 < recursionLimit) (hu:un + 16 < cLine)
  (ret:RatNew h₀ L m news Q x y) :
  wpAny (model prog w) (ktrTop dp un gd cn cs L a ccd cl outer) (call (.ref 516) [.int x tx,.int y ty]) Q E ⟨hpS,GC,DC,tkS,OC⟩:=by
  k_extra "@ENTER"
  k_steps
  all_goals exact ret _ _ _ _ _ _ (by k_asm) (by k_asm) (by assumption)
end
end
example:True:=by
  k_with "n call ref" => ((k_here;(with_reducible refine (?_:wpAny _ _ (PySem.call (Value.ref 537) [Value.none] _) _ _ _));k_dflt (refine' is_na_none_ct ?kB__ ?kF__ ?kX__ ?kN__ ?kT__ ?kK__ ?kd__ ?ku__ ?_;(case kB__=>k_asm);(case kF__=>k_asm);(case kX__=>k_asm);(case kN__=>k_asm);(case kT__=>k_asm);(case kK__=>first | eq_refl | assumption);(case kd__=>ktr_room);(case ku__=>ktr_units);(intro h9_ tk9_ F9_ N9_);(try dsimp only);(try k_fold))))
  k_with "n call ref" => ((k_here;(with_reducible refine (?_:wpAny _ _ (PySem.call (Value.ref 537) [Value.ref _] _) _ _ _));k_dflt (refine' is_na_ct ?kB__ ?kF__ ?kX__ ?kN__ ?kT__ ?kK__ ?kx__ ?kd__ ?ku__ ?_;(case kB__=>k_asm);(case kF__=>k_asm);(case kX__=>k_asm);(case kN__=>k_asm);(case kT__=>k_asm);(case kK__=>first | eq_refl | assumption);(case kx__=>(first | assumption | exact RatIn.zero | exact RatIn.led (by k_mem)));(case kd__=>ktr_room);(case ku__=>ktr_units);(intro h9_ tk9_ F9_ N9_);(try dsimp only);(try k_fold))))
  k_with "n call ref" => ((k_here;(with_reducible refine (?_:wpAny _ _ (PySem.call (Value.ref 509) [Value.int _ _,Value.int _ _] _) _ _ _));k_dflt (refine' gcd1_ct ?kB__ ?kF__ ?kX__ ?kN__ ?kT__ ?kK__ ?k0__ ?k1__ ?kd__ ?ku__ ?_;(case kB__=>k_asm);(case kF__=>k_asm);(case kX__=>k_asm);(case kN__=>k_asm);(case kT__=>k_asm);(case kK__=>first | eq_refl | assumption);(case k0__=>(first | lia | omega));(case k1__=>first | assumption | (first | lia | omega));(case kd__=>ktr_room);(case ku__=>ktr_units);(intro t9_ h9_ tk9_ hg9_ hg8_ F9_ N9_);(try dsimp only);(try k_fold))))
  k_with "n call ref" => ((k_here;(with_reducible refine (?_:wpAny _ _ (PySem.call (Value.ref 516) [Value.int _ _,Value.int _ _] _) _ _ _));k_dflt (refine' bounded_ct ?kB__ ?kF__ ?kX__ ?kN__ ?kT__ ?kK__ ?k0__ ?k1__ ?k2__ ?kd__ ?ku__ ?_;(case kB__=>k_asm);(case kF__=>k_asm);(case kX__=>k_asm);(case kN__=>k_asm);(case kT__=>k_asm);(case kK__=>first | eq_refl | assumption);(case k0__=>first | (first | lia | omega) | assumption | exact fdiv_lt1 (by assumption) (by assumption) | exact fdiv_lt2 (by assumption) (by assumption) (by assumption) | exact fdiv_gcd_pos (by assumption));(case k1__=>first | (first | lia | omega) | assumption | exact fdiv_lt1 (by assumption) (by assumption) | exact fdiv_lt2 (by assumption) (by assumption) (by assumption) | exact fdiv_gcd_pos (by assumption));(case k2__=>first | (first | lia | omega) | assumption | exact fdiv_lt1 (by assumption) (by assumption) | exact fdiv_lt2 (by assumption) (by assumption) (by assumption) | exact fdiv_gcd_pos (by assumption));(case kd__=>ktr_room);(case ku__=>ktr_units);(intro x9_ tn9_ td9_ c9_ h9_ tk9_ F9_ N9_ l9_);(try dsimp only);(try k_fold))))
  k_with "o execs cons" => ((k_here;first | (with_reducible refine execs_one ?_) | (with_reducible refine execs_let ?_;intro QL_)))
  k_with "o storeName" => ((k_here;k_dflt (refine' stN_let ?F__ ?N__ ?_ ?a__ ?b__;(case F__=>k_asm);(case N__=>k_asm);(case a__=>eq_refl);(case b__=>eq_refl);intro mL_ h'_ F'_ N'_)))
  k_with "o KTR_ROOM" => (first | exact room2 (by assumption) rfl | exact room1 (by assumption) rfl | exact room3 (by assumption) rfl | exact room0 (by assumption) | ((simp +zetaDelta only [depth_under_make,depth_under_kw,depth_in1,depth_deeper,depth_caller]);first | exact room2 (by assumption) rfl | exact room1 (by assumption) rfl | exact room3 (by assumption) rfl))
  k_with "o KTR_UNITS" => (first | exact room2 (by assumption) rfl | exact room1 (by assumption) rfl | exact room3 (by assumption) rfl)
  trivial
section
local macro_rules (kind := PySem.W.tacticK_extra_) | s => mq "k j e d c o a n" s

noncomputable def mkN (n d:Int):Int:=Int.fdiv n (Int.gcd n d)
noncomputable def mkD (n d:Int):Int:=Int.fdiv d (Int.gcd n d)
theorem fdiv_abs {n g:Int} (h:0 < g):(Int.fdiv n g).natAbs≤n.natAbs:=by
  rw [Int.fdiv_eq_ediv_of_nonneg _ (by (first | lia | omega))]
  by_cases hn:0≤n
  · have h1:=Int.ediv_nonneg hn (Int.le_of_lt h)
    have h2:=Int.ediv_le_self g hn
    (first | lia | omega)
  · have h1:n / g < 0:=Int.ediv_neg_of_neg_of_pos (by (first | lia | omega)) h
    have h2:n≤n / g:=by
      rw [Int.le_ediv_iff_mul_le h]
      have:=Int.mul_le_mul_of_nonpos_left (a:=n) (b:=g) (c:=1) (by (first | lia | omega)) (by (first | lia | omega))
      (first | lia | omega)
    (first | lia | omega)
theorem fdiv_pos' {d g:Int} (h:0 < g) (hd:0 < d) (hg:g ∣ d):0 < Int.fdiv d g:=by
  rw [Int.fdiv_eq_ediv_of_nonneg _ (by (first | lia | omega))]
  exact Int.ediv_pos_of_pos_of_dvd hd (by (first | lia | omega)) hg
theorem mkN_abs {n d:Int} (h:0 < d):(mkN n d).natAbs≤n.natAbs:=fdiv_abs (gcd_pos h)
theorem mkD_pos {n d:Int} (h:0 < d):0 < mkD n d:=fdiv_pos' (gcd_pos h) h (Int.gcd_dvd_right ..)
theorem mkD_le {n d:Int} (h:0 < d):mkD n d≤d:=by
  exact Int.le_trans Int.le_natAbs (Int.le_trans (Int.ofNat_le.mpr (fdiv_abs (gcd_pos (n:=n) h))) (Int.le_of_eq (Int.natAbs_of_nonneg (Int.le_of_lt h))))
theorem fdiv_lt1 {n g:Int} {K:Nat} (h:0 < g) (hn:n.natAbs < K):(Int.fdiv n g).natAbs < K:=Nat.lt_of_le_of_lt (fdiv_abs h) hn
theorem fdiv_lt2 {d g K:Int} (h:0 < g) (hd:0 < d) (hn:d < K):Int.fdiv d g < K:=by
  exact Int.lt_of_le_of_lt Int.le_natAbs (Int.lt_of_le_of_lt (Int.ofNat_le.mpr (fdiv_abs h)) (by rw [Int.natAbs_of_nonneg (Int.le_of_lt hd)];exact hn))
theorem fdiv_gcd_pos {n d:Int} (h:0 < d):0 < Int.fdiv d (Int.gcd n d):=fdiv_pos' (gcd_pos h) h (Int.gcd_dvd_right ..)
theorem gcd_ite (x y:Int):Int.gcd (if x < 0 then -x else x) y = Int.gcd x y:=by
  split
  · exact Int.neg_gcd
  · rfl
section
variable (B:Below A₀ base outer h₀) (F:Fr h₀ L hpS m) (X:(Mine.hd.heap_1 (World.params w)).In h₀) (N:News h₀ L hpS news) (T:Top p loose mean mg mb h₀) (hk:cs.kind = .function)
include B F X N T hk
theorem make_ct {x y:Int} {tx ty:Tok} (h0:x.natAbs < 1000000000) (h1:y < 1000000000) (h2:0 < y) (hd:dp + 4 < recursionLimit) (hu:un + 32 < cLine)
  (ret:RatNew h₀ L m news Q (mkN x y) (mkD x y)) :
  wpAny (model prog w) (ktrTop dp un gd cn cs L a ccd cl outer) (call (.ref 523) [.int x tx,.int y ty]) Q E ⟨hpS,GC,DC,tkS,OC⟩:=by
  k_extra "@ENTER"
  k_steps
  all_goals (try (exfalso;(first | lia | omega)))
  all_goals (
    have e:=gcd_ite x y
    unfold mkN mkD at ret
    rw [← e] at ret
    exact ret _ _ _ _ _ _ (by k_asm) (by k_asm) (by assumption))
end
end
example:True:=by
  k_with "p execs cons" => ((k_here;(try dsimp only);first | (with_reducible refine execs_oneN (by k_asm) ?_;intro nL_ N9_ tL_) | (with_reducible refine execs_letN (by k_asm) ?_;intro QL_ nL_ N9_ tL_)))
  k_with "q storeName" => ((k_here;k_dflt (refine' stN_letE ?F__ ?N__ ?_ ?a__ ?b__;(case F__=>k_asm);(case N__=>k_asm);(case a__=>eq_refl);(case b__=>eq_refl);intro mL_ h'_ F'_ N'_)))
  trivial
section
local macro_rules (kind := PySem.W.tacticK_extra_) | s => mq "n m l k j q h g f e d c p o a" s

theorem mul_small {a b:Int} (h:a.natAbs < 10000) (k:b.natAbs < 10000):(a * b).natAbs < 1000000000:=by
  rw [Int.natAbs_mul]
  exact Nat.lt_of_le_of_lt (Nat.mul_le_mul (Nat.le_of_lt_succ h) (Nat.le_of_lt_succ k)) (by decide)
theorem mul_small2 {a b:Int} (h:a.natAbs < 10000) (k:b.natAbs < 10000):(a * b).natAbs < 100000000:=by
  rw [Int.natAbs_mul]
  exact Nat.lt_of_le_of_lt (Nat.mul_le_mul (Nat.le_of_lt_succ h) (Nat.le_of_lt_succ k)) (by decide)
theorem add_small {a b c d:Int} (h:a.natAbs < 10000) (k:b.natAbs < 10000) (h':c.natAbs < 10000) (k':d.natAbs < 10000):(a * b + c * d).natAbs < 1000000000:=by
  exact Nat.lt_of_le_of_lt (Int.natAbs_add_le _ _) (Nat.lt_trans (Nat.add_lt_add (mul_small2 h k) (mul_small2 h' k')) (by decide))
theorem mul_lt {a b:Int} (h:a.natAbs < 10000) (k:b.natAbs < 10000):a * b < 1000000000:=by
  exact Int.lt_of_le_of_lt Int.le_natAbs (Int.ofNat_lt.mpr (mul_small h k))
theorem mul_pos2 {a b:Int} (h:0 < a) (k:0 < b):0 < a * b:=Int.mul_pos h k
section
variable (B:Below A₀ base outer h₀) (F:Fr h₀ L hpS m) (X:(Mine.hd.heap_1 (World.params w)).In h₀) (N:News h₀ L hpS news) (T:Top p loose mean mg mb h₀) (hk:cs.kind = .function)
include B F X N T hk
theorem is_na_fin_ct {v:Value} {n d:Int} (hx:RatIn news v n d) (h0:0 < d) (hd:dp + 2 < recursionLimit) (hu:un + 16 < cLine)
  (ret:∀ h' tk',Fr h₀ L h' m→News h₀ L h' news→Q (.bool false) ⟨h',GC,DC,tk',OC⟩) :
  wpAny (model prog w) (ktrTop dp un gd cn cs L a ccd cl outer) (call (.ref 537) [v]) Q E ⟨hpS,GC,DC,tkS,OC⟩:=by
  refine is_na_ct B F X N T hk hx hd hu ?_
  rw [show (n == 0 && d == 0) = false from by simp;(first | lia | omega)]
  exact ret
theorem from_int_ct {n:Int} {tn:Tok} (hd:dp + 2 < recursionLimit) (hu:un + 16 < cLine) (ret:RatNew h₀ L m news Q n 1) :
  wpAny (model prog w) (ktrTop dp un gd cn cs L a ccd cl outer) (call (.ref 530) [.int n tn]) Q E ⟨hpS,GC,DC,tkS,OC⟩:=by
  k_extra "@ENTER"
  k_steps
  all_goals exact ret _ _ _ _ _ _ (by k_asm) (by k_asm) (by assumption)
theorem from_int_none_ct (hd:dp + 2 < recursionLimit) (hu:un + 16 < cLine) (ret:∀ h' tk',Fr h₀ L h' m→News h₀ L h' news→Q .none ⟨h',GC,DC,tk',OC⟩) :
  wpAny (model prog w) (ktrTop dp un gd cn cs L a ccd cl outer) (call (.ref 530) [.none]) Q E ⟨hpS,GC,DC,tkS,OC⟩:=by
  k_extra "@ENTER"
  k_steps
  all_goals exact ret _ _ (by k_asm) (by k_asm)
theorem neg_ct {v:Value} {n d:Int} (hx:RatIn news v n d) (hd:dp + 2 < recursionLimit) (hu:un + 16 < cLine) (ret:RatNew h₀ L m news Q (0 - n) d) :
  wpAny (model prog w) (ktrTop dp un gd cn cs L a ccd cl outer) (call (.ref 565) [v]) Q E ⟨hpS,GC,DC,tkS,OC⟩:=by
  cases hx
  all_goals (
    k_extra "@ENTER"
    k_steps)
  all_goals exact ret _ _ _ _ _ _ (by k_asm) (by k_asm) (by assumption)
theorem is_finite_ct {v:Value} {n d:Int} (hx:RatIn news v n d) (h0:0 < d) (hd:dp + 2 < recursionLimit) (hu:un + 16 < cLine)
  (ret:∀ h' tk',Fr h₀ L h' m→News h₀ L h' news→Q (.bool true) ⟨h',GC,DC,tk',OC⟩) :
  wpAny (model prog w) (ktrTop dp un gd cn cs L a ccd cl outer) (call (.ref 551) [v]) Q E ⟨hpS,GC,DC,tkS,OC⟩:=by
  have e:decide (d > 0) = true:=decide_eq_true h0
  cases hx
  all_goals (
    k_extra "@ENTER"
    k_steps)
  all_goals (try (exfalso;(first | lia | omega)))
  all_goals (first | exact ret _ _ (by k_asm) (by k_asm) | (simp only [e] at *;exact ret _ _ (by k_asm) (by k_asm)))
end
end
example:True:=by
  k_with "r call ref" => ((k_here;(with_reducible refine (?_:wpAny _ _ (PySem.call (Value.ref 537) [Value.ref _] _) _ _ _));k_dflt (refine' is_na_fin_ct ?kB__ ?kF__ ?kX__ ?kN__ ?kT__ ?kK__ ?kx__ ?k0__ ?kd__ ?ku__ ?_;(case kB__=>k_asm);(case kF__=>k_asm);(case kX__=>k_asm);(case kN__=>k_asm);(case kT__=>k_asm);(case kK__=>first | eq_refl | assumption);(case kx__=>first | assumption | exact RatIn.zero | exact RatIn.led (by k_mem));(case k0__=>first | assumption | (first | lia | omega));(case kd__=>ktr_room);(case ku__=>ktr_units);(intro h9_ tk9_ F9_ N9_);(try dsimp only);(try k_fold))))
  k_with "r call ref" => ((k_here;(with_reducible refine (?_:wpAny _ _ (PySem.call (Value.ref 551) [Value.ref _] _) _ _ _));k_dflt (refine' is_finite_ct ?kB__ ?kF__ ?kX__ ?kN__ ?kT__ ?kK__ ?kx__ ?k0__ ?kd__ ?ku__ ?_;(case kB__=>k_asm);(case kF__=>k_asm);(case kX__=>k_asm);(case kN__=>k_asm);(case kT__=>k_asm);(case kK__=>first | eq_refl | assumption);(case kx__=>first | assumption | exact RatIn.zero | exact RatIn.led (by k_mem));(case k0__=>first | assumption | (first | lia | omega));(case kd__=>ktr_room);(case ku__=>ktr_units);(intro h9_ tk9_ F9_ N9_);(try dsimp only);(try k_fold))))
  k_with "s call ref" => ((k_here;(with_reducible refine (?_:wpAny _ _ (PySem.call (Value.ref 523) [Value.int _ _,Value.int _ _] _) _ _ _));k_dflt (refine' make_ct ?kB__ ?kF__ ?kX__ ?kN__ ?kT__ ?kK__ ?k0__ ?k1__ ?k2__ ?kd__ ?ku__ ?_;(case kB__=>k_asm);(case kF__=>k_asm);(case kX__=>k_asm);(case kN__=>k_asm);(case kT__=>k_asm);(case kK__=>first | eq_refl | assumption);(case k0__=>first | assumption | (refine add_small ?_ ?_ ?_ ?_<;>first | assumption | decide) | (refine mul_lt ?_ ?_<;>first | assumption | decide) | (refine mul_small ?_ ?_<;>first | assumption | decide) | (refine mul_pos2 ?_ ?_<;>first | assumption | decide) | (first | lia | omega) | (refine add_small ?_ ?_ ?_ ?_<;>first | assumption | decide | (first | lia | omega)) | (refine mul_lt ?_ ?_<;>first | assumption | decide | (first | lia | omega)) | (refine mul_small ?_ ?_<;>first | assumption | decide | (first | lia | omega)) | (refine mul_pos2 ?_ ?_<;>first | assumption | decide | (first | lia | omega)));(case k1__=>first | assumption | (refine add_small ?_ ?_ ?_ ?_<;>first | assumption | decide) | (refine mul_lt ?_ ?_<;>first | assumption | decide) | (refine mul_small ?_ ?_<;>first | assumption | decide) | (refine mul_pos2 ?_ ?_<;>first | assumption | decide) | (first | lia | omega) | (refine add_small ?_ ?_ ?_ ?_<;>first | assumption | decide | (first | lia | omega)) | (refine mul_lt ?_ ?_<;>first | assumption | decide | (first | lia | omega)) | (refine mul_small ?_ ?_<;>first | assumption | decide | (first | lia | omega)) | (refine mul_pos2 ?_ ?_<;>first | assumption | decide | (first | lia | omega)));(case k2__=>first | assumption | (refine add_small ?_ ?_ ?_ ?_<;>first | assumption | decide) | (refine mul_lt ?_ ?_<;>first | assumption | decide) | (refine mul_small ?_ ?_<;>first | assumption | decide) | (refine mul_pos2 ?_ ?_<;>first | assumption | decide) | (first | lia | omega) | (refine add_small ?_ ?_ ?_ ?_<;>first | assumption | decide | (first | lia | omega)) | (refine mul_lt ?_ ?_<;>first | assumption | decide | (first | lia | omega)) | (refine mul_small ?_ ?_<;>first | assumption | decide | (first | lia | omega)) | (refine mul_pos2 ?_ ?_<;>first | assumption | decide | (first | lia | omega)));(case kd__=>ktr_room);(case ku__=>ktr_units);(intro x9_ tn9_ td9_ c9_ h9_ tk9_ F9_ N9_ l9_);(try dsimp only);(try k_fold))))
  trivial
section
local macro_rules (kind := PySem.W.tacticK_extra_) | s => mq "s r n m l k j q h g f e d c p o a" s

section
variable (B:Below A₀ base outer h₀) (F:Fr h₀ L hpS m) (X:(Mine.hd.heap_1 (World.params w)).In h₀) (N:News h₀ L hpS news) (T:Top p loose mean mg mb h₀) (hk:cs.kind = .function)
include B F X N T hk
theorem floor_ct {v:Value} {n d:Int} (hx:RatIn news v n d) (h0:0 < d) (h1:d < 1000000000) (hd:dp + 4 < recursionLimit) (hu:un + 32 < cLine) (ret:RatNew h₀ L m news Q (Int.fdiv n d) 1) :
  wpAny (model prog w) (ktrTop dp un gd cn cs L a ccd cl outer) (call (.ref 614) [v]) Q E ⟨hpS,GC,DC,tkS,OC⟩:=by
  cases hx
  all_goals (
    k_extra "@ENTER"
    k_steps)
  all_goals exact ret _ _ _ _ _ _ (by k_asm) (by k_asm) (by assumption)
theorem add_ct {v:Value} {n d:Int} (hx:RatIn news v n d) {y:Addr} {n' d':Int} {tn' td':Tok} {k':Nat} (hy:(y,({ cls:=.type "tuple", data:=.seq #[.int n' tn',.int d' td'] k' }:Obj))∈news) (h1:n.natAbs < 10000) (h2:0 < d) (h3:d.natAbs < 10000) (h1':n'.natAbs < 10000) (h2':0 < d') (h3':d'.natAbs < 10000)
  (hd:dp + 6 < recursionLimit) (hu:un + 48 < cLine) (ret:RatNew h₀ L m news Q (mkN (n * d' + n' * d) (d * d')) (mkD (n * d' + n' * d) (d * d'))) :
  wpAny (model prog w) (ktrTop dp un gd cn cs L a ccd cl outer) (call (.ref 572) [v,.ref y]) Q E ⟨hpS,GC,DC,tkS,OC⟩:=by
  cases hx
  all_goals (
    k_extra "@ENTER"
    k_steps)
  all_goals (try (exfalso;(first | lia | omega)))
  all_goals exact ret _ _ _ _ _ _ (by k_asm) (by k_asm) (by assumption)
theorem mul_ct {x:Addr} {n d:Int} {tn td:Tok} {k:Nat} (hx:(x,({ cls:=.type "tuple", data:=.seq #[.int n tn,.int d td] k }:Obj))∈news) {y:Addr} {n' d':Int} {tn' td':Tok} {k':Nat} (hy:(y,({ cls:=.type "tuple", data:=.seq #[.int n' tn',.int d' td'] k' }:Obj))∈news) (h1:n.natAbs < 10000) (h2:0 < d) (h3:d.natAbs < 10000) (h1':n'.natAbs < 10000) (h2':0 < d') (h3':d'.natAbs < 10000)
  (hd:dp + 6 < recursionLimit) (hu:un + 48 < cLine) (ret:RatNew h₀ L m news Q (mkN (n * n') (d * d')) (mkD (n * n') (d * d'))) :
  wpAny (model prog w) (ktrTop dp un gd cn cs L a ccd cl outer) (call (.ref 586) [.ref x,.ref y]) Q E ⟨hpS,GC,DC,tkS,OC⟩:=by
  k_extra "@ENTER"
  k_steps
  all_goals (try (exfalso;(first | lia | omega)))
  all_goals exact ret _ _ _ _ _ _ (by k_asm) (by k_asm) (by assumption)
theorem div_ct {x:Addr} {n d:Int} {tn td:Tok} {k:Nat} (hx:(x,({ cls:=.type "tuple", data:=.seq #[.int n tn,.int d td] k }:Obj))∈news) {y:Addr} {n' d':Int} {tn' td':Tok} {k':Nat} (hy:(y,({ cls:=.type "tuple", data:=.seq #[.int n' tn',.int d' td'] k' }:Obj))∈news) (h1:n.natAbs < 10000) (h2:0 < d) (h3:d.natAbs < 10000) (h1':n'.natAbs < 10000) (h2':0 < d') (h3':d'.natAbs < 10000) (h4:0 < n')
  (hd:dp + 6 < recursionLimit) (hu:un + 48 < cLine) (ret:RatNew h₀ L m news Q (mkN (n * d') (d * n')) (mkD (n * d') (d * n'))) :
  wpAny (model prog w) (ktrTop dp un gd cn cs L a ccd cl outer) (call (.ref 593) [.ref x,.ref y]) Q E ⟨hpS,GC,DC,tkS,OC⟩:=by
  k_extra "@ENTER"
  k_steps
  all_goals (try (exfalso;(first | lia | omega)))
  all_goals exact ret _ _ _ _ _ _ (by k_asm) (by k_asm) (by assumption)
end
end

structure Held (P:Prop):Prop where
  get:P
noncomputable abbrev Led:=List (Addr×Obj)
inductive All2 {α:Type} (R:Value→α→Prop):List Value→List α→Prop
  | nil:All2 R [] []
  | cons {v:Value} {x:α} {vs:List Value} {xs:List α}:R v x→All2 R vs xs→All2 R (v::vs) (x::xs)
theorem All2.length {α:Type} {R:Value→α→Prop} {vs:List Value} {xs:List α} (h:All2 R vs xs):vs.length = xs.length:=by
  induction h with
  | nil=>rfl
  | cons _ _ ih=>simp [ih]
theorem All2.imp {α:Type} {R S:Value→α→Prop} {vs:List Value} {xs:List α} (h:All2 R vs xs) (k:∀ v x,R v x→S v x):All2 S vs xs:=by
  induction h with
  | nil=>exact .nil
  | cons a _ ih=>exact .cons (k _ _ a) ih
theorem All2.snoc {α:Type} {R:Value→α→Prop} {vs:List Value} {xs:List α} {v:Value} {x:α} (h:All2 R vs xs) (k:R v x):All2 R (vs++[v]) (xs++[x]):=by
  induction h with
  | nil=>exact .cons k .nil
  | cons a _ ih=>exact .cons a ih
theorem All2.get {α:Type} {R:Value→α→Prop} {vs:List Value} {xs:List α} (h:All2 R vs xs):∀ {i:Nat} {v:Value},vs[i]? = some v→∃ x,xs[i]? = some x∧R v x∧xs.take (i + 1) = xs.take i++[x]:=by
  induction h with
  | nil=>intro i v e;simp at e
  | cons a r ih =>
    intro i v e
    cases i with
    | zero=>simp at e;subst e;exact ⟨_,rfl,a,rfl⟩
    | succ i =>
      obtain ⟨x,e1,e2,e3⟩:=ih (by simpa using e)
      exact ⟨x,by simpa using e1,e2,by simp [e3]⟩
inductive OptI:Value→Option Int→Prop
  | none:OptI .none none
  | int (i:Int) (t:Tok):OptI (.int i t) (some i)
inductive OptR (news:Led):Value→Option (Int×Int)→Prop
  | none:OptR news .none none
  | some {x:Addr} {n d:Int} {tn td:Tok} {k:Nat}:(x,({ cls:=.type "tuple", data:=.seq #[.int n tn,.int d td] k }:Obj))∈news→OptR news (.ref x) (some (n,d))
theorem OptR.mono {news news':Led} (hs:∀ p∈news,p∈news') {v:Value} {x:Option (Int×Int)} (h:OptR news v x):OptR news' v x:=by
  cases h with
  | none=>exact .none
  | some h=>exact .some (hs _ h)
noncomputable def one (x:Option Int):Option (Int×Int):=x.map fun i=>(i,1)
noncomputable abbrev vecO (w:World) (t1 t2 t3 t4 t5:Tok) (kind:Str) (tk:Tok) (l:Value) (av:Value):Obj:=dictOf
  [⟨PyData.keyHash w.params (Str.ofString "kind"),.str (Str.ofString "kind") t1,.str kind tk⟩,
   ⟨PyData.keyHash w.params (Str.ofString "items"),.str (Str.ofString "items") t2,l⟩,
   ⟨PyData.keyHash w.params (Str.ofString "attrs"),.str (Str.ofString "attrs") t3,av⟩,
   ⟨PyData.keyHash w.params (Str.ofString "shared"),.str (Str.ofString "shared") t4,.bool false⟩,
   ⟨PyData.keyHash w.params (Str.ofString "loose"),.str (Str.ofString "loose") t5,.bool false⟩] 5
theorem comp_ind {A:Around} {h₀:Heap} {L:Addr} {m:Str→Option Value} {env:Env} {elt:Expr} {x:Str} {scope:Scope} {cl:List (Str×Addr)} {hpS:Heap} {tkS:Nat} {S:Led→Prop} {its:List Value} {Fin:List Value→Led→Prop}
    (R:Nat→List Value→Led→Prop)
    (turn:∀ i ys news v I oI C oC D m₂ h tk (E':Value→Shared→Prop),its[i]? = some v→R i ys news→LCg.NsObj oC m₂→m₂ x = some v→Fr h₀ L h m→News h₀ L h ((I,oI)::(C,oC)::(D,LCg.lst ys)::news)→LCg.Off3 I C D news→((@Ne Nat I C)∧(@Ne Nat I D)∧(@Ne Nat C D)) →
      wpAny (model prog w) A (eval elt (compEnvC scope cl C env)) (LCg.CompEnd h₀ L m ⟨h,GC,DC,tk,OC⟩ I oI C oC D (LCg.lst ys) S (fun y news'=>R (i + 1) (ys++[y]) news')) E' ⟨h,GC,DC,tk,OC⟩)
    (fin:∀ ys news,R its.length ys news→Fin ys news) :
    ∀ k i ys news,i + k = its.length→R i ys news→LCg.CompRest prog w A h₀ L m env elt x scope cl ⟨hpS,GC,DC,tkS,OC⟩ S (fun i v=>its.toArray[i]? = some v) Fin k i ys news:=by
  intro k
  induction k with
  | zero=>intro i ys news e r;have e':i = its.length:=e;subst e';exact LCg.CompRest.zero (fin _ _ r)
  | succ k ih =>
    intro i ys news e r
    refine LCg.CompRest.succ ?_
    intro v I oI C oC D m₂ h tk E' hv hC hx F N off ne
    refine wpAny_mono (turn i ys news v I oI C oC D m₂ h tk E' (by simpa using hv) r hC hx F N off ne) (fun y s₂ q=>?_) fun _ _ x=>x
    obtain ⟨h',tk',news',e1,F',N',off',hS,r'⟩:=q
    exact ⟨h',tk',news',e1,F',N',off',hS,ih _ _ _ (by (first | lia | omega)) r'⟩
inductive Ret (h₀:Heap) (L:Addr) (m:Str→Option Value) (news:Led) (R:Led→Value→Prop) (u:Value) (s':Shared):Prop
  | mk (h':Heap) (tk':Nat) (add:Led):s' = ⟨h',GC,DC,tk',OC⟩→Fr h₀ L h' m→News h₀ L h' (add++news)→(∀ p∈add,∀ q∈news,q.1≠p.1)→R add u→Ret h₀ L m news R u s'
section
variable {hpS:Heap} {tkS:Nat} {h₀:Heap} {L:Addr} {m:Str→Option Value} {news:Led} {Q:Value→Shared→Prop} {α β γ δ:Type}
theorem retK {R:Led→Value→Prop} (k:∀ u h tk add,Fr h₀ L h m→News h₀ L h (add++news)→(∀ p∈add,∀ q∈news,q.1≠p.1)→R add u→Q u ⟨h,GC,DC,tk,OC⟩):∀ u s',Ret h₀ L m news R u s'→Q u s':=by
  rintro u s' ⟨h,tk,add,rfl,F,N,a,r⟩
  exact k u h tk add F N a r
theorem retK2a1 {f:α→β→Value} {A1:Led→α→β→Prop} (k:∀ x y h tk add,Fr h₀ L h m→News h₀ L h (add++news)→(∀ p∈add,∀ q∈news,q.1≠p.1)→A1 add x y→Q (f x y) ⟨h,GC,DC,tk,OC⟩):∀ u s',Ret h₀ L m news (fun add u=>∃ x y,u = f x y∧A1 add x y) u s'→Q u s':=by
  rintro _ s' ⟨h,tk,add,rfl,F,N,a,x,y,rfl,a1⟩
  exact k x y h tk add F N a a1
theorem retK3a2 {f:α→β→γ→Value} {A1:Led→α→β→γ→Prop} {A2:Led→α→β→γ→Prop} (k:∀ x y z h tk add,Fr h₀ L h m→News h₀ L h (add++news)→(∀ p∈add,∀ q∈news,q.1≠p.1)→A1 add x y z→A2 add x y z→Q (f x y z) ⟨h,GC,DC,tk,OC⟩):∀ u s',Ret h₀ L m news (fun add u=>∃ x y z,u = f x y z∧A1 add x y z∧A2 add x y z) u s'→Q u s':=by
  rintro _ s' ⟨h,tk,add,rfl,F,N,a,x,y,z,rfl,a1,a2⟩
  exact k x y z h tk add F N a a1 a2
theorem retK4a2 {f:α→β→γ→δ→Value} {A1:Led→α→β→γ→δ→Prop} {A2:Led→α→β→γ→δ→Prop} (k:∀ x y z q h tk add,Fr h₀ L h m→News h₀ L h (add++news)→(∀ p∈add,∀ q∈news,q.1≠p.1)→A1 add x y z q→A2 add x y z q→Q (f x y z q) ⟨h,GC,DC,tk,OC⟩):∀ u s',Ret h₀ L m news (fun add u=>∃ x y z q,u = f x y z q∧A1 add x y z q∧A2 add x y z q) u s'→Q u s':=by
  rintro _ s' ⟨h,tk,add,rfl,F,N,a,x,y,z,q,rfl,a1,a2⟩
  exact k x y z q h tk add F N a a1 a2
end
theorem apart1 {x:Addr} {o:Obj} {news:Led} (l:∀ q∈news,q.1 < x):∀ p∈[(x,o)],∀ q∈news,q.1≠p.1:=fun p hp q hq=>by rw [List.mem_singleton.mp hp];exact Nat.ne_of_lt (l q hq)
theorem apart0 {news:Led}:∀ p∈([]:Led),∀ q∈news,q.1≠p.1:=fun _ h=>(nomatch h)
theorem ret1 {h₀ h:Heap} {L x:Addr} {o:Obj} {m:Str→Option Value} {news rest:Led} {tk:Nat} {R:Led→Value→Prop} (F:Fr h₀ L h m) (N:News h₀ L h ((x,o)::rest)) (l:∀ q∈rest,q.1 < x) (hs:∀ p∈news,p∈rest) (r:R [(x,o)] (.ref x)) :
    Ret h₀ L m news R (.ref x) ⟨h,GC,DC,tk,OC⟩ :=
  ⟨h,tk,[(x,o)],rfl,F,fun p hp=>N p ((List.mem_cons.mp hp).elim (fun e=>e▸.head _) fun hp=>.tail _ (hs p hp)),apart1 fun q hq=>l q (hs q hq),r⟩
theorem ret0 {h₀ h:Heap} {L:Addr} {m:Str→Option Value} {news rest:Led} {tk:Nat} {v:Value} {R:Led→Value→Prop} (F:Fr h₀ L h m) (N:News h₀ L h rest) (hs:∀ p∈news,p∈rest) (r:R [] v) :
    Ret h₀ L m news R v ⟨h,GC,DC,tk,OC⟩:=⟨h,tk,[],rfl,F,fun p hp=>N p (hs p hp),apart0,r⟩
theorem off1_mem {D:Addr}:∀ {l:Led},LCg.Off1 D l→∀ p∈l,p.1≠D
  | [],_,_,hp=>(nomatch hp)
  | q::l,h,p,hp=>by
    obtain ⟨h1,h2⟩:q.1≠D∧LCg.Off1 D l:=h
    rcases List.mem_cons.mp hp with rfl | hp
    · exact h1
    · exact off1_mem h2 p hp
theorem comp_src {A:Around} {h₀:Heap} {L:Addr} {m:Str→Option Value} {env:Env} {elt:Expr} {x:Str} {scope:Scope} {cl:List (Str×Addr)} {hpS:Heap} {tkS:Nat} {its:List Value} {ax:Addr} {k:Nat} {news news₁:Led} {Fin:Shared→List Value→Led→Prop} {α:Type} {Rv:Value→α→Prop} {β:Type} {Ro:Led→Value→β→Prop} {xs:List α} (f:α→β)
    (hh:A.handled = none) (F:Fr h₀ L hpS m) (N:News h₀ L hpS news₁) (hs:∀ p∈news,p∈news₁) (hm:(ax,listOf its.toArray k)∈news) (hR:All2 Rv its xs) (h6:xs.length≤6)
    (mono:∀ n n':Led,(∀ p∈n,p∈n')→∀ v y,Ro n v y→Ro n' v y)
    (turn:Held (∀ v y news' I oI C oC D ys m₂ (s':Shared) (E':Value→Shared→Prop),Rv v y→(∀ p∈news,p∈news')→LCg.NsObj oC m₂→m₂ x = some v→Fr h₀ L s'.heap m→News h₀ L s'.heap ((I,oI)::(C,oC)::(D,LCg.lst ys)::news')→(∃ h tk,s' = ⟨h,GC,DC,tk,OC⟩) →
      wpAny (model prog w) A (eval elt (compEnvC scope cl C env)) (Ret h₀ L m ((I,oI)::(C,oC)::(D,LCg.lst ys)::news') (fun add u=>Ro (add++news') u (f y))) E' s'))
    (fin:Held (∀ g ys add,(∀ p∈add,∀ q∈news,q.1≠p.1)→All2 (Ro (add++news)) ys (xs.map f)→Fin ⟨g,GC,DC,tkS,OC⟩ ys (add++news))) :
    LCg.CompSrc prog w A h₀ L m env elt x scope cl Fin (.ref ax) ⟨hpS,GC,DC,tkS,OC⟩:=by
  refine LCg.CompSrc.ledger hh F (fun p hp=>N p (hs p hp)) hm (szL (Nat.le_trans (Nat.le_of_eq hR.length) (by assumption))) ?_
  intro g
  refine comp_ind (R:=fun i ys n1=>∃ add,n1 = add++news∧(∀ p∈add,∀ q∈news,q.1≠p.1)∧All2 (Ro n1) ys ((xs.take i).map f)) ?_ ?_ _ _ _ _ (by simp) ⟨[],rfl,apart0,by simpa using All2.nil⟩
  · rintro i ys n1 v I oI C oC D m₂ h tk E' hv ⟨add0,rfl,ap,hy⟩ hC hx F1 N1 off ne
    obtain ⟨x1,e1,hx1,e2⟩:=hR.get hv
    refine wpAny_mono (turn.get v x1 _ I oI C oC D ys m₂ ⟨h,GC,DC,tk,OC⟩ E' hx1 (fun p hp=>List.mem_append_right _ hp) hC hx F1 N1 ⟨_,_,rfl⟩) (fun u s'' q=>?_) fun _ _ x=>x
    obtain ⟨h',tk',add,rfl,F2,N2,lt,r⟩:=q
    refine ⟨h',tk',add++(add0++news),rfl,F2,fun p hp=>N2 p ?_,LCg.Off3.of fun p hp=>?_,Or.inr ⟨_,List.mem_append_right _ (List.mem_append_right _ hm),rfl,_,rfl⟩,add++add0,(List.append_assoc ..).symm,fun p hp q hq=>?_,?_⟩
    · simp only [List.mem_append,List.mem_cons] at hp ⊢
      rcases hp with hp | hp | hp | hp | hp | hp<;>simp [hp]
    · rcases List.mem_append.mp hp with hp | hp
      · exact ⟨(lt p hp _ (.head _)).symm,(lt p hp _ (.tail _ (.head _))).symm,(lt p hp _ (.tail _ (.tail _ (.head _)))).symm⟩
      · exact off.mem p hp
    · rcases List.mem_append.mp hp with hp | hp
      · exact lt p hp q (.tail _ (.tail _ (.tail _ (List.mem_append_right _ hq))))
      · exact ap p hp q hq
    · rw [e2,List.map_append]
      exact (hy.imp (mono _ _ fun _ h=>List.mem_append_right _ h)).snoc r
  · rintro ys n1 ⟨add0,rfl,ap,hy⟩
    rw [hR.length,List.take_length] at hy
    exact fin.get _ _ _ ap hy
example:True:=by
  k_with "t truthy ref" => ((k_here;(with_reducible refine (?_:wpAny _ _ (truthy (Value.ref _)) _ _ _));k_dflt first | (refine' truthy_a2 ?N__ ?m__ ?R__ ?z__ ?_;(case N__=>k_asm);(case m__=>k_mem);(case R__=>first | with_reducible assumption | assumption);(case z__=>first | with_reducible assumption | assumption)) | (refine' truthy_l ?N__ ?m__ ?z__ ?b__ ?_;(case N__=>k_asm);(case m__=>k_mem);(case z__=>exact Nat.le_of_ble_eq_true rfl);(case b__=>eq_refl))))
  k_with "t call builtin:len" => ((k_here;(with_reducible refine (?_:wpAny _ _ (call (Value.builtin "len") [Value.ref _]) _ _ _));k_dflt first | (refine' len_a2 ?N__ ?m__ ?R__ ?z__ ?_;(case N__=>k_asm);(case m__=>k_mem);(case R__=>first | with_reducible assumption | assumption);(case z__=>first | with_reducible assumption | assumption)) | (refine' len_l ?N__ ?m__ ?z__ ?b__ ?_;(case N__=>k_asm);(case m__=>k_mem);(case z__=>first | exact (rfl:_ = (0:Int)) | exact (rfl:_ = (1:Int)) | exact (rfl:_ = (2:Int)) | exact (rfl:_ = (3:Int)) | exact (rfl:_ = (4:Int)) | exact (rfl:_ = (5:Int)));(case b__=>decide))))
  k_with "t subscriptTail" => ((k_here;(with_reducible refine (?_:wpAny _ _ (subscriptTail _ _ (Value.ref _) (Value.int _ _)) _ _ _));k_dflt (refine' item_l ?N__ ?m__ ?a__ ?b__ ?c__ ?_;(case N__=>k_asm);(case m__=>k_mem);(case a__=>decide);(case b__=>decide);(case c__=>eq_refl);k_whole)))
  k_with "t subscriptTail Attribute" => ((k_here;(with_reducible refine (?_:wpAny _ _ (subscriptTail _ _ (Value.ref _) (Value.int _ _)) _ _ _));k_dflt (refine' item_l ?N__ ?m__ ?a__ ?b__ ?c__ ?_;(case N__=>k_asm);(case m__=>k_mem);(case a__=>decide);(case b__=>decide);(case c__=>eq_refl);k_whole)))
  k_with "t subscriptTail Name" => ((k_here;(with_reducible refine (?_:wpAny _ _ (subscriptTail _ _ (Value.ref _) (Value.int _ _)) _ _ _));k_dflt (refine' item_l ?N__ ?m__ ?a__ ?b__ ?c__ ?_;(case N__=>k_asm);(case m__=>k_mem);(case a__=>decide);(case b__=>decide);(case c__=>eq_refl);k_whole)))
  k_with "u KTR_ROOM" => (((simp +zetaDelta only [depth_under_make,depth_under_kw,depth_in1,depth_deeper,depth_caller]);first | exact room1 (by assumption) rfl | exact room2 (by assumption) rfl | exact room3 (by assumption) rfl | exact room4 (by assumption) rfl | exact room5 (by assumption) rfl))
  k_with "v ite" => (first | with_reducible refine PySem.W.ite_neg Bool.false_ne_true ?_ | with_reducible refine PySem.W.ite_pos (rfl:true = true) ?_)
  trivial
section
local macro_rules (kind := PySem.W.tacticK_extra_) | s => mq "v m l k u t j q h g f e d c p o a" s
section
variable (B:Below A₀ base outer h₀) (F:Fr h₀ L hpS m) (X:(Mine.hd.heap_1 (World.params w)).In h₀) (N:News h₀ L hpS news) (T:Top p loose mean mg mb h₀) (hk:cs.kind = .function)
include B F X N T hk
theorem vec_ct {kind:Str} {tk:Tok} {v:Value} (hd:dp + 10 < recursionLimit) (hu:un + 100 < cLine)
  (ret:∀ x d t1 t2 t3 t4 t5 h' tk',Fr h₀ L h' m→News h₀ L h' ((x,instObj 262 d)::(d,vecO w t1 t2 t3 t4 t5 kind tk v .none)::news)→(∀ q∈news,@LT.lt Nat _ q.1 d)→@LT.lt Nat _ d x→Q (.ref x) ⟨h',GC,DC,tk',OC⟩) :
  wpAny (model prog w) (ktrTop dp un gd cn cs L a ccd cl outer) (call (.ref 262) [.str kind tk,v]) Q E ⟨hpS,GC,DC,tkS,OC⟩:=by
  k_dflt (refine' call_cls ?k1 ?k2 ?k3 ?k4 ?k5 ?k6 ?_;(case k1=>k_asm);(case k2=>k_asm);(case k3=>k_asm);(case k4=>k_is);(case k5=>k_is);(case k6=>k_is);k_whole;intro x' d' h' F' N' l1 l2;(try k_lt l1);(try k_lt2 l2))
  k_dflt (refine' code_def ?k1 ?k2 ?k3 ?k4 ?k5 ?kA ?kF ?kK ?k6 ?k7 ?k8 ?k9 ?kB ?_ ?c2 ?c3 ?c4 ?c5;(case kA=>exact rfl);(case kF=>exact rfl);(case kK=>assumption);(case k1=>k_asm);(case k2=>k_asm);(case k3=>k_asm);(case k4=>k_asm);(case k5=>k_asm);(case k6=>k_is);(case k7=>k_is);(case k8=>k_room);(case k9=>first | exact BindsTo.of_eq rfl | exact binds_K (by k_in) rfl (by k_is) rfl rfl rfl);(case c5=>decide);(case kB=>exact locs rfl);(case c2=>exact rfl);(case c3=>exact rfl);(case c4=>exact rfl);k_whole;intro g' L' h' FG' F' N' B' X' T';(try dsimp only);(try k_fold);refine let_body F' ?_;clear F';intro mL eL AL QL EL F9)
  k_steps
  exact ret _ _ _ _ _ _ _ _ _ (by k_asm) (by k_asm) l1 l2
end
end
example:True:=by
  k_with "w call ref" => ((k_here;(with_reducible refine (?_:wpAny _ _ (PySem.call (Value.ref 530) [Value.int _ _] _) _ _ _));k_dflt (apply from_int_ct;k_extra "@HK1"; k_extra "@HK2"; (intro x9_ tn9_ td9_ c9_ h9_ tk9_ F9_ N9_ l9_);k_extra "@HK3")))
  k_with "w call ref" => ((k_here;(with_reducible refine (?_:wpAny _ _ (PySem.call (Value.ref 530) [Value.none] _) _ _ _));k_dflt (apply from_int_none_ct;k_extra "@HK1"; k_extra "@HK2"; (intro h9_ tk9_ F9_ N9_);k_extra "@HK3")))
  k_with "x eval ListComp" => ((k_here;k_dflt (refine LCg.ListComp_U (F₀:=by k_asm) (by rfl) (by decide) (by rfl) (by decide) (by rfl) ?_)))
  k_with "x CompSrc" => ((k_dflt (refine' comp_src (Ro:=OptR) one ?hh__ ?F__ ?N__ ?hs__ ?hm__ ?hR__ ?h6__ (fun _ _ h_ _ _ r=>OptR.mono h_ r) ?_ ?_;(case hm__=>first | with_reducible assumption | assumption);(case hR__=>first | with_reducible assumption | assumption);(case h6__=>first | with_reducible assumption | assumption);(case hh__=>eq_refl);(case F__=>k_asm);(case N__=>k_asm);(case hs__=>(intro _ h_;first | exact h_ | exact .tail _ h_)))))
  trivial
section
local macro_rules (kind := PySem.W.tacticK_extra_) | s => mq "x w m l k j q h g f e d c p o a" s

section
variable (B:Below A₀ base outer h₀) (F:Fr h₀ L hpS m) (X:(Mine.hd.heap_1 (World.params w)).In h₀) (N:News h₀ L hpS news) (T:Top p loose mean mg mb h₀) (hk:cs.kind = .function)
include B F X N T hk
theorem number_items_ct {x d l:Addr} {t1 t2 t3 t4 t5 tk:Tok} {av:Value} {vs:List Value} {k:Nat} {xs:List (Option Int)}
  (h1:(x,instObj 262 d)∈news) (h2:(d,vecO w t1 t2 t3 t4 t5 (Str.ofString "integer") tk (.ref l) av)∈news) (h3:(l,listOf vs.toArray k)∈news) (h4:All2 OptI vs xs) (h5:xs.length≤6)
  (hd:dp + 4 < recursionLimit) (hu:un + 32 < cLine)
  (ret:∀ u s',Ret h₀ L m news (fun add u=>∃ D ys k,u = .ref D∧(D,listOf ys.toArray k)∈add∧All2 (OptR (add++news)) ys (xs.map one)) u s'→Q u s') :
  wpAny (model prog w) (ktrTop dp un gd cn cs L a ccd cl outer) (call (.ref 894) [.ref x]) Q E ⟨hpS,GC,DC,tkS,OC⟩:=by
  k_extra "@ENTER"
  k_steps
  · constructor
    intro v y news' I oI C oC D ys m₂ s' E' hv hs hC hx F1 N1 hst
    obtain ⟨g,tk,rfl⟩:=hst
    cases hv with
    | none =>
      k_steps
      exact ⟨_,_,[],rfl,by k_asm,by k_asm,apart0,.none⟩
    | int z tz =>
      k_steps
      exact ⟨_,_,[_],rfl,by k_asm,by k_asm,apart1 (by assumption),.some (.head _)⟩
  · constructor
    intro g ys add ap hy
    k_steps
    rename_i o1 _ _ _ _
    exact ret _ _ ⟨_,_,(_,_)::add,rfl,by k_asm,by k_asm,fun p hp q hq=>(List.mem_cons.mp hp).elim (fun e=>e▸off1_mem (by assumption) q (List.mem_append_right _ hq)) fun hp=>ap p hp q hq,_,_,_,rfl,.head _,hy.imp fun _ _=>OptR.mono fun _=>.tail _⟩
end
end

noncomputable def ForEnd (h₀:Heap) (L:Addr) (news:Led) (x nm:Str) (m₀:Str→Option Value) (S:Led→Value→Prop) (Q:Flow→Shared→Prop) (fl:Flow) (s'':Shared):Prop :=
  match fl with
  | .ret v=>Q (.ret v) s''
  | .brk=>Q .next s''
  | _=>∃ h' tk' m' add' tv',s'' = ⟨h',GC,DC,tk',OC⟩∧Fr h₀ L h' m'∧News h₀ L h' (add'++news)∧(∀ p∈add',∀ q∈news,q.1≠p.1)∧m' nm = some tv'∧(∀ z,z≠nm→z≠x→m' z = m₀ z)∧S add' tv'
theorem for1 {A:Around} {E:Value→Shared→Prop} {hpS:Heap} {tkS:Nat} {env:Env} {h₀:Heap} {x:Str} {body:List Stmt} {Q:Flow→Shared→Prop} {l:Addr} {its:List Value} {k:Nat} {m₀:Str→Option Value} {news news₁:Led} {α:Type} {Rv:Value→α→Prop} {xs:List α} (nm:Str) {tv0:Value} (S:Led→Value→List α→Prop)
    (hh:A.handled = none) (F:Fr h₀ env.locals hpS m₀) (N:News h₀ env.locals hpS news₁) (hs:∀ p∈news,p∈news₁) (hm:(l,listOf its.toArray k)∈news) (hR:All2 Rv its xs)
    (h0:m₀ nm = some tv0) (hS:S news tv0 [])
    (turn:Held (∀ pre y post v tv add h tk own,xs = pre++y::post→Rv v y→S (add++news) tv pre →
      Fr h₀ env.locals h (fun z=>if z = x then some v else if z = nm then some tv else m₀ z)→News h₀ env.locals h ((add++news)++own) →
      wpAny (model prog w) A (execs body env) (ForEnd h₀ env.locals ((add++news)++own) x nm m₀ (fun add' tv'=>S (add'++(add++news)) tv' (pre++[y])) Q) E ⟨h,GC,DC,tk,OC⟩))
    (done:Held (∀ (m₁:Str→Option Value) tv add h tk,S (add++news) tv xs→(∀ p∈add,∀ q∈news,q.1≠p.1)→Fr h₀ env.locals h (fun z=>if z = nm then some tv else if z = x then m₁ z else m₀ z)→News h₀ env.locals h (add++news)→Q .next ⟨h,GC,DC,tk,OC⟩)) :
    wpAny (model prog w) A (pyIter (.ref l)) (fun it s₂=>LoopAtV prog w A h₀ env x body Q E it s₂) E ⟨hpS,GC,DC,tkS,OC⟩:=by
  have hlen:=hR.length
  refine kdl_iter (news:=news) (fun i m n1=>∃ add tv,n1 = add++news∧(∀ p∈add,∀ q∈news,q.1≠p.1)∧m nm = some tv∧(∀ z,z≠nm→z≠x→m z = m₀ z)∧S (add++news) tv (xs.take i)) hh hm F (fun p hp=>N p (hs p hp)) ⟨[],tv0,rfl,apart0,h0,fun _ _ _=>rfl,by simpa using hS⟩ ?_ ?_
  · rintro i v m₁ n1 h tk own hv hoff hl ⟨add,tv,rfl,ap,e1,e2,hS1⟩ F1 N1
    obtain ⟨y,ey,hy,et⟩:=hR.get hv
    have hi:i < xs.length:=(List.getElem?_eq_some_iff.mp ey).1
    have exs:xs = xs.take i++y::xs.drop (i + 1):=by
      have h9:=List.take_append_drop (i + 1) xs
      rw [et,List.append_assoc] at h9
      exact h9.symm
    have em:(fun z=>if z = x then some v else m₁ z) = (fun z=>if z = x then some v else if z = nm then some tv else m₀ z):=by
      funext z
      by_cases hz:z = x
      · simp [hz]
      · by_cases hz2:z = nm
        · simp [hz,hz2,e1]
        · simp [hz,hz2,e2 z hz2 hz]
    rw [em] at F1
    refine wpAny_mono (turn.get (xs.take i) y (xs.drop (i + 1)) v tv add h tk own exs hy hS1 F1 N1) (fun fl s2 q=>?_) fun _ _ x=>x
    have up:(∃ h' tk' m' add' tv',s2 = ⟨h',GC,DC,tk',OC⟩∧Fr h₀ env.locals h' m'∧News h₀ env.locals h' (add'++((add++news)++own))∧(∀ p∈add',∀ q∈((add++news)++own),q.1≠p.1)∧m' nm = some tv'∧(∀ z,z≠nm→z≠x→m' z = m₀ z)∧S (add'++(add++news)) tv' (xs.take i++[y])) →
        InvEndG h₀ env.locals (fun m' nx=>(l,listOf its.toArray k)∈nx∧∃ add tv,nx = add++news∧(∀ p∈add,∀ q∈news,q.1≠p.1)∧m' nm = some tv∧(∀ z,z≠nm→z≠x→m' z = m₀ z)∧S (add++news) tv (xs.take (i + 1))) own ⟨h,GC,DC,tk,OC⟩ s2:=by
      rintro ⟨h',tk',m',add',tv',e,F',N',ap',e1',e2',hS'⟩
      refine ⟨h',tk',m',add'++((add++news)++own),add'++(add++news),e,F',N',fun p hp=>?_,fun p hp=>?_,fun p hp b hb=>?_,?_,add'++add,tv',(List.append_assoc ..).symm,fun p hp q hq=>?_,e1',e2',?_⟩
      · rcases List.mem_append.mp hp with hp | hp
        · exact List.mem_append_left _ hp
        · exact List.mem_append_right _ (List.mem_append_left _ hp)
      · exact List.mem_append_right _ (List.mem_append_right _ hp)
      · obtain ⟨q,hq,rfl⟩:=List.mem_map.mp hb
        rcases List.mem_append.mp hq with hq | hq
        · exact ap' q hq p (List.mem_append_right _ hp)
        · exact hoff p hp _ (List.mem_map.mpr ⟨q,hq,rfl⟩)
      · exact List.mem_append_right _ hl
      · rcases List.mem_append.mp hp with hp | hp
        · exact ap' p hp q (List.mem_append_left _ (List.mem_append_right _ hq))
        · exact ap p hp q hq
      · rw [et,List.append_assoc]
        exact hS'
    cases fl with
    | ret v=>exact q
    | brk=>exact q
    | next=>exact up q
    | cont=>exact up q
  · rintro m₁ n1 h tk ⟨add,tv,rfl,ap,e1,e2,hS1⟩ F1 N1
    rw [hlen,List.take_length] at hS1
    refine done.get m₁ tv add h tk hS1 ap ?_ N1
    have em:m₁ = (fun z=>if z = nm then some tv else if z = x then m₁ z else m₀ z):=by
      funext z
      show m₁ z = if z = nm then some tv else if z = x then m₁ z else m₀ z
      by_cases hz2:z = nm
      · rw [if_pos hz2,hz2,e1]
      · by_cases hz:z = x
        · rw [if_neg hz2,if_pos hz]
        · rw [if_neg hz2,if_neg hz,e2 z hz2 hz]
    rw [em] at F1
    exact F1
noncomputable def ForEnd0 (h₀:Heap) (L:Addr) (news:Led) (x:Str) (ch:List Str) (m₀:Str→Option Value) (Sy:Prop) (Q:Flow→Shared→Prop) (fl:Flow) (s'':Shared):Prop :=
  match fl with
  | .ret v=>Q (.ret v) s''
  | .brk=>Q .next s''
  | _=>Sy∧∃ h' tk' m',s'' = ⟨h',GC,DC,tk',OC⟩∧Fr h₀ L h' m'∧News h₀ L h' news∧(∀ z,z≠x→ch.contains z = false→m' z = m₀ z)
theorem for0 {A:Around} {E:Value→Shared→Prop} {hpS:Heap} {tkS:Nat} {env:Env} {h₀:Heap} {x:Str} {body:List Stmt} {Q:Flow→Shared→Prop} {l:Addr} {its:List Value} {k:Nat} {m₀:Str→Option Value} {news news₁:Led} {α:Type} {Rv:Value→α→Prop} {xs:List α} (ch:List Str) (S:α→Prop)
    (hh:A.handled = none) (F:Fr h₀ env.locals hpS m₀) (N:News h₀ env.locals hpS news₁) (hs:∀ p∈news,p∈news₁) (hm:(l,listOf its.toArray k)∈news) (hR:All2 Rv its xs)
    (turn:Held (∀ pre y post v h tk own (u:Str→Option Value),xs = pre++y::post→Rv v y→(∀ z∈pre,S z) →
      Fr h₀ env.locals h (fun z=>if z = x then some v else if ch.contains z then u z else m₀ z)→News h₀ env.locals h (news++own) →
      wpAny (model prog w) A (execs body env) (ForEnd0 h₀ env.locals (news++own) x ch m₀ (S y) Q) E ⟨h,GC,DC,tk,OC⟩))
    (done:Held (∀ (u:Str→Option Value) h tk,(∀ z∈xs,S z)→Fr h₀ env.locals h (fun z=>if z = x then u z else if ch.contains z then u z else m₀ z)→News h₀ env.locals h news→Q .next ⟨h,GC,DC,tk,OC⟩)) :
    wpAny (model prog w) A (pyIter (.ref l)) (fun it s₂=>LoopAtV prog w A h₀ env x body Q E it s₂) E ⟨hpS,GC,DC,tkS,OC⟩:=by
  have hlen:=hR.length
  refine kdl_iter (news:=news) (fun i m n1=>n1 = news∧(∀ z,z≠x→ch.contains z = false→m z = m₀ z)∧∀ z∈xs.take i,S z) hh hm F (fun p hp=>N p (hs p hp)) ⟨rfl,fun _ _ _=>rfl,fun _ h=>by simp at h⟩ ?_ ?_
  · rintro i v m₁ n1 h tk own hv hoff hl ⟨rfl,e2,hS1⟩ F1 N1
    obtain ⟨y,ey,hy,et⟩:=hR.get hv
    have exs:xs = xs.take i++y::xs.drop (i + 1):=by
      have h9:=List.take_append_drop (i + 1) xs
      rw [et,List.append_assoc] at h9
      exact h9.symm
    have em:(fun z=>if z = x then some v else m₁ z) = (fun z=>if z = x then some v else if ch.contains z then m₁ z else m₀ z):=by
      funext z
      by_cases hz:z = x
      · rw [if_pos hz,if_pos hz]
      · rw [if_neg hz,if_neg hz]
        cases q:ch.contains z with
        | true=>rw [if_pos rfl]
        | false=>rw [if_neg (by simp),e2 z hz q]
    rw [em] at F1
    refine wpAny_mono (turn.get (xs.take i) y (xs.drop (i + 1)) v h tk own m₁ exs hy hS1 F1 N1) (fun fl s2 q=>?_) fun _ _ x=>x
    have up:(S y∧∃ h' tk' m',s2 = ⟨h',GC,DC,tk',OC⟩∧Fr h₀ env.locals h' m'∧News h₀ env.locals h' (n1++own)∧(∀ z,z≠x→ch.contains z = false→m' z = m₀ z)) →
        InvEndG h₀ env.locals (fun m' nx=>(l,listOf its.toArray k)∈nx∧nx = n1∧(∀ z,z≠x→ch.contains z = false→m' z = m₀ z)∧∀ z∈xs.take (i + 1),S z) own ⟨h,GC,DC,tk,OC⟩ s2:=by
      rintro ⟨hy',h',tk',m',e,F',N',e2'⟩
      refine ⟨h',tk',m',n1++own,n1,e,F',N',fun p hp=>List.mem_append_left _ hp,fun p hp=>List.mem_append_right _ hp,hoff,hl,rfl,e2',fun z hz=>?_⟩
      rw [et] at hz
      rcases List.mem_append.mp hz with hz | hz
      · exact hS1 z hz
      · rw [List.mem_singleton.mp hz];exact hy'
    cases fl with
    | ret v=>exact q
    | brk=>exact q
    | next=>exact up q
    | cont=>exact up q
  · rintro m₁ n1 h tk ⟨rfl,e2,hS1⟩ F1 N1
    rw [hlen,List.take_length] at hS1
    refine done.get m₁ h tk hS1 ?_ N1
    have em:m₁ = (fun z=>if z = x then m₁ z else if ch.contains z then m₁ z else m₀ z):=by
      funext z
      show m₁ z = if z = x then m₁ z else if ch.contains z then m₁ z else m₀ z
      by_cases hz:z = x
      · rw [if_pos hz]
      · rw [if_neg hz]
        cases q:ch.contains z with
        | true=>rw [if_pos rfl]
        | false=>rw [if_neg (by simp),e2 z hz q]
    rw [em] at F1
    exact F1
example:True:=by
  k_with "y call ref" => ((k_here;(with_reducible refine (?_:wpAny _ _ (PySem.call (Value.ref 537) [Value.none] _) _ _ _));k_dflt (apply is_na_none_ct;k_extra "@HK1"; k_extra "@HK2"; (intro h9_ tk9_ F9_ N9_);k_extra "@HK3")))
  k_with "y call ref" => ((k_here;(with_reducible refine (?_:wpAny _ _ (PySem.call (Value.ref 537) [Value.ref _] _) _ _ _));k_dflt (apply is_na_ct;k_extra "@HK1"; (first | assumption | exact RatIn.zero | exact RatIn.led (by k_mem));k_extra "@HK2"; (intro h9_ tk9_ F9_ N9_);k_extra "@HK3")))
  k_with "z call ref" => ((k_here;(with_reducible refine (?_:wpAny _ _ (PySem.call (Value.ref 537) [Value.ref _] _) _ _ _));k_dflt (apply is_na_fin_ct;k_extra "@HK1"; (first | assumption | exact RatIn.zero | exact RatIn.led (by k_mem));(first | assumption | decide | (first | lia | omega));k_extra "@HK2"; (intro h9_ tk9_ F9_ N9_);k_extra "@HK3")))
  k_with "0 call ref" => ((k_here;(with_reducible refine (?_:wpAny _ _ (PySem.call (Value.ref 262) [Value.str _ _,_] _) _ _ _));k_dflt (apply vec_ct;k_extra "@HK1"; k_extra "@HK2"; (intro x9_ d9_ t19_ t29_ t39_ t49_ t59_ h9_ tk9_ F9_ N9_ l19_ l29_;(try k_lt l19_);(try k_lt2 l29_));k_extra "@HK3")))
  trivial
section
local macro_rules (kind := PySem.W.tacticK_extra_) | s => mq "0 z y m l k j q h g f e d c p o a" s

section
variable (B:Below A₀ base outer h₀) (F:Fr h₀ L hpS m) (X:(Mine.hd.heap_1 (World.params w)).In h₀) (N:News h₀ L hpS news) (T:Top p loose mean mg mb h₀) (hk:cs.kind = .function)
include B F X N T hk
theorem add_nl_ct {v:Value} (hd:dp + 4 < recursionLimit) (hu:un + 32 < cLine) (ret:∀ h' tk',Fr h₀ L h' m→News h₀ L h' news→Q .none ⟨h',GC,DC,tk',OC⟩) :
  wpAny (model prog w) (ktrTop dp un gd cn cs L a ccd cl outer) (call (.ref 572) [.none,v]) Q E ⟨hpS,GC,DC,tkS,OC⟩:=by
  k_extra "@ENTER"
  k_steps
  all_goals exact ret _ _ (by k_asm) (by k_asm)
theorem add_nr_ct {v:Value} {n d:Int} (hx:RatIn news v n d) (h0:0 < d) (hd:dp + 4 < recursionLimit) (hu:un + 32 < cLine) (ret:∀ h' tk',Fr h₀ L h' m→News h₀ L h' news→Q .none ⟨h',GC,DC,tk',OC⟩) :
  wpAny (model prog w) (ktrTop dp un gd cn cs L a ccd cl outer) (call (.ref 572) [v,.none]) Q E ⟨hpS,GC,DC,tkS,OC⟩:=by
  cases hx
  all_goals (
    k_extra "@ENTER"
    k_steps)
  all_goals exact ret _ _ (by k_asm) (by k_asm)
end
end
example:True:=by
  k_with "1 call ref" => ((k_here;(with_reducible refine (?_:wpAny _ _ (PySem.call (Value.ref 572) [_,Value.ref _] _) _ _ _));k_dflt (apply add_ct;k_extra "@HK1"; (first | assumption | exact RatIn.zero | exact RatIn.led (by k_mem));(k_mem);(first | assumption | decide | (first | lia | omega));(first | assumption | decide | (first | lia | omega));(first | assumption | decide | (first | lia | omega));(first | assumption | decide | (first | lia | omega));(first | assumption | decide | (first | lia | omega));(first | assumption | decide | (first | lia | omega));k_extra "@HK2"; (intro x9_ tn9_ td9_ c9_ h9_ tk9_ F9_ N9_ l9_);k_extra "@HK3")))
  k_with "2 call ref" => ((k_here;(with_reducible refine (?_:wpAny _ _ (PySem.call (Value.ref 572) [_,Value.none] _) _ _ _));k_dflt (apply add_nr_ct;k_extra "@HK1"; (first | assumption | exact RatIn.zero | exact RatIn.led (by k_mem));(first | assumption | decide | (first | lia | omega));k_extra "@HK2"; (intro h9_ tk9_ F9_ N9_);k_extra "@HK3")))
  k_with "2 call ref" => ((k_here;(with_reducible refine (?_:wpAny _ _ (PySem.call (Value.ref 572) [Value.none,_] _) _ _ _));k_dflt (apply add_nl_ct;k_extra "@HK1"; k_extra "@HK2"; (intro h9_ tk9_ F9_ N9_);k_extra "@HK3")))
  k_with "3 exec For Name Name cons nil" => ((k_here;k_dflt (refine' For_invVF ?F__ ?k1__ ?k2__ ?_;(case F__=>k_asm);(case k1__=>eq_refl);(case k2__=>eq_refl))))
  k_with "3 pyIter ref" => ((k_dflt (refine' for1 (Rv:=OptO _) (Str.ofString "total") (fun led tv pre=>TotR led tv (sumO pre)∧(pre≠[]→OptO led tv (sumO pre))) ?hh__ ?F__ ?N__ ?hs__ ?hm__ ?hR__ ?h0__ ?hS__ ?_ ?_;(case hm__=>first | with_reducible assumption | assumption);(case hR__=>first | with_reducible assumption | assumption);(case hh__=>eq_refl);(case F__=>k_asm);(case N__=>k_asm);(case hs__=>(intro _ h_;first | exact h_ | exact .tail _ h_));(case h0__=>eq_refl);(case hS__=>exact ⟨.some .zero,fun h_=>absurd rfl h_⟩))))
  trivial
section
local macro_rules (kind := PySem.W.tacticK_extra_) | s => mq "3 0 2 1 z y m l k j q h g f e d c p o a" s

noncomputable def sumO (xs:List (Option Int)):Option Int:=xs.foldl (fun a y=>match a,y with | some a,some b=>some (a + b) | _,_=>none) (some 0)
theorem sumO_snoc (xs:List (Option Int)) (y:Option Int):sumO (xs++[y]) = match sumO xs,y with | some a,some b=>some (a + b) | _,_=>none:=by
  unfold sumO;rw [List.foldl_append];rfl
noncomputable abbrev Small (xs:List (Option Int)):Prop:=∀ i:Int,some i∈xs→0≤i∧i≤3
theorem sumO_le:∀ (n:Nat) (xs:List (Option Int)),xs.length = n→Small xs→∀ a,sumO xs = some a→0≤a∧a≤3 * n:=by
  intro n
  induction n with
  | zero =>
    intro xs e _ a h
    have:xs = []:=List.length_eq_zero_iff.mp e
    subst this
    have:(0:Int) = a:=Option.some.inj h
    (first | lia | omega)
  | succ n ih =>
    intro xs e hb a h
    obtain ⟨ys,y,rfl⟩:∃ ys y,xs = ys++[y]:=⟨xs.dropLast,xs.getLast (by intro q;subst q;cases e),(List.dropLast_concat_getLast _).symm⟩
    rw [sumO_snoc] at h
    rw [List.length_append] at e
    cases q:sumO ys with
    | none=>rw [q] at h;cases h
    | some b =>
      rw [q] at h
      cases y with
      | none=>cases h
      | some c =>
        have h':b + c = a:=Option.some.inj h
        have h1:=ih ys (by simpa using e) (fun i hi=>hb i (List.mem_append_left _ hi)) b q
        have h2:=hb c (List.mem_append_right _ (.head _))
        constructor<;>push_cast<;>(first | lia | omega)
inductive TotR (news:Led):Value→Option Int→Prop
  | none:TotR news .none none
  | some {v:Value} {n:Int}:RatIn news v n 1→TotR news v (some n)
theorem mk_one (n:Int):mkN n 1 = n∧mkD n 1 = 1:=by simp [mkN,mkD]
theorem mk_add (a b:Int):mkN (a * 1 + b * 1) (1 * 1) = a + b∧mkD (a * 1 + b * 1) (1 * 1) = 1:=by
  rw [Int.mul_one,Int.mul_one,Int.mul_one];exact mk_one _
noncomputable abbrev OptO (news:Led) (v:Value) (y:Option Int):Prop:=OptR news v (one y)
theorem All2.unmap {α β:Type} {R:Value→β→Prop} {f:α→β} {xs:List α}:∀ {vs:List Value},All2 R vs (xs.map f)→All2 (fun v x=>R v (f x)) vs xs:=by
  induction xs with
  | nil=>intro vs h;cases h;exact .nil
  | cons x xs ih =>
    intro vs h
    cases h with
    | cons a r=>exact .cons a (ih r)
inductive SumR (news:Led):Value→Option Int→Prop
  | none:SumR news .none none
  | some {x:Addr} {n:Int} {tn td:Tok} {k:Nat}:(x,({ cls:=.type "tuple", data:=.seq #[.int n tn,.int 1 td] k }:Obj))∈news→0≤n→n≤18→SumR news (.ref x) (some n)
theorem SumR.of {news:Led} {v:Value} {xs:List (Option Int)} (h:OptO news v (sumO xs)) (h5:xs.length≤6) (h6:Small xs):SumR news v (sumO xs):=by
  have hb:=sumO_le _ xs rfl h6
  cases q:sumO xs with
  | none=>rw [q] at h;cases h;exact .none
  | some n =>
    rw [q] at h
    have:=hb n q
    cases h with
    | some h=>exact .some h (by (first | lia | omega)) (by (first | lia | omega))
section
variable (B:Below A₀ base outer h₀) (F:Fr h₀ L hpS m) (X:(Mine.hd.heap_1 (World.params w)).In h₀) (N:News h₀ L hpS news) (T:Top p loose mean mg mb h₀) (hk:cs.kind = .function)
include B F X N T hk
theorem double_sum_ct {l:Addr} {vs:List Value} {k:Nat} {xs:List (Option Int)}
  (h3:(l,listOf vs.toArray k)∈news) (h4:All2 (OptO news) vs xs) (h5:xs.length≤6) (h6:Small xs) (h7:xs≠[]) (hd:dp + 8 < recursionLimit) (hu:un + 64 < cLine)
  (ret:∀ u s',Ret h₀ L m news (fun add u=>SumR (add++news) u (sumO xs)) u s'→Q u s') :
  wpAny (model prog w) (ktrTop dp un gd cn cs L a ccd cl outer) (call (.ref 889) [.ref l]) Q E ⟨hpS,GC,DC,tkS,OC⟩:=by
  k_extra "@ENTER"
  k_steps
  · constructor
    intro pre y post v tv add h tk own hx hv ⟨hS,_⟩ F1 N1
    have hlen:(pre.length:Int)≤6:=by rw [hx] at h5;simp at h5;(first | lia | omega)
    cases hp:sumO pre with
    | none =>
      rw [hp] at hS
      cases hS
      k_steps
      refine ⟨_,_,_,[],_,rfl,by k_asm,by k_asm,apart0,rfl,fun z h1 h2=>by first | simp [h1,h2] | simp +zetaDelta [h1,h2],?_⟩
      rw [sumO_snoc,hp]
      exact ⟨.none,fun _=>.none⟩
    | some b =>
      rw [hp] at hS
      have hb:=sumO_le _ pre rfl (fun i hi=>h6 i (hx▸List.mem_append_left _ hi)) b hp
      have hb1:b.natAbs < 10000:=by (first | lia | omega)
      cases hS with
      | some hr =>
      have hr':RatIn ((add++news)++own) tv b 1:=hr.mono fun p hp=>List.mem_append_left _ hp
      cases y with
      | none =>
        cases hv
        k_steps
        refine ⟨_,_,_,[],_,rfl,by k_asm,by k_asm,apart0,rfl,fun z h1 h2=>by first | simp [h1,h2] | simp +zetaDelta [h1,h2],?_⟩
        rw [sumO_snoc,hp]
        exact ⟨.none,fun _=>.none⟩
      | some c =>
        have hc:=h6 c (hx▸List.mem_append_right _ (.head _))
        have hc1:c.natAbs < 10000:=by (first | lia | omega)
        cases hv with
        | some hv =>
        have hv':=List.mem_append_left own (List.mem_append_right add hv)
        k_steps
        refine ⟨_,_,_,[_],_,rfl,by k_asm,by k_asm,apart1 (by assumption),rfl,fun z h1 h2=>by first | simp [h1,h2] | simp +zetaDelta [h1,h2],?_⟩
        rw [sumO_snoc,hp]
        have e:=mk_add b c
        suffices z:OptR _ _ (some (mkN (b * 1 + c * 1) (1 * 1),mkD (b * 1 + c * 1) (1 * 1))) by
          rw [e.1,e.2] at z
          exact ⟨.some (by cases z with | some z=>exact .led z),fun _=>z⟩
        exact .some (.head _)
  · constructor
    intro m₁ tv add h tk hS ap F1 N1
    k_steps
    exact ret _ _ ⟨_,_,add,rfl,by k_asm,by k_asm,ap,.of (hS.2 h7) h5 h6⟩
end
end
section
local macro_rules (kind := PySem.W.tacticK_extra_) | s => mq "0 t z y m l k j q h g f e d c p o a" s
section
variable {A:Around} {E:Value→Shared→Prop} {hpS:Heap} {tkS:Nat} {h₀:Heap} {L l:Addr} {news:Led} {k:Nat}
theorem truthy_l {its:Array Value} {b:Bool} {Q:Bool→Shared→Prop} (N:News h₀ L hpS news) (hm:(l,listOf its k)∈news) (hz:its.size≤64) (hb:(!its.isEmpty) = b) (h:Q b ⟨hpS,GC,DC,tkS + 1 + 1,OC⟩) :
    wpAny (model prog w) A (truthy (.ref l)) Q E ⟨hpS,GC,DC,tkS,OC⟩ :=
  wpAny_truthy_list (News.isList N hm) (by (first | lia | omega)) (by rw [hb];exact h)
theorem truthy_a2 {vs:List Value} {α:Type} {R:Value→α→Prop} {xs:List α} {Q:Bool→Shared→Prop} (N:News h₀ L hpS news) (hm:(l,listOf vs.toArray k)∈news) (hR:All2 R vs xs) (hz:xs.length≤6) (h:Q (!xs.isEmpty) ⟨hpS,GC,DC,tkS + 1 + 1,OC⟩) :
    wpAny (model prog w) A (truthy (.ref l)) Q E ⟨hpS,GC,DC,tkS,OC⟩ :=
  truthy_l N hm (by have:=hR.length;simp;(first | lia | omega)) (by cases hR<;>rfl) h
theorem len_l {its:Array Value} {i:Int} {Q:Value→Shared→Prop} (N:News h₀ L hpS news) (hm:(l,listOf its k)∈news) (hz:(its.size:Int) = i) (hn:i≤64) (h:Q (.int i (tkS + 1)) ⟨hpS,GC,DC,tkS + 1 + 1,OC⟩) :
    wpAny (model prog w) A (call (.builtin "len") [.ref l]) Q E ⟨hpS,GC,DC,tkS,OC⟩ :=
  Calls.call_len_list (News.isList N hm) (by (first | lia | omega)) (by rw [hz];exact h)
theorem len_a2 {vs:List Value} {α:Type} {R:Value→α→Prop} {xs:List α} {Q:Value→Shared→Prop} (N:News h₀ L hpS news) (hm:(l,listOf vs.toArray k)∈news) (hR:All2 R vs xs) (hz:xs.length≤6) (h:Q (.int (xs.length:Nat) (tkS + 1)) ⟨hpS,GC,DC,tkS + 1 + 1,OC⟩) :
    wpAny (model prog w) A (call (.builtin "len") [.ref l]) Q E ⟨hpS,GC,DC,tkS,OC⟩ :=
  len_l N hm (by have:=hR.length;simp;(first | lia | omega)) (by (first | lia | omega)) h
theorem item_l {value slice:PySem.Expr} {its:Array Value} {i:Int} {u:Tok} {v:Value} {Q:Value→Shared→Prop} (N:News h₀ L hpS news) (hm:(l,listOf its k)∈news) (h0:0≤i) (h1:i < 2 ^ 63) (hv:(its.toList.drop i.toNat).head? = some v) (h:Q v ⟨hpS,GC,DC,tkS,OC⟩)
    (hs:subscripted slice false (.ref l) (.int i u) = operate [.ref l,.int i u] (getItem (.ref l) (.int i u)):=by with_unfolding_all rfl) :
    wpAny (model prog w) A (subscriptTail value slice (.ref l) (.int i u)) Q E ⟨hpS,GC,DC,tkS,OC⟩:=by
  have hl:hpS.IsList l its:=⟨_,(N _ hm).1,rfl,k,rfl⟩
  exact tail_any hl.typeIs slot_list_getitem.lookup (wpAny_getItem_list hl h0 h1 (by rw [List.head?_drop] at hv;simpa using hv) h) hs
end
section
variable (B:Below A₀ base outer h₀) (F:Fr h₀ L hpS m) (X:(Mine.hd.heap_1 (World.params w)).In h₀) (N:News h₀ L hpS news) (T:Top p loose mean mg mb h₀) (hk:cs.kind = .function)
include B F X N T hk
theorem div_nl_ct {v:Value} (hd:dp + 4 < recursionLimit) (hu:un + 32 < cLine) (ret:∀ h' tk',Fr h₀ L h' m→News h₀ L h' news→Q .none ⟨h',GC,DC,tk',OC⟩) :
  wpAny (model prog w) (ktrTop dp un gd cn cs L a ccd cl outer) (call (.ref 593) [.none,v]) Q E ⟨hpS,GC,DC,tkS,OC⟩:=by
  k_extra "@ENTER"
  k_steps
  all_goals exact ret _ _ (by k_asm) (by k_asm)
theorem mean_nil_ct {l:Addr} {k:Nat} (h3:(l,listOf #[] k)∈news) (hd:dp + 4 < recursionLimit) (hu:un + 32 < cLine) (ret:∀ h' tk',Fr h₀ L h' m→News h₀ L h' news→Q (.ref 500) ⟨h',GC,DC,tk',OC⟩) :
  wpAny (model prog w) (ktrTop dp un gd cn cs L a ccd cl outer) (call (.ref 901) [.ref l]) Q E ⟨hpS,GC,DC,tkS,OC⟩:=by
  k_extra "@ENTER"
  k_steps
  all_goals exact ret _ _ (by k_asm) (by k_asm)
end
end
example:True:=by
  k_with "4 call ref" => ((k_here;(with_reducible refine (?_:wpAny _ _ (PySem.call (Value.ref 593) [Value.ref _,Value.ref _] _) _ _ _));k_dflt (apply div_ct;k_extra "@HK1"; (k_mem);(k_mem);(first | assumption | decide | (first | lia | omega));(first | assumption | decide | (first | lia | omega));(first | assumption | decide | (first | lia | omega));(first | assumption | decide | (first | lia | omega));(first | assumption | decide | (first | lia | omega));(first | assumption | decide | (first | lia | omega));(first | assumption | decide | (first | lia | omega));k_extra "@HK2"; (intro x9_ tn9_ td9_ c9_ h9_ tk9_ F9_ N9_ l9_);k_extra "@HK3")))
  k_with "5 call ref" => ((k_here;(with_reducible refine (?_:wpAny _ _ (PySem.call (Value.ref 593) [Value.none,_] _) _ _ _));k_dflt (apply div_nl_ct;k_extra "@HK1"; k_extra "@HK2"; (intro h9_ tk9_ F9_ N9_);k_extra "@HK3")))
  k_with "6 call ref" => ((k_here;(with_reducible refine (?_:wpAny _ _ (PySem.call (Value.ref 889) [Value.ref _] _) _ _ _));k_dflt (apply double_sum_ct;k_extra "@HK1"; (k_mem);(assumption);(assumption);(assumption);(assumption);k_extra "@HK2"; (refine retK ?_;intro u9_ h9_ tk9_ add9_ F9_ N9_ l9_ r9_);(generalize hq9:sumO _ = p9 at r9_);cases r9_;k_extra "@HK3")))
  trivial
section
local macro_rules (kind := PySem.W.tacticK_extra_) | s => mq "0 6 5 4 w t m l k j q h g f e d c p o a" s

section
variable (B:Below A₀ base outer h₀) (F:Fr h₀ L hpS m) (X:(Mine.hd.heap_1 (World.params w)).In h₀) (N:News h₀ L hpS news) (T:Top p loose mean mg mb h₀) (hk:cs.kind = .function)
include B F X N T hk
noncomputable def meanO (xs:List (Option Int)):Option (Int×Int):=(sumO xs).map fun n=>(mkN (n * 1) (1 * xs.length),mkD (n * 1) (1 * xs.length))
theorem mean_items_ct {l:Addr} {vs:List Value} {k:Nat} {xs:List (Option Int)}
  (h3:(l,listOf vs.toArray k)∈news) (h4:All2 (OptO news) vs xs) (h5:xs.length≤6) (h6:Small xs) (h7:xs≠[]) (hd:dp + 10 < recursionLimit) (hu:un + 80 < cLine)
  (ret:∀ u s',Ret h₀ L m news (fun add u=>OptR add u (meanO xs)) u s'→Q u s') :
  wpAny (model prog w) (ktrTop dp un gd cn cs L a ccd cl outer) (call (.ref 901) [.ref l]) Q E ⟨hpS,GC,DC,tkS,OC⟩:=by
  have he:xs.isEmpty = false:=by cases xs with
    | nil=>exact absurd rfl h7
    | cons _ _=>rfl
  have h9:((xs.length:Int)).natAbs < 10000:=Nat.lt_of_le_of_lt h5 (by decide)
  have h8:0 < xs.length:=List.length_pos_iff.mpr h7
  k_extra "@ENTER"
  k_steps
  all_goals (rename sumO _ = _=>hq9)
  · exact ret _ _ (ret0 (by k_asm) (by k_asm) (by intro p h;k_mem) (by rw [meanO,hq9];exact .none))
  · exact ret _ _ (ret1 (by k_asm) (by k_asm) (by assumption) (by intro p h;k_mem) (by rw [meanO,hq9];exact .some (.head _)))
end
end

inductive UEnd (h₀:Heap) (L:Addr) (own lp:Led) (rest:(Str→Option Value)→Led→Prop) (s₂:Shared):Prop
  | mk (h':Heap) (tk':Nat) (m':(Str→Option Value)) (news':Led):s₂ = ⟨h',GC,DC,tk',OC⟩→Fr h₀ L h' m'→News h₀ L h' (news'++own)→OwnOff own (news'.map (·.1))→(∀ p∈lp,p∈news')→rest m' news'→UEnd h₀ L own lp rest s₂
noncomputable def UPost (h₀:Heap) (L:Addr) (own lp:Led) (rest:(Str→Option Value)→Led→Prop) (Q:Flow→Shared→Prop) (fl:Flow) (s₂:Shared):Prop :=
  match fl with
  | .ret v=>Q (.ret v) s₂
  | .brk=>Q .next s₂
  | _=>UEnd h₀ L own lp rest s₂
noncomputable def URest (w:World) (A:Around) (E:Value→Shared→Prop) (h₀:Heap) (env:Env) (x:Str) (body:List Stmt) (Q:Flow→Shared→Prop) (lp:Led):List (Value→Prop)→(Str→Option Value)→Led→Prop
  | [],m,news=>∀ h tk,Fr h₀ env.locals h m→News h₀ env.locals h news→Q .next ⟨h,GC,DC,tk,OC⟩
  | P::r,m,news=>∀ v h tk own,P v→OwnOff own (news.map (·.1))→Fr h₀ env.locals h (fun y=>if y = x then some v else m y)→News h₀ env.locals h (news++own) →
      wpAny (model prog w) A (execs body env) (UPost h₀ env.locals own lp (URest w A E h₀ env x body Q lp r) Q) E ⟨h,GC,DC,tk,OC⟩
section
variable {A:Around} {E:Value→Shared→Prop} {hpS:Heap} {tkS:Nat} {env:Env} {h₀:Heap} {x:Str} {body:List Stmt} {Q:Flow→Shared→Prop} {lp:Led} {m₀:Str→Option Value} {news:Led}
theorem URest.nil {m:Str→Option Value} (h:∀ h tk,Fr h₀ env.locals h m→News h₀ env.locals h news→Q .next ⟨h,GC,DC,tk,OC⟩):URest w A E h₀ env x body Q lp [] m news:=h
theorem URest.val {m:Str→Option Value} {v:Value} {r:List (Value→Prop)} (h:∀ h tk own,OwnOff own (news.map (·.1))→Fr h₀ env.locals h (fun y=>if y = x then some v else m y)→News h₀ env.locals h (news++own) →
      wpAny (model prog w) A (execs body env) (UPost h₀ env.locals own lp (URest w A E h₀ env x body Q lp r) Q) E ⟨h,GC,DC,tk,OC⟩):URest w A E h₀ env x body Q lp ((fun u=>u = v)::r) m news:=by
  intro u h' tk own e off F N
  subst e
  exact h h' tk own off F N
theorem URest.int {m:Str→Option Value} {k:Int} {r:List (Value→Prop)} (h:∀ t h tk own,OwnOff own (news.map (·.1))→Fr h₀ env.locals h (fun y=>if y = x then some (.int k t) else m y)→News h₀ env.locals h (news++own) →
      wpAny (model prog w) A (execs body env) (UPost h₀ env.locals own lp (URest w A E h₀ env x body Q lp r) Q) E ⟨h,GC,DC,tk,OC⟩):URest w A E h₀ env x body Q lp ((fun u=>∃ t,u = .int k t)::r) m news:=by
  rintro u h' tk own ⟨t,rfl⟩ off F N
  exact h t h' tk own off F N
theorem UEnd.up {own:Led} {rest:(Str→Option Value)→Led→Prop} {hpS:Heap} {tkS:Nat} {s₂:Shared} {J:(Str→Option Value)→Led→Prop} (h:UEnd h₀ env.locals own lp rest s₂) (up:∀ m' n',(∀ p∈lp,p∈n')→rest m' n'→J m' n'):InvEndG h₀ env.locals J own ⟨hpS,GC,DC,tkS,OC⟩ s₂:=by
  obtain ⟨h',tk',m',n',e,F',N',off,hl,r⟩:=h
  exact ⟨h',tk',m',n'++own,n',e,F',N',fun p hp=>List.mem_append_left _ hp,fun p hp=>List.mem_append_right _ hp,off,up _ _ hl r⟩
theorem uloop_list {l:Addr} {its:List Value} {k:Nat} (hh:A.handled = none) (hm:(l,listOf its.toArray k)∈news) (F:Fr h₀ env.locals hpS m₀) (N:News h₀ env.locals hpS news)
    (h:URest w A E h₀ env x body Q [(l,listOf its.toArray k)] (its.map fun v u=>u = v) m₀ news) :
    wpAny (model prog w) A (pyIter (.ref l)) (fun it s₂=>LoopAtV prog w A h₀ env x body Q E it s₂) E ⟨hpS,GC,DC,tkS,OC⟩:=by
  refine kdl_iter (fun i m n1=>URest w A E h₀ env x body Q [(l,listOf its.toArray k)] ((its.drop i).map fun v u=>u = v) m n1) hh hm F N h ?_ ?_
  · intro i v m₁ n1 h1 tk own hv hoff hl hJ F1 N1
    have hi:i < its.length:=(List.getElem?_eq_some_iff.mp hv).1
    have e:its.drop i = v::its.drop (i + 1):=by
      rw [List.drop_eq_getElem_cons hi]
      rw [List.getElem?_eq_getElem hi] at hv
      rw [Option.some.inj hv]
    rw [e] at hJ
    refine wpAny_mono (hJ v h1 tk own rfl hoff F1 N1) (fun fl s2 q=>?_) fun _ _ x=>x
    cases fl with
    | ret v=>exact q
    | brk=>exact q
    | next=>exact UEnd.up q fun m' n' hl' r=>⟨hl' _ (.head _),r⟩
    | cont=>exact UEnd.up q fun m' n' hl' r=>⟨hl' _ (.head _),r⟩
  · intro m₁ n1 h1 tk hJ F1 N1
    rw [List.drop_length] at hJ
    exact hJ h1 tk F1 N1
theorem uloop_range {r:Addr} {a₀ b₀:Int} {t₀ u₀ v₀:Tok} (n:Nat) (hh:A.handled = none) (hr:IsRange hpS r a₀ b₀ 1 t₀ u₀ v₀) (hsmall:Builtin.Range.small a₀ b₀ 1 = true) (hsz:Builtin.Range.rangeSize a₀ b₀ 1 = (n:Int)) (F:Fr h₀ env.locals hpS m₀) (N:News h₀ env.locals hpS news)
    (h:URest w A E h₀ env x body Q [] ((List.range n).map fun (i:Nat) u=>∃ t,u = .int (a₀ + (i:Int)) t) m₀ news) :
    wpAny (model prog w) A (pyIter (.ref r)) (fun it s₂=>LoopAtV prog w A h₀ env x body Q E it s₂) E ⟨hpS,GC,DC,tkS,OC⟩:=by
  refine wpAny_pyIter_range hr hsmall ?_
  have W:Walks prog w A hpS.objs.size [hpS.objs.size] [hpS.objs.size] n (fun i v=>i < n∧∃ t,v = .int (a₀ + i * 1) t)
      (fun i h=>IsRangeIter h hpS.objs.size (a₀ + (i:Nat) * 1) ((n:Int) - (i:Nat)) 1):=(Walks.range hh _ a₀ 1 n).bound
  refine kdr_loop (fun i m n1=>URest w A E h₀ env x body Q [] (((List.range n).drop i).map fun (i:Nat) u=>∃ t,u = .int (a₀ + (i:Int)) t) m n1) W (fun _ h=>h) (fun _ h=>h) ?_ ?_ ?_ ?_ (by show IsRangeIter _ _ _ _ _;rw [hsz];simpa using Heap.get?_push_size _ rfl) (F.push _) (fun p hp=>⟨Heap.get?_push_of_some _ (N p hp).1,(N p hp).2⟩) h ?_ ?_
  · intro i h hi b hb
    rw [List.mem_singleton.mp hb]
    exact ⟨_,hi⟩
  · intro hm
    exact absurd F.ns.lt ((List.mem_singleton.mp hm)▸Nat.lt_irrefl _)
  · intro b hb
    rw [List.mem_singleton.mp hb]
    exact next_is_new F
  · intro p hp hI
    exact absurd (Heap.lt_size (N p hp).1) ((List.mem_singleton.mp hI)▸Nat.lt_irrefl _)
  · rintro i v m₁ n1 h1 tk own hi ⟨_,t,rfl⟩ hoff hJ F1 N1
    have e1:a₀ + (i:Int) * 1 = a₀ + (i:Int):=by (first | lia | omega)
    rw [e1] at F1
    have e:(List.range n).drop i = i::(List.range n).drop (i + 1):=by
      rw [List.drop_eq_getElem_cons (by simpa using hi)]
      simp
    rw [e] at hJ
    refine wpAny_mono (hJ (.int (a₀ + (i:Int)) t) h1 tk own ⟨t,rfl⟩ hoff F1 N1) (fun fl s2 q=>?_) fun _ _ x=>x
    cases fl with
    | ret v=>exact q
    | brk=>exact q
    | next=>exact UEnd.up q fun m' n' _ r=>r
    | cont=>exact UEnd.up q fun m' n' _ r=>r
  · intro m₁ n1 h1 tk hJ F1 N1
    have e:(List.range n).drop n = []:=by simp
    rw [e] at hJ
    exact hJ h1 tk F1 N1
theorem UEnd.same {own all:Led} {rest:(Str→Option Value)→Led→Prop} {h':Heap} {tk':Nat} {m':Str→Option Value} (off:OwnOff own (news.map (·.1))) (F':Fr h₀ env.locals h' m') (N':News h₀ env.locals h' all) (hs:∀ p∈news++own,p∈all) (hl:∀ p∈lp,p∈news) (r:rest m' news) :
    UEnd h₀ env.locals own lp rest ⟨h',GC,DC,tk',OC⟩:=⟨h',tk',m',news,rfl,F',fun p hp=>N' p (hs p hp),off,hl,r⟩
theorem UEnd.two {own r:Led} {a b:Addr} {o1 o2 o1' o2':Obj} {rest:(Str→Option Value)→Led→Prop} {h':Heap} {tk':Nat} {m':Str→Option Value} (off:OwnOff own (((a,o1)::(b,o2)::r).map (·.1))) (F':Fr h₀ env.locals h' m') (N':News h₀ env.locals h' ((a,o1')::(b,o2')::(r++own))) (hl:∀ p∈lp,p∈(a,o1')::(b,o2')::r) (q:rest m' ((a,o1')::(b,o2')::r)) :
    UEnd h₀ env.locals own lp rest ⟨h',GC,DC,tk',OC⟩:=⟨h',tk',m',(a,o1')::(b,o2')::r,rfl,F',N',off,hl,q⟩
end

noncomputable def LEnd (h₀:Heap) (L:Addr) (news own:Led) (x:Str) (ch:List Str) (m₀:Str→Option Value) (st:Led→Prop) (Q:Flow→Shared→Prop) (fl:Flow) (s'':Shared):Prop :=
  match fl with
  | .ret v=>Q (.ret v) s''
  | .brk=>Q .next s''
  | _=>∃ h' tk' m' hd',s'' = ⟨h',GC,DC,tk',OC⟩∧Fr h₀ L h' m'∧News h₀ L h' ((hd'++news)++own)∧OwnOff own (hd'.map (·.1))∧(∀ z,z≠x→ch.contains z = false→m' z = m₀ z)∧st hd'
theorem LEnd.two {h₀ h':Heap} {L a b:Addr} {o1 o2:Obj} {news own:Led} {x:Str} {ch:List Str} {m₀ m':Str→Option Value} {st:Led→Prop} {Q:Flow→Shared→Prop} {tk':Nat} (F':Fr h₀ L h' m') (N':News h₀ L h' ((a,o1)::(b,o2)::(news++own))) (off:OwnOff own [a,b]) (hm:∀ z,z≠x→ch.contains z = false→m' z = m₀ z) (hst:st [(a,o1),(b,o2)]) :
    LEnd h₀ L news own x ch m₀ st Q .next ⟨h',GC,DC,tk',OC⟩:=⟨h',tk',m',[(a,o1),(b,o2)],rfl,F',N',off,hm,hst⟩
theorem LEnd.same {h₀ h':Heap} {L:Addr} {hd all:Led} {news own:Led} {x:Str} {ch:List Str} {m₀ m':Str→Option Value} {st:Led→Prop} {Q:Flow→Shared→Prop} {tk':Nat} (F':Fr h₀ L h' m') (N':News h₀ L h' all) (hs:∀ p∈(hd++news)++own,p∈all) (off:OwnOff own ((hd++news).map (·.1))) (hm:∀ z,z≠x→ch.contains z = false→m' z = m₀ z) (hst:st hd) :
    LEnd h₀ L news own x ch m₀ st Q .next ⟨h',GC,DC,tk',OC⟩:=⟨h',tk',m',hd,rfl,F',fun p hp=>N' p (hs p hp),fun p hp b hb=>off p hp b (by rw [List.map_append];exact List.mem_append_left _ hb),hm,hst⟩
theorem forL {A:Around} {E:Value→Shared→Prop} {hpS:Heap} {tkS:Nat} {env:Env} {h₀:Heap} {x:Str} {body:List Stmt} {Q:Flow→Shared→Prop} {l:Addr} {its:List Value} {k:Nat} {m₀:Str→Option Value} {news hd₀:Led} {α:Type} {Rv:Value→α→Prop} {xs:List α} (ch:List Str) (st:List α→Led→Prop)
    (hh:A.handled = none) (F:Fr h₀ env.locals hpS m₀) (N:News h₀ env.locals hpS (hd₀++news)) (hm:(l,listOf its.toArray k)∈news) (hR:All2 Rv its xs) (h0:st [] hd₀)
    (turn:Held (∀ pre y post v hd h tk own (u:Str→Option Value),xs = pre++y::post→Rv v y→st pre hd→OwnOff own ((hd++news).map (·.1)) →
      Fr h₀ env.locals h (fun z=>if z = x then some v else if ch.contains z then u z else m₀ z)→News h₀ env.locals h ((hd++news)++own) →
      wpAny (model prog w) A (execs body env) (LEnd h₀ env.locals news own x ch m₀ (st (pre++[y])) Q) E ⟨h,GC,DC,tk,OC⟩))
    (done:Held (∀ hd (u:Str→Option Value) h tk,st xs hd→Fr h₀ env.locals h (fun z=>if z = x then u z else if ch.contains z then u z else m₀ z)→News h₀ env.locals h (hd++news)→Q .next ⟨h,GC,DC,tk,OC⟩)) :
    wpAny (model prog w) A (pyIter (.ref l)) (fun it s₂=>LoopAtV prog w A h₀ env x body Q E it s₂) E ⟨hpS,GC,DC,tkS,OC⟩:=by
  have hlen:=hR.length
  refine kdl_iter (fun i m n1=>∃ hd,n1 = hd++news∧st (xs.take i) hd∧∀ z,z≠x→ch.contains z = false→m z = m₀ z) hh (List.mem_append_right hd₀ hm) F N ⟨hd₀,rfl,by simpa using h0,fun _ _ _=>rfl⟩ ?_ ?_
  · rintro i v m₁ n1 h tk own hv hoff hl ⟨hd,rfl,hst,e2⟩ F1 N1
    obtain ⟨y,ey,hy,et⟩:=hR.get hv
    have exs:xs = xs.take i++y::xs.drop (i + 1):=by
      have h9:=List.take_append_drop (i + 1) xs
      rw [et,List.append_assoc] at h9
      exact h9.symm
    have em:(fun z=>if z = x then some v else m₁ z) = (fun z=>if z = x then some v else if ch.contains z then m₁ z else m₀ z):=by
      funext z
      by_cases hz:z = x
      · rw [if_pos hz,if_pos hz]
      · rw [if_neg hz,if_neg hz]
        cases q:ch.contains z with
        | true=>rw [if_pos rfl]
        | false=>rw [if_neg (by simp),e2 z hz q]
    rw [em] at F1
    refine wpAny_mono (turn.get (xs.take i) y (xs.drop (i + 1)) v hd h tk own m₁ exs hy hst hoff F1 N1) (fun fl s2 q=>?_) fun _ _ x=>x
    have up:(∃ h' tk' m' hd',s2 = ⟨h',GC,DC,tk',OC⟩∧Fr h₀ env.locals h' m'∧News h₀ env.locals h' ((hd'++news)++own)∧OwnOff own (hd'.map (·.1))∧(∀ z,z≠x→ch.contains z = false→m' z = m₀ z)∧st (xs.take i++[y]) hd') →
        InvEndG h₀ env.locals (fun m' nx=>(l,listOf its.toArray k)∈nx∧∃ hd,nx = hd++news∧st (xs.take (i + 1)) hd∧∀ z,z≠x→ch.contains z = false→m' z = m₀ z) own ⟨h,GC,DC,tk,OC⟩ s2:=by
      rintro ⟨h',tk',m',hd',e,F',N',off,e2',hst'⟩
      refine ⟨h',tk',m',(hd'++news)++own,hd'++news,e,F',N',fun p hp=>List.mem_append_left _ hp,fun p hp=>List.mem_append_right _ hp,fun p hp b hb=>?_,List.mem_append_right _ hm,hd',rfl,by rw [et];exact hst',e2'⟩
      obtain ⟨q,hq,rfl⟩:=List.mem_map.mp hb
      rcases List.mem_append.mp hq with hq | hq
      · exact off p hp _ (List.mem_map.mpr ⟨q,hq,rfl⟩)
      · exact hoff p hp _ (List.mem_map.mpr ⟨q,List.mem_append_right _ hq,rfl⟩)
    cases fl with
    | ret v=>exact q
    | brk=>exact q
    | next=>exact up q
    | cont=>exact up q
  · rintro m₁ n1 h tk ⟨hd,rfl,hst,e2⟩ F1 N1
    rw [hlen,List.take_length] at hst
    refine done.get hd m₁ h tk hst ?_ N1
    have em:m₁ = (fun z=>if z = x then m₁ z else if ch.contains z then m₁ z else m₀ z):=by
      funext z
      show m₁ z = if z = x then m₁ z else if ch.contains z then m₁ z else m₀ z
      by_cases hz:z = x
      · rw [if_pos hz]
      · rw [if_neg hz]
        cases q:ch.contains z with
        | true=>rw [if_pos rfl]
        | false=>rw [if_neg (by simp),e2 z hz q]
    rw [em] at F1
    exact F1
noncomputable abbrev matO (w:World) (t1 t2 t3 t4:Tok) (fl tl ul pl:Addr):Obj:=dictOf
  [⟨PyData.keyHash w.params (Str.ofString "formals"),.str (Str.ofString "formals") t1,.ref fl⟩,
   ⟨PyData.keyHash w.params (Str.ofString "tags"),.str (Str.ofString "tags") t2,.ref tl⟩,
   ⟨PyData.keyHash w.params (Str.ofString "used"),.str (Str.ofString "used") t3,.ref ul⟩,
   ⟨PyData.keyHash w.params (Str.ofString "places"),.str (Str.ofString "places") t4,.ref pl⟩] 4
noncomputable abbrev sv (x:String) (t:Tok):Value:=.str (Str.ofString x) t
inductive StrR:Value→Str→Prop
  | mk (x:Str) (t:Tok):StrR (.str x t) x
theorem eq_str_ne {A:Around} {E:Value→Shared→Prop} {hpS:Heap} {tkS:Nat} {x y:Str} {t u:Tok} {Q:Value→Shared→Prop} (hn:x≠y) (h:Q (.bool false) ⟨hpS,GC,DC,tkS,OC⟩):wpAny (model prog w) A (compareOp .Eq (.str x t) (.str y u)) Q E ⟨hpS,GC,DC,tkS,OC⟩:=by
  refine eq_str ?_
  rw [show (x == y) = false from by simpa using hn]
  exact h
theorem ret2 {h₀ h:Heap} {L x:Addr} {o:Obj} {m:Str→Option Value} {news rest:Led} {tk:Nat} {R:Led→Value→Prop} (F:Fr h₀ L h m) (N:News h₀ L h ((x,o)::rest)) (l:∀ q∈news,q.1≠x) (hs:∀ p∈news,p∈rest) (r:R [(x,o)] (.ref x)) :
    Ret h₀ L m news R (.ref x) ⟨h,GC,DC,tk,OC⟩ :=
  ⟨h,tk,[(x,o)],rfl,F,fun p hp=>N p ((List.mem_cons.mp hp).elim (fun e=>e▸.head _) fun hp=>.tail _ (hs p hp)),fun p hp q hq=>by rw [List.mem_singleton.mp hp];exact l q hq,r⟩
noncomputable abbrev naD (w:World) (o:Obj) (q6:Tok):Prop:=o.IsDictOf (strKind prog w) [(Str.ofString "na.rm", .int 1 q6)]∧PyProof.V.FlatPairs PyData.str [(Str.ofString "na.rm", .int 1 q6)] [(PyData.str (Str.ofString "na.rm"),PyData.int 1)]
inductive ExSt (w:World) (ul pl:Addr) (q2 q3:Tok) (k3:Nat) (op:Obj):Bool→Led→Prop
  | no:ExSt w ul pl q2 q3 k3 op false [(ul,listOf #[.int 0 q2,.int 0 q3] k3),(pl,op)]
  | yes (q4 q6:Tok) (k5:Nat) (o:Obj):naD w o q6→ExSt w ul pl q2 q3 k3 op true [(ul,listOf #[.int 0 q2,.int 2 q4] k5),(pl,o)]
example:True:=by
  k_with "7 CompEnd" => ((k_dflt (refine LCg.CompEnd.intro (by k_asm) (by k_asm) _ (by first | exact fun _ h=>h | exact fun _ h=>.tail _ h | exact fun _ h=>.tail _ (.tail _ h)) (by assumption) (by first | exact True.intro | exact Or.inr ⟨_,by k_mem,rfl,_,rfl⟩) ?_)))
  k_with "8 exec For Name Call cons nil" => ((k_here;k_dflt (refine' For_invVF ?F__ ?k1__ ?k2__ ?_;(case F__=>k_asm);(case k1__=>eq_refl);(case k2__=>eq_refl))))
  k_with "8 pyIter ref" => ((k_dflt (first | refine uloop_range 1 (by rfl) (by assumption) (by rfl) (by rfl) (by k_asm) (by k_asm) ?_ | refine uloop_range 2 (by rfl) (by assumption) (by rfl) (by rfl) (by k_asm) (by k_asm) ?_)))
  k_with "8 URest" => ((k_dflt (first | refine URest.int (fun t' h' tk' own' off' F' N'=>?_) | refine URest.val (fun h' tk' own' off' F' N'=>?_) | refine URest.nil (fun h' tk' F' N'=>?_));(try simp only [List.cons_append,List.nil_append] at N')))
  k_with "8 UPost" => ((dsimp only [UPost]))
  k_with "8 UEnd" => ((k_dflt (first | refine UEnd.same (by assumption) (by k_asm) (by k_asm) (by intro p_ h_;k_mem) (by intro p_ h_;first | exact (nomatch h_) | (rw [List.mem_singleton.mp h_];k_mem)) ?_ | refine UEnd.two (by assumption) (by k_asm) (by k_asm) (by intro p_ h_;first | exact (nomatch h_) | (rw [List.mem_singleton.mp h_];k_mem)) ?_)))
  k_with "9 exec For Name Attribute cons nil" => ((k_here;k_dflt (refine' For_invVF ?F__ ?k1__ ?k2__ ?_;(case F__=>k_asm);(case k1__=>eq_refl);(case k2__=>eq_refl))))
  k_with "9 exec For Name Name cons nil" => ((k_here;k_dflt (refine' For_invVF ?F__ ?k1__ ?k2__ ?_;(case F__=>k_asm);(case k1__=>eq_refl);(case k2__=>eq_refl))))
  k_with "9 pyIter ref" => ((k_dflt (refine' for0 [Str.ofString "place"] (fun _=>True) ?hh__ ?F__ ?N__ ?hs__ ?hm__ ?hR__ ?_ ?_;(case hm__=>first | with_reducible assumption | assumption);(case hR__=>first | with_reducible assumption | assumption);(case hh__=>eq_refl);(case F__=>k_asm);(case N__=>k_asm);(case hs__=>(intro _ h_;first | exact h_ | exact .tail _ h_)))))
  trivial
section
local macro_rules (kind := PySem.W.tacticK_extra_) | s => mq "0 9 8 7 m l k t j q h g f e d c p o a" s

section
variable (B:Below A₀ base outer h₀) (F:Fr h₀ L hpS m) (X:(Mine.hd.heap_1 (World.params w)).In h₀) (N:News h₀ L hpS news) (T:Top p loose mean mg mb h₀) (hk:cs.kind = .function)
include B F X N T hk
theorem exact0_ct {names:List Str} {vs:List Value} {x d fl tl ul pl:Addr} {t1 t2 t3 t4:Tok} {k1 k2:Nat}
  (h1:(x,instObj 450 d)∈news) (h2:(d,matO w t1 t2 t3 t4 fl tl ul pl)∈news) (h3:(fl,listOf vs.toArray k1)∈news) (h4:(tl,listOf #[.none] k2)∈news) (h5:All2 StrR vs names)
  (hd:dp + 6 < recursionLimit) (hu:un + 60 < cLine) (ret:∀ h' tk',Fr h₀ L h' m→News h₀ L h' news→Q .none ⟨h',GC,DC,tk',OC⟩) :
  wpAny (model prog w) (ktrTop dp un gd cn cs L a ccd cl outer) (call (.ref 414) [.ref x]) Q E ⟨hpS,GC,DC,tkS,OC⟩:=by
  k_extra "@ENTER"
  k_steps
  · constructor
    intro pre y post v h tk own u _ hv _ F1 N1
    cases hv
    k_steps
    all_goals first | exact ⟨trivial,_,_,_,rfl,by k_asm,news_sub (by k_asm) (by intro p h;k_mem),fun z h1 h2=>by simp_all⟩ | trace_state
    all_goals (fail "left")
  · constructor
    intro u h tk _ F1 N1
    k_steps
    exact ret _ _ (by k_asm) (by k_asm)
end
end
example:True:=by
  k_with "ba INMAP" => (first | exact List.Mem.head _ | (refine' List.Mem.tail _ ?_;k_extra "@INMAP"))
  k_with "ba ALLNE" => (first | assumption | exact List.forall_mem_nil _ | (refine' List.forall_mem_cons.mpr ⟨?_,?_⟩;(first | assumption | exact Ne.symm (by assumption) | k_ne);k_extra "@ALLNE") | (refine' List.forall_mem_append.mpr ⟨?_,?_⟩<;>k_extra "@ALLNE") | (refine OwnOff.ne (by assumption) ?_;k_extra "@INMAP"))
  k_with "ba K_ALL" => (k_extra "@ALLNE")
  k_with "bb compareOp Eq str str" => ((k_here;refine eq_str_ne (by first | assumption | exact Ne.symm (by assumption)) ?_))
  trivial
section
local macro_rules (kind := PySem.W.tacticK_extra_) | s => mq "0 bb ba 8 7 m l k t j q h g f e d c p o a" s

section
variable (B:Below A₀ base outer h₀) (F:Fr h₀ L hpS m) (X:(Mine.hd.heap_1 (World.params w)).In h₀) (N:News h₀ L hpS news) (T:Top p loose mean mg mb h₀) (hk:cs.kind = .function)
include B F X N T hk
theorem exact1_ct {names:List Str} {vs:List Value} {x d fl tl ul pl:Addr} {t1 t2 t3 t4 q1 q2 q3:Tok} {k1 k2 k3:Nat} {op:Obj}
  {rest:Led} (hr:news = (ul,listOf #[.int 0 q2,.int 0 q3] k3)::(pl,op)::rest) (lo:(pl == sysModules) = false) (hpd:op.IsDictOf (strKind prog w) []) (hpf:PyProof.V.FlatPairs PyData.str ([]:List (Str×Value)) [])
  (h1:(x,instObj 450 d)∈rest) (h2:(d,matO w t1 t2 t3 t4 fl tl ul pl)∈rest) (h3:(fl,listOf vs.toArray k1)∈rest) (h4:(tl,listOf #[.none,.str (Str.ofString "na.rm") q1] k2)∈rest) (h5:All2 StrR vs names)
  (hup:@Ne Nat ul pl) (hu1:∀ p∈rest,p.1≠ul) (hp1:∀ p∈rest,p.1≠pl) (hn:names.Nodup) (hna:names.contains (Str.ofString "na.rm") = true)
  (hd:dp + 6 < recursionLimit) (hu:un + 60 < cLine)
  (ret:∀ h' tk' hd,ExSt w ul pl q2 q3 k3 op true hd→Fr h₀ L h' m→News h₀ L h' (hd++rest)→Q .none ⟨h',GC,DC,tk',OC⟩) :
  wpAny (model prog w) (ktrTop dp un gd cn cs L a ccd cl outer) (call (.ref 414) [.ref x]) Q E ⟨hpS,GC,DC,tkS,OC⟩:=by
  subst hr
  k_extra "@ENTER"
  k_steps
  k_dflt (refine forL (news:=rest) (hd₀:=[_,_]) [Str.ofString "place"] (fun pre=>ExSt w ul pl q2 q3 k3 op (pre.contains (Str.ofString "na.rm"))) (by rfl) (by k_asm) (by k_asm) h3 h5 .no ?_ ?_)
  · constructor
    intro pre y post v hd h tk own u hx hv hst hoff F1 N1
    have hk1:(x,instObj 450 d)∈(hd++rest)++own:=List.mem_append_left _ (List.mem_append_right _ h1)
    have hk2:(d,matO w t1 t2 t3 t4 fl tl ul pl)∈(hd++rest)++own:=List.mem_append_left _ (List.mem_append_right _ h2)
    have hk4:(tl,listOf #[.none,.str (Str.ofString "na.rm") q1] k2)∈(hd++rest)++own:=List.mem_append_left _ (List.mem_append_right _ h4)
    cases hv
    by_cases hy:y = (Str.ofString "na.rm")
    · subst hy
      have hpre:pre.contains (Str.ofString "na.rm") = false:=by
        rw [hx,List.nodup_append] at hn
        cases q:pre.contains (Str.ofString "na.rm") with
        | false=>rfl
        | true=>exact absurd rfl (hn.2.2 _ (List.contains_iff_mem.mp q) _ (.head _))
      rw [hpre] at hst
      cases hst
      have hoff1:∀ p∈own,p.1≠ul:=fun p hp=>hoff p hp _ (.head _)
      have hoff2:∀ p∈own,p.1≠pl:=fun p hp=>hoff p hp _ (.tail _ (.head _))
      have hu2:∀ p∈rest++own,p.1≠ul:=fun p hp=>(List.mem_append.mp hp).elim (hu1 p) (hoff1 p)
      have hp2:∀ p∈rest++own,p.1≠pl:=fun p hp=>(List.mem_append.mp hp).elim (hp1 p) (hoff2 p)
      simp only [List.cons_append,List.nil_append] at N1 hk1 hk2 hk4
      k_steps
      rename Obj.IsDictOf _ _ _=>hD
      rename PyProof.V.FlatPairs _ _ _=>hFp
      refine LEnd.two (by k_asm) (by k_asm) (fun p hp b hb=>by rcases List.mem_cons.mp hb with e | hb;exact e▸hoff1 p hp;exact List.mem_singleton.mp hb▸hoff2 p hp) (fun z h1 h2=>by simp_all) ?_
      rw [show (pre++[Str.ofString "na.rm"]).contains (Str.ofString "na.rm") = true from by simp]
      exact .yes _ _ _ _ ⟨hD,hFp⟩
    · have hc:(pre++[y]).contains (Str.ofString "na.rm") = pre.contains (Str.ofString "na.rm"):=by
        rw [Bool.eq_iff_iff]
        simp only [List.contains_iff_mem,List.mem_append,List.mem_singleton]
        exact ⟨fun h=>h.elim id fun e=>absurd e.symm hy,.inl⟩
      k_steps
      all_goals exact LEnd.same (by k_asm) (by k_asm) (by intro p h;k_mem) hoff (fun z h1 h2=>by simp_all) (by rw [hc];exact hst)
  · constructor
    intro hd u h tk hst F1 N1
    rw [hna] at hst
    k_steps
    exact ret _ _ _ hst (by k_asm) (by k_asm)
end
end
section
local macro_rules (kind := PySem.W.tacticK_extra_) | s => mq "0 bb ba 8 7 m l k t j q h g f e d c p o a" s

section
variable (B:Below A₀ base outer h₀) (F:Fr h₀ L hpS m) (X:(Mine.hd.heap_1 (World.params w)).In h₀) (N:News h₀ L hpS news) (T:Top p loose mean mg mb h₀) (hk:cs.kind = .function)
include B F X N T hk
theorem partial_of0_ct {v:Value} {x d fl tl ul pl:Addr} {t1 t2 t3 t4 q2:Tok} {k2 k3:Nat}
  (h1:(x,instObj 450 d)∈news) (h2:(d,matO w t1 t2 t3 t4 fl tl ul pl)∈news) (h4:(tl,listOf #[.none] k2)∈news) (h5:(ul,listOf #[.int 0 q2] k3)∈news)
  (hd:dp + 4 < recursionLimit) (hu:un + 40 < cLine) (ret:∀ h' tk',Fr h₀ L h' m→News h₀ L h' news→Q .none ⟨h',GC,DC,tk',OC⟩) :
  wpAny (model prog w) (ktrTop dp un gd cn cs L a ccd cl outer) (call (.ref 428) [.ref x,v]) Q E ⟨hpS,GC,DC,tkS,OC⟩:=by
  k_extra "@ENTER"
  k_steps
  all_goals exact ret _ _ (by k_asm) (by k_asm)
theorem partial_of1_ct {v:Value} {x d fl tl ul pl:Addr} {t1 t2 t3 t4 q1 q2 q4:Tok} {k2 k3:Nat}
  (h1:(x,instObj 450 d)∈news) (h2:(d,matO w t1 t2 t3 t4 fl tl ul pl)∈news) (h4:(tl,listOf #[.none,.str (Str.ofString "na.rm") q1] k2)∈news) (h5:(ul,listOf #[.int 0 q2,.int 2 q4] k3)∈news)
  (hd:dp + 4 < recursionLimit) (hu:un + 40 < cLine) (ret:∀ h' tk',Fr h₀ L h' m→News h₀ L h' news→Q .none ⟨h',GC,DC,tk',OC⟩) :
  wpAny (model prog w) (ktrTop dp un gd cn cs L a ccd cl outer) (call (.ref 428) [.ref x,v]) Q E ⟨hpS,GC,DC,tkS,OC⟩:=by
  k_extra "@ENTER"
  k_steps
  all_goals exact ret _ _ (by k_asm) (by k_asm)
end
end
section
local macro_rules (kind := PySem.W.tacticK_extra_) | s => mq "0 bb ba 8 7 m l k t j q h g f e d c p o a" s

section
variable (B:Below A₀ base outer h₀) (F:Fr h₀ L hpS m) (X:(Mine.hd.heap_1 (World.params w)).In h₀) (N:News h₀ L hpS news) (T:Top p loose mean mg mb h₀) (hk:cs.kind = .function)
include B F X N T hk
theorem rest0_ct {x d fl tl ul pl:Addr} {t1 t2 t3 t4 q2:Tok} {k2 k3:Nat}
  (h1:(x,instObj 450 d)∈news) (h2:(d,matO w t1 t2 t3 t4 fl tl ul pl)∈news) (h4:(tl,listOf #[.none] k2)∈news) (h5:(ul,listOf #[.int 2 q2] k3)∈news)
  (hd:dp + 4 < recursionLimit) (hu:un + 40 < cLine) (ret:∀ u s',Ret h₀ L m news (fun add u=>∃ r k,u = .ref r∧(r,listOf #[] k)∈add) u s'→Q u s') :
  wpAny (model prog w) (ktrTop dp un gd cn cs L a ccd cl outer) (call (.ref 447) [.ref x]) Q E ⟨hpS,GC,DC,tkS,OC⟩:=by
  k_extra "@ENTERC"
  k_steps
  rename _∧LCg.Off1 _ _=>o1
  exact ret _ _ (ret2 (by k_asm) (by k_asm) (off1_mem o1.2) (by intro p h;k_mem) ⟨_,_,rfl,.head _⟩)
theorem rest1_ct {x d fl tl ul pl:Addr} {t1 t2 t3 t4 q1 q2 q4:Tok} {k2 k3:Nat}
  (h1:(x,instObj 450 d)∈news) (h2:(d,matO w t1 t2 t3 t4 fl tl ul pl)∈news) (h4:(tl,listOf #[.none,.str (Str.ofString "na.rm") q1] k2)∈news) (h5:(ul,listOf #[.int 2 q2,.int 2 q4] k3)∈news)
  (hd:dp + 4 < recursionLimit) (hu:un + 40 < cLine) (ret:∀ u s',Ret h₀ L m news (fun add u=>∃ r k,u = .ref r∧(r,listOf #[] k)∈add) u s'→Q u s') :
  wpAny (model prog w) (ktrTop dp un gd cn cs L a ccd cl outer) (call (.ref 447) [.ref x]) Q E ⟨hpS,GC,DC,tkS,OC⟩:=by
  k_extra "@ENTERC"
  k_steps
  rename _∧LCg.Off1 _ _=>o1
  exact ret _ _ (ret2 (by k_asm) (by k_asm) (off1_mem o1.2) (by intro p h;k_mem) ⟨_,_,rfl,.head _⟩)
end
end
example:True:=by
  k_with "bc call ref" => ((k_here;(with_reducible refine (?_:wpAny _ _ (PySem.call (Value.ref 428) [Value.ref _,_] _) _ _ _));k_dflt (apply partial_of1_ct;k_extra "@HK1"; (k_mem);(k_mem);(k_mem);(k_mem);k_extra "@HK2"; (intro h9_ tk9_ F9_ N9_);k_extra "@HK3")))
  k_with "bc call ref" => ((k_here;(with_reducible refine (?_:wpAny _ _ (PySem.call (Value.ref 428) [Value.ref _,_] _) _ _ _));k_dflt (apply partial_of0_ct;k_extra "@HK1"; (k_mem);(k_mem);(k_mem);(k_mem);k_extra "@HK2"; (intro h9_ tk9_ F9_ N9_);k_extra "@HK3")))
  k_with "bd pyIter ref" => ((k_dflt (refine' for0 [] (fun _=>True) ?hh__ ?F__ ?N__ ?hs__ ?hm__ ?hR__ ?_ ?_;(case hm__=>first | with_reducible assumption | assumption);(case hR__=>first | with_reducible assumption | assumption);(case hh__=>eq_refl);(case F__=>k_asm);(case N__=>k_asm);(case hs__=>(intro _ h_;first | exact h_ | exact .tail _ h_)))))
  trivial
section
local macro_rules (kind := PySem.W.tacticK_extra_) | s => mq "bd 0 bc 9 8 7 m l k t j q h g f e d c p o a" s

section
variable (B:Below A₀ base outer h₀) (F:Fr h₀ L hpS m) (X:(Mine.hd.heap_1 (World.params w)).In h₀) (N:News h₀ L hpS news) (T:Top p loose mean mg mb h₀) (hk:cs.kind = .function)
include B F X N T hk
theorem partial0_ct {names:List Str} {vs:List Value} {x d fl tl ul pl:Addr} {t1 t2 t3 t4 q2:Tok} {k1 k2 k3:Nat} {op:Obj} {kvs:List (Str×Value)} {D:List (PyData×PyData)}
  (h1:(x,instObj 450 d)∈news) (h2:(d,matO w t1 t2 t3 t4 fl tl ul pl)∈news) (h3:(fl,listOf vs.toArray k1)∈news) (h4:(tl,listOf #[.none] k2)∈news) (h5:(ul,listOf #[.int 0 q2] k3)∈news) (h6:(pl,op)∈news)
  (h7:All2 StrR vs names) (lo:(pl == sysModules) = false) (hpd:op.IsDictOf (strKind prog w) kvs) (hpf:PyProof.V.FlatPairs PyData.str kvs D) (hz:D.length≤6)
  (hd:dp + 8 < recursionLimit) (hu:un + 80 < cLine) (ret:∀ h' tk',Fr h₀ L h' m→News h₀ L h' news→Q .none ⟨h',GC,DC,tk',OC⟩) :
  wpAny (model prog w) (ktrTop dp un gd cn cs L a ccd cl outer) (call (.ref 421) [.ref x]) Q E ⟨hpS,GC,DC,tkS,OC⟩:=by
  k_extra "@ENTER"
  k_steps
  · constructor
    intro pre y post v h tk own u _ hv _ F1 N1
    cases hv
    have g1:=List.mem_append_left own h1
    have g2:=List.mem_append_left own h2
    have g4:=List.mem_append_left own h4
    have g5:=List.mem_append_left own h5
    have g6:=List.mem_append_left own h6
    k_steps
    · dsimp only [ForEnd0]
      k_steps
      exact ret _ _ (by k_asm) (news_sub (by k_asm) (by intro p h;k_mem))
    all_goals exact ⟨trivial,_,_,_,rfl,by k_asm,news_sub (by k_asm) (by intro p h;k_mem),fun z h1 h2=>by simp_all⟩
  · constructor
    intro u h tk _ F1 N1
    k_steps
    exact ret _ _ (by k_asm) (by k_asm)
theorem partial1_ct {names:List Str} {vs:List Value} {x d fl tl ul pl:Addr} {t1 t2 t3 t4 q1 q2 q4:Tok} {k1 k2 k3:Nat} {op:Obj} {kvs:List (Str×Value)} {D:List (PyData×PyData)}
  (h1:(x,instObj 450 d)∈news) (h2:(d,matO w t1 t2 t3 t4 fl tl ul pl)∈news) (h3:(fl,listOf vs.toArray k1)∈news) (h4:(tl,listOf #[.none,.str (Str.ofString "na.rm") q1] k2)∈news) (h5:(ul,listOf #[.int 0 q2,.int 2 q4] k3)∈news) (h6:(pl,op)∈news)
  (h7:All2 StrR vs names) (lo:(pl == sysModules) = false) (hpd:op.IsDictOf (strKind prog w) kvs) (hpf:PyProof.V.FlatPairs PyData.str kvs D) (hz:D.length≤6)
  (hd:dp + 8 < recursionLimit) (hu:un + 80 < cLine) (ret:∀ h' tk',Fr h₀ L h' m→News h₀ L h' news→Q .none ⟨h',GC,DC,tk',OC⟩) :
  wpAny (model prog w) (ktrTop dp un gd cn cs L a ccd cl outer) (call (.ref 421) [.ref x]) Q E ⟨hpS,GC,DC,tkS,OC⟩:=by
  k_extra "@ENTER"
  k_steps
  · constructor
    intro pre y post v h tk own u _ hv _ F1 N1
    cases hv
    have g1:=List.mem_append_left own h1
    have g2:=List.mem_append_left own h2
    have g4:=List.mem_append_left own h4
    have g5:=List.mem_append_left own h5
    have g6:=List.mem_append_left own h6
    k_steps
    · dsimp only [ForEnd0]
      k_steps
      exact ret _ _ (by k_asm) (news_sub (by k_asm) (by intro p h;k_mem))
    all_goals exact ⟨trivial,_,_,_,rfl,by k_asm,news_sub (by k_asm) (by intro p h;k_mem),fun z h1 h2=>by simp_all⟩
  · constructor
    intro u h tk _ F1 N1
    k_steps
    exact ret _ _ (by k_asm) (by k_asm)
end
end

noncomputable def MEnd (h₀:Heap) (L:Addr) (news own:Led) (x nm:Str) (m₀:Str→Option Value) (st:Value→Led→Prop) (Q:Flow→Shared→Prop) (fl:Flow) (s'':Shared):Prop :=
  match fl with
  | .ret v=>Q (.ret v) s''
  | .brk=>Q .next s''
  | _=>∃ h' tk' m' hd' tv,s'' = ⟨h',GC,DC,tk',OC⟩∧Fr h₀ L h' m'∧News h₀ L h' ((hd'++news)++own)∧OwnOff own (hd'.map (·.1))∧m' nm = some tv∧(∀ z,z≠x→z≠nm→m' z = m₀ z)∧st tv hd'
theorem MEnd.two {h₀ h':Heap} {L a b:Addr} {o1 o2:Obj} {news own:Led} {x nm:Str} {m₀ m':Str→Option Value} {st:Value→Led→Prop} {Q:Flow→Shared→Prop} {tk':Nat} {tv:Value} (F':Fr h₀ L h' m') (N':News h₀ L h' ((a,o1)::(b,o2)::(news++own))) (off:OwnOff own [a,b]) (he:m' nm = some tv) (hm:∀ z,z≠x→z≠nm→m' z = m₀ z) (hst:st tv [(a,o1),(b,o2)]) :
    MEnd h₀ L news own x nm m₀ st Q .next ⟨h',GC,DC,tk',OC⟩:=⟨h',tk',m',[(a,o1),(b,o2)],tv,rfl,F',N',off,he,hm,hst⟩
theorem forM {A:Around} {E:Value→Shared→Prop} {hpS:Heap} {tkS:Nat} {env:Env} {h₀:Heap} {x:Str} {body:List Stmt} {Q:Flow→Shared→Prop} {l:Addr} {its:List Value} {k:Nat} {m₀:Str→Option Value} {news hd₀:Led} {α:Type} {Rv:Value→α→Prop} {xs:List α} (nm:Str) {tv0:Value} (st:List α→Value→Led→Prop)
    (hh:A.handled = none) (F:Fr h₀ env.locals hpS m₀) (N:News h₀ env.locals hpS (hd₀++news)) (hm:(l,listOf its.toArray k)∈news) (hR:All2 Rv its xs) (e0:m₀ nm = some tv0) (h0:st [] tv0 hd₀)
    (turn:Held (∀ pre y post v tv hd h tk own,xs = pre++y::post→Rv v y→st pre tv hd→OwnOff own ((hd++news).map (·.1)) →
      Fr h₀ env.locals h (fun z=>if z = x then some v else if z = nm then some tv else m₀ z)→News h₀ env.locals h ((hd++news)++own) →
      wpAny (model prog w) A (execs body env) (MEnd h₀ env.locals news own x nm m₀ (st (pre++[y])) Q) E ⟨h,GC,DC,tk,OC⟩))
    (done:Held (∀ tv hd (u:Str→Option Value) h tk,st xs tv hd→Fr h₀ env.locals h (fun z=>if z = nm then some tv else if z = x then u z else m₀ z)→News h₀ env.locals h (hd++news)→Q .next ⟨h,GC,DC,tk,OC⟩)) :
    wpAny (model prog w) A (pyIter (.ref l)) (fun it s₂=>LoopAtV prog w A h₀ env x body Q E it s₂) E ⟨hpS,GC,DC,tkS,OC⟩:=by
  have hlen:=hR.length
  refine kdl_iter (fun i m n1=>∃ hd tv,n1 = hd++news∧st (xs.take i) tv hd∧m nm = some tv∧∀ z,z≠x→z≠nm→m z = m₀ z) hh (List.mem_append_right hd₀ hm) F N ⟨hd₀,tv0,rfl,by simpa using h0,e0,fun _ _ _=>rfl⟩ ?_ ?_
  · rintro i v m₁ n1 h tk own hv hoff hl ⟨hd,tv,rfl,hst,e1,e2⟩ F1 N1
    obtain ⟨y,ey,hy,et⟩:=hR.get hv
    have exs:xs = xs.take i++y::xs.drop (i + 1):=by
      have h9:=List.take_append_drop (i + 1) xs
      rw [et,List.append_assoc] at h9
      exact h9.symm
    have em:(fun z=>if z = x then some v else m₁ z) = (fun z=>if z = x then some v else if z = nm then some tv else m₀ z):=by
      funext z
      by_cases hz:z = x
      · rw [if_pos hz,if_pos hz]
      · rw [if_neg hz,if_neg hz]
        by_cases hz2:z = nm
        · rw [if_pos hz2,hz2,e1]
        · rw [if_neg hz2,e2 z hz hz2]
    rw [em] at F1
    refine wpAny_mono (turn.get (xs.take i) y (xs.drop (i + 1)) v tv hd h tk own exs hy hst hoff F1 N1) (fun fl s2 q=>?_) fun _ _ x=>x
    have up:(∃ h' tk' m' hd' tv,s2 = ⟨h',GC,DC,tk',OC⟩∧Fr h₀ env.locals h' m'∧News h₀ env.locals h' ((hd'++news)++own)∧OwnOff own (hd'.map (·.1))∧m' nm = some tv∧(∀ z,z≠x→z≠nm→m' z = m₀ z)∧st (xs.take i++[y]) tv hd') →
        InvEndG h₀ env.locals (fun m' nx=>(l,listOf its.toArray k)∈nx∧∃ hd tv,nx = hd++news∧st (xs.take (i + 1)) tv hd∧m' nm = some tv∧∀ z,z≠x→z≠nm→m' z = m₀ z) own ⟨h,GC,DC,tk,OC⟩ s2:=by
      rintro ⟨h',tk',m',hd',tv',e,F',N',off,e1',e2',hst'⟩
      refine ⟨h',tk',m',(hd'++news)++own,hd'++news,e,F',N',fun p hp=>List.mem_append_left _ hp,fun p hp=>List.mem_append_right _ hp,fun p hp b hb=>?_,List.mem_append_right _ hm,hd',tv',rfl,by rw [et];exact hst',e1',e2'⟩
      obtain ⟨q,hq,rfl⟩:=List.mem_map.mp hb
      rcases List.mem_append.mp hq with hq | hq
      · exact off p hp _ (List.mem_map.mpr ⟨q,hq,rfl⟩)
      · exact hoff p hp _ (List.mem_map.mpr ⟨q,List.mem_append_right _ hq,rfl⟩)
    cases fl with
    | ret v=>exact q
    | brk=>exact q
    | next=>exact up q
    | cont=>exact up q
  · rintro m₁ n1 h tk ⟨hd,tv,rfl,hst,e1,e2⟩ F1 N1
    rw [hlen,List.take_length] at hst
    refine done.get tv hd m₁ h tk hst ?_ N1
    have em:m₁ = (fun z=>if z = nm then some tv else if z = x then m₁ z else m₀ z):=by
      funext z
      show m₁ z = if z = nm then some tv else if z = x then m₁ z else m₀ z
      by_cases hz2:z = nm
      · rw [if_pos hz2,hz2,e1]
      · rw [if_neg hz2]
        by_cases hz:z = x
        · rw [if_pos hz]
        · rw [if_neg hz,e2 z hz hz2]
    rw [em] at F1
    exact F1
noncomputable abbrev dD (w:World) (o:Obj) (kvs:List (Str×Value)) (D:List (PyData×PyData)):Prop:=o.IsDictOf (strKind prog w) kvs∧PyProof.V.FlatPairs PyData.str kvs D
noncomputable abbrev x0 (q:Tok):List (Str×Value):=[(Str.ofString "x", .int 0 q)]
noncomputable abbrev x0D:List (PyData×PyData):=[(PyData.str (Str.ofString "x"),PyData.int 0)]
inductive Po0 (w:World) (ul pl:Addr) (q2:Tok) (k3:Nat) (op:Obj):List Str→Value→Led→Prop
  | no (t:Tok):Po0 w ul pl q2 k3 op [] (.int 0 t) [(ul,listOf #[.int 0 q2] k3),(pl,op)]
  | yes {pre:List Str} (t q4 q6:Tok) (k5:Nat) (o:Obj) (i:Int):i = 0∨i = 1→dD w o (x0 q6) x0D→Po0 w ul pl q2 k3 op (Str.ofString "x" :: pre) (.int i t) [(ul,listOf #[.int 2 q4] k5),(pl,o)]
inductive Po0E (w:World) (ul pl:Addr):Led→Prop
  | mk (q4 q6:Tok) (k5:Nat) (o:Obj):dD w o (x0 q6) x0D→Po0E w ul pl [(ul,listOf #[.int 2 q4] k5),(pl,o)]
theorem sub2 {a b:Addr×Obj} {rest own:Led}:∀ p∈[a,b]++rest,p∈a::b::(rest++own):=by
  intro p h
  simp only [List.cons_append,List.nil_append,List.mem_cons,List.mem_append] at h ⊢
  rcases h with h | h | h<;>simp [h]
theorem off2 {own:Led} {a b:Addr} (h1:∀ p∈own,p.1≠a) (h2:∀ p∈own,p.1≠b):OwnOff own [a,b]:=fun p hp c hc=>by
  rcases List.mem_cons.mp hc with e | hc
  · exact e▸h1 p hp
  · exact List.mem_singleton.mp hc▸h2 p hp
example:True:=by
  k_with "be exec While BoolOp cons nil" => ((k_here;k_dflt (refine whl_start 100 ?_)))
  k_with "be exec While Compare cons nil" => ((k_here;k_dflt (refine whl_start 100 ?_)))
  trivial
section
local macro_rules (kind := PySem.W.tacticK_extra_) | s => mq "0 be bb ba 8 7 m l k t j i h g f e d c b a" s

section
variable (B:Below A₀ base outer h₀) (F:Fr h₀ L hpS m) (X:(Mine.hd.heap_1 (World.params w)).In h₀) (N:News h₀ L hpS news) (T:Top p loose mean mg mb h₀) (hk:cs.kind = .function)
include B F X N T hk
theorem positional0_ct {names:List Str} {vs:List Value} {x d fl tl ul pl:Addr} {t1 t2 t3 t4 q2:Tok} {k1 k2 k3:Nat} {op:Obj}
  {rest:Led} (hr:news = (ul,listOf #[.int 0 q2] k3)::(pl,op)::rest) (lo:(pl == sysModules) = false) (hpd:op.IsDictOf (strKind prog w) []) (hpf:PyProof.V.FlatPairs PyData.str ([]:List (Str×Value)) [])
  (h1:(x,instObj 450 d)∈rest) (h2:(d,matO w t1 t2 t3 t4 fl tl ul pl)∈rest) (h3:(fl,listOf vs.toArray k1)∈rest) (h4:(tl,listOf #[.none] k2)∈rest) (h5:All2 StrR vs (Str.ofString "x" :: names))
  (hup:@Ne Nat ul pl) (hu1:∀ p∈rest,p.1≠ul) (hp1:∀ p∈rest,p.1≠pl) (hn:names.contains (Str.ofString "x") = false)
  (hd:dp + 8 < recursionLimit) (hu:un + 80 < cLine)
  (ret:∀ h' tk' hd,Po0E w ul pl hd→Fr h₀ L h' m→News h₀ L h' (hd++rest)→Q .none ⟨h',GC,DC,tk',OC⟩) :
  wpAny (model prog w) (ktrTop dp un gd cn cs L a ccd cl outer) (call (.ref 435) [.ref x]) Q E ⟨hpS,GC,DC,tkS,OC⟩:=by
  subst hr
  k_extra "@ENTER"
  k_steps
  k_dflt (refine forM (news:=rest) (hd₀:=[_,_]) (Str.ofString "place") (fun pre=>Po0 w ul pl q2 k3 op pre) (by rfl) (by k_asm) (by k_asm) h3 h5 (by rfl) (.no _) ?_ ?_)
  · constructor
    intro pre y post v tv hd h tk own hx hv hst hoff F1 N1
    cases hv
    cases hst with
    | no t =>
      obtain ⟨rfl,rfl⟩:Str.ofString "x" = y∧names = post:=by simpa using hx
      have hoff1:∀ p∈own,p.1≠ul:=fun p hp=>hoff p hp _ (.head _)
      have hoff2:∀ p∈own,p.1≠pl:=fun p hp=>hoff p hp _ (.tail _ (.head _))
      have g1:(x,instObj 450 d)∈rest++own:=List.mem_append_left _ h1
      have g2:(d,matO w t1 t2 t3 t4 fl tl ul pl)∈rest++own:=List.mem_append_left _ h2
      have g4:(tl,listOf #[.none] k2)∈rest++own:=List.mem_append_left _ h4
      simp only [List.cons_append,List.nil_append] at N1
      k_steps
      rename Obj.IsDictOf _ _ _=>hD
      rename PyProof.V.FlatPairs _ _ _=>hFp
      exact MEnd.two (by k_asm) (by k_asm) (off2 hoff1 hoff2) (by rfl) (fun z h1 h2=>by simp only [h1,h2,if_false]) (.yes _ _ _ _ _ 0 (.inl rfl) ⟨hD,hFp⟩)
    | yes t q4 q6 k5 o i hi hxd =>
      obtain ⟨hD,hFp⟩:=hxd
      have hoff1:∀ p∈own,p.1≠ul:=fun p hp=>hoff p hp _ (.head _)
      have hoff2:∀ p∈own,p.1≠pl:=fun p hp=>hoff p hp _ (.tail _ (.head _))
      have g1:(x,instObj 450 d)∈rest++own:=List.mem_append_left _ h1
      have g2:(d,matO w t1 t2 t3 t4 fl tl ul pl)∈rest++own:=List.mem_append_left _ h2
      have g4:(tl,listOf #[.none] k2)∈rest++own:=List.mem_append_left _ h4
      simp only [List.cons_append,List.nil_append] at N1
      rcases hi with rfl | rfl
      all_goals k_steps
      all_goals first
        | exact MEnd.two (by k_asm) (news_sub (by k_asm) (by intro p h;k_mem)) (off2 hoff1 hoff2) (by rfl) (fun z h1 h2=>by simp only [h1,h2,if_false]) (.yes _ _ _ _ _ _ (by first | exact .inl rfl | exact .inr rfl) ⟨hD,hFp⟩)
        | (dsimp only [MEnd];k_steps;exact ret _ _ _ (.mk _ _ _ _ ⟨hD,hFp⟩) (by k_asm) (news_sub (by k_asm) sub2))
        | trace_state
      all_goals (fail "left")
  · constructor
    intro tv hd u h tk hst F1 N1
    cases hst with
    | yes t q4 q6 k5 o i hi hxd =>
      k_steps
      exact ret _ _ _ (.mk _ _ _ _ hxd) (by k_asm) (by k_asm)
end
end
section
local macro_rules (kind := PySem.W.tacticK_extra_) | s => mq "0 be bb ba 8 7 m l k t j i h g f e d c b a" s
noncomputable abbrev na1 (q:Tok):List (Str×Value):=[(Str.ofString "na.rm", .int 1 q)]
noncomputable abbrev na1D:List (PyData×PyData):=[(PyData.str (Str.ofString "na.rm"),PyData.int 1)]
noncomputable abbrev nax (q r:Tok):List (Str×Value):=[(Str.ofString "na.rm", .int 1 q),(Str.ofString "x", .int 0 r)]
noncomputable abbrev naxD:List (PyData×PyData):=[(PyData.str (Str.ofString "na.rm"),PyData.int 1),(PyData.str (Str.ofString "x"),PyData.int 0)]
inductive Po1 (w:World) (ul pl:Addr) (q2 q4 q6:Tok) (k3:Nat) (op:Obj):List Str→Value→Led→Prop
  | no (t:Tok):Po1 w ul pl q2 q4 q6 k3 op [] (.int 0 t) [(ul,listOf #[.int 0 q2,.int 2 q4] k3),(pl,op)]
  | yes {pre:List Str} (t q5 q7:Tok) (k5:Nat) (o:Obj) (i:Int):i = 0∨i = 2→dD w o (nax q6 q7) naxD→Po1 w ul pl q2 q4 q6 k3 op (Str.ofString "x" :: pre) (.int i t) [(ul,listOf #[.int 2 q5,.int 2 q4] k5),(pl,o)]
inductive Po1E (w:World) (ul pl:Addr) (q6:Tok):Led→Prop
  | mk (q4 q5 q7:Tok) (k5:Nat) (o:Obj):dD w o (nax q6 q7) naxD→Po1E w ul pl q6 [(ul,listOf #[.int 2 q5,.int 2 q4] k5),(pl,o)]
section
variable (B:Below A₀ base outer h₀) (F:Fr h₀ L hpS m) (X:(Mine.hd.heap_1 (World.params w)).In h₀) (N:News h₀ L hpS news) (T:Top p loose mean mg mb h₀) (hk:cs.kind = .function)
include B F X N T hk
theorem positional1_ct {names:List Str} {vs:List Value} {x d fl tl ul pl:Addr} {t1 t2 t3 t4 q1 q2 q4 q6:Tok} {k1 k2 k3:Nat} {op:Obj}
  {rest:Led} (hr:news = (ul,listOf #[.int 0 q2,.int 2 q4] k3)::(pl,op)::rest) (lo:(pl == sysModules) = false) (hpd:op.IsDictOf (strKind prog w) (na1 q6)) (hpf:PyProof.V.FlatPairs PyData.str (na1 q6) na1D)
  (h1:(x,instObj 450 d)∈rest) (h2:(d,matO w t1 t2 t3 t4 fl tl ul pl)∈rest) (h3:(fl,listOf vs.toArray k1)∈rest) (h4:(tl,listOf #[.none,.str (Str.ofString "na.rm") q1] k2)∈rest) (h5:All2 StrR vs (Str.ofString "x" :: names))
  (hup:@Ne Nat ul pl) (hu1:∀ p∈rest,p.1≠ul) (hp1:∀ p∈rest,p.1≠pl) (hn:names.contains (Str.ofString "x") = false)
  (hd:dp + 8 < recursionLimit) (hu:un + 80 < cLine)
  (ret:∀ h' tk' hd,Po1E w ul pl q6 hd→Fr h₀ L h' m→News h₀ L h' (hd++rest)→Q .none ⟨h',GC,DC,tk',OC⟩) :
  wpAny (model prog w) (ktrTop dp un gd cn cs L a ccd cl outer) (call (.ref 435) [.ref x]) Q E ⟨hpS,GC,DC,tkS,OC⟩:=by
  subst hr
  k_extra "@ENTER"
  k_steps
  k_dflt (refine forM (news:=rest) (hd₀:=[_,_]) (Str.ofString "place") (fun pre=>Po1 w ul pl q2 q4 q6 k3 op pre) (by rfl) (by k_asm) (by k_asm) h3 h5 (by rfl) (.no _) ?_ ?_)
  · constructor
    intro pre y post v tv hd h tk own hx hv hst hoff F1 N1
    cases hv
    cases hst with
    | no t =>
      obtain ⟨rfl,rfl⟩:Str.ofString "x" = y∧names = post:=by simpa using hx
      have hoff1:∀ p∈own,p.1≠ul:=fun p hp=>hoff p hp _ (.head _)
      have hoff2:∀ p∈own,p.1≠pl:=fun p hp=>hoff p hp _ (.tail _ (.head _))
      have g1:(x,instObj 450 d)∈rest++own:=List.mem_append_left _ h1
      have g2:(d,matO w t1 t2 t3 t4 fl tl ul pl)∈rest++own:=List.mem_append_left _ h2
      have g4:(tl,listOf #[.none,.str (Str.ofString "na.rm") q1] k2)∈rest++own:=List.mem_append_left _ h4
      simp only [List.cons_append,List.nil_append] at N1
      k_steps
      rename Obj.IsDictOf _ _ _=>hD
      rename PyProof.V.FlatPairs _ _ _=>hFp
      exact MEnd.two (by k_asm) (by k_asm) (off2 hoff1 hoff2) (by rfl) (fun z h1 h2=>by simp only [h1,h2,if_false]) (.yes _ _ _ _ _ 0 (.inl rfl) ⟨hD,hFp⟩)
    | yes t q5 q7 k5 o i hi hxd =>
      obtain ⟨hD,hFp⟩:=hxd
      have hoff1:∀ p∈own,p.1≠ul:=fun p hp=>hoff p hp _ (.head _)
      have hoff2:∀ p∈own,p.1≠pl:=fun p hp=>hoff p hp _ (.tail _ (.head _))
      have g1:(x,instObj 450 d)∈rest++own:=List.mem_append_left _ h1
      have g2:(d,matO w t1 t2 t3 t4 fl tl ul pl)∈rest++own:=List.mem_append_left _ h2
      have g4:(tl,listOf #[.none,.str (Str.ofString "na.rm") q1] k2)∈rest++own:=List.mem_append_left _ h4
      simp only [List.cons_append,List.nil_append] at N1
      rcases hi with rfl | rfl
      all_goals k_steps
      all_goals first
        | exact MEnd.two (by k_asm) (news_sub (by k_asm) (by intro p h;k_mem)) (off2 hoff1 hoff2) (by rfl) (fun z h1 h2=>by simp only [h1,h2,if_false]) (.yes _ _ _ _ _ _ (by first | exact .inl rfl | exact .inr rfl) ⟨hD,hFp⟩)
        | (dsimp only [MEnd];k_steps;exact ret _ _ _ (.mk _ _ _ _ _ ⟨hD,hFp⟩) (by k_asm) (news_sub (by k_asm) sub2))
        | trace_state
      all_goals (fail "left")
  · constructor
    intro tv hd u h tk hst F1 N1
    cases hst with
    | yes t q5 q7 k5 o i hi hxd =>
      k_steps
      exact ret _ _ _ (.mk _ _ _ _ _ hxd) (by k_asm) (by k_asm)
end
end
section
local macro_rules (kind := PySem.W.tacticK_extra_) | s => mq "0" s
theorem AllLt.ne {d:Addr}:∀ {l:Led},AllLt d l→∀ p∈l,p.1≠d
  | [],_,_,hp=>(nomatch hp)
  | q::l,h,p,hp=>by
    obtain ⟨h1,h2⟩:@LT.lt Nat _ q.1 d∧AllLt d l:=h
    rcases List.mem_cons.mp hp with rfl | hp
    · exact Nat.ne_of_lt h1
    · exact AllLt.ne h2 p hp
theorem ret3 {h₀ h:Heap} {L x1 x2 x3:Addr} {o1 o2 o3:Obj} {m:Str→Option Value} {news rest:Led} {tk:Nat} {R:Led→Value→Prop} (F:Fr h₀ L h m) (N:News h₀ L h ((x1,o1)::rest)) (g2:(x2,o2)∈rest) (g3:(x3,o3)∈rest) (hs:∀ p∈news,p∈rest)
    (a1:∀ q∈news,q.1≠x1) (a2:∀ q∈news,q.1≠x2) (a3:∀ q∈news,q.1≠x3) (r:R [(x1,o1),(x2,o2),(x3,o3)] (.ref x1)) :
    Ret h₀ L m news R (.ref x1) ⟨h,GC,DC,tk,OC⟩ :=
  ⟨h,tk,[(x1,o1),(x2,o2),(x3,o3)],rfl,F,fun p hp=>N p (by
    simp only [List.cons_append,List.nil_append,List.mem_cons] at hp ⊢
    rcases hp with e | e | e | hp
    · exact .inl e
    · exact .inr (e▸g2)
    · exact .inr (e▸g3)
    · exact .inr (hs p hp)),fun p hp q hq=>by
    simp only [List.mem_cons,List.not_mem_nil,or_false] at hp
    rcases hp with e | e | e
    · rw [e];exact a1 q hq
    · rw [e];exact a2 q hq
    · rw [e];exact a3 q hq,r⟩
section
variable (B:Below A₀ base outer h₀) (F:Fr h₀ L hpS m) (X:(Mine.hd.heap_1 (World.params w)).In h₀) (N:News h₀ L hpS news) (T:Top p loose mean mg mb h₀) (hk:cs.kind = .function)
include B F X N T hk
theorem pos0_ct {names:List Str} {vs:List Value} {x d fl tl ul pl:Addr} {t1 t2 t3 t4 q2:Tok} {k1 k2 k3:Nat} {op:Obj}
  {rest:Led} (hr:news = (pl,op)::(ul,listOf #[.int 0 q2] k3)::rest) (lo:(pl == sysModules) = false) (hpd:op.IsDictOf (strKind prog w) []) (hpf:PyProof.V.FlatPairs PyData.str ([]:List (Str×Value)) [])
  (h1:(x,instObj 450 d)∈rest) (h2:(d,matO w t1 t2 t3 t4 fl tl ul pl)∈rest) (h3:(fl,listOf vs.toArray k1)∈rest) (h4:(tl,listOf #[.none] k2)∈rest) (h5:All2 StrR vs (Str.ofString "x" :: names))
  (hup:@Ne Nat ul pl) (hu1:∀ p∈rest,p.1≠ul) (hp1:∀ p∈rest,p.1≠pl) (hn:names.contains (Str.ofString "x") = false)
  (hd:dp + 8 < recursionLimit) (hu:un + 80 < cLine)
  (ret:∀ h' tk' hd,Po0E w ul pl hd→Fr h₀ L h' m→News h₀ L h' (hd++rest)→Q .none ⟨h',GC,DC,tk',OC⟩) :
  wpAny (model prog w) (ktrTop dp un gd cn cs L a ccd cl outer) (call (.ref 435) [.ref x]) Q E ⟨hpS,GC,DC,tkS,OC⟩ :=
  positional0_ct (news:=(ul,listOf #[.int 0 q2] k3)::(pl,op)::rest) B F X (fun p hp=>N p (by rw [hr];simp only [List.mem_cons] at hp ⊢;rcases hp with h | h | h<;>simp [h])) T hk rfl lo hpd hpf h1 h2 h3 h4 h5 hup hu1 hp1 hn hd hu ret
end
end
example:True:=by
  k_with "bf execs cons" => ((k_here;(try dsimp only);first | (with_reducible refine execs_onet ?_;intro tL_) | (with_reducible refine execs_lett ?_;intro QL_ tL_)))
  k_with "bg ALLNE" => (first | assumption | exact List.forall_mem_nil _ | (refine' List.forall_mem_cons.mpr ⟨?_,?_⟩;(first | assumption | exact Ne.symm (by assumption) | k_ne);k_extra "@ALLNE") | exact AllLt.ne (And.right (by assumption)) | exact AllLt.ne (And.right (And.right (by assumption))) | exact AllLt.ne (And.right (And.right (And.right (by assumption)))) | exact AllLt.ne (And.right (And.right (And.right (And.right (by assumption))))) | exact AllLt.ne (And.right (And.right (And.right (And.right (And.right (by assumption)))))) | exact AllLt.ne (And.right (And.right (And.right (And.right (And.right (And.right (by assumption))))))))
  k_with "bg call ref" => ((k_here;(with_reducible refine (?_:wpAny _ _ (PySem.call (Value.ref 414) _ _) _ _ _));k_dflt (apply exact0_ct;k_extra "@HK1"; (k_mem);(k_mem);(k_mem);(k_mem);(assumption);k_extra "@HK2"; (intro h9_ tk9_ F9_ N9_);k_extra "@HK3")))
  k_with "bg call ref" => ((k_here;(with_reducible refine (?_:wpAny _ _ (PySem.call (Value.ref 421) _ _) _ _ _));k_dflt (apply partial0_ct;k_extra "@HK1"; (k_mem);(k_mem);(k_mem);(k_mem);(k_mem);(k_mem);(assumption);(assumption);(assumption);(assumption);(decide);k_extra "@HK2"; (intro h9_ tk9_ F9_ N9_);k_extra "@HK3")))
  k_with "bg call ref" => ((k_here;(with_reducible refine (?_:wpAny _ _ (PySem.call (Value.ref 435) _ _) _ _ _));k_dflt (apply pos0_ct;k_extra "@HK1"; (rfl);(assumption);(assumption);(assumption);(k_mem);(k_mem);(k_mem);(k_mem);(assumption);(k_ne);(k_extra "@ALLNE");(k_extra "@ALLNE");(assumption);k_extra "@HK2"; (intro h9_ tk9_ hd9_ e9_ F9_ N9_;cases e9_;(try simp only [List.cons_append,List.nil_append] at N9_));k_extra "@HK3")))
  k_with "bg call ref" => ((k_here;(with_reducible refine (?_:wpAny _ _ (PySem.call (Value.ref 447) _ _) _ _ _));k_dflt (apply rest0_ct;k_extra "@HK1"; (k_mem);(k_mem);(k_mem);(k_mem);k_extra "@HK2"; (intro u9_ s9_ hr9_;obtain ⟨h9_,tk9_,add9_,e9_,F9_,N9_,l9_,r9_,kr9_,eu9_,m9_⟩:=hr9_;subst e9_;subst eu9_);k_extra "@HK3")))
  k_with "bg newTuple" => ((k_here;k_dflt (refine' kup_newTuple ?F__ ?N__ ?_ ?z__;(case F__=>k_asm);(case N__=>k_asm);(case z__=>kmk_size));intro D'_ h'_ F'_ N'_ l1_;(try k_lt l1_);(try k_sweep)))
  trivial
section
local macro_rules (kind := PySem.W.tacticK_extra_) | s => mq "0 bg be bb ba 8 7 m l k t j q h g f e d c bf o a" s

section
variable (B:Below A₀ base outer h₀) (F:Fr h₀ L hpS m) (X:(Mine.hd.heap_1 (World.params w)).In h₀) (N:News h₀ L hpS news) (T:Top p loose mean mg mb h₀) (hk:cs.kind = .function)
include B F X N T hk
theorem match0_ct {names:List Str} {vs:List Value} {v:Value} {fl al t:Addr} {k k1 k2:Nat}
  (h1:(fl,listOf vs.toArray k)∈news) (h2:(al,listOf #[.ref t] k1)∈news) (h3:(t,({ cls:=.type "tuple", data:=.seq #[.none,v] k2 }:Obj))∈news) (h5:All2 StrR vs (Str.ofString "x" :: names)) (hn:names.contains (Str.ofString "x") = false) {sv:Value}
  (hd:dp + 14 < recursionLimit) (hu:un + 120 < cLine)
  (ret:∀ u s',Ret h₀ L m news (fun add u=>∃ r p o l q kr kt,u = .ref r∧(r,({ cls:=.type "tuple", data:=.seq #[.ref p,.ref l] kt }:Obj))∈add∧(p,o)∈add∧(p == sysModules) = false∧dD w o (x0 q) x0D∧(l,listOf #[] kr)∈add) u s'→Q u s') :
  wpAny (model prog w) (ktrTop dp un gd cn cs L a ccd cl outer) (call (.ref 486) [.ref fl,.ref al,sv]) Q E ⟨hpS,GC,DC,tkS,OC⟩:=by
  k_extra "@ENTER"
  k_steps
  rename dD _ _ _ _=>hdd
  rename (_,listOf #[] _)∈_=>hm9
  rename ∀ p∈_,∀ q∈_,_=>hl9
  exact ret _ _ (ret3 (by k_asm) (by k_asm) (by k_mem) (List.mem_append_left _ hm9) (by intro p h;k_mem) (fun q hq=>Nat.ne_of_lt ((by assumption:∀ p:Addr×Obj,p∈_→@LT.lt Nat _ p.1 _) q (by k_mem))) (by k_extra "@ALLNE") (fun q hq=>hl9 _ hm9 q (by k_mem)) ⟨_,_,_,_,_,_,_,rfl,.head _,.tail _ (.head _),by assumption,hdd,.tail _ (.tail _ (.head _))⟩)
end
end
section
local macro_rules (kind := PySem.W.tacticK_extra_) | s => mq "0" s

section
variable (B:Below A₀ base outer h₀) (F:Fr h₀ L hpS m) (X:(Mine.hd.heap_1 (World.params w)).In h₀) (N:News h₀ L hpS news) (T:Top p loose mean mg mb h₀) (hk:cs.kind = .function)
include B F X N T hk
theorem ex1_ct {names:List Str} {vs:List Value} {x d fl tl ul pl:Addr} {t1 t2 t3 t4 q1 q2 q3:Tok} {k1 k2 k3:Nat} {op:Obj}
  {rest:Led} (hr:news = (pl,op)::(ul,listOf #[.int 0 q2,.int 0 q3] k3)::rest) (lo:(pl == sysModules) = false) (hpd:op.IsDictOf (strKind prog w) []) (hpf:PyProof.V.FlatPairs PyData.str ([]:List (Str×Value)) [])
  (h1:(x,instObj 450 d)∈rest) (h2:(d,matO w t1 t2 t3 t4 fl tl ul pl)∈rest) (h3:(fl,listOf vs.toArray k1)∈rest) (h4:(tl,listOf #[.none,.str (Str.ofString "na.rm") q1] k2)∈rest) (h5:All2 StrR vs names)
  (hup:@Ne Nat ul pl) (hu1:∀ p∈rest,p.1≠ul) (hp1:∀ p∈rest,p.1≠pl) (hn:names.Nodup) (hna:names.contains (Str.ofString "na.rm") = true)
  (hd:dp + 6 < recursionLimit) (hu:un + 60 < cLine)
  (ret:∀ h' tk' hd,ExSt w ul pl q2 q3 k3 op true hd→Fr h₀ L h' m→News h₀ L h' (hd++rest)→Q .none ⟨h',GC,DC,tk',OC⟩) :
  wpAny (model prog w) (ktrTop dp un gd cn cs L a ccd cl outer) (call (.ref 414) [.ref x]) Q E ⟨hpS,GC,DC,tkS,OC⟩ :=
  exact1_ct (news:=(ul,listOf #[.int 0 q2,.int 0 q3] k3)::(pl,op)::rest) B F X (fun p hp=>N p (by rw [hr];simp only [List.mem_cons] at hp ⊢;rcases hp with h | h | h<;>simp [h])) T hk rfl lo hpd hpf h1 h2 h3 h4 h5 hup hu1 hp1 hn hna hd hu ret
end
end
example:True:=by
  k_with "bh ALLNE" => (first | assumption | exact List.forall_mem_nil _ | (refine' List.forall_mem_cons.mpr ⟨?_,?_⟩;(first | assumption | exact Ne.symm (by assumption) | k_ne);k_extra "@ALLNE") | exact AllLt.ne (And.right (by assumption)) | exact AllLt.ne (And.right (And.right (by assumption))) | exact AllLt.ne (And.right (And.right (And.right (by assumption)))) | exact AllLt.ne (And.right (And.right (And.right (And.right (by assumption))))) | exact AllLt.ne (And.right (And.right (And.right (And.right (And.right (by assumption)))))) | exact AllLt.ne (And.right (And.right (And.right (And.right (And.right (And.right (by assumption))))))))
  k_with "bh call ref" => ((k_here;(with_reducible refine (?_:wpAny _ _ (PySem.call (Value.ref 414) _ _) _ _ _));k_dflt (apply ex1_ct;k_extra "@HK1"; (rfl);(assumption);(assumption);(assumption);(k_mem);(k_mem);(k_mem);(k_mem);(assumption);(k_ne);(k_extra "@ALLNE");(k_extra "@ALLNE");(assumption);(assumption);k_extra "@HK2"; (intro h9_ tk9_ hd9_ e9_ F9_ N9_;cases e9_;(rename naD _ _ _=>hn9);(obtain ⟨hnd9_,hnf9_⟩:=hn9);(try simp only [List.cons_append,List.nil_append] at N9_));k_extra "@HK3")))
  k_with "bh call ref" => ((k_here;(with_reducible refine (?_:wpAny _ _ (PySem.call (Value.ref 421) _ _) _ _ _));k_dflt (apply partial1_ct;k_extra "@HK1"; (k_mem);(k_mem);(k_mem);(k_mem);(k_mem);(k_mem);(assumption);(assumption);(assumption);(assumption);(decide);k_extra "@HK2"; (intro h9_ tk9_ F9_ N9_);k_extra "@HK3")))
  k_with "bh call ref" => ((k_here;(with_reducible refine (?_:wpAny _ _ (PySem.call (Value.ref 435) _ _) _ _ _));k_dflt (apply positional1_ct;k_extra "@HK1"; (rfl);(assumption);(assumption);(assumption);(k_mem);(k_mem);(k_mem);(k_mem);(assumption);(k_ne);(k_extra "@ALLNE");(k_extra "@ALLNE");(assumption);k_extra "@HK2"; (intro h9_ tk9_ hd9_ e9_ F9_ N9_;cases e9_;(try simp only [List.cons_append,List.nil_append] at N9_));k_extra "@HK3")))
  k_with "bh call ref" => ((k_here;(with_reducible refine (?_:wpAny _ _ (PySem.call (Value.ref 447) _ _) _ _ _));k_dflt (apply rest1_ct;k_extra "@HK1"; (k_mem);(k_mem);(k_mem);(k_mem);k_extra "@HK2"; (intro u9_ s9_ hr9_;obtain ⟨h9_,tk9_,add9_,e9_,F9_,N9_,l9_,r9_,kr9_,eu9_,m9_⟩:=hr9_;subst e9_;subst eu9_);k_extra "@HK3")))
  k_with "bh newTuple" => ((k_here;k_dflt (refine' kup_newTuple ?F__ ?N__ ?_ ?z__;(case F__=>k_asm);(case N__=>k_asm);(case z__=>kmk_size));intro D'_ h'_ F'_ N'_ l1_;(try k_lt l1_);(try k_sweep)))
  trivial
section
local macro_rules (kind := PySem.W.tacticK_extra_) | s => mq "0 bh be bb ba 8 7 m l k t j q h g f e d c bf o a" s

section
variable (B:Below A₀ base outer h₀) (F:Fr h₀ L hpS m) (X:(Mine.hd.heap_1 (World.params w)).In h₀) (N:News h₀ L hpS news) (T:Top p loose mean mg mb h₀) (hk:cs.kind = .function)
include B F X N T hk
theorem match1_ct {names:List Str} {vs:List Value} {v b:Value} {fl al ta tb:Addr} {k k1 k2 k3:Nat} {q1:Tok}
  (h1:(fl,listOf vs.toArray k)∈news) (h2:(al,listOf #[.ref ta,.ref tb] k1)∈news) (h3:(ta,({ cls:=.type "tuple", data:=.seq #[.none,v] k2 }:Obj))∈news) (h4:(tb,({ cls:=.type "tuple", data:=.seq #[.str (Str.ofString "na.rm") q1,b] k3 }:Obj))∈news) (h5:All2 StrR vs (Str.ofString "x" :: names)) (hn:names.contains (Str.ofString "x") = false)
  (hnd:(Str.ofString "x" :: names).Nodup) (hna:(Str.ofString "x" :: names).contains (Str.ofString "na.rm") = true) {sv:Value}
  (hd:dp + 14 < recursionLimit) (hu:un + 120 < cLine)
  (ret:∀ u s',Ret h₀ L m news (fun add u=>∃ r p o l q6 q7 kr kt,u = .ref r∧(r,({ cls:=.type "tuple", data:=.seq #[.ref p,.ref l] kt }:Obj))∈add∧(p,o)∈add∧(p == sysModules) = false∧dD w o (nax q6 q7) naxD∧(l,listOf #[] kr)∈add) u s'→Q u s') :
  wpAny (model prog w) (ktrTop dp un gd cn cs L a ccd cl outer) (call (.ref 486) [.ref fl,.ref al,sv]) Q E ⟨hpS,GC,DC,tkS,OC⟩:=by
  k_extra "@ENTER"
  k_steps
  rename dD _ _ _ _=>hdd
  rename (_,listOf #[] _)∈_=>hm9
  rename ∀ p∈_,∀ q∈_,_=>hl9
  exact ret _ _ (ret3 (by k_asm) (by k_asm) (by k_mem) (List.mem_append_left _ hm9) (by intro p h;k_mem) (fun q hq=>Nat.ne_of_lt ((by assumption:∀ p:Addr×Obj,p∈_→@LT.lt Nat _ p.1 _) q (by k_mem))) (by k_extra "@ALLNE") (fun q hq=>hl9 _ hm9 q (by k_mem)) ⟨_,_,_,_,_,_,_,_,rfl,.head _,.tail _ (.head _),by assumption,hdd,.tail _ (.tail _ (.head _))⟩)
end
end
section
variable {A:Around} {E:Value→Shared→Prop} {hpS:Heap} {tkS:Nat} {env:Env} {h₀:Heap} {x:Str} {body:List Stmt} {Q:Flow→Shared→Prop} {lp:Led} {news:Led}
theorem UEnd.fresh {own r:Led} {a n:Addr} {o1 o1' on:Obj} {rest:(Str→Option Value)→Led→Prop} {h':Heap} {tk':Nat} {m':Str→Option Value} (off:OwnOff own (((a,o1)::r).map (·.1))) (hn:∀ p∈own,p.1≠n) (F':Fr h₀ env.locals h' m') (N':News h₀ env.locals h' ((n,on)::(a,o1')::(r++own))) (hl:∀ p∈lp,p∈(n,on)::(a,o1')::r) (q:rest m' ((n,on)::(a,o1')::r)) :
    UEnd h₀ env.locals own lp rest ⟨h',GC,DC,tk',OC⟩:=⟨h',tk',m',(n,on)::(a,o1')::r,rfl,F',N',fun p hp b hb=>by
      rcases List.mem_cons.mp hb with e | hb
      · exact e▸hn p hp
      · exact off p hp b hb,hl,q⟩
end
theorem strs3 {a b c:Str} {t u v:Tok}:All2 StrR [.str a t,.str b u,.str c v] [a,b,c]:=.cons (.mk _ _) (.cons (.mk _ _) (.cons (.mk _ _) .nil))
theorem strs4 {a b c d:Str} {t u v x:Tok}:All2 StrR [.str a t,.str b u,.str c v,.str d x] [a,b,c,d]:=.cons (.mk _ _) strs3
theorem strs5 {a b c d e:Str} {t u v x y:Tok}:All2 StrR [.str a t,.str b u,.str c v,.str d x,.str e y] [a,b,c,d,e]:=.cons (.mk _ _) strs4
example:True:=by
  k_with "bi KTR_ROOM" => (first | exact room2 (by assumption) rfl | exact room1 (by assumption) rfl | exact room3 (by assumption) rfl | exact room0 (by assumption) | exact room1 (a:=4) (by assumption) rfl | exact room1 (a:=5) (by assumption) rfl | exact room1 (a:=6) (by assumption) rfl | exact room1 (a:=7) (by assumption) rfl | exact room1 (a:=8) (by assumption) rfl | exact room1 (a:=9) (by assumption) rfl | exact room1 (a:=10) (by assumption) rfl | exact room1 (a:=11) (by assumption) rfl | exact room1 (a:=12) (by assumption) rfl | exact room1 (a:=13) (by assumption) rfl | exact room1 (a:=14) (by assumption) rfl | exact room1 (a:=15) (by assumption) rfl)
  k_with "bi KTR_UNITS" => (first | exact room2 (by assumption) rfl | exact room1 (by assumption) rfl | exact room3 (by assumption) rfl | exact room1 (a:=12) (by assumption) rfl | exact room1 (a:=15) (by assumption) rfl | exact room1 (a:=18) (by assumption) rfl | exact room1 (a:=21) (by assumption) rfl | exact room1 (a:=24) (by assumption) rfl | exact room1 (a:=27) (by assumption) rfl | exact room1 (a:=30) (by assumption) rfl | exact room1 (a:=30) (by assumption) rfl | exact room1 (a:=40) (by assumption) rfl | exact room1 (a:=50) (by assumption) rfl | exact room1 (a:=60) (by assumption) rfl | exact room1 (a:=70) (by assumption) rfl | exact room1 (a:=80) (by assumption) rfl | exact room1 (a:=90) (by assumption) rfl)
  k_with "bj exec For Name Name cons nil" => ((k_here;k_dflt (refine' For_invVF ?F__ ?k1__ ?k2__ ?_;(case F__=>k_asm);(case k1__=>eq_refl);(case k2__=>eq_refl))))
  k_with "bj exec For Name Call cons nil" => ((k_here;k_dflt (refine' For_invVF ?F__ ?k1__ ?k2__ ?_;(case F__=>k_asm);(case k1__=>eq_refl);(case k2__=>eq_refl))))
  k_with "bj pyIter ref" => ((k_dflt (refine' uloop_list ?a__ ?m__ ?F__ ?N__ ?_;(case F__=>k_asm);(case N__=>k_asm);(case m__=>k_mem);(case a__=>eq_refl))))
  k_with "bj URest" => ((k_dflt (first | refine URest.val (fun h' tk' own' off' F' N'=>?_) | refine URest.nil (fun h' tk' F' N'=>?_));(try simp only [List.cons_append,List.nil_append] at N')))
  k_with "bj UPost" => ((dsimp only [UPost]))
  k_with "bj UEnd" => ((k_dflt (refine UEnd.same (by assumption) (by k_asm) (by k_asm) (by intro p_ h_;k_mem) (by intro p_ h_;rw [List.mem_singleton.mp h_];k_mem) ?_)))
  k_with "bk compareOp In str ref" => ((k_here;k_dflt (first | (refine' in_str1 (r:=false) ?N__ ?m__ ?r__ ?_;(case N__=>k_asm);(case m__=>k_mem);(case r__=>decide +kernel)) | (refine' in_str1 (r:=true) ?N__ ?m__ ?r__ ?_;(case N__=>k_asm);(case m__=>k_mem);(case r__=>decide +kernel)))))
  trivial
section
local macro_rules (kind := PySem.W.tacticK_extra_) | s => mq "0 bk bj ba 7 m l k t j q h g f e d c p bi o a" s
section
open PySem.SeqAt
variable {A:Around} {E:Value→Shared→Prop} {hpS:Heap} {tkS:Nat} {h₀:Heap} {L l:Addr} {news:Led} {k:Nat}
theorem in_str1 {a b:Str} {t u:Tok} {r:Bool} {Q:Value→Shared→Prop} (N:News h₀ L hpS news) (hm:(l,listOf #[.str b u] k)∈news) (hr:(b == a) = r) (h:Q (.bool r) ⟨hpS,GC,DC,tkS,OC⟩) :
    wpAny (model prog w) A (compareOp .In (.str a t) (.ref l)) Q E ⟨hpS,GC,DC,tkS,OC⟩ :=
  in_listAt (fun _=>r) (News.isList N hm) (fun y hy=>by
    have e:y = .str b u:=by simpa using hy
    subst e
    rw [← hr]
    exact EqAt.str_str b u a t) (by simpa using h)
end
section
variable (B:Below A₀ base outer h₀) (F:Fr h₀ L hpS m) (X:(Mine.hd.heap_1 (World.params w)).In h₀) (N:News h₀ L hpS news) (T:Top p loose mean mg mb h₀) (hk:cs.kind = .function)
include B F X N T hk
theorem inherits_int_ct {x d nl:Addr} {l:Value} {t1 t2 t3 t4 t5 tk u1:Tok} {k:Nat}
  (h1:(x,instObj 262 d)∈news) (h2:(d,vecO w t1 t2 t3 t4 t5 (Str.ofString "integer") tk l .none)∈news) (h3:(nl,listOf #[.str (Str.ofString "factor") u1] k)∈news)
  (hd:dp + 14 < recursionLimit) (hu:un + 120 < cLine) (ret:∀ h' tk',Fr h₀ L h' m→News h₀ L h' news→Q (.bool false) ⟨h',GC,DC,tk',OC⟩) :
  wpAny (model prog w) (ktrTop dp un gd cn cs L a ccd cl outer) (call (.ref 87) [.ref x,.ref nl]) Q E ⟨hpS,GC,DC,tkS,OC⟩:=by
  k_extra "@ENTER"
  k_steps
  all_goals exact ret _ _ (by k_asm) (news_sub (by k_asm) (by intro p h;k_mem))
end
end
example:True:=by
  k_with "bl getMethod ref" => ((k_here;(with_reducible refine (?_:wpAny _ _ (getMethod (Value.ref _) (Str.ofString "get") _) _ _ _));k_dflt (refine kdg_method (knd:=PySem.strKind _ _) (by k_asm) (by k_mem) (by assumption) ?_)))
  k_with "bl call builtin:dict.get" => ((k_here;k_dflt (refine kdg_get1 (knd:=PySem.strKind _ _) (by k_asm) (by k_mem) (by assumption) (by assumption) (strKind_is _ _ _ _) (some _) (by rfl) ?_);(try dsimp only [Option.getD])))
  trivial
section
local macro_rules (kind := PySem.W.tacticK_extra_) | s => mq "0 bl bk bj ba 7 m l k t j q h g f e d c p bi o a" s
noncomputable def facD (w:World) (o:Obj) (lv cv:Addr):Prop:=o.IsDictOf (strKind prog w) [(Str.ofString "levels", .ref lv),(Str.ofString "class", .ref cv)]
section
variable (B:Below A₀ base outer h₀) (F:Fr h₀ L hpS m) (X:(Mine.hd.heap_1 (World.params w)).In h₀) (N:News h₀ L hpS news) (T:Top p loose mean mg mb h₀) (hk:cs.kind = .function)
include B F X N T hk
theorem inherits_fac_ct {x d nl ad cv cd cwl lv:Addr} {l:Value} {t1 t2 t3 t4 t5 tk u1 c1 c2 c3 c4 c5 ck w1 w2:Tok} {k k2:Nat} {ao:Obj} {its:List Value}
  (h1:(x,instObj 262 d)∈news) (h2:(d,vecO w t1 t2 t3 t4 t5 (Str.ofString "integer") tk l (.ref ad))∈news) (h3:(nl,listOf #[.str (Str.ofString "factor") u1] k)∈news)
  (h4:(ad,ao)∈news) (hA:facD w ao lv cv) (h5:(cv,instObj 262 cd)∈news) (h6:(cd,vecO w c1 c2 c3 c4 c5 (Str.ofString "character") ck (.ref cwl) .none)∈news) (h7:(cwl,listOf its.toArray k2)∈news)
  (hW:its = [.str (Str.ofString "factor") w1]∨its = [.str (Str.ofString "ordered") w2,.str (Str.ofString "factor") w1])
  (hlo:(ad == sysModules) = false)   (hd:dp + 14 < recursionLimit) (hu:un + 120 < cLine) (ret:∀ h' tk',Fr h₀ L h' m→News h₀ L h' news→Q (.bool true) ⟨h',GC,DC,tk',OC⟩) :
  wpAny (model prog w) (ktrTop dp un gd cn cs L a ccd cl outer) (call (.ref 87) [.ref x,.ref nl]) Q E ⟨hpS,GC,DC,tkS,OC⟩:=by
  unfold facD at hA
  rcases hW with rfl | rfl
  · k_extra "@ENTER"
    k_steps
    all_goals exact ret _ _ (by k_asm) (news_sub (by k_asm) (by intro p h;k_mem))
  · k_extra "@ENTER"
    k_steps
    all_goals exact ret _ _ (by k_asm) (news_sub (by k_asm) (by intro p h;k_mem))
end
end

theorem dict_mapFields (o:Obj) (f):(o.mapFields f).dict = o.dict:=by
  obtain ⟨c,d,dt,sl⟩:=o
  cases dt<;>rfl
noncomputable def TbAt (base:Heap) (e:Addr) (vs:Array Value) (h:Heap):Option Value→Prop
  | none=>vs[1]? = some .none
  | some fl=>∃ T oT ts,vs[1]? = some (.ref T)∧base.get? T = none∧T≠e∧h.get? T = some oT∧oT.data = .fields ts∧ts[3]? = some fl
noncomputable def FlD (base:Heap) (l:List Env) (e:Addr) (cls:Value) (d:Addr) (fl:Option Value) (h:Heap):Prop :=
  base.StaysIn h∧base.get? e = none∧h.FunFrames base l∧∃ oe vs,h.get? e = some oe∧oe.cls = cls∧oe.dict = some d∧oe.data = .fields vs∧TbAt base e vs h fl
theorem up_slots {S:List Addr} {h h':Heap} (x:Heap.SlotsOnly S h h'):h.UpToSlots h':=fun b o e _=>x.2.2 b o e
theorem up_rec {h:Heap} {e:Addr} {oe:Obj} {vs:Array Value} {f:Obj→Obj} (he:h.get? e = some oe) (hd:oe.data = .fields vs):h.UpToSlots (h.update e f):=fun b o hb hn=>by
  have ne:b≠e:=fun q=>by rw [q,he] at hb;cases hb;exact hn vs hd
  exact ⟨o.slots,by rw [Heap.get?_update_other _ _ (Ne.symm ne)];exact hb⟩
theorem up_push {h:Heap} (o:Obj):h.UpToSlots (h.push o):=.of_keeps fun _ _ e=>Heap.get?_push_of_some _ e
theorem up_fun {h h' base:Heap} {l:List Env} (u:h.UpToSlots h') (hl:h.FunFrames base l):h'.FunFrames base l:=hl.of_keeps fun b o hb hn=>let ⟨_,e⟩:=u b o hb hn;⟨_,e,rfl⟩
theorem stays_upd {base h:Heap} {e:Addr} {f:Obj→Obj} (k:base.StaysIn h) (n:base.get? e = none):base.StaysIn (h.update e f):=fun b o hb=>by
  have ne:b≠e:=fun q=>by rw [q,n] at hb;cases hb
  rw [Heap.get?_update_other _ _ (Ne.symm ne)]
  exact k b o hb
theorem stays_push {base h:Heap} (o:Obj) (k:base.StaysIn h):base.StaysIn (h.push o):=fun b o' hb=>Heap.get?_push_of_some _ (k b o' hb)
section
variable {M:Model} {A:Around} {E:Value→Shared→Prop} {s:Shared} {base:Heap} {env:Env} {outer:List Env} {L e:Addr} {cls:Value} {d:Addr}
theorem entry_D {l:List Env} {oe:Obj} {vs:Array Value} {head:Value} {hadNext:Bool} {Q:Unit→Shared→Prop} (hl':l = env::outer) (hfr:A.frames = some l) (hf:env.frame = some L)
    (hk:base.StaysIn s.heap) (hen:base.get? e = none) (hl:s.heap.FunFrames base l) (he:s.heap.get? e = some oe) (hc:oe.cls = cls) (hdi:oe.dict = some d) (hd:oe.data = .fields vs) (hsz:1 < vs.size)
    (h:∀ h',FlD base l e cls d (some (rawInt L)) h'→s.heap.UpToSlots h'→Q () { s with heap:=h' }) :
    wpAny M A (do let a ← frameOf env;let pl ← entryPlaceOf L hadNext;let b ← EntryCells.newEntry head a .none (rawInt L) .none pl;setField (.ref e) 1 b) Q E s:=by
  subst hl'
  have hene:e ∉ (env::outer).filterMap (·.frame):=fun hm=>by
    obtain ⟨_,o,ho,hnf⟩:=hl.mem hm
    rw [he] at ho
    cases ho
    exact hnf vs hd
  refine wpAny_bind (wpAny_frameOf_fun hfr hl hf fun h1 hs1=>wpAny_bind (wpAny_entryPlaceOf fun pl hpl=>?_))
  unfold EntryCells.newEntry newFields
  refine wpAny_bind (wpAny_newObj_type ?_ (hpl.sizeOk5 _ _ _ _ _))
  have k1:base.StaysIn h1:=fun b o hb=>(hs1.2.1 b fun hm=>by rw [(hl.mem hm).1] at hb;cases hb).trans (hk b o hb)
  have e1:h1.get? e = some oe:=(hs1.2.1 e hene).trans he
  have u1:=up_slots hs1
  have n1:base.get? h1.objs.size = none:=k1.fresh
  have ne1:h1.objs.size≠e:=Nat.ne_of_gt (Heap.lt_size e1)
  have hts:∃ ts:Array Value,({ cls:=.type "traceback", dict:=none,data:=.fields ([head,.ref L,.none,rawInt L,.none]++(if pl.isEmpty then List.replicate 6 Value.none else pl)).toArray }:Obj).data = .fields ts∧ts[3]? = some (rawInt L):=⟨_,rfl,by simp⟩
  generalize ({ cls:=.type "traceback", dict:=none,data:=.fields ([head,.ref L,.none,rawInt L,.none]++(if pl.isEmpty then List.replicate 6 Value.none else pl)).toArray }:Obj) = tb at hts ⊢
  obtain ⟨ts,ht,h3⟩:=hts
  have e2:=Heap.get?_push_of_some tb e1
  refine wpAny_setField e2 hd hsz (h _ ⟨stays_upd (stays_push _ k1) hen,hen,?_,_,_,Heap.get?_update_self _ e2 (Obj.isFreed_of_fields (Obj.data_mapFields hd _)),(Obj.cls_mapFields _ _).trans hc,(dict_mapFields _ _).trans hdi,Obj.data_mapFields hd _,h1.objs.size,tb,ts,?_,n1,ne1,?_,ht,h3⟩ ((u1.trans (up_push _)).trans (up_rec e2 hd)))
  · exact up_fun ((u1.trans (up_push _)).trans (up_rec e2 hd)) hl
  · simp [hsz]
  · rw [Heap.get?_update_other _ _ (Ne.symm ne1)]
    exact Heap.get?_push_size h1 (by obtain ⟨c,dd,dt,sl⟩:=tb;cases ht;rfl)
theorem note_D {fl:Option Value} {Q:Unit→Shared→Prop} (hfl:fl = none∨fl = some .none) (hfr:A.frames = some (env::outer)) (hf:env.frame = some L) (x:FlD base (env::outer) e cls d fl s.heap)
    (h:∀ h',FlD base (env::outer) e cls d (some (rawInt L)) h'→s.heap.UpToSlots h'→Q () { s with heap:=h' }):wpAny M A (noteFrame (.ref e) env) Q E s:=by
  obtain ⟨k,hen,hl,oe,vs,he,hc,hdi,hd,tb⟩:=x
  unfold noteFrame
  simp only [hf]
  rcases hfl with rfl | rfl
  · refine wpAny_bind (wpAny_field he hd tb ?_)
    rw [if_neg (by decide)]
    exact entry_D rfl hfr hf k hen hl he hc hdi hd (Array.getElem?_eq_some_iff.mp tb).1 h
  · obtain ⟨T,oT,ts,h1,nT,Te,hT,hdT,h3⟩:=tb
    refine wpAny_bind (wpAny_field he hd h1 ?_)
    rw [if_pos (show (Value.ref T != Value.none) = true from by simp)]
    refine wpAny_bind (wpAny_field hT hdT h3 ?_)
    rw [if_neg (show ¬ ((Value.none == rawInt L) = true) from by simp [rawInt])]
    refine wpAny_bind (wpAny_setField hT hdT (Array.getElem?_eq_some_iff.mp h3).1 ?_)
    refine entry_D rfl hfr hf (stays_upd k nT) hen (up_fun (up_rec hT hdT) hl) ((Heap.get?_update_other _ _ Te).trans he) hc hdi hd (Array.getElem?_eq_some_iff.mp h1).1 fun h' f u=>h h' f ((up_rec hT hdT).trans u)
theorem land_D {fl:Value} {l:List Env} {Q:Unit→Shared→Prop} (x:FlD base l e cls d (some fl) s.heap) (h:∀ h',FlD base l e cls d (some .none) h'→s.heap.UpToSlots h'→Q () { s with heap:=h' }) :
    wpAny M A (setFlight (.ref e) none) Q E s:=by
  obtain ⟨k,hen,hl,oe,vs,he,hc,hdi,hd,T,oT,ts,h1,nT,Te,hT,hdT,h3⟩:=x
  unfold setFlight
  refine wpAny_bind (wpAny_field he hd h1 ?_)
  rw [if_pos (show (Value.ref T != Value.none) = true from by simp)]
  exact wpAny_setField hT hdT (Array.getElem?_eq_some_iff.mp h3).1 (h _ ⟨stays_upd k nT,hen,up_fun (up_rec hT hdT) hl,oe,vs,(Heap.get?_update_other _ _ Te).trans he,hc,hdi,hd,T,_,_,h1,nT,Te,Heap.get?_update_self _ hT (Obj.isFreed_of_fields (Obj.data_mapFields hdT _)),Obj.data_mapFields hdT _,by simp [(Array.getElem?_eq_some_iff.mp h3).1]⟩ (up_rec hT hdT))
theorem leave_D {fl:Option Value} {Q:Unit→Shared→Prop} (hfl:fl = none∨fl = some .none) (hfr:A.frames = some (env::outer)) (hf:env.frame = some L) (x:FlD base (env::outer) e cls d fl s.heap)
    (h:∀ h',FlD base outer e cls d (some .none) h'→s.heap.UpToSlots h'→Q () { s with heap:=h' }):wpAny M A (leaving env (.ref e)) Q E s:=by
  unfold leaving
  refine wpAny_bind (note_D hfl hfr hf x fun h1 f1 u1=>land_D (s:={ s with heap:=h1 }) f1 fun h2 f2 u2=>?_)
  obtain ⟨k,hen,⟨_,_,hl⟩,r⟩:=f2
  exact h h2 ⟨k,hen,hl,r⟩ (u1.trans u2)
end
noncomputable abbrev bmX:List Value:=[.type "Exception", .type "BaseException", .type "object"]
noncomputable abbrev exO (t:Addr):Obj:={ cls:=.ref 117,data:=.fields #[.ref t,.none,.none,.none,.bool false,.none] }
noncomputable abbrev exT (v:Value):Obj:={ cls:=.type "tuple", data:=.seq #[v] }
section
variable {A:Around} {hpS:Heap} {tkS:Nat} {h₀:Heap} {L:Addr} {m:Str→Option Value} {news:List (Addr×Obj)} {R:Result→Shared→Prop} {E:Value→Shared→Prop}
theorem make_X {v:Value} (F:Fr h₀ L hpS m) (X₀:(Mine.hd.heap_1 (World.params w)).In h₀) (N:News h₀ L hpS news)
    (h:∀ e t h',Fr h₀ L h' m→News h₀ L h' ((e,exO t)::(t,exT v)::news)→(∀ p∈news,p.1 < t)→t < e →
      codeAny (model prog w) (A.under (.builtin "type.__call__" ⟨[.ref 117,v],[]⟩)) (.call (.ref 114) ⟨[.ref e,v],[]⟩) (InitBack e R) ⟨h',GC,DC,tkS,OC⟩) :
    codeAny (model prog w) A (.call (.ref 117) ⟨[v],[]⟩) R ⟨hpS,GC,DC,tkS,OC⟩:=by
  have X:=X₀.keeps F.keep
  try dsimp only at F X N h ⊢
  have hC:=X _ _ (show List.lookup 117 (Mine.hd.heap_1 (World.params w)) = some (excClassObj _ _ 117 _ _ (.ref 97::bmX) _ _ _ _ _ _ _ _ _ _ _ _) from rfl)
  have T:OwnTail hpS bmX (.ref 97::bmX):=tail_of_in X (by kernel_rfl)
  have Fn:=PySem.F.excBase_Exception
  have hB:bmX.contains (.type "Exception") = true:=by simp
  have made:Looks (model prog w) hpS (Bind.madeBy (.ref 117)) (some "Exception.__new__"):=by
    intro A Q E s k q
    obtain ⟨h',g',d',t',os'⟩:=s
    exact wpAny_madeBy_exc (k _ _ hC) q
  have call:Looks (model prog w) hpS (specialOf (.ref 117) "__call__") (some (.builtin "type.__call__")):=looks_specialIn X rfl
  have typ:Looks (model prog w) hpS (isInstance (.ref 117) (.type "type")) true:=looks_instIn X rfl
  have self:Looks (model prog w) hpS (isSubtype (.ref 117) (.ref 117)) true:=looks_mroIn X rfl
  have hi:Looks (model prog w) hpS (typeLookup (.ref 117) "__init__") (some (.ref 114)):=looks_findIn X rfl
  have hb:∀ self,Looks (model prog w) hpS (bindSpecial (.ref 114) self) (.ref 114,[self]):=fun self=>bind_fn X self rfl
  refine codeAny_of_tree ?_
  show wpAny _ _ (callAny (.ref 117) _) _ _ _
  refine nd_load hC ?_
  show wpAny _ _ (callAny.viaDunder (.ref 117) _) _ _ _
  unfold callAny.viaDunder
  refine wpAny_bind (call.at ?_)
  dsimp only
  rw [tc_bind]
  refine wpAny_bind (wpAny_pure (wpAny_bind (wpAny_pure ?_)))
  refine wpAny_pure (a:=Fin.again (.call (.builtin "type.__call__") ⟨[.ref 117,v],[]⟩)) (And.intro rfl ?_)
  refine codeAny_call_builtin_at (Code.quiet_builtin _ (by decide +kernel)) entry_typeCall (check_slot tc_kind tc_split typ (tc_args _ _ _) ?_)
  unfold Builtin.«type.__call__»
  have hm:Looks (model prog w) hpS (mroOf (.ref 117)) (.ref 117::.ref 97::bmX):=((Looks.ld (part:=none) hC).andThen .now).andThen .now
  repeat (first | with_reducible refine wpAny_call ?_ | lk)
  refine codeAny_call_builtin_code (Code.quiet_builtin _ Fn.quiet) (wpAny_check_new_subU Fn hB T hC ?_)
  refine codeAny_exc_new_subU Fn hB Fn T hC ?_ (by size_fits)
  have k:∀ b o,hpS.get? b = some o→((hpS.push (exT v)).push (exO hpS.objs.size)).get? b = some o:=fun b o e=>Heap.get?_push_of_some _ (Heap.get?_push_of_some _ e)
  have hx:((hpS.push (exT v)).push (exO hpS.objs.size)).get? (hpS.objs.size + 1) = some (exO hpS.objs.size):=by heap_get
  have t1:Looks (model prog w) ((hpS.push (exT v)).push (exO hpS.objs.size)) (typeOf (.ref (hpS.objs.size + 1))) (.ref 117):=(Looks.ld hx).andThen .now
  have s1:=self.keeps k
  have i1:=hi.keeps k
  have b1:=(hb (.ref (hpS.objs.size + 1))).keeps k
  have z:=h (hpS.objs.size + 1) hpS.objs.size ((hpS.push (exT v)).push (exO hpS.objs.size)) ((F.push _).push _) (by
    have:=(N.push F (exT v)).push (F.push _) (exO hpS.objs.size)
    rwa [Heap.size_push] at this) (fun p hp=>Heap.lt_size (N p hp).1) (Nat.lt_succ_self _)
  show wpAny _ _ _ _ _ _
  unfold isInstance callSpecial? specialOf
  repeat (first | with_reducible refine wpAny_call ?_ | lk)
  refine codeAny_mono z fun r s' z=>?_
  rcases r with e | (v | _ | _ | _)<;>first | exact z | exact z.elim | skip
  obtain ⟨rfl,z⟩:=z
  exact wpAny_pure (wpAny_pure z)
end
noncomputable abbrev exOd (t dx:Addr):Obj:={ cls:=.ref 117,dict:=some dx,data:=.fields #[.ref t,.none,.none,.none,.bool false,.none] }
noncomputable abbrev exD (w:World) (tk:Tok) (v:Value):Obj:=dictOf [⟨PyData.keyHash w.params (Str.ofString "message"),.str (Str.ofString "message") tk,v⟩] 1
section
variable {A:Around} {hpS:Heap} {tkS:Nat} {h₀:Heap} {L:Addr} {m:Str→Option Value} {news:List (Addr×Obj)} {E:Value→Shared→Prop}
theorem set_X {v:Value} {e t:Addr} {Q:Unit→Shared→Prop} (F:Fr h₀ L hpS m) (X₀:(Mine.hd.heap_1 (World.params w)).In h₀) (N:News h₀ L hpS ((e,exO t)::news)) (ne:∀ p∈news,p.1≠e)
    (h:∀ dx tk tk' h',Fr h₀ L h' m→News h₀ L h' ((dx,exD w tk v)::(e,exOd t dx)::news)→(∀ p∈news,p.1 < dx)→e < dx→Q () ⟨h',GC,DC,tk',OC⟩) :
    wpAny (model prog w) A (setAttr (.ref e) (Str.ofString "message") v) Q E ⟨hpS,GC,DC,tkS,OC⟩:=by
  have X:=X₀.keeps F.keep
  try dsimp only at F X N h ⊢
  have I:InstAt hpS e (exO t) 117 none:=⟨(N _ (.head _)).1,rfl,rfl,trivial⟩
  have SF:=PySem.F.store_object
  have he:=(N _ (.head _)).1
  have hC:=X _ _ (show List.lookup 117 (Mine.hd.heap_1 (World.params w)) = some (excClassObj _ _ 117 _ _ (.ref 97::bmX) _ _ _ _ _ _ _ _ _ _ _ _) from rfl)
  have hm:Looks (model prog w) hpS (mroOf (.ref 117)) (.ref 117::.ref 97::bmX):=((Looks.ld (part:=none) hC).andThen .now).andThen .now
  have pass:∀ self,refuseLoop self (Str.ofString "__setattr__") bmX = pure ():=fun self=>by kernel_rfl
  have sub:Looks (model prog w) hpS (isInstance (.ref e) (.type "object")) true:=I.type.andThen (looks_mroIn X rfl)
  refine set_plain X I rfl ?_
  refine codeAny_call_builtin SF.slot.plain SF.entry (@check_slot (model prog w) _ _ _ "object.__setattr__" "object" "__setattr__" (.ref e) [_,v] [] _ SF.kind SF.split sub (SF.args (.ref e) _ v) ?_)
  rw [osa_eq,refuse_eq]
  refine wpAny_bind (wpAny_bind (I.type.here (wpAny_bind (hm.here ?_))))
  rw [refuseLoop_ref,refuseLoop_ref,pass]
  refine wpAny_pure (wpAny_bind (I.type.here (wpAny_bind ((looks_findIn X (r:=none) rfl).here (wpAny_bind (Looks.now.here ?_))))))
  dsimp only
  have es:hpS.objs.size≠e:=Nat.ne_of_gt (Heap.lt_size he)
  have he1:=Heap.get?_push_of_some emptyDict he
  have D:((hpS.push emptyDict).update e fun o=>{ o with dict:=some hpS.objs.size }).get? hpS.objs.size = some emptyDict:=by
    rw [Heap.get?_update_other _ _ (Ne.symm es)]
    exact Heap.get?_push_size hpS rfl
  unfold Builtin.ObjectAttr.storeInOwnDict ownStreamTells Builtin.ObjectAttr.ownDictForStores instanceDict dictMade Builtin.ObjectAttr.storeInDict Builtin.ObjectAttr.newKeyGuard nsSet
  refine wpAny_bind (wpAny_pure (wpAny_bind (wpAny_bind (wpAny_loadPart he (wpAny_bind ((looks_clsIn X (C:=117) rfl).here ?_))))))
  have dd:(!typeHasDict (.ref 117)) = false:=rfl
  refine wpAny_bind (wpAny_alloc' ?_)
  refine wpAny_bind (wpAny_update' he1 (wpAny_pure ?_))
  dsimp only
  refine wpAny_bind (wpAny_pure (wpAny_bind (wpAny_bind (wpAny_bind (wpAny_askSetting (wpAny_pure (wpAny_bind (wpAny_mkText (wpAny_bind (wpAny_loadPart D ?_))))))))))
  refine wpAny_updatePart D ?_
  have D':(((hpS.push emptyDict).update e fun o=>{ o with dict:=some hpS.objs.size }).update hpS.objs.size (Obj.putName (Str.ofString "message") (PyData.keyHash w.params (Str.ofString "message")) (.str (Str.ofString "message") (tkS + 1)) v)).get? hpS.objs.size = some (exD w (tkS + 1) v):=Heap.get?_update_self _ D rfl
  refine wpAny_bind (wpAny_lookBehind D' (pastItsLine_dict (by rw [sizeLine_eq];exact Nat.le_of_ble_eq_true rfl)) ?_)
  refine wpAny_pure ?_
  have np:h₀.get? hpS.objs.size = none:=none_at_size (s:=⟨hpS,GC,DC,tkS,OC⟩) F
  have ne0:h₀.get? e = none:=(N _ (.head _)).2.2
  have keep:∀ b o,b≠e→hpS.get? b = some o→(((hpS.push emptyDict).update e fun o=>{ o with dict:=some hpS.objs.size }).update hpS.objs.size (Obj.putName (Str.ofString "message") (PyData.keyHash w.params (Str.ofString "message")) (.str (Str.ofString "message") (tkS + 1)) v)).get? b = some o:=fun b o hb ho=>by
    rw [Heap.get?_update_other _ _ (Nat.ne_of_gt (Heap.lt_size ho)),Heap.get?_update_other _ _ (Ne.symm hb)]
    exact Heap.get?_push_of_some _ ho
  have Le:L≠e:=fun q=>(N _ (.head _)).2.1 q.symm
  have hE:(((hpS.push emptyDict).update e fun o=>{ o with dict:=some hpS.objs.size }).update hpS.objs.size (Obj.putName (Str.ofString "message") (PyData.keyHash w.params (Str.ofString "message")) (.str (Str.ofString "message") (tkS + 1)) v)).get? e = some (exOd t hpS.objs.size):=by
    rw [Heap.get?_update_other _ _ es]
    exact Heap.get?_update_self _ he1 rfl
  obtain ⟨oL,es1,ep,hL,hLd,hLk,hLf⟩:=F.ns
  refine h hpS.objs.size (tkS + 1) _ _ ⟨⟨oL,es1,ep,keep _ _ Le hL,hLd,hLk,hLf⟩,fun b o hb=>keep b o (fun q=>by rw [q,ne0] at hb;cases hb) (F.keep b o hb),F.above⟩ ?_ (fun p hp=>Heap.lt_size (N p (.tail _ hp)).1) (Heap.lt_size he)
  intro p hp
  rcases List.mem_cons.mp hp with rfl | hp
  · exact ⟨D',fun q=>Nat.lt_irrefl _ (q▸Heap.lt_size hL),np⟩
  rcases List.mem_cons.mp hp with rfl | hp
  · exact ⟨hE,fun q=>Le q.symm,ne0⟩
  · exact ⟨keep _ _ (ne p hp) (N p (.tail _ hp)).1,(N p (.tail _ hp)).2⟩
end
example:True:=by
  k_with "bm setAttr ref" => ((k_here;k_dflt (refine' set_X ?k1__ ?k2__ ?k3__ ?k4__ ?_;(case k1__=>k_asm);(case k2__=>k_asm);(case k3__=>first | with_reducible assumption | assumption);(case k4__=>first | with_reducible assumption | assumption);k_whole;intro dx'_ tkd'_ tk'_ h'_ F'_ N'_ l1_ l2_;(try k_fold))))
  trivial
section
local macro_rules (kind := PySem.W.tacticK_extra_) | s => mq "bm 0 j q h g f e d c p o a" s

section
variable (B:Below A₀ base outer h₀) (F:Fr h₀ L hpS m) (X:(Mine.hd.heap_1 (World.params w)).In h₀) (N:News h₀ L hpS news) (T:Top p loose mean mg mb h₀) (hk:cs.kind = .function)
include B F X N T hk
theorem refusal_ct {x:Str} {tx:Tok} (hd:dp + 4 < recursionLimit) (hu:un + 40 < cLine)
  (ret:∀ e t dx tk h' tk',Fr h₀ L h' m→News h₀ L h' ((dx,exD w tk (.str x tx))::(e,exOd t dx)::(t,exT (.str x tx))::news)→(∀ p∈news,p.1 < t)→t < e→e < dx→Q (.ref e) ⟨h',GC,DC,tk',OC⟩) :
  wpAny (model prog w) (ktrTop dp un gd cn cs L a ccd cl outer) (call (.ref 117) [.str x tx]) Q E ⟨hpS,GC,DC,tkS,OC⟩:=by
  refine wpAny_call (make_X F X N ?_)
  intro e t h1 F1 N1 l1 l2
  have ne1:∀ p∈(t,exT (.str x tx))::news,p.1≠e:=by
    intro p hp
    rcases List.mem_cons.mp hp with rfl | hp
    · exact Nat.ne_of_lt l2
    · exact Nat.ne_of_lt (Nat.lt_trans (l1 p hp) l2)
  k_dflt ktr_enter
  k_steps
  exact ret _ _ _ _ _ _ (by k_asm) (by k_asm) l1 l2 (by assumption)
end
end
section
variable {A:Around} {E:Value→Shared→Prop} {env:Env}
theorem raise_X {hpS:Heap} {tkS:Nat} {x:Sem Value} {Q:Flow→Shared→Prop} (hh:A.handled = none)
    (h:wpAny (model prog w) A x (fun v s₁=>∃ e t d,v = .ref e∧(Mine.hd.heap_1 (World.params w)).In s₁.heap∧s₁.heap.get? e = some (exOd t d)∧E (.ref e) s₁) E ⟨hpS,GC,DC,tkS,OC⟩) :
    wpAny (model prog w) A (raiseStmt env (some x) none) Q E ⟨hpS,GC,DC,tkS,OC⟩:=by
  have hcB:(Value.ref 117::.ref 97::bmX).contains (.type "BaseException") = true:=by simp
  unfold raiseStmt
  refine wpAny_bind (wpAny_mono h (fun v s₁ h₁=>?_) fun _ _ x=>x)
  obtain ⟨e,t,d,rfl,X,he,hE⟩:=h₁
  obtain ⟨hp,g,dr,tk,os⟩:=s₁
  have hC:=X _ _ (show List.lookup 117 (Mine.hd.heap_1 (World.params w)) = some (excClassObj _ _ 117 _ _ (.ref 97::bmX) _ _ _ _ _ _ _ _ _ _ _ _) from rfl)
  dsimp only at he hC
  repeat (first | with_reducible refine wpAny_loadPart_at he ?_ | with_reducible refine wpAny_loadPart_at hC ?_ | (with_reducible refine wpAny_isSubtype_exc hC ?_;rw [hcB]) | wp_step)
  exact wpAny_raiseNew_none hh hE
theorem Raise_X {hpS:Heap} {tkS:Nat} {f:Expr} {args:List Expr} {kws:List Keyword} {cpos pos:Pos} {Q:Flow→Shared→Prop} (hh:A.handled = none)
    (h:wpAny (model prog w) A (eval (.Call f args kws cpos) env) (fun v s₁=>∃ e t d,v = .ref e∧(Mine.hd.heap_1 (World.params w)).In s₁.heap∧s₁.heap.get? e = some (exOd t d)∧E (.ref e) s₁) E ⟨hpS,GC,DC,tkS,OC⟩) :
    wpAny (model prog w) A (exec (.Raise (some (.Call f args kws cpos)) none pos) env) Q E ⟨hpS,GC,DC,tkS,OC⟩:=by
  rw [arm_exec_Raise]
  exact wpAny_bind (wpAny_standAt (raise_X hh (wpAny_bind (wpAny_mono h (fun v s₁ h₁=>wpAny_bind (wpAny_standAt (wpAny_pure h₁))) fun _ _ x=>x))))
end
noncomputable def RaisedD (base:Heap) (l:List Env) (e d:Addr) (news:List (Addr×Obj)) (h:Heap):Prop :=
  ∃ B,base.StaysIn B∧(∀ q∈news,B.get? q.1 = some q.2∧base.get? q.1 = none)∧FlD B l e (.ref 117) d (some .none) h
section
variable {M:Model} {A:Around} {E:Value→Shared→Prop} {s':Shared} {base g g₂:Heap} {outer:List Env} {L e d:Addr} {m:Str→Option Value} {env:Env} {Q:Unit→Shared→Prop} {news:List (Addr×Obj)}
theorem below_env {A₀:Around} (K:Below A₀ base outer g) (F:Fr g L s'.heap m) (hf:env.frame = some L) (hk:env.scope.kind = .function):s'.heap.FunFrames base (env::outer)∧base.StaysIn s'.heap:=by
  have hnew:base.get? L = none:=by
    cases hq:base.get? L with
    | none=>rfl
    | some o=>exact absurd (Nat.lt_of_lt_of_le (Heap.lt_size (K.stays L o hq)) F.above) (Nat.lt_irrefl _)
  exact ⟨.cons (by rw [hk];decide) hf F.ns hnew (K.frames.of_keeps fun b o e _=>⟨o,F.keep b o e,rfl⟩),fun b o e=>F.keep b o (K.stays b o e)⟩
theorem leave_X0 {t:Addr} (K:Below A base outer g) (F:Fr g L s'.heap m) (hf:env.frame = some L) (hk:env.scope.kind = .function) (N:News g L s'.heap news) (he:s'.heap.get? e = some (exOd t d)) (hen:g.get? e = none) (hne:∀ q∈news,q.1≠e)
    (hQ:∀ h',RaisedD base outer e d news h'→g.UpToSlots h'→Q () { s' with heap:=h' }):wpAny M (A.deeper env) (leaving env (.ref e)) Q E s':=by
  obtain ⟨ff,st⟩:=below_env K F hf hk
  have hin:∀ ev∈env::outer,∀ b,ev.frame = some b→b∈e::(env::outer).filterMap (·.frame):=fun ev he b hb=>.tail _ (List.mem_filterMap.mpr ⟨ev,he,hb⟩)
  have be:base.get? e = none:=by
    cases q:base.get? e with
    | none=>rfl
    | some o=>rw [K.stays e o q] at hen;cases hen
  have stB:base.StaysIn (hideAll s'.heap (e::(env::outer).filterMap (·.frame))):=fun b o q=>hideAll_get _ (st b o q) fun hm=>by
    rcases List.mem_cons.mp hm with rfl | hm
    · rw [be] at q;cases q
    · rw [(ff.mem hm).1] at q;cases q
  have hl:∀ q∈news,(hideAll s'.heap (e::(env::outer).filterMap (·.frame))).get? q.1 = some q.2∧base.get? q.1 = none:=fun q hq=>by
    refine ⟨hideAll_get _ (N q hq).1 fun hm=>?_,fresh_of_stays K.stays (N q hq).2.2⟩
    rcases List.mem_cons.mp hm with x | hm
    · exact hne q hq x
    obtain ⟨ev,he,hb⟩:=List.mem_filterMap.mp hm
    rcases List.mem_cons.mp he with rfl | he
    · rw [hf] at hb;exact (N q hq).2.1 (Option.some.inj hb).symm
    · obtain ⟨o,ho,_⟩:=(K.frames.mem (List.mem_filterMap.mpr ⟨ev,he,hb⟩)).2
      rw [(N q hq).2.2] at ho;cases ho
  refine leave_D (.inl rfl) (Around.frames_deeper K.stack) hf (base:=hideAll s'.heap (e::(env::outer).filterMap (·.frame))) (cls:=.ref 117) (d:=d)
    ⟨fun b o q=>of_hideAll _ q,hideAll_none _ (.head _),funFrames_hide ff hin,_,_,he,rfl,rfl,rfl,rfl⟩ fun h' x u=>hQ h' ⟨_,stB,hl,x⟩ ((Heap.UpToSlots.of_keeps F.keep).trans u)
theorem leave_X1 (K:Below A base outer g) (F:Fr g L g₂ m) (hf:env.frame = some L) (R:RaisedD base (env::outer) e d news s'.heap) (hsm:g₂.UpToSlots s'.heap)
    (hQ:∀ h',RaisedD base outer e d news h'→g.UpToSlots h'→Q () { s' with heap:=h' }):wpAny M (A.deeper env) (leaving env (.ref e)) Q E s':=by
  obtain ⟨B,hB,hl,x⟩:=R
  exact leave_D (.inr rfl) (Around.frames_deeper K.stack) hf x fun h' x u=>hQ h' ⟨B,hB,hl,x⟩ ((Heap.UpToSlots.of_keeps F.keep).trans (hsm.trans u))
end
noncomputable def restr (h d:Heap):Heap:=hideAll { h with objs:=h.objs.extract 0 d.objs.size } ((List.range d.objs.size).filter fun b=>(d.get? b).isNone)
theorem restr_get {h d:Heap} {b:Addr} {o:Obj} (hs:d.objs.size≤h.objs.size):(restr h d).get? b = some o ↔ (d.get? b).isSome∧h.get? b = some o:=by
  have ex:∀ b,b < d.objs.size→({ h with objs:=h.objs.extract 0 d.objs.size }:Heap).get? b = h.get? b:=fun b hb=>by
    unfold Heap.get?
    simp only [Array.getElem?_extract,Nat.sub_zero]
    rw [if_pos (by (first | lia | omega))]
    simp
  constructor
  · intro e
    have e1:=of_hideAll _ e
    have hb:b < d.objs.size:=by
      have hlt:=Heap.lt_size e1
      simp only [Array.size_extract] at hlt
      exact Nat.lt_of_lt_of_le hlt (Nat.min_le_left _ _)
    refine ⟨?_,(ex b hb)▸e1⟩
    cases q:d.get? b with
    | some _=>rfl
    | none =>
      rw [restr,hideAll_none _ (List.mem_filter.mpr ⟨List.mem_range.mpr hb,by rw [q];rfl⟩)] at e
      cases e
  · rintro ⟨e,e1⟩
    obtain ⟨o',e'⟩:=Option.isSome_iff_exists.mp e
    exact hideAll_get _ ((ex b (Heap.lt_size e')).trans e1) fun hm=>by
      have:=(List.mem_filter.mp hm).2
      rw [e'] at this
      cases this
theorem restr_size {h d:Heap} (hs:d.objs.size≤h.objs.size):(restr h d).objs.size = d.objs.size:=by
  rw [restr,hideAll_size]
  simp only [Array.size_extract]
  exact (Nat.sub_zero _).trans (Nat.min_eq_left hs)
structure Reb (base h h':Heap):Prop where
  size:h'.objs.size = h.objs.size
  up:h.UpToSlots h'
  no:∀ b,h.get? b = none→h'.get? b = none
  stays:base.StaysIn h'
theorem Reb.trans {base h h' h'':Heap} (x:Reb base h h') (y:Reb base h' h''):Reb base h h'':=⟨y.size.trans x.size,x.up.trans y.up,fun b e=>y.no b (x.no b e),y.stays⟩
theorem Reb.below {A:Around} {base h h':Heap} {outer:List Env} (x:Reb base h h') (B:Below A base outer h):Below A base outer h':=⟨B.stack,x.stays,up_fun x.up B.frames⟩
theorem Reb.refl {A:Around} {base h:Heap} {outer:List Env} (B:Below A base outer h):Reb base h h:=⟨rfl,.refl h,fun _ e=>e,B.stays⟩
theorem rebase {A:Around} {base g h:Heap} {outer:List Env} (B:Below A base outer g) (hs:g.objs.size≤h.objs.size) (u:g.UpToSlots h) (st:base.StaysIn h):Reb base g (restr h g) :=
  ⟨restr_size hs,fun b o e hn=>let ⟨sl,e'⟩:=u b o e hn;⟨sl,(restr_get hs).mpr ⟨by rw [e];rfl,e'⟩⟩,fun b e=>(by
    cases q:(restr h g).get? b with
    | none=>rfl
    | some o=>have:=((restr_get hs).mp q).1;rw [e] at this;cases this),fun b o e=>(restr_get hs).mpr ⟨by rw [B.stays b o e];rfl,st b o e⟩⟩
theorem rebase_fr {g h:Heap} {L:Addr} {m:Str→Option Value} (hs:g.objs.size≤h.objs.size) (n:h.Ns L m) (a:g.objs.size≤L):Fr (restr h g) L h m:=⟨n,fun _ _ e=>((restr_get hs).mp e).2,by rw [restr_size hs];exact a⟩
theorem Reb.under {A:Around} {base g g2 h₀:Heap} {outer:List Env} {L:Addr} {m:Str→Option Value} (B:Below A base outer h₀) (FG:Fr h₀ L g m) (x:Reb base g g2):Reb base h₀ (restr g2 h₀)∧Fr (restr g2 h₀) L g2 m:=by
  have hL:L < g.objs.size:=by obtain ⟨o,_,_,e,_⟩:=FG.ns;exact Heap.lt_size e
  have hs:h₀.objs.size≤g2.objs.size:=by rw [x.size];exact Nat.le_trans FG.above (Nat.le_of_lt hL)
  exact ⟨rebase B hs ((Heap.UpToSlots.of_keeps FG.keep).trans x.up) x.stays,rebase_fr hs (x.up.ns FG.ns) FG.above⟩
noncomputable def RaisedX (h₀:Heap) (L:Addr) (m:Str→Option Value) (base:Heap) (l:List Env) (e d:Addr) (led:List (Addr×Obj)) (h:Heap):Prop :=
  RaisedD base l e d led h∧(∃ g,Fr h₀ L g m∧g.UpToSlots h)∧(h₀.get? e = none∧e≠L)∧∀ q∈led,h₀.get? q.1 = none∧q.1≠L
theorem fresh_up {h₀ g:Heap} {L b:Addr} {m:Str→Option Value} (FG:Fr h₀ L g m) (e:g.get? b = none):h₀.get? b = none∧b≠L:=by
  refine ⟨?_,fun q=>?_⟩
  · cases q:h₀.get? b with
    | none=>rfl
    | some o=>rw [FG.keep b o q] at e;cases e
  · obtain ⟨o,_,_,h,_⟩:=FG.ns
    rw [q,h] at e
    cases e
section
variable {M:Model} {A:Around} {E:Value→Shared→Prop} {s':Shared} {base g h₀:Heap} {outer:List Env} {L L' e d:Addr} {m mC:Str→Option Value} {env:Env} {Q:Unit→Shared→Prop} {led:List (Addr×Obj)}
theorem up_X0 {t:Addr} {tk:Tok} {v:Value} (K:Below A base outer g) (FG:Fr h₀ L g mC) (F:Fr g L' s'.heap m) (hf:env.frame = some L') (hk:env.scope.kind = .function)
    (N:News g L' s'.heap ((d,exD w tk v)::(e,exOd t d)::(t,exT v)::led)) (hne:∀ q∈(d,exD w tk v)::led,q.1≠e)
    (hQ:∀ h',RaisedX h₀ L mC base outer e d ((d,exD w tk v)::led) h'→Q () { s' with heap:=h' }):wpAny M (A.deeper env) (leaving env (.ref e)) Q E s':=by
  have NL:News g L' s'.heap ((d,exD w tk v)::led):=fun q hq=>N q (by
    rcases List.mem_cons.mp hq with rfl | hq
    · exact .head _
    · exact .tail _ (.tail _ (.tail _ hq)))
  have he:=N (e,exOd t d) (.tail _ (.head _))
  exact leave_X0 K F hf hk NL he.1 he.2.2 hne fun h' R u=>hQ h' ⟨R,⟨g,FG,u⟩,fresh_up FG he.2.2,fun q hq=>fresh_up FG (NL q hq).2.2⟩
theorem up_X1 (K:Below A base outer g) (FG:Fr h₀ L g mC) (hf:env.frame = some L') (R:RaisedX g L' m base (env::outer) e d led s'.heap)
    (hQ:∀ h',RaisedX h₀ L mC base outer e d led h'→Q () { s' with heap:=h' }):wpAny M (A.deeper env) (leaving env (.ref e)) Q E s':=by
  obtain ⟨R,⟨g2,F2,u2⟩,x,y⟩:=R
  exact leave_X1 K F2 hf R u2 fun h' R' u=>hQ h' ⟨R',⟨g,FG,u⟩,fresh_up FG x.1,fun q hq=>fresh_up FG (y q hq).1⟩
end
section
variable {A₀:Around} {E:Value→Shared→Prop} {s':Shared} {h₀ base:Heap} {outer:List Env} {L a e d:Addr} {m:Str→Option Value} {name:Str} {scope:Scope} {cd:Value}
  {n:Str} {b₀:Stmt} {suite:List Stmt} {pos np:Pos} {rest:List ExceptHandler} {Q:Flow→Shared→Prop} {led:List (Addr×Obj)}
theorem caught_X (K:Below A₀ base outer h₀) (R:RaisedX h₀ L m base (envOf name scope L a cd::outer) e d led s'.heap) (XB:(Mine.hd.heap_1 (World.params w)).In base) (TB:Top p loose mean mg mb base)
    (k:∀ h₂ h' oe tk,Reb base h₀ h₂→Fr h₂ L h' (fun y=>if y = n then some (.ref e) else m y)→News h₂ L h' ((e,oe)::led)→oe.cls = .ref 117→oe.dict = some d→(∃ vs,oe.data = .fields vs) →
      wpAny (model prog w) ((A₀.deeper (envOf name scope L a cd)).mark (some (.ref e))) (execs (b₀::suite) (envOf name scope L a cd))
        (fun f s₄=>wpAny (model prog w) (A₀.deeper (envOf name scope L a cd)) (do bindName (envOf name scope L a cd) n .none;unbindBehindTheSuite (envOf name scope L a cd) n pos) (fun _ s₅=>Q f s₅) E s₄)
        (AsSuiteRaised (model prog w) ((A₀.deeper (envOf name scope L a cd)).mark (some (.ref e))) (envOf name scope L a cd) n pos (notedBy (model prog w) ((A₀.deeper (envOf name scope L a cd)).mark (some (.ref e))) (envOf name scope L a cd) (cameBackBy (model prog w) (A₀.deeper (envOf name scope L a cd)) (envOf name scope L a cd) E)))
        { s' with heap:=h',toks:=tk })
    (hk:scope.kind = .function:=by rfl) (hlo:(envOf name scope L a cd).kindOf n = some .local:=by rfl) (hx:(envOf name scope L a cd).kindOf (Str.ofString "Refusal") = some .globalImplicit:=by rfl) :
    wpAny (model prog w) (A₀.deeper (envOf name scope L a cd)) (noteFrame (.ref e) (envOf name scope L a cd))
      (fun _ s₂=>wpAny (model prog w) (A₀.deeper (envOf name scope L a cd)) (setFlight (.ref e) none) (fun _ s₃ =>
        wpAny (model prog w) (A₀.deeper (envOf name scope L a cd)) (handleBy (.ref e) (envOf name scope L a cd) (.ExceptHandler (some (.Name (Str.ofString "Refusal") np)) (some n) (b₀::suite) pos::rest)) Q E s₃) E s₂) E s':=by
  obtain ⟨⟨B,hB,hl,hfl⟩,⟨g,F,u⟩,⟨he0,heL⟩,hq⟩:=R
  have sz:∀ {h:Heap},g.UpToSlots h→h₀.objs.size≤h.objs.size:=fun {h} u=>by
    obtain ⟨o,es,ep,e,hd,_⟩:=F.ns
    obtain ⟨sl,e'⟩:=u L o e (fun vs q=>by rw [hd] at q;cases q)
    exact Nat.le_trans F.above (Nat.le_of_lt (Heap.lt_size e'))
  refine note_D (.inr rfl) (Around.frames_deeper K.stack) rfl hfl fun h1 f1 u1=>land_D (s:={ s' with heap:=h1 }) f1 fun h2 f2 u2=>?_
  have U2:=(u.trans u1).trans u2
  have F2:=rebase_fr (g:=h₀) (sz U2) (U2.ns F.ns) F.above
  have st2:base.StaysIn h2:=fun b o q=>f2.1 b o (hB b o q)
  have R2:=rebase K (sz U2) ((Heap.UpToSlots.of_keeps F.keep).trans U2) st2
  have X2:=XB.keeps R2.stays
  obtain ⟨ob,_,hob,hobc,_⟩:=f2.2.2.2
  refine wpAny_handleBy_cons (codeAny_handlers_test (name_K F2 X2 (topRead_of (TB.keeps R2.stays)) rfl ?_ hk hx (by decide))) (by intro q;cases q)
  have hC:=(XB.keeps st2) _ _ (show List.lookup 117 (Mine.hd.heap_1 (World.params w)) = some (excClassObj _ _ 117 _ _ (.ref 97::bmX) _ _ _ _ _ _ _ _ _ _ _ _) from rfl)
  refine wpAny_excMatches_sub_self hC hob hobc (by simp) (codeAny_handlers_suite_as ?_)
  refine land_D (s:={ s' with heap:=h2 }) f2 fun h3 f3 u3=>?_
  have U3:=U2.trans u3
  have F3:=rebase_fr (g:=h₀) (sz U3) (U3.ns F.ns) F.above
  have st3:base.StaysIn h3:=fun b o q=>f3.1 b o (hB b o q)
  have R3:=rebase K (sz U3) ((Heap.UpToSlots.of_keeps F.keep).trans U3) st3
  obtain ⟨oe,vs,hoe,hc,hd,hdat,_⟩:=f3.2.2.2
  have N3:News (restr h3 h₀) L h3 ((e,oe)::led):=fun q hm=>by
    rcases List.mem_cons.mp hm with rfl | hm
    · exact ⟨hoe,heL,R3.no _ he0⟩
    · exact ⟨f3.1 _ _ (hl q hm).1,(hq q hm).2,R3.no _ (hq q hm).1⟩
  exact stN (s:={ s' with heap:=h3 }) F3 N3 (fun h4 F4 N4=>k _ h4 oe _ R3 F4 N4 hc hd ⟨vs,hdat⟩) hk hlo
end
theorem inX {g h:Heap} {L:Addr} {m:Str→Option Value} (F:Fr g L h m) (X:(Mine.hd.heap_1 (World.params w)).In g):(Mine.hd.heap_1 (World.params w)).In h:=X.keeps F.keep
theorem getN {g h:Heap} {L e:Addr} {o:Obj} {news:Led} (N:News g L h news) (hm:(e,o)∈news):h.get? e = some o:=(N _ hm).1
theorem RaisedX.sub {h₀:Heap} {L:Addr} {m:Str→Option Value} {base:Heap} {l:List Env} {e d:Addr} {led led':Led} {h:Heap} (R:RaisedX h₀ L m base l e d led h) (hs:∀ q∈led',q∈led):RaisedX h₀ L m base l e d led' h:=by
  obtain ⟨⟨B,hB,hl,f⟩,x,y,z⟩:=R
  exact ⟨⟨B,hB,fun q hq=>hl q (hs q hq),f⟩,x,y,fun q hq=>z q (hs q hq)⟩
theorem ex_ne {d e t:Addr} {o:Obj} {led:Led} (l1:∀ p∈led,p.1 < t) (l2:t < e) (l3:e < d):∀ q∈(d,o)::led,q.1≠e:=by
  intro q hq
  rcases List.mem_cons.mp hq with rfl | hq
  · exact Nat.ne_of_gt l3
  · exact Nat.ne_of_lt (Nat.lt_trans (l1 q hq) l2)
inductive SkipV (w:World) (news:Led):Value→Bool→Prop
  | no:SkipV w news .none false
  | yes {x d l:Addr} {t1 t2 t3 t4 t5 tk t6:Tok} {k:Nat}:(x,instObj 262 d)∈news→(d,vecO w t1 t2 t3 t4 t5 (Str.ofString "logical") tk (.ref l) .none)∈news→(l,listOf #[.int 1 t6] k)∈news→SkipV w news (.ref x) true
theorem SkipV.mono {news news':Led} {v:Value} {b:Bool} (h:SkipV w news v b) (hs:∀ p∈news,p∈news'):SkipV w news' v b:=by
  cases h with
  | no=>exact .no
  | yes a b c=>exact .yes (hs _ a) (hs _ b) (hs _ c)
inductive ArgsIn (news:Led) (al:Addr) (v:Value):Value→Prop
  | one {t:Addr} {k k1:Nat}:(al,listOf #[.ref t] k)∈news→(t,({ cls:=.type "tuple", data:=.seq #[.none,v] k1 }:Obj))∈news→ArgsIn news al v .none
  | two {ta tb b:Addr} {k k1 k3:Nat} {q1:Tok}:(al,listOf #[.ref ta,.ref tb] k)∈news→(tb,({ cls:=.type "tuple", data:=.seq #[.str (Str.ofString "na.rm") q1,.ref b] k3 }:Obj))∈news→(ta,({ cls:=.type "tuple", data:=.seq #[.none,v] k1 }:Obj))∈news→ArgsIn news al v (.ref b)
theorem ArgsIn.mono {news news':Led} {al:Addr} {v sk:Value} (h:ArgsIn news al v sk) (hs:∀ p∈news,p∈news'):ArgsIn news' al v sk:=by
  cases h with
  | one a b=>exact .one (hs _ a) (hs _ b)
  | two a b c=>exact .two (hs _ a) (hs _ b) (hs _ c)
inductive FacIn (w:World) (news:Led) (x:Addr) (l:Value):Prop
  | mk (d:Addr) (ad:Addr) (cv:Addr) (cd:Addr) (cwl:Addr) (lv:Addr) (t1:Tok) (t2:Tok) (t3:Tok) (t4:Tok) (t5:Tok) (tk:Tok) (c1:Tok) (c2:Tok) (c3:Tok) (c4:Tok) (c5:Tok) (ck:Tok) (w1:Tok) (w2:Tok) (k2:Nat) (ao:Obj) (its:List Value):(x,instObj 262 d)∈news→(d,vecO w t1 t2 t3 t4 t5 (Str.ofString "integer") tk l (.ref ad))∈news→(ad,ao)∈news→facD w ao lv cv→(cv,instObj 262 cd)∈news→(cd,vecO w c1 c2 c3 c4 c5 (Str.ofString "character") ck (.ref cwl) .none)∈news→(cwl,listOf (List.toArray its) k2)∈news→(its = [.str (Str.ofString "factor") w1]∨its = [.str (Str.ofString "ordered") w2,.str (Str.ofString "factor") w1])→(ad == sysModules) = false→FacIn w news x l
theorem FacIn.mono {news news':Led} {x:Addr} {l:Value} (h:FacIn w news x l) (hs:∀ p∈news,p∈news'):FacIn w news' x l:=by
  obtain ⟨d,ad,cv,cd,cwl,lv,t1,t2,t3,t4,t5,tk,c1,c2,c3,c4,c5,ck,w1,w2,k2,ao,its,h1,h2,h3,h4,h5,h6,h7,h8,h9⟩:=h
  exact ⟨d,ad,cv,cd,cwl,lv,t1,t2,t3,t4,t5,tk,c1,c2,c3,c4,c5,ck,w1,w2,k2,ao,its,hs _ h1,hs _ h2,hs _ h3,h4,hs _ h5,hs _ h6,hs _ h7,h8,h9⟩
section
local macro_rules (kind := PySem.W.tacticK_extra_) | s => mq "0" s
inductive PlA (news:Led) (its:List Value) (D:List (PyData×PyData)) (y:Str):Value→Prop
  | no:PySem.Spec.lookup (.str y) D = none→PlA news its D y .none
  | at {i:Int} {t:Addr} {tag v:Value} {k:Nat}:PySem.Spec.lookup (.str y) D = some (.int i)→0≤i→i < 2 ^ 63→(its.toArray.toList.drop i.toNat).head? = some (.ref t)→(t,({ cls:=.type "tuple", data:=.seq #[tag,v] k }:Obj))∈news→PlA news its D y v
noncomputable def valA (v sk:Value) (y:Str):Value:=if y = Str.ofString "x" then v else if y = Str.ofString "na.rm" then sk else .none
theorem lookD_ne {y a:Str} {b:PyData} {r:List (PyData×PyData)} (h:y≠a):PySem.Spec.lookup (.str y) ((.str a,b)::r) = PySem.Spec.lookup (.str y) r:=by
  have e:PySem.Spec.same (.str a) (.str y) = false:=by
    show (a == y) = false
    exact beq_false_of_ne (Ne.symm h)
  show (if PySem.Spec.same (.str a) (.str y) then _ else _) = _
  rw [e];rfl
inductive OutA (add:Led) (v sk:Value):Value→Str→Prop
  | dots {r:Addr} {kr:Nat}:(r,listOf #[] kr)∈add→OutA add v sk (.ref r) (Str.ofString "...")
  | val {y:Str}:y≠Str.ofString "..." → OutA add v sk (valA v sk y) y
theorem OutA.mono {add add':Led} {v sk o:Value} {y:Str} (h:OutA add v sk o y) (hs:∀ p∈add,p∈add'):OutA add' v sk o y:=by
  cases h with
  | dots a=>exact .dots (hs _ a)
  | val a=>exact .val a
inductive TkSt (news:Led) (vl:Addr) (v sk:Value) (pre:List Str):Led→Prop
  | mk {out:List Value} {k:Nat} {ex:Led}:All2 (OutA ex v sk) out pre→(∀ p∈ex,∀ q∈news,q.1≠p.1)→(∀ p∈ex,p.1≠vl)→TkSt news vl v sk pre ((vl,listOf out.toArray k)::ex)
theorem off_same {own LED ex:Led} {a:Addr} {o o':Obj} (h:OwnOff own ((((a,o)::ex)++LED).map (·.1))):OwnOff own (((a,o')::ex).map (·.1)):=fun p hp b hb=>h p hp b (by rw [List.map_append];exact List.mem_append_left _ hb)
theorem off_more {own LED ex:Led} {a r:Addr} {o o' q:Obj} (h:OwnOff own ((((a,o)::ex)++LED).map (·.1))) (l:∀ p∈own,p.1≠r):OwnOff own (((a,o')::(r,q)::ex).map (·.1)):=fun p hp b hb=>by
  rcases List.mem_cons.mp hb with e | hb
  · exact h p hp b (by rw [List.map_append];exact List.mem_append_left _ (e▸.head _))
  · rcases List.mem_cons.mp hb with e | hb
    · exact e▸l p hp
    · exact h p hp b (by rw [List.map_append];exact List.mem_append_left _ (.tail _ hb))
theorem swap_ab {a b p:Addr×Obj} {l:Led} (h:p∈a::b::l):p∈b::a::l:=(List.mem_cons.mp h).elim (fun e=>e▸.tail _ (.head _)) fun h=>(List.mem_cons.mp h).elim (fun e=>e▸.head _) fun h=>.tail _ (.tail _ h)
theorem three_ne {ex LED own:Led} {a:Addr} (h1:∀ p∈ex,p.1≠a) (h2:∀ p∈LED,p.1≠a) (h3:∀ p∈own,p.1≠a):∀ p∈(ex++LED)++own,p.1≠a:=fun p hp=>(List.mem_append.mp hp).elim (fun hp=>(List.mem_append.mp hp).elim (h1 p) (h2 p)) (h3 p)
theorem out_of {x z:Str} {v a b:Option Value} (h:z≠x):(if z = x then v else if ([]:List Str).contains z = true then a else b) = b:=by
  rw [if_neg h];rfl
theorem in_yes {A:Around} {E:Value→Shared→Prop} {hpS:Heap} {tkS:Nat} {d:Addr} {D:List (PyData×PyData)} {x:Str} {t:Tok} {u:PyData} {Q:Value→Shared→Prop} (T:StrTab prog w hpS d D) (hl:PySem.Spec.lookup (.str x) D = some u) (h:Q (.bool true) ⟨hpS,GC,DC,tkS + 1,OC⟩):wpAny (model prog w) A (compareOp .In (.str x t) (.ref d)) Q E ⟨hpS,GC,DC,tkS,OC⟩:=in_strTab T (by rw [hl];exact h)
theorem in_no {A:Around} {E:Value→Shared→Prop} {hpS:Heap} {tkS:Nat} {d:Addr} {D:List (PyData×PyData)} {x:Str} {t:Tok} {Q:Value→Shared→Prop} (T:StrTab prog w hpS d D) (hl:PySem.Spec.lookup (.str x) D = none) (h:Q (.bool false) ⟨hpS,GC,DC,tkS + 1,OC⟩):wpAny (model prog w) A (compareOp .In (.str x t) (.ref d)) Q E ⟨hpS,GC,DC,tkS,OC⟩:=in_strTab T (by rw [hl];exact h)
theorem item_int {A:Around} {E:Value→Shared→Prop} {hpS:Heap} {tkS:Nat} {d:Addr} {D:List (PyData×PyData)} {value slice:PySem.Expr} {x:Str} {t:Tok} {i:Int} {Q:Value→Shared→Prop} (T:StrTab prog w hpS d D) (hl:PySem.Spec.lookup (.str x) D = some (.int i)) (h:∀ t',Q (.int i t') ⟨hpS,GC,DC,tkS + 1,OC⟩)
    (hs:subscripted slice false (.ref d) (.str x t) = operate [.ref d,.str x t] (getItem (.ref d) (.str x t)):=by with_unfolding_all rfl) (hg:∀ r,letTemporaryGo value (.ref d) r = pure ():=by intro _;with_unfolding_all rfl) :
    wpAny (model prog w) A (subscriptTail value slice (.ref d) (.str x t)) Q E ⟨hpS,GC,DC,tkS,OC⟩:=item_strTab T hl (fun v hv=>by obtain ⟨t2,rfl⟩:=PyProof.V.Flat.int_inv hv;exact h _) hs hg
theorem LEnd.put {h₀ h':Heap} {L:Addr} {all:Led} {news own:Led} {x:Str} {ch:List Str} {m₀ m':Str→Option Value} {st:Led→Prop} {Q:Flow→Shared→Prop} {tk':Nat} (hd':Led) (F':Fr h₀ L h' m') (N':News h₀ L h' all) (hs:∀ p∈(hd'++news)++own,p∈all) (off:OwnOff own (hd'.map (·.1))) (hm:∀ z,z≠x→ch.contains z = false→m' z = m₀ z) (hst:st hd') :
    LEnd h₀ L news own x ch m₀ st Q .next ⟨h',GC,DC,tk',OC⟩:=⟨h',tk',m',hd',rfl,F',fun p hp=>N' p (hs p hp),off,hm,hst⟩
theorem sizeV {vs:List Value} {ys:List Str} (h:All2 StrR vs ys∧ys.length≤6):vs.length≤sizeLine:=by
  rw [h.1.length]
  exact Nat.le_trans h.2 (by rw [sizeLine_eq];decide)
theorem sizeO {add:Led} {v sk:Value} {out:List Value} {pre post ys:List Str} {y:Str} (h:All2 (OutA add v sk) out pre) (hx:ys = pre++y::post) (h6:ys.length≤6):out.toArray.size≤sizeLine∧out.length≤6:=by
  have e:=congrArg List.length hx
  simp only [List.length_append,List.length_cons] at e
  rw [List.size_toArray,h.length]
  exact ⟨Nat.le_trans (by (first | lia | omega):pre.length≤6) (by rw [sizeLine_eq];decide),by (first | lia | omega)⟩
theorem OutA.val_of {add:Led} {v sk o u:Value} {y:Str} (h:OutA add v sk o y) (hy:y≠Str.ofString "...") (e:valA v sk y = u):o = u:=by
  cases h with
  | dots _=>exact absurd rfl hy
  | val _=>exact e
theorem OutA.dots_of {add:Led} {v sk o:Value} (h:OutA add v sk o (Str.ofString "...")):∃ r kr,o = .ref r∧(r,listOf #[] kr)∈add:=by
  generalize hy:Str.ofString "..." = y at h
  cases h with
  | dots a=>exact ⟨_,_,rfl,a⟩
  | val a=>exact absurd hy.symm a
theorem valA_x {v sk:Value}:valA v sk (Str.ofString "x") = v:=if_pos rfl
theorem valA_na {v sk:Value}:valA v sk (Str.ofString "na.rm") = sk:=(if_neg (by decide +kernel)).trans (if_pos rfl)
theorem valA_o {v sk:Value} {y:Str} (h1:y≠Str.ofString "x") (h2:y≠Str.ofString "na.rm"):valA v sk y = .none:=(if_neg h1).trans (if_neg h2)
theorem OutA.none_of {add:Led} {v sk o:Value} {y:Str} (h:OutA add v sk o y) (hy:y≠Str.ofString "...") (h1:y≠Str.ofString "x") (h2:y≠Str.ofString "na.rm"):o = .none:=h.val_of hy (valA_o h1 h2)
theorem tkAll_cons {α:Type} {R:Value→α→Prop} {vs:List Value} {x:α} {xs:List α} (h:All2 R vs (x::xs)):∃ v r,vs = v::r∧R v x∧All2 R r xs:=by
  cases h with | cons a b=>exact ⟨_,_,rfl,a,b⟩
theorem tkAll_nil {α:Type} {R:Value→α→Prop} {vs:List Value} (h:All2 R vs ([]:List α)):vs = []:=by
  cases h;rfl
theorem out3 {add:Led} {v sk:Value} {out:List Value} (h:All2 (OutA add v sk) out [Str.ofString "x", Str.ofString "...", Str.ofString "na.rm"]):∃ r kr,out = [v,.ref r,sk]∧(r,listOf #[] kr)∈add:=by
  obtain ⟨a,_,rfl,o1,h⟩:=tkAll_cons h
  obtain ⟨b,_,rfl,o2,h⟩:=tkAll_cons h
  obtain ⟨c,_,rfl,o3,h⟩:=tkAll_cons h
  obtain ⟨r,kr,e2,m2⟩:=o2.dots_of
  rw [tkAll_nil h,o1.val_of (by decide +kernel) valA_x,e2,o3.val_of (by decide +kernel) valA_na]
  exact ⟨r,kr,rfl,m2⟩
theorem out4 {add:Led} {v sk:Value} {out:List Value} (h:All2 (OutA add v sk) out [Str.ofString "x", Str.ofString "y", Str.ofString "na.rm", Str.ofString "use"]):out = [v,.none,sk,.none]:=by
  obtain ⟨a,_,rfl,o1,h⟩:=tkAll_cons h
  obtain ⟨b,_,rfl,o2,h⟩:=tkAll_cons h
  obtain ⟨c,_,rfl,o3,h⟩:=tkAll_cons h
  obtain ⟨d,_,rfl,o4,h⟩:=tkAll_cons h
  rw [tkAll_nil h,o1.val_of (by decide +kernel) valA_x,o2.none_of (by decide +kernel) (by decide +kernel) (by decide +kernel),o3.val_of (by decide +kernel) valA_na,o4.none_of (by decide +kernel) (by decide +kernel) (by decide +kernel)]
theorem out5 {add:Led} {v sk:Value} {out:List Value} (h:All2 (OutA add v sk) out [Str.ofString "x", Str.ofString "probs", Str.ofString "na.rm", Str.ofString "names", Str.ofString "type"]):out = [v,.none,sk,.none,.none]:=by
  obtain ⟨a,_,rfl,o1,h⟩:=tkAll_cons h
  obtain ⟨b,_,rfl,o2,h⟩:=tkAll_cons h
  obtain ⟨c,_,rfl,o3,h⟩:=tkAll_cons h
  obtain ⟨d,_,rfl,o4,h⟩:=tkAll_cons h
  obtain ⟨e,_,rfl,o5,h⟩:=tkAll_cons h
  rw [tkAll_nil h,o1.val_of (by decide +kernel) valA_x,o2.none_of (by decide +kernel) (by decide +kernel) (by decide +kernel),o3.val_of (by decide +kernel) valA_na,o4.none_of (by decide +kernel) (by decide +kernel) (by decide +kernel),o5.none_of (by decide +kernel) (by decide +kernel) (by decide +kernel)]
section
variable (B:Below A₀ base outer h₀) (F:Fr h₀ L hpS m) (X:(Mine.hd.heap_1 (World.params w)).In h₀) (N:News h₀ L hpS news) (T:Top p loose mean mg mb h₀) (hk:cs.kind = .function)
include B F X N T hk
theorem matchA_ct {names:List Str} {vs:List Value} {v sk sv:Value} {fl al:Addr} {k:Nat} (h1:ArgsIn news al v sk) (h0:(fl,listOf vs.toArray k)∈news) (h5:All2 StrR vs (Str.ofString "x" :: names)) (hn:names.contains (Str.ofString "x") = false)
  (hnd:(Str.ofString "x" :: names).Nodup) (hna:(Str.ofString "x" :: names).contains (Str.ofString "na.rm") = true)
  (hd:dp + 14 < recursionLimit) (hu:un + 120 < cLine)
  (ret:∀ (r p l:Addr) (o:Obj) (kr kt ka:Nat) (kvs:List (Str×Value)) (D:List (PyData×PyData)) (its:List Value) h tk add,Fr h₀ L h m→News h₀ L h (add++news)→(∀ p∈add,∀ q∈news,q.1≠p.1)→(r,({ cls:=.type "tuple", data:=.seq #[.ref p,.ref l] kt }:Obj))∈add→(p,o)∈add→(p == sysModules) = false→o.IsDictOf (strKind prog w) kvs→PyProof.V.FlatPairs PyData.str kvs D→(l,listOf #[] kr)∈add→(al,listOf its.toArray ka)∈news→(∀ y,PlA news its D y (valA v sk y))→Q (.ref r) ⟨h,GC,DC,tk,OC⟩) :
  wpAny (model prog w) (ktrTop dp un gd cn cs L a ccd cl outer) (call (.ref 486) [.ref fl,.ref al,sv]) Q E ⟨hpS,GC,DC,tkS,OC⟩:=by
  cases h1 with
  | one a b =>
    refine match0_ct B F X N T hk h0 a b h5 hn hd hu fun u s' r=>?_
    obtain ⟨h9,tk9,add9,rfl,F9,N9,l9,r,p,o,l,q,kr,kt,rfl,m1,m2,lo,⟨dI,dF⟩,m3⟩:=r
    refine ret r p l o kr kt _ _ _ [_] _ _ add9 F9 N9 l9 m1 m2 lo dI dF m3 a fun y=>?_
    by_cases hy:y = Str.ofString "x"
    · subst hy
      exact .at (i:=0) rfl (by decide) (by decide) rfl b
    · have e:valA v .none y = .none:=by unfold valA;rw [if_neg hy];split<;>rfl
      rw [e]
      exact .no (lookD_ne hy)
  | two a b c =>
    refine match1_ct B F X N T hk h0 a c b h5 hn hnd hna hd hu fun u s' r=>?_
    obtain ⟨h9,tk9,add9,rfl,F9,N9,l9,r,p,o,l,q,q2,kr,kt,rfl,m1,m2,lo,⟨dI,dF⟩,m3⟩:=r
    refine ret r p l o kr kt _ _ _ [_,_] _ _ add9 F9 N9 l9 m1 m2 lo dI dF m3 a fun y=>?_
    by_cases hz:y = Str.ofString "na.rm"
    · subst hz
      exact .at (i:=1) rfl (by decide) (by decide) rfl b
    · by_cases hy:y = Str.ofString "x"
      · subst hy
        exact .at (i:=0) rfl (by decide) (by decide) rfl c
      · unfold valA
        rw [if_neg hy,if_neg hz]
        exact .no ((lookD_ne hz).trans (lookD_ne hy))
end
end
example:True:=by
  k_with "bn call ref" => ((k_here;(with_reducible refine (?_:wpAny _ _ (PySem.call (Value.ref 486) _ _) _ _ _));k_dflt (refine' matchA_ct ?B__ ?F__ ?X__ ?N__ ?T__ ?k__ ?h1__ ?h0__ ?h5__ ?hn__ ?hnd__ ?hna__ ?hd__ ?hu__ ?_;(case B__=>k_asm);(case F__=>k_asm);(case X__=>k_asm);(case T__=>k_asm);(case N__=>k_asm);(case k__=>first | eq_refl | assumption);(case h1__=>exact ArgsIn.mono (by assumption) (by intro p_ h_;k_mem));(case h0__=>k_mem);(case h5__=>first | with_reducible assumption | assumption);(case hn__=>first | with_reducible assumption | assumption);(case hnd__=>first | with_reducible assumption | assumption);(case hna__=>first | with_reducible assumption | assumption);(case hd__=>ktr_room);(case hu__=>ktr_units);k_whole;intro r9_ p9_ l9_ o9_ kr9_ kt9_ ka9_ kvs9_ D9_ its9_ h9_ tk9_ add9_ F9_ N9_ ap9_ mr9_ mp9_ lo9_ dI9_ dF9_ ml9_ ma9_ pl9_)))
  k_with "bn exec For Name Name cons nil" => ((k_here;k_dflt (refine' For_invVF ?F__ ?k1__ ?k2__ ?_;(case F__=>k_asm);(case k1__=>eq_refl);(case k2__=>eq_refl))))
  k_with "bn pyIter ref" => (fail "stop here")
  k_with "bn compareOp In str ref" => ((k_here;k_dflt first | (refine' in_yes ?T__ ?l__ ?_;(case T__=>k_tabat);(case l__=>first | with_reducible assumption | assumption);k_whole) | (refine' in_no ?T__ ?l__ ?_;(case T__=>k_tabat);(case l__=>first | with_reducible assumption | assumption);k_whole)))
  k_with "bn subscriptTail Name" => ((k_here;k_dflt (refine' item_int ?T__ ?l__ ?_;(case T__=>k_tabat);(case l__=>first | with_reducible assumption | assumption);k_whole;intro t9_)))
  k_with "bn subscriptTail Name Subscript ref int" => ((k_here;k_dflt (refine' item_l ?N__ ?m__ ?a__ ?b__ ?c__ ?_;(case N__=>k_asm);(case m__=>k_mem);(case a__=>first | with_reducible assumption | assumption);(case b__=>first | with_reducible assumption | assumption);(case c__=>first | with_reducible assumption | assumption);k_whole)))
  k_with "bn call type:list" => ((k_here;(with_reducible refine (?_:wpAny _ _ (call (Value.type _) [Value.ref _]) _ _ _));k_dflt (refine' kup_listOf ?F__ ?N__ ?b__ ?e__ ?_ ?z__;(case F__=>k_asm);(case N__=>k_asm);(case b__=>k_mem);(case e__=>exact List.toList_toArray);(case z__=>exact sizeV (by assumption));k_whole;intro D'_ c'_ h'_ F'_ N'_ l1_;(try k_lt l1_))))
  k_with "bn CompSrc" => ((k_here;k_dflt (refine LCg.CompSrc.ledger (its:=#[]) (by rfl) (by k_asm) (by k_asm) (by k_mem) (Nat.zero_le _) ?_;intro g'_;refine LCg.CompRest.zero ?_)))
  k_with "bn ALLNE" => (first | assumption | exact List.forall_mem_nil _ | exact (fun p hp=>Nat.ne_of_lt ((by assumption:∀ p:Addr×Obj,p∈_→@LT.lt Nat _ p.1 _) p hp)) | (refine' List.forall_mem_cons.mpr ⟨?_,?_⟩;(first | assumption | exact Ne.symm (by assumption) | k_ne);k_extra "@ALLNE") | (refine' List.forall_mem_append.mpr ⟨?_,?_⟩<;>k_extra "@ALLNE") | exact (fun p hp=>off1_mem (And.right (by assumption)) p (List.mem_append_right _ hp)) | (refine OwnOff.ne (by assumption) ?_;k_extra "@INMAP"))
  trivial
section
local macro_rules (kind := PySem.W.tacticK_extra_) | s => mq "0 bn bb ba 7 m l k t j q h g f e d c o a" s

section
variable (B:Below A₀ base outer h₀) (F:Fr h₀ L hpS m) (X:(Mine.hd.heap_1 (World.params w)).In h₀) (N:News h₀ L hpS news) (T:Top p loose mean mg mb h₀) (hk:cs.kind = .function)
include B F X N T hk
theorem takeN_ct {names:List Str} {vs:List Value} {v sk:Value} {al fl:Addr} {k:Nat} (h1:ArgsIn news al v sk) (h0:(fl,listOf vs.toArray k)∈news) (h5:All2 StrR vs (Str.ofString "x" :: names)) (hn:names.contains (Str.ofString "x") = false)
  (hnd:(Str.ofString "x" :: names).Nodup) (hna:(Str.ofString "x" :: names).contains (Str.ofString "na.rm") = true)
  (h6:(Str.ofString "x" :: names).length≤6) (hd:dp + 16 < recursionLimit) (hu:un + 140 < cLine)
  (ret:∀ (D:Addr) (out:List Value) (kD:Nat) h tk add,Fr h₀ L h m→News h₀ L h (add++news)→(∀ p∈add,∀ q∈news,q.1≠p.1)→(D,listOf out.toArray kD)∈add→All2 (OutA add v sk) out (Str.ofString "x" :: names)→Q (.ref D) ⟨h,GC,DC,tk,OC⟩) :
  wpAny (model prog w) (ktrTop dp un gd cn cs L a ccd cl outer) (call (.ref 499) [.ref al,.ref fl]) Q E ⟨hpS,GC,DC,tkS,OC⟩:=by
  have h7:=And.intro h5 h6
  k_extra "@ENTERC"
  k_steps
  rename ∀ y,PlA _ _ _ y _=>pl9
  rename ∀ p:Addr×Obj,p∈_→∀ q:Addr×Obj,q∈_→q.1≠p.1=>ap9
  rename ∀ p:Addr×Obj,p∈_++_→@LT.lt Nat _ p.1 _=>l1
  k_dflt (refine forL (hd₀:=[_]) (news:=_++_::_::news) [] (fun pre=>TkSt news _ v sk pre) (by rfl) (by k_asm) (by k_asm) (by k_mem) h5 (.mk .nil (fun _ h=>nomatch h) (fun _ h=>nomatch h)) ?_ ?_)
  · constructor
    intro pre y post v1 hd h tk own u hx hv hst hoff F1 N1
    cases hv with
    | mk _ ty =>
    cases hst with
    | mk ho ha hb =>
    dsimp only [List.cons_append] at N1
    have hz:=three_ne hb (fun p hp=>Nat.ne_of_lt (l1 p hp)) (hoff.ne (.head _))
    have hsz:=sizeO ho hx h6
    have hsz1:=hsz.1
    have hsz2:=hsz.2
    by_cases hy:y = Str.ofString "..."
    · subst hy
      k_steps
      rename News _ _ _ _=>NN
      rename _≠_∧_=>o1
      simp only [List.push_toArray] at NN
      have o2:=off1_mem o1.2
      exact LEnd.put ((_,listOf _ _)::(_,listOf #[] _)::_) (by k_asm) NN (fun p h=>swap_ab h) (off_more hoff (fun p hp=>o2 p (List.mem_append_right _ hp))) (fun z h1 _=>out_of h1) (.mk (.snoc (ho.imp fun _ _ q=>q.mono fun p hp=>.tail _ hp) (.dots (.head _))) (List.forall_mem_cons.mpr ⟨fun q hq=>o2 q (List.mem_append_left _ (List.mem_append_right _ (List.mem_append_right _ (.tail _ (.tail _ hq))))),ha⟩) (List.forall_mem_cons.mpr ⟨Ne.symm o1.1,hb⟩))
    · have hp:=pl9 y
      generalize hv9:valA v sk y = v9 at hp
      cases hp with
      | no hl =>
        k_steps
        rename News _ _ _ _=>NN
        simp only [List.push_toArray] at NN
        exact LEnd.put ((_,listOf _ _)::_) (by k_asm) NN (fun p h=>h) (off_same hoff) (fun z h1 _=>out_of h1) (.mk (.snoc ho (hv9▸.val hy)) ha hb)
      | «at» hl q1 q2 q3 q4 =>
        k_steps
        rename News _ _ _ _=>NN
        simp only [List.push_toArray] at NN
        exact LEnd.put ((_,listOf _ _)::_) (by k_asm) NN (fun p h=>h) (off_same hoff) (fun z h1 _=>out_of h1) (.mk (.snoc ho (hv9▸.val hy)) ha hb)
  · constructor
    intro hd u h tk hst F1 N1
    cases hst with
    | mk ho ha hb =>
    k_steps
    exact ret _ _ _ _ _ ((_,_)::_) (by k_asm) (news_sub (by k_asm) (fun p h=>(List.mem_append.mp h).elim (fun h=>List.mem_append_left _ h) fun h=>List.mem_append_right _ (List.mem_append_right _ (.tail _ (.tail _ h))))) (List.forall_mem_cons.mpr ⟨fun q hq=>Nat.ne_of_lt (l1 q (List.mem_append_right _ (.tail _ (.tail _ hq)))),ha⟩) (.head _) (ho.imp fun _ _ q=>q.mono fun p hp=>.tail _ hp)
end
end
section
local macro_rules (kind := PySem.W.tacticK_extra_) | s => mq "0" s

section
variable (B:Below A₀ base outer h₀) (F:Fr h₀ L hpS m) (X:(Mine.hd.heap_1 (World.params w)).In h₀) (N:News h₀ L hpS news) (T:Top p loose mean mg mb h₀) (hk:cs.kind = .function)
include B F X N T hk
theorem takeA1_ct {v sk:Value} {al fl:Addr} {k2:Nat} {u1 u2 u3:Tok} (h1:ArgsIn news al v sk)
  (h3:(fl,listOf #[.str (Str.ofString "x") u1,.str (Str.ofString "...") u2,.str (Str.ofString "na.rm") u3] k2)∈news)
  (hd:dp + 16 < recursionLimit) (hu:un + 140 < cLine)
  (ret:∀ u s',Ret h₀ L m news (fun add u=>∃ D r k k',u = .ref D∧(D,listOf #[v,.ref r,sk] k)∈add∧(r,listOf #[] k')∈add) u s'→Q u s') :
  wpAny (model prog w) (ktrTop dp un gd cn cs L a ccd cl outer) (call (.ref 499) [.ref al,.ref fl]) Q E ⟨hpS,GC,DC,tkS,OC⟩:=by
  refine takeN_ct B F X N T hk h1 h3 strs3 (by decide +kernel) (by decide +kernel) (by decide +kernel) (by decide) hd hu fun D out kD h tk add F' N' ap mD ho=>?_
  obtain ⟨r,kr,e,m2⟩:=out3 ho
  exact ret _ _ ⟨h,tk,add,rfl,F',N',ap,D,r,kD,kr,rfl,e▸mD,m2⟩
theorem takeA3_ct {v sk:Value} {al fl:Addr} {k2:Nat} {u1 u2 u3 u4:Tok} (h1:ArgsIn news al v sk)
  (h3:(fl,listOf #[.str (Str.ofString "x") u1,.str (Str.ofString "y") u2,.str (Str.ofString "na.rm") u3,.str (Str.ofString "use") u4] k2)∈news)
  (hd:dp + 16 < recursionLimit) (hu:un + 140 < cLine)
  (ret:∀ u s',Ret h₀ L m news (fun add u=>∃ D k,u = .ref D∧(D,listOf #[v,.none,sk,.none] k)∈add) u s'→Q u s') :
  wpAny (model prog w) (ktrTop dp un gd cn cs L a ccd cl outer) (call (.ref 499) [.ref al,.ref fl]) Q E ⟨hpS,GC,DC,tkS,OC⟩:=by
  refine takeN_ct B F X N T hk h1 h3 strs4 (by decide +kernel) (by decide +kernel) (by decide +kernel) (by decide) hd hu fun D out kD h tk add F' N' ap mD ho=>?_
  exact ret _ _ ⟨h,tk,add,rfl,F',N',ap,D,kD,rfl,out4 ho▸mD⟩
theorem takeA4_ct {v sk:Value} {al fl:Addr} {k2:Nat} {u1 u2 u3 u4 u5:Tok} (h1:ArgsIn news al v sk)
  (h3:(fl,listOf #[.str (Str.ofString "x") u1,.str (Str.ofString "probs") u2,.str (Str.ofString "na.rm") u3,.str (Str.ofString "names") u4,.str (Str.ofString "type") u5] k2)∈news)
  (hd:dp + 16 < recursionLimit) (hu:un + 140 < cLine)
  (ret:∀ u s',Ret h₀ L m news (fun add u=>∃ D k,u = .ref D∧(D,listOf #[v,.none,sk,.none,.none] k)∈add) u s'→Q u s') :
  wpAny (model prog w) (ktrTop dp un gd cn cs L a ccd cl outer) (call (.ref 499) [.ref al,.ref fl]) Q E ⟨hpS,GC,DC,tkS,OC⟩:=by
  refine takeN_ct B F X N T hk h1 h3 strs5 (by decide +kernel) (by decide +kernel) (by decide +kernel) (by decide) hd hu fun D out kD h tk add F' N' ap mD ho=>?_
  exact ret _ _ ⟨h,tk,add,rfl,F',N',ap,D,kD,rfl,out5 ho▸mD⟩
end
end
section
local macro_rules (kind := PySem.W.tacticK_extra_) | s => mq "0 m l k t j q h g f e d c p o a" s

section
variable (B:Below A₀ base outer h₀) (F:Fr h₀ L hpS m) (X:(Mine.hd.heap_1 (World.params w)).In h₀) (N:News h₀ L hpS news) (T:Top p loose mean mg mb h₀) (hk:cs.kind = .function)
include B F X N T hk
theorem inheritsF_ct {x nl:Addr} {l:Value} {u1:Tok} {k:Nat} (h1:FacIn w news x l) (h3:(nl,listOf #[.str (Str.ofString "factor") u1] k)∈news)
  (hd:dp + 14 < recursionLimit) (hu:un + 120 < cLine) (ret:∀ h' tk',Fr h₀ L h' m→News h₀ L h' news→Q (.bool true) ⟨h',GC,DC,tk',OC⟩) :
  wpAny (model prog w) (ktrTop dp un gd cn cs L a ccd cl outer) (call (.ref 87) [.ref x,.ref nl]) Q E ⟨hpS,GC,DC,tkS,OC⟩:=by
  obtain ⟨d,ad,cv,cd,cwl,lv,t1,t2,t3,t4,t5,tk,c1,c2,c3,c4,c5,ck,w1,w2,k2,ao,its,a1,a2,a3,a4,a5,a6,a7,a8,a9⟩:=h1
  exact inherits_fac_ct B F X N T hk a1 a2 h3 a3 a4 a5 a6 a7 a8 a9 hd hu ret
theorem is_set_ct {v:Value} {b:Bool} (hv:SkipV w news v b) (hd:dp + 6 < recursionLimit) (hu:un + 60 < cLine) (ret:∀ h' tk',Fr h₀ L h' m→News h₀ L h' news→Q (.bool b) ⟨h',GC,DC,tk',OC⟩) :
  wpAny (model prog w) (ktrTop dp un gd cn cs L a ccd cl outer) (call (.ref 981) [v]) Q E ⟨hpS,GC,DC,tkS,OC⟩:=by
  cases hv
  · k_extra "@ENTER"
    k_steps
    all_goals exact ret _ _ (by k_asm) (news_sub (by k_asm) (by intro p h;k_mem))
  · k_extra "@ENTER"
    k_steps
    all_goals first | (first | lia | omega) | (exfalso;simp_all;done) | exact ret _ _ (by k_asm) (news_sub (by k_asm) (by intro p h;k_mem))
end
end
example:True:=by
  k_with "bo call ref" => ((k_here;(with_reducible refine (?_:wpAny _ _ (PySem.call (Value.ref _) _ _) _ _ _));k_extra "@ENTER"))
  k_with "bp call ref" => ((k_here;(with_reducible refine (?_:wpAny _ _ (PySem.call (Value.ref 117) [Value.str _ _] _) _ _ _));k_dflt (apply refusal_ct;k_extra "@HK1"; k_extra "@HK2"; (intro e9_ t9_ dx9_ tk9_ h9_ tk8_ F9_ N9_ l9_ m9_ o9_);k_extra "@HK3")))
  k_with "bp RE" => ((refine RaisedX.sub (by assumption) ?_;intro p_ h_;(rcases List.mem_cons.mp h_ with e_ | h_);(subst e_;exact List.Mem.head _);refine List.Mem.tail _ ?_;k_mem))
  k_with "bp exec Raise some none" => ((k_here;k_dflt (refine Raise_X (by rfl) ?_)))
  k_with "bp Exists" => ((k_dflt (refine' ⟨_,_,_,rfl,?X__,?he__,?_⟩;(case X__=>exact inX (by k_asm) (by k_asm));(case he__=>exact getN (by k_asm) (by k_mem)))))
  k_with "bp leaving ref" => ((k_here;k_dflt first | (refine' up_X0 ?K__ ?FG__ ?F__ rfl ?hk__ ?N__ ?ne__ ?_;(case K__=>first | with_reducible assumption | assumption);(case FG__=>first | with_reducible assumption | assumption);(case F__=>k_asm);(case hk__=>eq_refl);(case N__=>k_asm);(case ne__=>exact ex_ne (by assumption) (by assumption) (by assumption));k_whole;intro h'_ R'_) | (refine' up_X1 ?K__ ?FG__ rfl ?R__ ?_;(case K__=>first | with_reducible assumption | assumption);(case FG__=>first | with_reducible assumption | assumption);(case R__=>first | with_reducible assumption | assumption);k_whole;intro h'_ R'_)))
  k_with "bq call ref" => ((k_here;(with_reducible refine (?_:wpAny _ _ (PySem.call (Value.ref 499) [Value.ref _,Value.ref _] _) _ _ _));k_dflt (apply takeA1_ct;k_extra "@HK1"; (first | assumption | exact ArgsIn.mono (by assumption) (by intro p_ h_;k_mem));(k_mem);k_extra "@HK2"; (refine retK4a2 ?_;intro D9_ rr9_ k9_ kk9_ h9_ tk9_ add9_ F9_ N9_ l9_ mr9_ mp9_);k_extra "@HK3")))
  k_with "br call ref" => ((k_here;(with_reducible refine (?_:wpAny _ _ (PySem.call (Value.ref 87) [Value.ref _,Value.ref _] _) _ _ _));k_dflt (apply inheritsF_ct;k_extra "@HK1"; (first | assumption | exact FacIn.mono (by assumption) (by intro p_ h_;k_mem));(k_mem);k_extra "@HK2"; (intro h9_ tk9_ F9_ N9_);k_extra "@HK3")))
  trivial
section
local macro_rules (kind := PySem.W.tacticK_extra_) | s => mq "0 br bq bp bo l k t j q h g f e d c p o a" s

section
variable (B:Below A₀ base outer h₀) (F:Fr h₀ L hpS m) (X:(Mine.hd.heap_1 (World.params w)).In h₀) (N:News h₀ L hpS news) (T:Top p loose mean mg mb h₀) (hk:cs.kind = .function)
include B F X N T hk
theorem numeric_fac_ct {x al:Addr} {l sk:Value} {fs:Str} {tf:Tok} (h1:ArgsIn news al (.ref x) sk) (h2:FacIn w news x l)
  (hd:dp + 18 < recursionLimit) (hu:un + 160 < cLine)
  (retE:∀ e d tk h' tk',RaisedX h₀ L m base (envX cn cs L a ccd cl::outer) e d ((d,exD w tk (.str fs tf))::news) h'→E (.ref e) ⟨h',GC,DC,tk',OC⟩) :
  wpAny (model prog w) (ktrTop dp un gd cn cs L a ccd cl outer) (call (.ref 1000) [.ref al,.str fs tf]) Q E ⟨hpS,GC,DC,tkS,OC⟩:=by
  k_extra "@ENTER"
  k_steps
  all_goals exact retE _ _ _ _ _ (by k_extra "@RE")
end
end
example:True:=by
  k_with "bs call ref" => ((k_here;(with_reducible refine (?_:wpAny _ _ (PySem.call (Value.ref 1000) _ _) _ _ _));k_dflt (apply numeric_fac_ct;k_extra "@HK1"; (first | assumption | exact ArgsIn.mono (by assumption) (by intro p_ h_;k_mem));(first | assumption | exact FacIn.mono (by assumption) (by intro p_ h_;k_mem));k_extra "@HK2"; (intro e9_ d9_ tk9_ h9_ tk8_ R9_);k_extra "@HK3")))
  trivial
section
local macro_rules (kind := PySem.W.tacticK_extra_) | s => mq "0 bs bp bo l k t j q h g f e d c p o a" s

section
variable (B:Below A₀ base outer h₀) (F:Fr h₀ L hpS m) (X:(Mine.hd.heap_1 (World.params w)).In h₀) (N:News h₀ L hpS news) (T:Top p loose mean mg mb h₀) (hk:cs.kind = .function)
include B F X N T hk
theorem median_fac_ct {x al:Addr} {l sk i r:Value} (h1:ArgsIn news al (.ref x) sk) (h2:FacIn w news x l)
  (hd:dp + 20 < recursionLimit) (hu:un + 180 < cLine)
  (retE:∀ tf e d tk h' tk',RaisedX h₀ L m base (envX cn cs L a ccd cl::outer) e d ((d,exD w tk (.str (Str.ofString "need numeric data") tf))::news) h'→E (.ref e) ⟨h',GC,DC,tk',OC⟩) :
  wpAny (model prog w) (ktrTop dp un gd cn cs L a ccd cl outer) (call (.ref 1019) [i,.ref al,r]) Q E ⟨hpS,GC,DC,tkS,OC⟩:=by
  k_extra "@ENTER"
  k_steps
  all_goals exact retE _ _ _ _ _ _ (by k_extra "@RE")
theorem sd_fac_ct {x al:Addr} {l sk i r:Value} (h1:ArgsIn news al (.ref x) sk) (h2:FacIn w news x l)
  (hd:dp + 20 < recursionLimit) (hu:un + 180 < cLine)
  (retE:∀ tf e d tk h' tk',RaisedX h₀ L m base (envX cn cs L a ccd cl::outer) e d ((d,exD w tk (.str (Str.ofString "Calling var(x) on a factor x is defunct.") tf))::news) h'→E (.ref e) ⟨h',GC,DC,tk',OC⟩) :
  wpAny (model prog w) (ktrTop dp un gd cn cs L a ccd cl outer) (call (.ref 1038) [i,.ref al,r]) Q E ⟨hpS,GC,DC,tkS,OC⟩:=by
  k_extra "@ENTER"
  k_steps
  all_goals exact retE _ _ _ _ _ _ (by k_extra "@RE")
end
end
example:True:=by
  k_with "bt call ref" => ((k_here;(with_reducible refine (?_:wpAny _ _ (PySem.call (Value.ref 499) [Value.ref _,Value.ref _] _) _ _ _));k_dflt (apply takeA4_ct;k_extra "@HK1"; (first | assumption | exact ArgsIn.mono (by assumption) (by intro p_ h_;k_mem));(k_mem);k_extra "@HK2"; (refine retK2a1 ?_;intro D9_ k9_ h9_ tk9_ add9_ F9_ N9_ l9_ mr9_);k_extra "@HK3")))
  trivial
section
local macro_rules (kind := PySem.W.tacticK_extra_) | s => mq "0 br bt bp bo l k t j q h g f e d c p o a" s

section
variable (B:Below A₀ base outer h₀) (F:Fr h₀ L hpS m) (X:(Mine.hd.heap_1 (World.params w)).In h₀) (N:News h₀ L hpS news) (T:Top p loose mean mg mb h₀) (hk:cs.kind = .function)
include B F X N T hk
theorem quantile_fac_ct {x al:Addr} {l sk i r:Value} (h1:ArgsIn news al (.ref x) sk) (h2:FacIn w news x l)
  (hd:dp + 20 < recursionLimit) (hu:un + 180 < cLine)
  (retE:∀ tf e d tk h' tk',RaisedX h₀ L m base (envX cn cs L a ccd cl::outer) e d ((d,exD w tk (.str (Str.ofString "factors are not allowed") tf))::news) h'→E (.ref e) ⟨h',GC,DC,tk',OC⟩) :
  wpAny (model prog w) (ktrTop dp un gd cn cs L a ccd cl outer) (call (.ref 1045) [i,.ref al,r]) Q E ⟨hpS,GC,DC,tkS,OC⟩:=by
  k_extra "@ENTER"
  k_steps
  all_goals exact retE _ _ _ _ _ _ (by k_extra "@RE")
end
end
example:True:=by
  k_with "bu call ref" => ((k_here;(with_reducible refine (?_:wpAny _ _ (PySem.call (Value.ref 499) [Value.ref _,Value.ref _] _) _ _ _));k_dflt (apply takeA3_ct;k_extra "@HK1"; (first | assumption | exact ArgsIn.mono (by assumption) (by intro p_ h_;k_mem));(k_mem);k_extra "@HK2"; (refine retK2a1 ?_;intro D9_ k9_ h9_ tk9_ add9_ F9_ N9_ l9_ mr9_);k_extra "@HK3")))
  k_with "bv call ref" => ((k_here;(with_reducible refine (?_:wpAny _ _ (PySem.call (Value.ref 981) _ _) _ _ _));k_dflt (apply is_set_ct;k_extra "@HK1"; (first | assumption | exact SkipV.no | exact SkipV.mono (by assumption) (by intro p_ h_;k_mem));k_extra "@HK2"; (intro h9_ tk9_ F9_ N9_);k_extra "@HK3")))
  k_with "bw pyIter ref" => ((k_here;(rename Fr _ _ _ _=>lF');k_dflt (refine iter_tupTurns (vs:=[_,_]) (by rfl) lF' (by k_asm) (by exact List.Mem.head _) (by rfl) (by rfl) ?_);(clear lF');intro i'_ l1_))
  trivial
section
local macro_rules (kind := PySem.W.tacticK_extra_) | s => mq "0 bw bv br bu bp m l k t j q h g f e d c p o a" s

section
variable (B:Below A₀ base outer h₀) (F:Fr h₀ L hpS m) (X:(Mine.hd.heap_1 (World.params w)).In h₀) (N:News h₀ L hpS news) (T:Top p loose mean mg mb h₀) (hk:cs.kind = .function)
include B F X N T hk
theorem var_fac_ct {x al:Addr} {l sk i r:Value} (h1:ArgsIn news al (.ref x) sk) (h2:FacIn w news x l) {b:Bool} (h3:SkipV w news sk b)
  (hd:dp + 20 < recursionLimit) (hu:un + 180 < cLine)
  (retE:∀ tf e d tk h' tk',RaisedX h₀ L m base (envX cn cs L a ccd cl::outer) e d ((d,exD w tk (.str (Str.ofString "Calling var(x) on a factor x is defunct.") tf))::news) h'→E (.ref e) ⟨h',GC,DC,tk',OC⟩) :
  wpAny (model prog w) (ktrTop dp un gd cn cs L a ccd cl outer) (call (.ref 1031) [i,.ref al,r]) Q E ⟨hpS,GC,DC,tkS,OC⟩:=by
  k_extra "@ENTERC"
  k_steps
  all_goals exact retE _ _ _ _ _ _ (by k_extra "@RE")
end
end
noncomputable def Stay (h₀:Heap) (L:Addr) (m:Str→Option Value) (led:Led) (s':Shared):Prop:=∃ h' tk',s' = ⟨h',GC,DC,tk',OC⟩∧Fr h₀ L h' m∧News h₀ L h' led
theorem comp_filt {A:Around} {h₀:Heap} {L:Addr} {m:Str→Option Value} {env:Env} {ct elt:Expr} {x:Str} {scope:Scope} {cl:List (Str×Addr)} {hpS:Heap} {tkS:Nat} {its:List Value} {ax:Addr} {k:Nat} {news news₁:Led} {Fin:Shared→List Value→Led→Prop} {α:Type} {Rv:Value→α→Prop} {xs:List α} (pred:α→Bool)
    (hh:A.handled = none) (F:Fr h₀ L hpS m) (N:News h₀ L hpS news₁) (hs:∀ p∈news,p∈news₁) (hm:(ax,listOf its.toArray k)∈news) (hR:All2 Rv its xs) (h6:xs.length≤6)
    (turn:Held (∀ v y I oI C oC D ys m₂ (s':Shared) (E':Value→Shared→Prop),Rv v y→LCg.NsObj oC m₂→m₂ x = some v→Fr h₀ L s'.heap m→News h₀ L s'.heap ((I,oI)::(C,oC)::(D,LCg.lst ys)::news)→(∃ h tk,s' = ⟨h,GC,DC,tk,OC⟩) →
      wpAny (model prog w) A (isTrue ct (compEnvC scope cl C env) (eval ct (compEnvC scope cl C env))) (fun ok s''=>ok = pred y∧Stay h₀ L m ((I,oI)::(C,oC)::(D,LCg.lst ys)::news) s'') E' s'))
    (el:Held (∀ v y I oI C oC D ys m₂ (s':Shared) (E':Value→Shared→Prop),Rv v y→pred y = true→LCg.NsObj oC m₂→m₂ x = some v→Fr h₀ L s'.heap m→News h₀ L s'.heap ((I,oI)::(C,oC)::(D,LCg.lst ys)::news)→(∃ h tk,s' = ⟨h,GC,DC,tk,OC⟩) →
      wpAny (model prog w) A (eval elt (compEnvC scope cl C env)) (fun u s''=>u = v∧Stay h₀ L m ((I,oI)::(C,oC)::(D,LCg.lst ys)::news) s'') E' s'))
    (fin:Held (∀ g ys,All2 Rv ys (xs.filter pred)→Fin ⟨g,GC,DC,tkS,OC⟩ ys news)) :
    LCt.CompSrcT prog w A h₀ L m env ct elt x scope cl Fin (.ref ax) ⟨hpS,GC,DC,tkS,OC⟩:=by
  refine LCt.CompSrcT.ledger hh F (fun p hp=>N p (hs p hp)) hm (szL (Nat.le_trans (Nat.le_of_eq hR.length) (by assumption))) ?_
  intro g
  have hS:LCg.SrcAt h₀ ax its.toArray news:=.inr ⟨_,hm,rfl,_,rfl⟩
  have go:∀ k i ys,i + k = its.length→All2 Rv ys ((xs.take i).filter pred)→LCt.CompRestT prog w A h₀ L m env ct elt x scope cl ⟨g,GC,DC,tkS,OC⟩ (LCg.SrcAt h₀ ax its.toArray) (fun i v=>its.toArray[i]? = some v) (Fin ⟨g,GC,DC,tkS,OC⟩) k i ys news:=by
    intro k
    induction k with
    | zero =>
      intro i ys e r
      refine LCt.CompRestT.zero (fin.get g ys ?_)
      have e':i = xs.length:=by rw [← hR.length];exact e
      rw [e',List.take_length] at r
      exact r
    | succ k ih =>
      intro i ys e r
      refine LCt.CompRestT.succ ?_
      intro v I oI C oC D m₂ h tk E' hv hC hx F1 N1 off ne
      obtain ⟨y,e1,hy,e2⟩:=hR.get (by simpa using hv)
      refine wpAny_mono (turn.get v y I oI C oC D ys m₂ ⟨h,GC,DC,tk,OC⟩ E' hy hC hx F1 N1 ⟨_,_,rfl⟩) (fun ok s'' q=>?_) fun _ _ x=>x
      obtain ⟨rfl,h',tk',rfl,F',N'⟩:=q
      cases hp:pred y with
      | true =>
        rw [if_pos rfl]
        refine wpAny_mono (el.get v y I oI C oC D ys m₂ ⟨h',GC,DC,tk',OC⟩ E' hy hp hC hx F' N' ⟨_,_,rfl⟩) (fun u s'' q=>?_) fun _ _ x=>x
        obtain ⟨rfl,h2,tk2,rfl,F2,N2⟩:=q
        refine ⟨h2,tk2,news,rfl,F2,N2,off,hS,ih _ _ (by (first | lia | omega)) ?_⟩
        rw [e2,List.filter_append]
        simp only [List.filter_cons,hp,if_true,List.filter_nil]
        exact r.snoc hy
      | false =>
        rw [if_neg (by simp)]
        refine ⟨h',tk',news,rfl,F',N',off,hS,ih _ _ (by (first | lia | omega)) ?_⟩
        rw [e2,List.filter_append]
        simpa [List.filter_cons,hp] using r
  exact go _ _ _ (by simp) (by simpa using All2.nil)
noncomputable def pres (xs:List (Option Int)):List (Option Int):=xs.filter (·.isSome)
example:True:=by
  k_with "bx eval ListComp" => ((k_here;k_dflt (refine LCt.ListComp_T (F₀:=by k_asm) (by with_unfolding_all rfl) (by decide) (by rfl) (by decide) (by rfl) ?_)))
  k_with "bx exec Assign cons ListComp" => ((k_here;k_dflt (refine LCt.Assign_ListComp_T (F₀:=by k_asm) (by rfl) (by with_unfolding_all rfl) (by with_unfolding_all rfl) (by decide) (by rfl) (by decide) (by rfl) (by rfl) (by rfl) ?_)))
  k_with "bx CompSrcT" => ((k_here;k_dflt (refine' comp_filt (Rv:=OptI) (fun y=>y.isSome) ?hh__ ?F__ ?N__ ?hs__ ?hm__ ?hR__ ?h6__ ?_ ?_ ?_;(case N__=>k_asm);(case hs__=>exact fun _ h=>h);(case hR__=>first | with_reducible assumption | assumption);(case h6__=>first | with_reducible assumption | assumption);(case hm__=>k_mem);(case hh__=>eq_refl);(case F__=>k_asm))))
  k_with "by eval Name" => ((k_here;(with_reducible refine (?_:wpAny _ _ (eval (Expr.Name _ _) (compEnvC _ _ _ _)) _ _ _));k_dflt (first | (refine' lcf_free ?N__ ?c__ ?m__ ?d__ ?_ ?a__ ?b__;(case b__=>eq_refl);(case a__=>eq_refl);(case N__=>k_asm);(case c__=>eq_refl);(case m__=>k_mem);(case d__=>eq_refl);k_whole) | refine LCgL.ld_global (by k_asm) (by k_asm) (by k_asm) (by k_is) ?_ | (refine' LCgL.ld_own ?N__ ?m__ ?o__ ?x__ ?_;(case x__=>first | with_reducible assumption | assumption);(case o__=>first | with_reducible assumption | assumption);(case N__=>k_asm);(case m__=>k_mem);k_whole))))
  trivial
section
local macro_rules (kind := PySem.W.tacticK_extra_) | s => mq "0 by bx m l k t j q h g f e d c p o a" s

section
variable (B:Below A₀ base outer h₀) (F:Fr h₀ L hpS m) (X:(Mine.hd.heap_1 (World.params w)).In h₀) (N:News h₀ L hpS news) (T:Top p loose mean mg mb h₀) (hk:cs.kind = .function)
include B F X N T hk
theorem without_no_ct {x:Addr} (hd:dp + 4 < recursionLimit) (hu:un + 32 < cLine) (ret:∀ h' tk',Fr h₀ L h' m→News h₀ L h' news→Q (.ref x) ⟨h',GC,DC,tk',OC⟩) :
  wpAny (model prog w) (ktrTop dp un gd cn cs L a ccd cl outer) (call (.ref 986) [.ref x,.bool false]) Q E ⟨hpS,GC,DC,tkS,OC⟩:=by
  k_extra "@ENTERC"
  k_steps
  all_goals exact ret _ _ (by k_asm) (news_sub (by k_asm) (by intro p h;k_mem))
theorem without_yes_ct {x d l:Addr} {t1 t2 t3 t4 t5 tk:Tok} {av:Value} {vs:List Value} {k:Nat} {xs:List (Option Int)}
  (h1:(x,instObj 262 d)∈news) (h2:(d,vecO w t1 t2 t3 t4 t5 (Str.ofString "integer") tk (.ref l) av)∈news) (h3:(l,listOf vs.toArray k)∈news) (h4:All2 OptI vs xs) (h5:xs.length≤6)
  (hd:dp + 6 < recursionLimit) (hu:un + 60 < cLine)
  (ret:∀ u s',Ret h₀ L m news (fun add u=>∃ x d l t1 t2 t3 t4 t5 tk ys k,u = .ref x∧(x,instObj 262 d)∈add∧(d,vecO w t1 t2 t3 t4 t5 (Str.ofString "integer") tk (.ref l) .none)∈add∧(l,listOf ys.toArray k)∈add∧All2 OptI ys (pres xs)) u s'→Q u s') :
  wpAny (model prog w) (ktrTop dp un gd cn cs L a ccd cl outer) (call (.ref 986) [.ref x,.bool true]) Q E ⟨hpS,GC,DC,tkS,OC⟩:=by
  k_extra "@ENTERC"
  k_steps
  · constructor
    intro v y I oI C oC D ys m₂ s' E' hv hC hx F1 N1 hst
    obtain ⟨g,tk,rfl⟩:=hst
    cases hv
    · k_steps
      all_goals exact ⟨_,_,rfl,by k_asm,news_sub (by k_asm) (by intro p h;k_mem)⟩
    · k_steps
      all_goals exact ⟨_,_,rfl,by k_asm,news_sub (by k_asm) (by intro p h;k_mem)⟩
  · constructor
    intro v y I oI C oC D ys m₂ s' E' hv hp hC hx F1 N1 hst
    obtain ⟨g,tk,rfl⟩:=hst
    k_steps
    all_goals exact ⟨_,_,rfl,by k_asm,news_sub (by k_asm) (by intro p h;k_mem)⟩
  · constructor
    intro g ys hy
    k_steps
    have l1:=(by assumption:_∧_∧_∧AllLt _ news)
    have l2:=(by assumption:@LT.lt Nat _ _ _)
    have o1:=(by assumption:_∧_∧LCg.Off1 _ news)
    exact ret _ _ (ret3 (by k_asm) (by k_asm) (by k_mem) (by k_mem) (by intro p h;k_mem) (fun q hq=>Nat.ne_of_lt (Nat.lt_trans (kst_ltOf l1.2.2.2 q hq) l2)) (fun q hq=>Nat.ne_of_lt (kst_ltOf l1.2.2.2 q hq)) (fun q hq=>off1_mem o1.2.2 q hq) ⟨_,_,_,_,_,_,_,_,_,_,_,rfl,.head _,.tail _ (.head _),.tail _ (.tail _ (.head _)),hy⟩)
end
end
example:True:=by
  k_with "bz exec For Name Name cons nil" => ((k_here;k_dflt (refine' For_invVF ?F__ ?k1__ ?k2__ ?_;(case F__=>k_asm);(case k1__=>eq_refl);(case k2__=>eq_refl))))
  k_with "bz pyIter ref" => ((k_dflt (refine' for0 [] (fun y=>Option.isSome y = true) ?hh__ ?F__ ?N__ ?hs__ ?hm__ ?hR__ ?_ ?_;(case hm__=>first | with_reducible assumption | assumption);(case hR__=>first | with_reducible assumption | assumption);(case hh__=>eq_refl);(case F__=>k_asm);(case N__=>k_asm);(case hs__=>(intro _ h_;first | exact h_ | exact .tail _ h_)))))
  trivial
section
local macro_rules (kind := PySem.W.tacticK_extra_) | s => mq "0 k bz z y j e d c o a" s

section
variable (B:Below A₀ base outer h₀) (F:Fr h₀ L hpS m) (X:(Mine.hd.heap_1 (World.params w)).In h₀) (N:News h₀ L hpS news) (T:Top p loose mean mg mb h₀) (hk:cs.kind = .function)
include B F X N T hk
theorem lacking_ct {l:Addr} {vs:List Value} {k:Nat} {xs:List (Option Int)}
  (h3:(l,listOf vs.toArray k)∈news) (h4:All2 (OptO news) vs xs) (hd:dp + 6 < recursionLimit) (hu:un + 60 < cLine)
  (ret:∀ h' tk',Fr h₀ L h' m→News h₀ L h' news→Q (.bool (xs.any (·.isNone))) ⟨h',GC,DC,tk',OC⟩) :
  wpAny (model prog w) (ktrTop dp un gd cn cs L a ccd cl outer) (call (.ref 948) [.ref l]) Q E ⟨hpS,GC,DC,tkS,OC⟩:=by
  k_extra "@ENTER"
  k_steps
  · constructor
    intro pre y post v h tk own u e hv hS F1 N1
    cases y with
    | none =>
      cases hv
      rw [show xs.any (·.isNone) = true from by rw [e];simp] at ret
      k_steps
      all_goals dsimp only [ForEnd0]
      all_goals k_steps
      all_goals exact ret _ _ (by k_asm) (news_sub (by k_asm) (by intro p h;k_mem))
    | some i =>
      cases hv
      k_steps
      all_goals exact ⟨rfl,_,_,_,rfl,by k_asm,news_sub (by k_asm) (by intro p h;k_mem),fun z h1 h2=>by rw [if_neg h1,if_neg (by simp)]⟩
  · constructor
    intro u h tk hS F1 N1
    rw [show xs.any (·.isNone) = false from by simp only [List.any_eq_false];intro z hz;have h9:=hS z hz;cases z with
      | none=>cases h9
      | some _=>simp] at ret
    k_steps
    all_goals exact ret _ _ (by k_asm) (news_sub (by k_asm) (by intro p h;k_mem))
end
end
example:True:=by
  k_with "b0 call ref" => ((k_here;(with_reducible refine (?_:wpAny _ _ (PySem.call (Value.ref 901) [Value.ref _] _) _ _ _));k_dflt (apply mean_items_ct;k_extra "@HK1"; (k_mem);(assumption);(assumption);(assumption);(assumption);k_extra "@HK2"; (refine retK ?_;intro u9_ h9_ tk9_ add9_ F9_ N9_ l9_ r9_);k_extra "@HK3")))
  k_with "b1 call ref" => ((k_here;(with_reducible refine (?_:wpAny _ _ (PySem.call (Value.ref 901) [Value.ref _] _) _ _ _));k_dflt (apply mean_nil_ct;k_extra "@HK1"; (k_mem);k_extra "@HK2"; (intro h9_ tk9_ F9_ N9_);k_extra "@HK3")))
  k_with "b2 subscriptTail Name Constant ref int" => ((k_here;(with_reducible refine (?_:wpAny _ _ (subscriptTail _ _ (Value.ref _) (Value.int _ _)) _ _ _));k_dflt (first | (refine' item_tupleT ?t__ ?a__ ?b__ ?c__ ?d__ ?_;(case t__=>exact zeroT (by k_asm) (by k_asm));(case a__=>decide);(case b__=>decide);(case c__=>eq_refl);(case d__=>eq_refl);k_whole) | (refine' item_tupleT ?t__ ?a__ ?b__ ?c__ ?d__ ?_;(case t__=>exact News.isTup (by k_asm) (by k_mem));(case a__=>decide);(case b__=>decide);(case c__=>eq_refl);(case d__=>eq_refl);k_whole))))
  trivial
section
local macro_rules (kind := PySem.W.tacticK_extra_) | s => mq "0 k b2 b1 b0 z y j e d c o a" s
noncomputable def meanV (news:Led) (v:Value) (xs:List (Option Int)):Prop:=(xs = []∧v = .ref 500)∨(xs≠[]∧OptR news v (meanO xs))
inductive VecI (w:World) (news:Led) (xs:List (Option Int)):Value→Prop
  | mk {x d l:Addr} {t1 t2 t3 t4 t5 tk:Tok} {vs:List Value} {k:Nat}:(x,instObj 262 d)∈news→(d,vecO w t1 t2 t3 t4 t5 (Str.ofString "integer") tk (.ref l) .none)∈news→(l,listOf vs.toArray k)∈news→All2 OptI vs xs→VecI w news xs (.ref x)
theorem VecI.mono {news news':Led} {xs:List (Option Int)} {v:Value} (h:VecI w news xs v) (hs:∀ p∈news,p∈news'):VecI w news' xs v:=by
  cases h with
  | mk a b c d=>exact .mk (hs _ a) (hs _ b) (hs _ c) d
noncomputable def kept (b:Bool) (xs:List (Option Int)):List (Option Int):=if b then pres xs else xs
theorem kept_len {b:Bool} {xs:List (Option Int)} {n:Nat} (h:xs.length≤n):(kept b xs).length≤n:=by
  cases b
  · exact h
  · exact Nat.le_trans (List.length_filter_le _ _) h
theorem kept_small {b:Bool} {xs:List (Option Int)} (h:Small xs):Small (kept b xs):=by
  cases b
  · exact h
  · intro i hi
    exact h i (List.mem_filter.mp hi).1
theorem zeroT {h₀ h:Heap} {L:Addr} {m:Str→Option Value} (F:Fr h₀ L h m) (X:(Mine.hd.heap_1 (World.params w)).In h₀):IsTup h 502 #[.int 0 842,.int 1 843]:=⟨_,(X.keeps F.keep) _ _ (show List.lookup 502 (Mine.hd.heap_1 (World.params w)) = some { cls:=.type "tuple", data:=.seq #[.int 0 842,.int 1 843] } from rfl),rfl,_,rfl⟩
section
variable (B:Below A₀ base outer h₀) (F:Fr h₀ L hpS m) (X:(Mine.hd.heap_1 (World.params w)).In h₀) (N:News h₀ L hpS news) (T:Top p loose mean mg mb h₀) (hk:cs.kind = .function)
include B F X N T hk
theorem trimmed_nil_ct {l pt:Addr} {k kp:Nat} {t1 t2:Tok} (h3:(l,listOf #[] k)∈news) (hp:(pt,({ cls:=.type "tuple", data:=.seq #[.int 0 t1,.int 1 t2] kp }:Obj))∈news)
  (hd:dp + 12 < recursionLimit) (hu:un + 100 < cLine) (ret:∀ h' tk',Fr h₀ L h' m→News h₀ L h' news→Q (.ref 500) ⟨h',GC,DC,tk',OC⟩) :
  wpAny (model prog w) (ktrTop dp un gd cn cs L a ccd cl outer) (call (.ref 934) [.ref l,.ref pt]) Q E ⟨hpS,GC,DC,tkS,OC⟩:=by
  k_extra "@ENTER"
  k_steps
  all_goals exact ret _ _ (by k_asm) (news_sub (by k_asm) (by intro p h;k_mem))
theorem trimmed_ct {l pt:Addr} {vs:List Value} {k kp:Nat} {t1 t2:Tok} {xs:List (Option Int)}
  (h3:(l,listOf vs.toArray k)∈news) (h4:All2 (OptO news) vs xs) (h5:xs.length≤6) (h6:Small xs) (h7:xs≠[]) (hp:(pt,({ cls:=.type "tuple", data:=.seq #[.int 0 t1,.int 1 t2] kp }:Obj))∈news)
  (hd:dp + 12 < recursionLimit) (hu:un + 100 < cLine)
  (ret:∀ u s',Ret h₀ L m news (fun add u=>OptR add u (meanO xs)) u s'→Q u s') :
  wpAny (model prog w) (ktrTop dp un gd cn cs L a ccd cl outer) (call (.ref 934) [.ref l,.ref pt]) Q E ⟨hpS,GC,DC,tkS,OC⟩:=by
  k_extra "@ENTER"
  k_steps
  all_goals exact ret _ _ ⟨_,_,_,rfl,by k_asm,by k_asm,by assumption,by assumption⟩
end
end
section
local macro_rules (kind := PySem.W.tacticK_extra_) | s => mq "0" s

section
variable (B:Below A₀ base outer h₀) (F:Fr h₀ L hpS m) (X:(Mine.hd.heap_1 (World.params w)).In h₀) (N:News h₀ L hpS news) (T:Top p loose mean mg mb h₀) (hk:cs.kind = .function)
include B F X N T hk
theorem without_ct {v:Value} {b:Bool} {xs:List (Option Int)} (h1:VecI w news xs v) (h5:xs.length≤6) (hd:dp + 6 < recursionLimit) (hu:un + 60 < cLine)
  (ret:∀ u s',Ret h₀ L m news (fun add u=>VecI w (add++news) (kept b xs) u) u s'→Q u s') :
  wpAny (model prog w) (ktrTop dp un gd cn cs L a ccd cl outer) (call (.ref 986) [v,.bool b]) Q E ⟨hpS,GC,DC,tkS,OC⟩:=by
  cases h1 with
  | mk a1 a2 a3 a4 =>
    cases b with
    | false=>exact without_no_ct B F X N T hk (by (first | lia | omega)) (by (first | lia | omega)) fun h' tk' F' N'=>ret _ _ ⟨h',tk',[],rfl,F',N',apart0,.mk a1 a2 a3 a4⟩
    | true =>
      refine without_yes_ct B F X N T hk a1 a2 a3 a4 h5 hd hu fun u s' q=>ret _ _ ?_
      obtain ⟨h',tk',add,e,F',N',ap,x,d,l,t1,t2,t3,t4,t5,tk,ys,k,rfl,m1,m2,m3,m4⟩:=q
      exact ⟨h',tk',add,e,F',N',ap,.mk (List.mem_append_left _ m1) (List.mem_append_left _ m2) (List.mem_append_left _ m3) m4⟩
theorem numbers_ct {v:Value} {xs:List (Option Int)} (h1:VecI w news xs v) (h5:xs.length≤6) (hd:dp + 4 < recursionLimit) (hu:un + 32 < cLine)
  (ret:∀ u s',Ret h₀ L m news (fun add u=>∃ D ys k,u = .ref D∧(D,listOf ys.toArray k)∈add∧All2 (OptO (add++news)) ys xs) u s'→Q u s') :
  wpAny (model prog w) (ktrTop dp un gd cn cs L a ccd cl outer) (call (.ref 894) [v]) Q E ⟨hpS,GC,DC,tkS,OC⟩:=by
  cases h1 with
  | mk a1 a2 a3 a4 =>
    refine number_items_ct B F X N T hk a1 a2 a3 a4 h5 hd hu fun u s' q=>ret _ _ ?_
    obtain ⟨h',tk',add,e,F',N',ap,D,ys,k,e1,m1,m2⟩:=q
    exact ⟨h',tk',add,e,F',N',ap,D,ys,k,e1,m1,m2.unmap⟩
theorem trimmedV_ct {l pt:Addr} {vs:List Value} {k kp:Nat} {t1 t2:Tok} {xs:List (Option Int)}
  (h3:(l,listOf vs.toArray k)∈news) (h4:All2 (OptO news) vs xs) (h5:xs.length≤6) (h6:Small xs) (hp:(pt,({ cls:=.type "tuple", data:=.seq #[.int 0 t1,.int 1 t2] kp }:Obj))∈news)
  (hd:dp + 12 < recursionLimit) (hu:un + 100 < cLine)
  (ret:∀ u s',Ret h₀ L m news (fun add u=>meanV add u xs) u s'→Q u s') :
  wpAny (model prog w) (ktrTop dp un gd cn cs L a ccd cl outer) (call (.ref 934) [.ref l,.ref pt]) Q E ⟨hpS,GC,DC,tkS,OC⟩:=by
  by_cases h7:xs = []
  · subst h7
    cases h4
    exact trimmed_nil_ct B F X N T hk h3 hp hd hu fun h' tk' F' N'=>ret _ _ ⟨h',tk',[],rfl,F',N',apart0,.inl ⟨rfl,rfl⟩⟩
  · refine trimmed_ct B F X N T hk h3 h4 h5 h6 h7 hp hd hu fun u s' q=>ret _ _ ?_
    obtain ⟨h',tk',add,e,F',N',ap,r⟩:=q
    exact ⟨h',tk',add,e,F',N',ap,.inr ⟨h7,r⟩⟩
theorem inheritsI_ct {v:Value} {nl:Addr} {xs:List (Option Int)} {u1:Tok} {k:Nat} (h1:VecI w news xs v) (h3:(nl,listOf #[.str (Str.ofString "factor") u1] k)∈news)
  (hd:dp + 14 < recursionLimit) (hu:un + 120 < cLine) (ret:∀ h' tk',Fr h₀ L h' m→News h₀ L h' news→Q (.bool false) ⟨h',GC,DC,tk',OC⟩) :
  wpAny (model prog w) (ktrTop dp un gd cn cs L a ccd cl outer) (call (.ref 87) [v,.ref nl]) Q E ⟨hpS,GC,DC,tkS,OC⟩:=by
  cases h1 with
  | mk a1 a2 a3 a4=>exact inherits_int_ct B F X N T hk a1 a2 h3 hd hu ret
end
end
inductive ResV (w:World) (kind:String) (P:Led→Value→Prop) (add:Led) (u:Value):Prop
  | mk (x:Addr) (d:Addr) (l:Addr) (t1:Tok) (t2:Tok) (t3:Tok) (t4:Tok) (t5:Tok) (tk:Tok) (v:Value) (k:Nat):u = .ref x→(x,instObj 262 d)∈add→(d,vecO w t1 t2 t3 t4 t5 (Str.ofString kind) tk (.ref l) .none)∈add→(l,listOf #[v] k)∈add→P add v→ResV w kind P add u
theorem meanV.mono {news news':Led} {v:Value} {xs:List (Option Int)} (h:meanV news v xs) (hs:∀ p∈news,p∈news'):meanV news' v xs:=h.imp id fun ⟨a,b⟩=>⟨a,OptR.mono hs b⟩
theorem retVec {h₀ h:Heap} {L x d l:Addr} {kind:String} {m:Str→Option Value} {news rest:Led} {tk k:Nat} {t1 t2 t3 t4 t5 tv:Tok} {v:Value} {P:Led→Value→Prop} (add:Led) (F:Fr h₀ L h m)
    (N:News h₀ L h ((x,instObj 262 d)::(d,vecO w t1 t2 t3 t4 t5 (Str.ofString kind) tv (.ref l) .none)::(l,listOf #[v] k)::rest)) (hl:∀ p∈rest,p.1 < l) (hd:@LT.lt Nat _ l d∧AllLt d rest) (hx:@LT.lt Nat _ d x)
    (ha:∀ p∈add,p∈rest) (hs:∀ p∈news,p∈rest) (aa:∀ p∈add,∀ q∈news,q.1≠p.1) (r:∀ led:Led,(∀ p∈add,p∈led)→P led v) :
    Ret h₀ L m news (ResV w kind P) (.ref x) ⟨h,GC,DC,tk,OC⟩:=by
  have b1:∀ q∈news,@LT.lt Nat _ q.1 l:=fun q hq=>hl q (hs q hq)
  have b2:∀ q∈news,@LT.lt Nat _ q.1 d:=fun q hq=>Nat.lt_trans (b1 q hq) hd.1
  have b3:∀ q∈news,@LT.lt Nat _ q.1 x:=fun q hq=>Nat.lt_trans (b2 q hq) hx
  refine ⟨h,tk,(x,instObj 262 d)::(d,vecO w t1 t2 t3 t4 t5 (Str.ofString kind) tv (.ref l) .none)::(l,listOf #[v] k)::add,rfl,F,fun p hp=>N p ?_,fun p hp q hq=>?_,_,_,_,_,_,_,_,_,_,_,_,rfl,.head _,.tail _ (.head _),.tail _ (.tail _ (.head _)),r _ fun p hp=>.tail _ (.tail _ (.tail _ hp))⟩
  · simp only [List.cons_append,List.mem_cons,List.mem_append] at hp ⊢
    rcases hp with e | e | e | hp | hp
    · exact .inl e
    · exact .inr (.inl e)
    · exact .inr (.inr (.inl e))
    · exact .inr (.inr (.inr (ha p hp)))
    · exact .inr (.inr (.inr (hs p hp)))
  · simp only [List.mem_cons] at hp
    rcases hp with rfl | rfl | rfl | hp
    · exact Nat.ne_of_lt (b3 q hq)
    · exact Nat.ne_of_lt (b2 q hq)
    · exact Nat.ne_of_lt (b1 q hq)
    · exact aa p hp q hq
theorem comp_nil {A:Around} {E:Value→Shared→Prop} {hpS:Heap} {tkS:Nat} {h₀:Heap} {L:Addr} {m:Str→Option Value} {env:Env} {elt iter c target:Expr} {y:Str} {py:Pos} {scope:Scope} {cl:List (Str×Addr)} {pos spos:Pos} {Q:Flow→Shared→Prop}
    (_F₀:Fr h₀ L hpS m) (hLe:env.locals = L) (hsw:swapsWith (.ListComp elt [⟨target,iter,[c],0⟩] scope pos) (some (.Name y py)) spos.line env = pure true)
    (hclos:closureFor scope env = pure cl) (hcell:∀ y∈scope.names,y.2≠.cell) (hkind:scope.kind = .function)
    (hnames:∀ y∈scope.names,y.2 = .local→scope.names.lookup y.1 = some .local) (hy:env.kindOf y = some .local) (hp:(env.scope.kind == .class || (env.scope.kind == .module && env.locals != env.globals)) = false) (hs:∀ x,foldedSetIterable iter env x = pure x)
    (h:wpAny (model prog w) A (eval iter env) (fun xv s₁=>∃ ax k news,xv = .ref ax∧A.handled = none∧Fr h₀ L s₁.heap m∧News h₀ L s₁.heap news∧(ax,listOf #[] k)∈news ∧
      ∀ D h tk,Fr h₀ L h (fun z=>if z = y then some (.ref D) else m z)→News h₀ L h ((D,listOf #[] 0)::news)→(∀ p∈news,p.1 < D)→Q .next { s₁ with heap:=h,toks:=tk }) E ⟨hpS,GC,DC,tkS,OC⟩) :
    wpAny (model prog w) A (exec (.Assign [.Name y py] (.ListComp elt [⟨target,iter,[c],0⟩] scope pos) spos) env) Q E ⟨hpS,GC,DC,tkS,OC⟩:=by
  subst hLe
  rw [exec_Assign_Name_used _ _ _ _ hsw]
  refine wpAny_bind (wpAny_standAt (wpAny_bind ?_))
  show wpAny _ A (do let _ ← comprehension (.ListComp elt [⟨target,iter,[c],0⟩] scope pos) scope env _ (newList []) false (eval iter env) (some (assign (.Name y py) env))) _ _ ⟨hpS,GC,DC,tkS,OC⟩
  refine wpAny_bind (wpAny_mono (wpAny_comprehension_free (use:=some (assign (.Name y py) env)) (Q:=fun _ s'=>Q .next s') rfl hs hclos hkind hnames
    (wpAny_mono h (fun xv s₁ h₁=>?_) fun _ _ e=>e)) (fun _ s' hq=>wpAny_pure (wpAny_pure hq)) fun _ _ e=>e)
  obtain ⟨ax,k,news,rfl,hh,F,N,hm,fin⟩:=h₁
  have hl:s₁.heap.IsList ax #[]:=⟨_,(N _ hm).1,rfl,k,rfl⟩
  have hlt:ax < s₁.heap.objs.size:=Heap.lt_size (N _ hm).1
  refine wpAny_pyIter_list hl ?_
  have W:=Walks.list (prog:=prog) (w:=w) hh s₁.heap.objs.size ax (Nat.ne_of_lt hlt) #[]
  have i1:(s₁.heap.push { cls:=.type "list_iterator", data:=.fields #[.ref ax,.int 0 0] }).IsListIter s₁.heap.objs.size ax 0:=⟨_,Heap.get?_push_size _ rfl,rfl,rfl⟩
  have l1:(s₁.heap.push { cls:=.type "list_iterator", data:=.fields #[.ref ax,.int 0 0] }).IsList ax #[]:=hl.push _
  have up1:∀ b o,s₁.heap.get? b = some o→(s₁.heap.push { cls:=.type "list_iterator", data:=.fields #[.ref ax,.int 0 0] }).get? b = some o:=fun b o e=>Heap.get?_push_of_some _ e
  have z1:(s₁.heap.push { cls:=.type "list_iterator", data:=.fields #[.ref ax,.int 0 0] }).objs.size = s₁.heap.objs.size + 1:=Heap.size_push ..
  generalize s₁.heap.push { cls:=.type "list_iterator", data:=.fields #[.ref ax,.int 0 0] } = H1 at i1 l1 up1 z1 ⊢
  refine wpAny_newObj_type (wpAny_newFunctionEnv hcell (by intro y hy;simp at hy) (fun h₁ hns₁ hsb₁=>?_) hkind)
  dsimp only at hns₁ hsb₁ ⊢
  have d2:(H1.push { cls:=.type "list", dict:=none,data:=.seq ([]:List Value).toArray }).get? H1.objs.size = some (listOf #[] 0):=Heap.get?_push_size _ rfl
  have up2:∀ b o,H1.get? b = some o→(H1.push { cls:=.type "list", dict:=none,data:=.seq ([]:List Value).toArray }).get? b = some o:=fun b o e=>Heap.get?_push_of_some _ e
  have z2:(H1.push { cls:=.type "list", dict:=none,data:=.seq ([]:List Value).toArray }).objs.size = H1.objs.size + 1:=Heap.size_push ..
  generalize H1.push { cls:=.type "list", dict:=none,data:=.seq ([]:List Value).toArray } = H2 at hns₁ hsb₁ d2 up2 z2 ⊢
  have nC:∀ b o,H2.get? b = some o→h₁.get? b = some o:=fun b o e=>hsb₁.extBut b o (Nat.ne_of_lt (Heap.lt_size e)) (Heap.get?_push_of_some _ e)
  have i3:h₁.IsListIter s₁.heap.objs.size ax 0:=i1.at fun o e=>nC _ o (up2 _ o e)
  have l3:h₁.IsList ax #[]:=l1.at fun o e=>nC _ o (up2 _ o e)
  have old:∀ b o,s₁.heap.get? b = some o→h₁.get? b = some o:=fun b o e=>nC b o (up2 b o (up1 b o e))
  have fresh₀:∀ a,s₁.heap.objs.size≤a→h₀.get? a = none:=fun a ha=>by
    cases e:h₀.get? a with
    | none=>rfl
    | some o'=>exact absurd (Heap.lt_size (F.keep a o' e)) (Nat.not_lt.mpr ha)
  have C0:h₀.get? H2.objs.size = none:=fresh₀ _ (by (first | lia | omega))
  have D0:h₀.get? H1.objs.size = none:=fresh₀ _ (by (first | lia | omega))
  have hLlt:@LT.lt Nat _ env.locals s₁.heap.objs.size:=F.ns.lt
  have CL:@Ne Nat H2.objs.size env.locals:=by (first | lia | omega)
  have DL:@Ne Nat H1.objs.size env.locals:=by (first | lia | omega)
  have loop:codeAny (model prog w) A (.compLoop (.ListComp elt [⟨target,iter,[c],0⟩] scope pos) 0 (.ref s₁.heap.objs.size) (.ref H1.objs.size) (compEnvC scope cl H2.objs.size env))
      (compPost (model prog w) A E (some (assign (.Name y py) env)) (fun _ s'=>Q .next s') (.ref H1.objs.size) H2.objs.size) { s₁ with heap:=h₁,toks:=s₁.toks + ([]:List (Str×Value)).length }:=by
    refine kct_loop (fun _ s'=>s' = { s₁ with heap:=h₁,toks:=s₁.toks + ([]:List (Str×Value)).length }) ?_ 0 rfl
    rintro _ _ rfl
    refine wpAny_pyNext_list_end hh i3 l3 (by simp) fun h₂ hk₂=>?_
    have nI:∀ b o,b≠s₁.heap.objs.size→h₁.get? b = some o→h₂.get? b = some o:=fun b o hb e=>hk₂ b o hb e
    have k2:∀ b o,s₁.heap.get? b = some o→h₂.get? b = some o:=fun b o e=>nI b o (Nat.ne_of_lt (Heap.lt_size e)) (old b o e)
    show wpAny _ A (assign (.Name y py) env (.ref H1.objs.size)) _ _ _
    have F2:=F.keeps k2
    refine wpAny_assign_Name (wpAny_storeName_local hy F2.ns (fun h₃ hn₃ hs₃=>?_) hp)
    have hL₀:h₀.get? env.locals = none:=Heap.get?_none_of_le F2.above
    have F3:Fr h₀ env.locals h₃ (fun z=>if z = y then some (.ref H1.objs.size) else m z):=⟨hn₃,fun b o e=>hs₃.extBut b o (fun q=>by rw [q,hL₀] at e;cases e) (F2.keep b o e),F2.above⟩
    have n2:h₂.Ns H2.objs.size _:=hns₁.at' fun o e=>nI _ o (show @Ne Nat _ _ by (first | lia | omega)) e
    refine ⟨_,n2.sameBut hs₃ CL,fun h'' hs''=>fin H1.objs.size h'' _ (F3.change hs'' CL C0) (fun p hp=>?_) fun p hp=>by
      have h9:@LT.lt Nat _ p.1 s₁.heap.objs.size:=Heap.lt_size (N p hp).1
      show @LT.lt Nat _ _ _
      (first | lia | omega)⟩
    rcases List.mem_cons.mp hp with rfl | hp
    · exact ⟨hs''.extBut _ _ (show @Ne Nat H1.objs.size H2.objs.size by (first | lia | omega)) (hs₃.extBut _ _ DL (nI _ _ (show @Ne Nat H1.objs.size s₁.heap.objs.size by (first | lia | omega)) (nC _ _ d2))),DL,D0⟩
    · have hp':@LT.lt Nat _ p.1 s₁.heap.objs.size:=Heap.lt_size (N p hp).1
      exact ⟨hs''.extBut _ _ (show @Ne Nat p.1 H2.objs.size by (first | lia | omega)) (hs₃.extBut _ _ (N p hp).2.1 (k2 _ _ (N p hp).1)),(N p hp).2⟩
  exact codeAny_compStart_list loop (W.self 0 _ _ _ ⟨i3,l3⟩ loop)
example:True:=by
  k_with "b3 call ref" => ((k_here;(with_reducible refine (?_:wpAny _ _ (PySem.call (Value.ref 986) _ _) _ _ _));k_dflt (apply without_ct;k_extra "@HK1"; (first | assumption | exact VecI.mono (by assumption) (by intro p_ h_;k_mem));(first | assumption | exact kept_len (by assumption));k_extra "@HK2"; (refine retK ?_;intro u9_ h9_ tk9_ add9_ F9_ N9_ l9_ r9_);k_extra "@HK3")))
  k_with "b3 call ref" => ((k_here;(with_reducible refine (?_:wpAny _ _ (PySem.call (Value.ref 894) _ _) _ _ _));k_dflt (apply numbers_ct;k_extra "@HK1"; (first | assumption | exact VecI.mono (by assumption) (by intro p_ h_;k_mem));(first | assumption | exact kept_len (by assumption));k_extra "@HK2"; (refine retK3a2 ?_;intro D9_ ys9_ k9_ h9_ tk9_ add9_ F9_ N9_ l9_ mr9_ mp9_);k_extra "@HK3")))
  k_with "b3 call ref" => ((k_here;(with_reducible refine (?_:wpAny _ _ (PySem.call (Value.ref 87) _ _) _ _ _));k_dflt (apply inheritsI_ct;k_extra "@HK1"; (first | assumption | exact VecI.mono (by assumption) (by intro p_ h_;k_mem));(k_mem);k_extra "@HK2"; (intro h9_ tk9_ F9_ N9_);k_extra "@HK3")))
  k_with "b4 call ref" => ((k_here;(with_reducible refine (?_:wpAny _ _ (PySem.call (Value.ref 934) _ _) _ _ _));k_dflt (apply trimmedV_ct;k_extra "@HK1"; (k_mem);(first | assumption | exact OptR.monoA (by assumption) (by intro p_ h_;k_mem));(first | assumption | exact kept_len (by assumption));(first | assumption | exact kept_small (by assumption));(k_mem);k_extra "@HK2"; (refine retK ?_;intro u9_ h9_ tk9_ add9_ F9_ N9_ l9_ r9_);k_extra "@HK3")))
  k_with "b5 exec Assign cons ListComp" => ((k_here;k_dflt (refine comp_nil (_F₀:=by k_asm) (by rfl) (by with_unfolding_all rfl) (by with_unfolding_all rfl) (by decide) (by rfl) (by decide) (by rfl) (by rfl) (by intro _;rfl) ?_)))
  k_with "b5 Exists" => ((k_dflt (refine' ⟨_,_,_,rfl,rfl,?F__,?N__,?m__,?_⟩;(case F__=>k_asm);(case N__=>k_asm);(case m__=>k_mem));intro D9_ h9_ tk9_ F9_ N9_ l9_;(try k_fold)))
  trivial
section
local macro_rules (kind := PySem.W.tacticK_extra_) | s => mq "0 b5 b4 b3 bv bq m l k t j q h g f e d c p o a" s

section
variable (B:Below A₀ base outer h₀) (F:Fr h₀ L hpS m) (X:(Mine.hd.heap_1 (World.params w)).In h₀) (N:News h₀ L hpS news) (T:Top p loose mean mg mb h₀) (hk:cs.kind = .function)
include B F X N T hk
theorem mean_plain_ct {al:Addr} {x i e sk:Value} {b:Bool} {xs:List (Option Int)} (h1:ArgsIn news al x sk) (h2:SkipV w news sk b) (h3:VecI w news xs x) (h5:xs.length≤6) (h6:Small xs)
  (hd:dp + 20 < recursionLimit) (hu:un + 180 < cLine)
  (ret:∀ u s',Ret h₀ L m news (ResV w "double" fun led v=>meanV led v (kept b xs)) u s'→Q u s') :
  wpAny (model prog w) (ktrTop dp un gd cn cs L a ccd cl outer) (call (.ref 1012) [i,.ref al,e]) Q E ⟨hpS,GC,DC,tkS,OC⟩:=by
  cases h3 with
  | mk a1 a2 a3 a4 =>
  have hV:=VecI.mk a1 a2 a3 a4
  cases h2 with
  | no =>
    k_extra "@ENTER"
    k_steps
    have r:=(by assumption:meanV _ _ _)
    have a:=(by assumption:∀ p:Addr×Obj,p∈_→∀ q:Addr×Obj,q∈_→@Ne Nat q.1 p.1)
    exact ret _ _ (retVec _ (by k_asm) (by k_asm) (by assumption) (by assumption) (by assumption) (fun p hp=>List.mem_append_left _ hp) (by intro p h;k_mem) (fun p hp q hq=>a p hp q (by k_mem)) fun led hs=>r.mono hs)
  | yes b1 b2 b3 =>
    have hS:=SkipV.yes b1 b2 b3
    k_extra "@ENTER"
    k_steps
    have r:=(by assumption:meanV _ _ _)
    have a:=(by assumption:∀ p:Addr×Obj,p∈_→∀ q:Addr×Obj,q∈_→@Ne Nat q.1 p.1)
    exact ret _ _ (retVec _ (by k_asm) (by k_asm) (by assumption) (by assumption) (by assumption) (fun p hp=>List.mem_append_left _ hp) (by intro p h;k_mem) (fun p hp q hq=>a p hp q (by k_mem)) fun led hs=>r.mono hs)
end
end

noncomputable def kasRun {α:Type} (n:Nat) (c:Nat→Nat→Bool):KasT α→Option α
  | .ret a=>some a
  | .ask i j k=>if i < n∧j < n then kasRun n c (k (c i j)) else none
theorem kas_pure {α:Type} {cmp:Nat→Nat→(Bool→Shared→Prop)→Shared→Prop} {n:Nat} {c:Nat→Nat→Bool} {hpS:Heap} {tkS:Nat} (hc:∀ i j (C:Bool→Shared→Prop),i < n→j < n→C (c i j) ⟨hpS,GC,DC,tkS,OC⟩→cmp i j C ⟨hpS,GC,DC,tkS,OC⟩):∀ (t:KasT α) {a:α} {Q:α→Shared→Prop},kasRun n c t = some a→Q a ⟨hpS,GC,DC,tkS,OC⟩→t.kasWp cmp Q ⟨hpS,GC,DC,tkS,OC⟩
  | .ret _,_,_,e,h=>by cases e;exact h
  | .ask i j k,a,Q,e,h=>by
    replace e:(if i < n∧j < n then kasRun n c (k (c i j)) else none) = some a:=e
    by_cases hi:i < n∧j < n
    · rw [if_pos hi] at e
      exact hc i j _ hi.1 hi.2 (kas_pure hc (k (c i j)) e h)
    · rw [if_neg hi] at e
      cases e
noncomputable def insI (x:Int):List Int→List Int
  | []=>[x]
  | y::r=>if x≤y then x::y::r else y::insI x r
noncomputable def sortI:List Int→List Int
  | []=>[]
  | x::r=>insI x (sortI r)
noncomputable def three:Nat→List (List Int)
  | 0=>[[]]
  | n + 1=>(three n).flatMap fun r=>[1::r,2::r,3::r]
theorem three_mem {zs:List Int}:(∀ z∈zs,1≤z∧z≤3)→zs∈three zs.length:=by
  induction zs with
  | nil=>exact fun _=>List.mem_singleton.mpr rfl
  | cons z r ih =>
    intro h
    have hr:=ih fun y hy=>h y (.tail _ hy)
    have hz:=h z (.head _)
    refine List.mem_flatMap.mpr ⟨r,hr,?_⟩
    have:=in13 hz
    rcases this with rfl | rfl | rfl<;>simp
noncomputable def kasGood (zs:List Int):Bool :=
  match kasRun zs.length (fun i j=>decide (zs.getD i 0 < zs.getD j 0)) (kas_sort zs.length) with
  | some p=>decide (p.toList.length = zs.length) && p.toList.all (fun i=>decide (i < zs.length)) && decide (p.toList.map (fun i=>zs.getD i 0) = sortI zs)
  | none=>false
theorem kas_good2:(three 2).all kasGood = true:=by decide +kernel
theorem kas_good3:(three 3).all kasGood = true:=by decide +kernel
theorem kas_good4:(three 4).all kasGood = true:=by decide +kernel
theorem kas_good5:(three 5).all kasGood = true:=by decide +kernel
theorem kas_good6:(three 6).all kasGood = true:=by decide +kernel
inductive KeyR (led:Led):Value→Int→Prop
  | mk {x:Addr} {t t':Tok} {k:Nat} {z:Int}:(x,({ cls:=.type "tuple", data:=.seq #[.int 0 t,.int z t'] k }:Obj))∈led→KeyR led (.ref x) z
theorem KeyR.mono {led led':Led} {v:Value} {z:Int} (h:KeyR led v z) (hs:∀ p∈led,p∈led'):KeyR led' v z:=by
  cases h with
  | mk a=>exact .mk (hs _ a)
theorem All2.getD {R:Value→Int→Prop} {vs:List Value} {zs:List Int} (h:All2 R vs zs):∀ {i:Nat},i < zs.length→R (vs.getD i .none) (zs.getD i 0):=by
  induction h with
  | nil=>intro i hi;cases hi
  | cons a _ ih =>
    intro i hi
    cases i with
    | zero=>exact a
    | succ i=>exact ih (by simpa using hi)
theorem All2.of_idx {R:Value→Int→Prop} {vs:List Value} {zs:List Int} (h:All2 R vs zs):∀ {is:List Nat},(∀ i∈is,i < zs.length)→All2 R (is.map fun i=>vs.getD i .none) (is.map fun i=>zs.getD i 0)
  | [],_=>.nil
  | i::is,hi=>.cons (h.getD (hi i (.head _))) (All2.of_idx h fun j hj=>hi j (.tail _ hj))
theorem key_lt {A:Around} {E:Value→Shared→Prop} {hpS:Heap} {tkS:Nat} {h₀:Heap} {L:Addr} {led:Led} {u v:Value} {a b:Int} {Q:Bool→Shared→Prop} (N:News h₀ L hpS led) (hu:KeyR led u a) (hv:KeyR led v b) (h:Q (decide (a < b)) ⟨hpS,GC,DC,tkS,OC⟩) :
    wpAny (model prog w) A (keyLt' (tuples' true) u v) Q E ⟨hpS,GC,DC,tkS,OC⟩:=by
  cases hu with
  | mk m1 =>
  cases hv with
  | mk m2 =>
  refine kat_lt (N _ m1).1 rfl (N _ m2).1 rfl ?_
  refine kat_cons (wpAny_eqBool_int (kat_yes (kat_cons (wpAny_eqBool_int ?_))))
  by_cases e:a = b
  · rw [show (a == b) = true from by simp [e]]
    refine kat_yes (kat_nil ?_)
    rw [show decide (a < b) = false from by simp [e]] at h
    exact h
  · rw [show (a == b) = false from by simp [e]]
    exact kat_no (kat_one _ _ (PyProof.Rows.lt_int h))
theorem tups_of {h₀ h:Heap} {L:Addr} {led:Led} (N:News h₀ L h led) {ks:List Value} {zs:List Int} (hk:All2 (KeyR led) ks zs):∃ fs:List Value,KatTups h ks fs∧fs.length = ks.length∧∀ v∈fs,∃ t,v = .int 0 t:=by
  induction hk with
  | nil=>exact ⟨[],.nil,rfl,fun _ h=>nomatch h⟩
  | cons a _ ih =>
    obtain ⟨fs,k1,k2,k3⟩:=ih
    cases a with
    | mk hm =>
      refine ⟨_::fs,.cons (N _ hm).1 rfl rfl rfl k1,by simp [k2],fun v hv=>?_⟩
      rcases List.mem_cons.mp hv with e | hv
      · exact ⟨_,e⟩
      · exact k3 v hv
theorem sort_perm {zs:List Int} (h2:2≤zs.length) (h6:zs.length≤6) (hz:∀ z∈zs,1≤z∧z≤3):kasGood zs = true:=by
  have hm:=three_mem hz
  have:=nat26 h6 h2
  rcases this with e | e | e | e | e<;>rw [e] at hm
  · exact List.all_eq_true.mp kas_good2 _ hm
  · exact List.all_eq_true.mp kas_good3 _ hm
  · exact List.all_eq_true.mp kas_good4 _ hm
  · exact List.all_eq_true.mp kas_good5 _ hm
  · exact List.all_eq_true.mp kas_good6 _ hm
section
variable {A:Around} {E:Value→Shared→Prop} {hpS:Heap} {tkS:Nat} {h₀:Heap} {L D kS:Addr} {m:Str→Option Value} {led:Led}
theorem sort_tail {st:SortSt} {ks out:List Value} {e e1:Nat} {P:PySem.Fin→Shared→Prop} (F:Fr h₀ L hpS m) (N:News h₀ L hpS ((kS,listOf (List.toArray ks) e)::(D,listOf #[] e1)::led)) (hkD:kS≠D) (hk:∀ p∈led,p.1≠kS) (hD:∀ p∈led,p.1≠D)
    (hout:(arrOf st).map (·.2) = List.toArray out) (hf:failedOf st = none) (hz:out.length≤6) (hkz:ks.length≤6)
    (h:∀ h' c,Fr h₀ L h' m→News h₀ L h' ((D,listOf (List.toArray out) c)::led)→P (.done (.ret .none)) ⟨h',GC,DC,tkS,OC⟩) :
    wpAny (model prog w) A (ksk_tail D false e1 (.ref kS) st) P E ⟨hpS,GC,DC,tkS,OC⟩:=by
  have nk:=N (kS,_) (.head _)
  have nD:=N (D,_) (.tail _ (.head _))
  have s1:=Heap.SameBut.update hpS kS (Obj.mapSeq fun _=>(#[]:Array Value))
  have F1:=kas_fr F s1 nk.2.1 nk.2.2
  have N1:News h₀ L (hpS.update kS (Obj.mapSeq fun _=>(#[]:Array Value))) ((D,listOf #[] e1)::led):=kas_news (fun p hp=>N p (.tail _ hp)) s1 fun p hp=>by
    rcases List.mem_cons.mp hp with rfl | hp
    · exact Ne.symm hkD
    · exact hk p hp
  have nD1:=N1 (D,_) (.head _)
  have s2:=Heap.SameBut.update (hpS.update kS (Obj.mapSeq fun _=>(#[]:Array Value))) D (Obj.mapSeq fun _=>List.toArray out)
  obtain ⟨c2,hc2⟩:∃ c2,((hpS.update kS (Obj.mapSeq fun _=>(#[]:Array Value))).update D (Obj.mapSeq fun _=>List.toArray out)).get? D = some (seqObj "list" (List.toArray out) c2):=⟨_,get?_update_seq nD1.1 fun _=>List.toArray out⟩
  unfold ksk_tail
  try dsimp only
  rw [hout]
  refine wpAny_bind (listUpdate_at nk.1 rfl ?_ (szL hkz) (Nat.zero_le _))
  refine wpAny_bind (wpAny_letGo ?_)
  refine wpAny_bind (seqEpoch_at nD1.1 rfl ?_)
  simp only [Bool.false_eq_true,if_false]
  refine wpAny_bind (listUpdate_at nD1.1 rfl ?_ (Nat.zero_le _) (Nat.le_succ_of_le (szL hz)))
  rw [hf]
  simp only [bne_self_eq_false,Bool.false_eq_true,if_false]
  refine wpAny_pure (h _ c2 (kas_fr F1 s2 nD1.2.1 nD1.2.2) fun p hp=>?_)
  rcases List.mem_cons.mp hp with rfl | hp
  · exact ⟨hc2,nD1.2⟩
  · exact kas_news (fun p hp=>N1 p (.tail _ hp)) s2 hD p hp
theorem sort_end {ks vs:List Value} {zs:List Int} {e e1:Nat} {P:PySem.Fin→Shared→Prop} {RK:Value→Int→Prop} (F:Fr h₀ L hpS m) (N:News h₀ L hpS ((kS,listOf (List.toArray ks) e)::(D,listOf #[] e1)::led)) (hkD:kS≠D) (hk:∀ p∈led,p.1≠kS) (hD:∀ p∈led,p.1≠D)
    (hK:All2 (KeyR led) ks zs) (hR:All2 RK vs zs) (h6:zs.length≤6) (hz:∀ z∈zs,1≤z∧z≤3)
    (h:∀ h' c out,Fr h₀ L h' m→News h₀ L h' ((D,listOf (List.toArray out) c)::led)→All2 RK out (sortI zs)→P (.done (.ret .none)) ⟨h',GC,DC,tkS,OC⟩) :
    wpAny (model prog w) A (ksk_end D false vs.toArray e1 (.ref kS) (List.toArray ks)) P E ⟨hpS,GC,DC,tkS,OC⟩:=by
  have l1:=hK.length
  have l2:=hR.length
  have v1:ks.length = vs.length:=l1.trans l2.symm
  have v6:vs.length≤6:=by rw [l2];exact h6
  have k6:ks.length≤6:=by rw [l1];exact h6
  have v64:vs.length < 64:=Nat.lt_of_le_of_lt v6 (by decide)
  have NL:News h₀ L hpS led:=fun p hp=>N p (.tail _ (.tail _ hp))
  unfold ksk_end
  simp only [Bool.false_eq_true,if_false]
  by_cases h2:2≤zs.length
  · have v2:2≤vs.length:=by rw [l2];exact h2
    have hn2:¬ vs.toArray.size < 2:=Nat.not_lt.mpr v2
    rw [if_neg hn2,if_neg hn2]
    obtain ⟨fs,k1,k2,k3⟩:=tups_of NL hK
    refine wpAny_bind (kat_kind (T:=.type "int") k1 (by rw [k2,v1];exact Nat.lt_of_lt_of_le (by decide) v2) (fun v hv=>by obtain ⟨t,rfl⟩:=k3 v hv;exact Looks.of_pure rfl) (by simp) ?_)
    rw [show (Value.type "int" != Value.type "tuple") = true from by simp]
    have good:=sort_perm h2 h6 hz
    unfold kasGood at good
    split at good
    · rename_i p hp
      simp only [Bool.and_eq_true,decide_eq_true_eq,List.all_eq_true] at good
      obtain ⟨⟨g1,g2⟩,g3⟩:=good
      refine wpAny_bind (wpAny_mono (kat_run (ks:=ks) (vs:=vs) (κ:=tuples' true) (Q:=fun st' s'=>s' = ⟨hpS,GC,DC,tkS,OC⟩∧failedOf st' = none∧(arrOf st').map (·.2) = List.toArray (p.toList.map fun i=>vs.getD i .none))
        (G:=fun p' s'=>s' = ⟨hpS,GC,DC,tkS,OC⟩∧p' = p) (by first | assumption | (first | lia | omega)) (by first | assumption | (first | lia | omega)) (by first | assumption | (first | lia | omega)) (fun p' st' s' a1 a2 a3 a4=>⟨a4.1,a3,by rw [kat_snds (by first | assumption | (first | lia | omega)) a2,a4.2]⟩) ?_) ?_ fun _ _ x=>x)
      · rw [l2]
        exact kas_pure (fun i j C hi hj hC=>key_lt NL (hK.getD hi) (hK.getD hj) hC) _ hp ⟨rfl,rfl⟩
      · rintro ⟨⟨⟩,st'⟩ s' ⟨rfl,hf,ho⟩
        try dsimp only
        refine sort_tail F N hkD hk hD ho hf (by rw [List.length_map];first | assumption | (first | lia | omega)) (by first | assumption | (first | lia | omega)) fun h' c F' N'=>h h' c _ F' N' ?_
        have:=All2.of_idx hR (is:=p.toList) g2
        rw [g3] at this
        exact this
    · cases good
  · have hn2:vs.toArray.size < 2:=by rw [List.size_toArray,l2];exact Nat.not_le.mp h2
    rw [if_pos hn2,if_pos hn2]
    refine wpAny_bind (wpAny_pure (wpAny_bind (wpAny_pure ?_)))
    try dsimp only
    refine sort_tail (out:=vs) F N hkD hk hD ?_ rfl (by first | assumption | (first | lia | omega)) (by first | assumption | (first | lia | omega)) fun h' c F' N'=>h h' c _ F' N' ?_
    · show ((List.toArray ks).zip vs.toArray).map (·.2) = List.toArray vs
      apply Array.toList_inj.mp
      rw [Array.toList_map]
      rw [show ((List.toArray ks).zip vs.toArray).toList = ks.zip vs from by simp]
      exact List.map_snd_zip (by first | assumption | (first | lia | omega))
    · rw [show sortI zs = zs from by
        match zs,h2 with
        | [],_=>rfl
        | [_],_=>rfl
        | _::_::_,h2=>exact absurd (by simp) h2]
      exact hR
end
section
variable {A:Around} {E:Value→Shared→Prop} {hpS:Heap} {tkS:Nat} {h₀:Heap} {L D kS:Addr} {m:Str→Option Value} {news:Led}
theorem sort_rest {vs:List Value} {zs:List Int} {e1:Nat} {f:Value} {P:PySem.Fin→Shared→Prop} {RK:Value→Int→Prop} (F:Fr h₀ L hpS m) (N:News h₀ L hpS ((kS,listOf (List.toArray []) 0)::(D,listOf #[] e1)::news)) (hkD:kS≠D) (hk:∀ p∈news,p.1≠kS) (hD:∀ p∈news,p.1≠D)
    (hR:All2 RK vs zs) (h6:zs.length≤6) (hz:∀ z∈zs,1≤z∧z≤3)
    (turn:∀ v z led (s':Shared) (E':Value→Shared→Prop),RK v z→Fr h₀ L s'.heap m→News h₀ L s'.heap led→(∀ p∈news,p∈led)→(∃ h tk,s' = ⟨h,GC,DC,tk,OC⟩) →
      wpAny (model prog w) A (call f [v]) (Ret h₀ L m led fun add u=>KeyR add u z) E' s')
    (h:∀ h' tk c out,Fr h₀ L h' m→News h₀ L h' ((D,listOf (List.toArray out) c)::news)→All2 RK out (sortI zs)→P (.done (.ret .none)) ⟨h',GC,DC,tk,OC⟩) :
    wpAny (model prog w) A (ksk_rest D f false vs.toArray e1 (.ref kS)) P E ⟨hpS,GC,DC,tkS,OC⟩:=by
  have l2:=hR.length
  unfold ksk_rest
  refine wpAny_bind (wpAny_rule ?_)
  first
    | rw [List.forIn_toArray]
    | (rw [← Array.forIn_toList];simp only [List.toList_toArray])
    | rw [← Array.forIn_toList]
  refine wpAny_bind (ksk_fold (fun i s'=>∃ h' tk ks e add,s' = ⟨h',GC,DC,tk,OC⟩∧Fr h₀ L h' m∧News h₀ L h' ((kS,listOf (List.toArray ks) e)::(D,listOf #[] e1)::(add++news))∧All2 (KeyR add) ks (zs.take i)∧(∀ p∈add,p.1≠kS)∧∀ p∈add,p.1≠D) vs 0 ⟨hpS,GC,DC,tkS,OC⟩
    ⟨hpS,tkS,[],0,[],rfl,F,N,by simpa using All2.nil,List.forall_mem_nil _,List.forall_mem_nil _⟩ ?step ?done)
  case step =>
    rintro j x s' hx ⟨h',tk,ks,e,add,rfl,F',N',hK,a1,a2⟩
    simp only [Nat.zero_add] at hK ⊢
    obtain ⟨z,_,hv,et⟩:=hR.get hx
    have lk:=hK.length
    rw [List.length_take] at lk
    refine wpAny_bind (wpAny_attempt (wpAny_mono (turn x z _ ⟨h',GC,DC,tk,OC⟩ (fun _ _=>False) hv F' N' (fun p hp=>.tail _ (.tail _ (List.mem_append_right _ hp))) ⟨_,_,rfl⟩) (fun v s'' he=>?_) fun _ _ hF=>hF.elim))
    obtain ⟨h2,tk2,new,rfl,F2,N2,ap,kr⟩:=he
    have nk:=N2 (kS,listOf (List.toArray ks) e) (List.mem_append_right _ (.head _))
    have s1:=Heap.SameBut.update h2 kS (Obj.mapSeq (·.push v))
    have ea:(List.toArray ks).push v = List.toArray (ks++[v]):=by simp
    obtain ⟨c2,hc2⟩:∃ c2,(h2.update kS (Obj.mapSeq (·.push v))).get? kS = some (seqObj "list" (List.toArray (ks++[v])) c2):=⟨_,by rw [← ea];exact get?_update_seq nk.1 (·.push v)⟩
    try dsimp only
    have l6:=szL (Nat.le_trans (Nat.le_of_eq lk) (Nat.le_trans (Nat.min_le_right ..) h6))
    refine wpAny_bind (listUpdate_at nk.1 rfl ?_ l6 (Nat.le_trans (Nat.le_of_eq (Array.size_push ..)) (Nat.succ_le_succ l6)))
    refine wpAny_pure ⟨rfl,_,tk2,ks++[v],c2,new++add,rfl,kas_fr F2 s1 nk.2.1 nk.2.2,fun p hp=>?_,?_,fun p hp=>?_,fun p hp=>?_⟩
    · rcases List.mem_cons.mp hp with rfl | hp
      · exact ⟨hc2,nk.2⟩
      · refine kas_news (news:=(D,listOf #[] e1)::((new++add)++news)) (fun q hq=>N2 q ?_) s1 (fun q hq=>?_) p hp
        · rcases List.mem_cons.mp hq with rfl | hq
          · exact List.mem_append_right _ (.tail _ (.head _))
          · rw [List.append_assoc] at hq
            rcases List.mem_append.mp hq with hq | hq
            · exact List.mem_append_left _ hq
            · exact List.mem_append_right _ (.tail _ (.tail _ hq))
        · rcases List.mem_cons.mp hq with rfl | hq
          · exact Ne.symm hkD
          · rcases List.mem_append.mp hq with hq | hq
            · rcases List.mem_append.mp hq with hq | hq
              · exact Ne.symm (ap q hq _ (.head _))
              · exact a1 q hq
            · exact hk q hq
    · rw [et]
      exact (hK.imp fun _ _ h=>h.mono fun p hp=>List.mem_append_right _ hp).snoc (kr.mono fun p hp=>List.mem_append_left _ hp)
    · rcases List.mem_append.mp hp with hp | hp
      · exact Ne.symm (ap p hp _ (.head _))
      · exact a1 p hp
    · rcases List.mem_append.mp hp with hp | hp
      · exact Ne.symm (ap p hp _ (.tail _ (.head _)))
      · exact a2 p hp
  case done =>
    rintro s' ⟨h',tk,ks,e,add,rfl,F',N',hK,a1,a2⟩
    rw [Nat.zero_add,l2,List.take_length] at hK
    have nk:=N' (kS,listOf (List.toArray ks) e) (.head _)
    try dsimp only
    refine wpAny_bind (listItems_at nk.1 rfl ?_)
    refine sort_end (hpS:=h') (tkS:=tk) F' N' hkD (fun p hp=>(List.mem_append.mp hp).elim (a1 p) (hk p)) (fun p hp=>(List.mem_append.mp hp).elim (a2 p) (hD p)) (hK.imp fun _ _ h=>h.mono fun p hp=>List.mem_append_left _ hp) hR h6 hz fun h2 c out F2 N2 hO=>h h2 tk c out F2 (fun p hp=>N2 p ?_) hO
    rcases List.mem_cons.mp hp with rfl | hp
    · exact .head _
    · exact .tail _ (List.mem_append_right _ hp)
theorem sort_tree {vs:List Value} {zs:List Int} {n:Nat} {f:Value} {P:PySem.Fin→Shared→Prop} {RK:Value→Int→Prop} (F:Fr h₀ L hpS m) (N:News h₀ L hpS ((D,listOf vs.toArray n)::news)) (hD:∀ p∈news,p.1≠D)
    (hR:All2 RK vs zs) (h6:zs.length≤6) (hz:∀ z∈zs,1≤z∧z≤3)
    (turn:∀ v z led (s':Shared) (E':Value→Shared→Prop),RK v z→Fr h₀ L s'.heap m→News h₀ L s'.heap led→(∀ p∈news,p∈led)→(∃ h tk,s' = ⟨h,GC,DC,tk,OC⟩) →
      wpAny (model prog w) A (call f [v]) (Ret h₀ L m led fun add u=>KeyR add u z) E' s')
    (h:∀ h' tk c out,Fr h₀ L h' m→News h₀ L h' ((D,listOf (List.toArray out) c)::news)→All2 RK out (sortI zs)→P (.done (.ret .none)) ⟨h',GC,DC,tk,OC⟩) :
    wpAny (model prog w) A (ksk_tree D f false) P E ⟨hpS,GC,DC,tkS,OC⟩:=by
  have l2:=hR.length
  have nD:=N (D,_) (.head _)
  have ho:hpS.get? D = some (seqObj "list" vs.toArray n):=nD.1
  have hlt:D < hpS.objs.size:=Heap.lt_size ho
  have s1:=Heap.SameBut.update hpS D (Obj.mapSeq fun _=>(#[]:Array Value))
  obtain ⟨e1,ho1⟩:∃ e1,(hpS.update D (Obj.mapSeq fun _=>(#[]:Array Value))).get? D = some (seqObj "list" #[] e1):=⟨_,get?_update_seq ho fun _=>#[]⟩
  have F1:=kas_fr F s1 nD.2.1 nD.2.2
  have N1:=kas_news (fun p hp=>N p (.tail _ hp)) s1 hD
  have hkS:((hpS.update D (Obj.mapSeq fun _=>(#[]:Array Value))).push (seqObj "tuple" vs.toArray 0)).objs.size = hpS.objs.size + 1:=by rw [size_push',Heap.size_update]
  have hLk:L < ((hpS.update D (Obj.mapSeq fun _=>(#[]:Array Value))).push (seqObj "tuple" vs.toArray 0)).objs.size:=(F1.push _).ns.lt
  unfold ksk_tree
  refine wpAny_bind (listItems_at ho rfl ?_)
  refine wpAny_bind (listUpdate_at ho rfl ?_ (by rw [List.size_toArray,sizeLine_eq];(first | lia | omega)) (Nat.zero_le _))
  refine wpAny_bind (seqEpoch_at ho1 rfl ?_)
  refine wpAny_bind (wpAny_newTuple ?_ (by show vs.length≤_;rw [sizeLine_eq];(first | lia | omega)))
  refine wpAny_bind (wpAny_newList ?_ (Nat.zero_le _))
  refine wpAny_holding ?_
  refine sort_rest (hpS:=((hpS.update D (Obj.mapSeq fun _=>(#[]:Array Value))).push (seqObj "tuple" vs.toArray 0)).push (seqObj "list" #[] 0)) (tkS:=tkS) (kS:=((hpS.update D (Obj.mapSeq fun _=>(#[]:Array Value))).push (seqObj "tuple" vs.toArray 0)).objs.size)
    ((F1.push _).push _) (fun p hp=>?_) (by rw [hkS];exact Nat.ne_of_gt (Nat.lt_succ_of_lt hlt)) (fun p hp=>by rw [hkS];exact Nat.ne_of_lt (Nat.lt_succ_of_lt (Heap.lt_size (N p (.tail _ hp)).1))) hD hR h6 hz
    (fun v z led s' E' hv F' N' hs hst=>turn v z led s' E' hv F' N' hs (by obtain ⟨h',tk,rfl⟩:=hst;exact ⟨h',tk,rfl⟩)) fun h' tk c out F' N' hO=>h h' tk c out F' N' hO
  rcases List.mem_cons.mp hp with rfl | hp
  · exact ⟨Heap.get?_push_size _ rfl,Nat.ne_of_gt hLk,Heap.get?_none_of_le (Nat.le_trans F.above (Nat.le_of_lt hLk))⟩
  · rcases List.mem_cons.mp hp with rfl | hp
    · exact ⟨Heap.get?_push_of_some _ (Heap.get?_push_of_some _ ho1),nD.2⟩
    · exact ⟨Heap.get?_push_of_some _ (Heap.get?_push_of_some _ (N1 p hp).1),(N1 p hp).2⟩
theorem sorted_by {l:Addr} {q:Addr} {vs:List Value} {zs:List Int} {n:Nat} {Q:Value→Shared→Prop} {RK:Value→Int→Prop} (F:Fr h₀ L hpS m) (N:News h₀ L hpS news) (hl:(l,listOf vs.toArray n)∈news)
    (hR:All2 RK vs zs) (h6:zs.length≤6) (hz:∀ z∈zs,1≤z∧z≤3)
    (turn:Held (∀ v z led (s':Shared) (E':Value→Shared→Prop),RK v z→Fr h₀ L s'.heap m→News h₀ L s'.heap led→(∀ p∈news,p∈led)→(∃ h tk,s' = ⟨h,GC,DC,tk,OC⟩) →
      wpAny (model prog w) A.in1.in1 (call (.ref q) [v]) (Ret h₀ L m led fun add u=>KeyR add u z) E' s'))
    (fin:Held (∀ D h' tk c out,Fr h₀ L h' m→News h₀ L h' ((D,listOf (List.toArray out) c)::news)→(∀ p∈news,p.1 < D)→All2 RK out (sortI zs)→Q (.ref D) ⟨h',GC,DC,tk,OC⟩)) :
    wpAny (model prog w) A (call (.builtin "sorted") [.ref l] [(Str.ofString "key", .ref q)]) Q E ⟨hpS,GC,DC,tkS,OC⟩:=by
  have l2:=hR.length
  have hl':hpS.IsList l vs.toArray:=⟨_,(N _ hl).1,rfl,n,rfl⟩
  refine call_function_entry_kw kind_sorted plain_sorted entry_sorted (ksk_s1 _ _) ?_
  unfold Builtin.«sorted»
  refine wpAny_bind (m:=checkCount "sorted" 1 1 _) (wpAny_pure ?_)
  refine wpAny_bind (collect_list hl' ?_ (by rw [sizeLine_eq];(first | lia | omega)))
  refine wpAny_bind (wpAny_newList ?_ (by first | (rw [sizeLine_eq];simp;(first | lia | omega)) | (rw [sizeLine_eq];(first | lia | omega))))
  have hsz:((hpS.push (seqObj "list" #[] 0)).update hpS.objs.size (Obj.mapSeq (·++vs.toArray))).objs.size = hpS.objs.size + 1:=by
    rw [Heap.size_update,size_push']
  have hoL:(((hpS.push (seqObj "list" #[] 0)).update hpS.objs.size (Obj.mapSeq (·++vs.toArray))).push (seqObj "list" vs.toArray 0)).get? (hpS.objs.size + 1) = some (seqObj "list" vs.toArray 0):=by
    rw [← hsz];exact Heap.get?_push_size _ rfl
  have keep:∀ b o,hpS.get? b = some o→(((hpS.push (seqObj "list" #[] 0)).update hpS.objs.size (Obj.mapSeq (·++vs.toArray))).push (seqObj "list" vs.toArray 0)).get? b = some o:=fun b o q=>by
    have hlt:b < hpS.objs.size:=Heap.lt_size q
    rw [Heap.get?_push_ne _ _ _ (by rw [hsz];exact Nat.ne_of_lt (Nat.lt_succ_of_lt hlt)),Heap.get?_update_ne _ _ _ _ (Nat.ne_of_lt hlt),Heap.get?_push_ne _ _ _ (Nat.ne_of_lt hlt)]
    exact q
  have hL:L < hpS.objs.size:=F.ns.lt
  show wpAny _ _ _ _ _ ⟨((hpS.push (seqObj "list" #[] 0)).update hpS.objs.size (Obj.mapSeq (·++vs.toArray))).push (seqObj "list" vs.toArray 0),GC,DC,tkS,OC⟩
  rw [hsz]
  refine wpAny_bind (wpAny_holding (wpAny_call_entry_kw slot_list_sort ⟨_,hoL,rfl⟩ entry_list_sort ?body (ksk_l1 _ _)))
  case body =>
    show wpAny (model prog w) A.in1.in1 (Builtin.«list.sort» ⟨[.ref (hpS.objs.size + 1)],[(Str.ofString "key", .ref q)]⟩) _ _ _
    rw [ksk_t1]
    refine sort_tree (hpS:=((hpS.push (seqObj "list" #[] 0)).update hpS.objs.size (Obj.mapSeq (·++vs.toArray))).push (seqObj "list" vs.toArray 0)) (tkS:=tkS) (news:=news) (n:=0)
      (F.kept keep) (fun p hp=>?_) (fun p hp=>Nat.ne_of_lt (Nat.lt_succ_of_lt (Heap.lt_size (N p hp).1))) hR h6 hz (fun v z led s' E' hv F' N' hs hst=>turn.get v z led s' E' hv F' N' hs (by obtain ⟨h',tk,rfl⟩:=hst;exact ⟨h',tk,rfl⟩))
      fun h' tk c out F' N' hO=>⟨_,rfl,wpAny_pure ⟨_,rfl,fin.get _ h' tk c out F' N' (fun p hp=>Nat.lt_succ_of_lt (Heap.lt_size (N p hp).1)) hO⟩⟩
    rcases List.mem_cons.mp hp with rfl | hp
    · exact ⟨hoL,Nat.ne_of_gt (Nat.lt_succ_of_lt hL),Heap.get?_none_of_le (Nat.le_trans F.above (Nat.le_succ_of_le (Nat.le_of_lt hL)))⟩
    · exact ⟨keep _ _ (N p hp).1,(N p hp).2⟩
end
example:True:=by
  k_with "b6 ALLNE" => (first | assumption | exact List.forall_mem_nil _ | exact (fun p hp=>Nat.ne_of_lt (kst_ltOf (by assumption) p hp)) | exact (fun p hp=>Nat.ne_of_lt (Nat.lt_succ_of_lt (kst_ltOf (And.right (by assumption)) p hp))) | exact (fun p hp=>Nat.ne_of_lt (kst_ltOf (And.right (by assumption)) p hp)) | exact (fun p hp=>Nat.ne_of_lt (Nat.lt_succ_of_lt ((by assumption:∀ p:Addr×Obj,p∈_→@LT.lt Nat _ p.1 _) p hp))) | exact (fun p hp=>Nat.ne_of_lt ((by assumption:∀ p:Addr×Obj,p∈_→@LT.lt Nat _ p.1 _) p hp)) | (refine' List.forall_mem_cons.mpr ⟨?_,?_⟩;(first | assumption | exact Ne.symm (by assumption) | k_ne);k_extra "@ALLNE"))
  k_with "b6 K_ALL" => (k_extra "@ALLNE")
  k_with "b7 exec For Name Name cons nil" => ((k_here;k_dflt (refine' For_invVF ?F__ ?k1__ ?k2__ ?_;(case F__=>k_asm);(case k1__=>eq_refl);(case k2__=>eq_refl))))
  k_with "b7 pyIter ref" => ((k_dflt (refine' for0 (Rv:=IntR _) [] (fun _=>True) ?hh__ ?F__ ?N__ ?hs__ ?hm__ ?hR__ ?_ ?_;(case N__=>k_asm);(case hs__=>exact fun _ h_=>h_);(case hm__=>k_mem);(case hR__=>exact All2.imp (by assumption) (fun _ _ h_=>OptR.mono (by intro p_ h_;k_mem) h_));(case hh__=>eq_refl);(case F__=>k_asm))))
  k_with "b7 call builtin:sorted" => ((k_here;k_dflt (refine' sorted_by (RK:=IntR _) ?F__ ?N__ ?m__ ?R__ ?h6__ ?hz__ ?_ ?_;(case F__=>k_asm);(case N__=>k_asm);(case m__=>k_mem);(case R__=>exact All2.imp (by assumption) (fun _ _ h_=>OptR.mono (by intro p_ h_;k_mem) h_));(case h6__=>first | with_reducible assumption | assumption);(case hz__=>first | with_reducible assumption | assumption))))
  k_with "b8 DEL" => (first | assumption | exact Del.head | (refine' Del.tail ?dl__;(case dl__=>k_extra "@DEL")) | (refine' Del.app ?dl__;(case dl__=>k_extra "@DEL")))
  k_with "b8 exec FunctionDef" => ((k_here;k_dflt (refine' nestDef_K ?d0__ ?k0__ ?a0__ ?_;(case d0__=>eq_refl);(case k0__=>eq_refl);(case a0__=>eq_refl));(first | (k_dflt (refine' nest_K ?F__ ?N__ ?T__ ?C__ ?cd__ ?U__ ?t__ ?n__ ?cl__ ?_;(case F__=>k_asm);(case N__=>k_asm);(case T__=>k_asm);(case cd__=>eq_refl);(case C__=>exact codeHd_K (by k_asm));(case U__=>k_updF);(case t__=>kn_triples);(case n__=>kn_among);(case cl__=>eq_refl);k_whole);intro f'_ c'_ oc'_ vs'_ t'_ ct'_ dc'_ h'_ tk'_ F'_ N'_ d1'_ d2'_ l1_ l2_;(try dsimp only at N'_);(try k_lt l1_);(try k_lt2 l2_)) | (k_dflt (refine' nestHit_K ?F__ ?N__ ?T__ ?C__ ?cd__ ?mem__ ?t__ ?n__ ?cl__ ?_;(case F__=>k_asm);(case N__=>k_asm);(case T__=>k_asm);(case cd__=>eq_refl);(case C__=>exact codeHd_K (by k_asm));(case mem__=>k_mem);(case t__=>kn_triples);(case n__=>kn_hit);(case cl__=>eq_refl);k_whole);intro f'_ ct'_ dc'_ h'_ tk'_ F'_ N'_ l1_;(try dsimp only at N'_);(try k_lt l1_)))))
  k_with "b8 eval Name" => ((k_here;k_dflt (refine' nameX_F ?N__ ?c__ ?m__ ?d__ ?_ ?a__ ?b__;(case b__=>eq_refl);(case a__=>eq_refl);(case N__=>k_asm);(case c__=>eq_refl);(case m__=>k_mem);(case d__=>first | with_reducible assumption | assumption);k_whole)))
  k_with "b8 ENTERN" => ((refine wpAny_call ?_;k_dflt (refine' code_nest ?k1__ ?k2__ ?k3__ ?k4__ ?k5__ ?kA__ ?kF__ ?kK__ ?k6__ ?k7__ ?k8__ ?k9__ ?kB__ ?_ ?c2__ ?c3__ ?c4__ ?c5__;(case kA__=>eq_refl);(case kF__=>eq_refl);(case kK__=>eq_refl);(case k1__=>k_asm);(case k2__=>k_asm);(case k3__=>k_asm);(case k4__=>k_asm);(case k5__=>k_asm);(case k6__=>k_mem);(case k7__=>exact codeRec_news (by k_asm) (by k_mem) (by assumption) (by assumption));(case k8__=>ktr_room);(case k9__=>exact BindsTo.of_eq rfl);(case c5__=>decide);(case kB__=>exact locs rfl);(case c2__=>eq_refl);(case c3__=>eq_refl);(case c4__=>eq_refl);k_whole;intro g'_ L'_ h'_ FG'_ F'_ N'_ B'_ X'_ T'_;(try dsimp only);(try k_fold))))
  trivial
section
local macro_rules (kind := PySem.W.tacticK_extra_) | s => mq "0 b8 b7 b2 b6 by m l k j q h g f e d c bf o a" s
noncomputable abbrev IntR (news:Led) (v:Value) (z:Int):Prop:=OptR news v (some (z,1))
inductive Del (a:Addr) (o:Obj):Led→Led→Prop
  | head {r:Led}:Del a o ((a,o)::r) r
  | tail {p:Addr×Obj} {r r':Led}:Del a o r r'→Del a o (p::r) (p::r')
  | app {A r r':Led}:Del a o r r'→Del a o (A++r) (A++r')
theorem Del.mem {a:Addr} {o:Obj} {l r:Led} (d:Del a o l r):(a,o)∈l:=by
  induction d with
  | head=>exact .head _
  | tail _ ih=>exact .tail _ ih
  | app _ ih=>exact List.mem_append_right _ ih
theorem Del.sub {a:Addr} {o:Obj} {l r:Led} (d:Del a o l r):∀ p∈r,p∈l:=by
  induction d with
  | head=>exact fun p hp=>.tail _ hp
  | tail _ ih =>
    intro p hp
    rcases List.mem_cons.mp hp with rfl | hp
    · exact .head _
    · exact .tail _ (ih p hp)
  | app _ ih =>
    intro p hp
    rcases List.mem_append.mp hp with hp | hp
    · exact List.mem_append_left _ hp
    · exact List.mem_append_right _ (ih p hp)
theorem Del.or {a:Addr} {o:Obj} {l r:Led} (d:Del a o l r):∀ p∈l,p = (a,o)∨p∈r:=by
  induction d with
  | head=>exact fun p hp=>List.mem_cons.mp hp
  | tail _ ih =>
    intro p hp
    rcases List.mem_cons.mp hp with rfl | hp
    · exact .inr (.head _)
    · exact (ih p hp).imp id fun h=>.tail _ h
  | app _ ih =>
    intro p hp
    rcases List.mem_append.mp hp with hp | hp
    · exact .inr (List.mem_append_left _ hp)
    · exact (ih p hp).imp id fun h=>List.mem_append_right _ h
theorem Del.nws {a:Addr} {o:Obj} {l r:Led} {h₀ h:Heap} {L:Addr} (d:Del a o l r) (N:News h₀ L h l):News h₀ L h ((a,o)::r):=fun p hp=>by
  rcases List.mem_cons.mp hp with rfl | hp
  · exact N _ d.mem
  · exact N p (d.sub p hp)
noncomputable def TabSt (led:Led) (ps:Array Value):Prop:=ps = #[]∨∃ c' oc vs t,ps = #[rawInt 782,rawInt 4,.ref c']∧(c',oc)∈led∧oc.data = .fields vs∧vs[1]? = some (.str (Str.ofString "ascending.<locals>.place") t)
theorem TabSt.mono {led led':Led} {ps:Array Value} (h:TabSt led ps) (hs:∀ p∈led,p∈led'):TabSt led' ps:=by
  rcases h with h | ⟨c',oc,vs,t,a,b,c,d⟩
  · exact .inl h
  · exact .inr ⟨c',oc,vs,t,a,hs _ b,c,d⟩
theorem codeHd_K {h:Heap} (X:(Mine.hd.heap_1 (World.params w)).In h):CodeHd h 940 936 :=
  ⟨_,_,_,_,_,_,_,_,_,X _ _ (show List.lookup 940 (Mine.hd.heap_1 (World.params w)) = some { cls:=.type "code", data:=.fields _ } from rfl),rfl,rfl,rfl,rfl,rfl,rfl,rfl,rfl,by decide⟩
inductive RetT (h₀:Heap) (L:Addr) (m:Str→Option Value) (rest:Led) (R:Led→Value→Prop) (u:Value) (s':Shared):Prop
  | mk (h':Heap) (tk':Nat) (add:Led) (ps':Array Value):s' = ⟨h',GC,DC,tk',OC⟩→Fr h₀ L h' m→News h₀ L h' (add++(936,tabObj ps')::rest)→(∀ p∈add,p.1≠936∧∀ q∈rest,q.1≠p.1)→TabSt (add++rest) ps'→R add u→RetT h₀ L m rest R u s'
section
variable {hpS:Heap} {tkS:Nat} {h₀:Heap} {L:Addr} {m:Str→Option Value} {news:Led} {Q:Value→Shared→Prop} {α β γ δ:Type}
theorem retTK {R:Led→Value→Prop} (k:∀ u h tk add ps,Fr h₀ L h m→News h₀ L h (add++(936,tabObj ps)::news)→(∀ p∈add,p.1≠936∧∀ q∈news,q.1≠p.1)→TabSt (add++news) ps→R add u→Q u ⟨h,GC,DC,tk,OC⟩):∀ u s',RetT h₀ L m news R u s'→Q u s':=by
  rintro u s' ⟨h,tk,add,ps,rfl,F,N,a,tt,r⟩
  exact k u h tk add ps F N a tt r
theorem retTK3a2 {f:α→β→γ→Value} {A1:Led→α→β→γ→Prop} {A2:Led→α→β→γ→Prop} (k:∀ x y z h tk add ps,Fr h₀ L h m→News h₀ L h (add++(936,tabObj ps)::news)→(∀ p∈add,p.1≠936∧∀ q∈news,q.1≠p.1)→TabSt (add++news) ps→A1 add x y z→A2 add x y z→Q (f x y z) ⟨h,GC,DC,tk,OC⟩):∀ u s',RetT h₀ L m news (fun add u=>∃ x y z,u = f x y z∧A1 add x y z∧A2 add x y z) u s'→Q u s':=by
  rintro _ s' ⟨h,tk,add,ps,rfl,F,N,a,tt,x,y,z,rfl,a1,a2⟩
  exact k x y z h tk add ps F N a tt a1 a2
end
theorem retT1 {h₀ h:Heap} {L D f c':Addr} {o fo oc:Obj} {x:Addr×Obj} {m:Str→Option Value} {rest:Led} {tk:Nat} {ps vs:Array Value} {t:Tok} {P1:Prop} {R:Led→Value→Prop} (F:Fr h₀ L h m) (N:News h₀ L h ((D,o)::(f,fo)::(c',oc)::x::(936,tabObj ps)::rest))
    (l9:∀ p∈(f,fo)::(c',oc)::x::(936,tabObj ps)::rest,p.1 < D) (l1:P1∧@LT.lt Nat _ 936 c'∧AllLt c' rest) (hps:ps = #[rawInt 782,rawInt 4,.ref c']) (hd:oc.data = .fields vs) (hv:vs[1]? = some (.str (Str.ofString "ascending.<locals>.place") t)) (r:R [(D,o),(c',oc)] (.ref D)) :
    RetT h₀ L m rest R (.ref D) ⟨h,GC,DC,tk,OC⟩:=by
  refine ⟨h,tk,[(D,o),(c',oc)],ps,rfl,F,fun p hp=>N p ?_,fun p hp=>?_,.inr ⟨c',oc,vs,t,hps,.tail _ (.head _),hd,hv⟩,r⟩
  · simp only [List.cons_append,List.nil_append,List.mem_cons] at hp ⊢
    rcases hp with h | h | h | h<;>simp [h]
  · have b:@LT.lt Nat _ 936 D:=l9 (936,tabObj ps) (.tail _ (.tail _ (.tail _ (.head _))))
    simp only [List.mem_cons,List.not_mem_nil,or_false] at hp
    rcases hp with rfl | rfl
    · exact ⟨Nat.ne_of_gt b,fun q hq=>Nat.ne_of_lt (l9 q (.tail _ (.tail _ (.tail _ (.tail _ hq)))))⟩
    · exact ⟨Nat.ne_of_gt l1.2.1,fun q hq=>Nat.ne_of_lt (kst_ltOf l1.2.2 q hq)⟩
theorem retT2 {h₀ h:Heap} {L D f:Addr} {o fo:Obj} {x:Addr×Obj} {m:Str→Option Value} {rest:Led} {tk:Nat} {ps:Array Value} {R:Led→Value→Prop} (F:Fr h₀ L h m) (N:News h₀ L h ((D,o)::(f,fo)::x::(936,tabObj ps)::rest))
    (l9:∀ p∈(f,fo)::x::(936,tabObj ps)::rest,p.1 < D) (ht:TabSt rest ps) (r:R [(D,o)] (.ref D)) :
    RetT h₀ L m rest R (.ref D) ⟨h,GC,DC,tk,OC⟩:=by
  refine ⟨h,tk,[(D,o)],ps,rfl,F,fun p hp=>N p ?_,fun p hp=>?_,ht.mono fun p hp=>.tail _ hp,r⟩
  · simp only [List.cons_append,List.nil_append,List.mem_cons] at hp ⊢
    rcases hp with h | h | h<;>simp [h]
  · have b:@LT.lt Nat _ 936 D:=l9 (936,tabObj ps) (.tail _ (.tail _ (.head _)))
    rw [List.mem_singleton.mp hp]
    exact ⟨Nat.ne_of_gt b,fun q hq=>Nat.ne_of_lt (l9 q (.tail _ (.tail _ (.tail _ hq))))⟩
section
variable (B:Below A₀ base outer h₀) (F:Fr h₀ L hpS m) (X:(Mine.hd.heap_1 (World.params w)).In h₀) (N:News h₀ L hpS news) (T:Top p loose mean mg mb h₀) (hk:cs.kind = .function)
include B F X N T hk
theorem ascending_ct {l:Addr} {vs:List Value} {k:Nat} {zs:List Int} {ps:Array Value} {rest:Led} (D:Del 936 (tabObj ps) news rest) (hT:TabSt rest ps) (h9:∀ p∈rest,p.1≠936)
  (h3:(l,listOf vs.toArray k)∈rest) (h4:All2 (IntR rest) vs zs) (h5:zs.length≤6) (h6:∀ z∈zs,1≤z∧z≤3) (hd:dp + 8 < recursionLimit) (hu:un + 80 < cLine)
  (ret:∀ u s',RetT h₀ L m rest (fun add u=>∃ D out c,u = .ref D∧(D,listOf (List.toArray out) c)∈add∧All2 (IntR rest) out (sortI zs)) u s'→Q u s') :
  wpAny (model prog w) (ktrTop dp un gd cn cs L a ccd cl outer) (call (.ref 941) [.ref l]) Q E ⟨hpS,GC,DC,tkS,OC⟩:=by
  replace N:=D.nws N
  clear D
  rcases hT with rfl | ⟨c',oc,vs',t,rfl,g1,g2,g3⟩
  · k_extra "@ENTERC"
    k_steps
    · constructor
      intro pre y post v h tk own u e hv hS F1 N1
      cases hv
      k_steps
      all_goals first | (first | lia | omega) | exact ⟨trivial,_,_,_,rfl,by k_asm,news_sub (by k_asm) (by intro p h;k_mem),fun z h1 h2=>by rw [if_neg h1,if_neg (by simp)]⟩ | trace_state
    · constructor
      intro u h tk _ F1 N1
      k_steps
      · constructor
        intro v z led s' E' hv F1 N1 hs hst
        obtain ⟨h,tk,rfl⟩:=hst
        have m1:=hs _ (.head _)
        have m2:=hs _ (.tail _ (.head _))
        have m3:=hs _ (.tail _ (.tail _ (.head _)))
        cases hv with
        | some hm =>
        have m4:=hs _ (.tail _ (.tail _ (.tail _ (.tail _ hm))))
        clear hm hs
        k_extra "@ENTERN"
        k_steps
        all_goals first | (first | lia | omega) | exact ret1 (by k_asm) (by k_asm) (by assumption) (fun _ h=>h) (by rw [show z * Int.fdiv 1 1 = z from by rw [show Int.fdiv 1 1 = 1 from by decide];(first | lia | omega)];exact .mk (.head _))
      · constructor
        intro D9 h9 tk9 c9 out9 F9 N9 l9 hO
        k_steps
        exact ret _ _ (retT1 (by k_asm) (by k_asm) l9 (by assumption) (by simp [rawInt]) (by assumption) (by assumption) ⟨_,_,_,rfl,.head _,hO⟩)
  · k_extra "@ENTERC"
    k_steps
    · constructor
      intro pre y post v h tk own u e hv hS F1 N1
      cases hv
      k_steps
      all_goals first | (first | lia | omega) | exact ⟨trivial,_,_,_,rfl,by k_asm,news_sub (by k_asm) (by intro p h;k_mem),fun z h1 h2=>by rw [if_neg h1,if_neg (by simp)]⟩ | trace_state
    · constructor
      intro u h tk _ F1 N1
      k_steps
      · constructor
        intro v z led s' E' hv F1 N1 hs hst
        obtain ⟨h,tk,rfl⟩:=hst
        have m1:=hs _ (.head _)
        have m2:=hs _ (.tail _ (.head _))
        have m3:=hs _ (.tail _ (.tail _ (.tail _ g1)))
        cases hv with
        | some hm =>
        have m4:=hs _ (.tail _ (.tail _ (.tail _ hm)))
        clear hm hs
        k_extra "@ENTERN"
        k_steps
        all_goals first | (first | lia | omega) | exact ret1 (by k_asm) (by k_asm) (by assumption) (fun _ h=>h) (by rw [show z * Int.fdiv 1 1 = z from by rw [show Int.fdiv 1 1 = 1 from by decide];(first | lia | omega)];exact .mk (.head _))
      · constructor
        intro D9 h9 tk9 c9 out9 F9 N9 l9 hO
        k_steps
        exact ret _ _ (retT2 (by k_asm) (by k_asm) l9 (.inr ⟨_,_,_,_,rfl,g1,g2,g3⟩) ⟨_,_,_,rfl,.head _,hO⟩)
end
end
theorem All2.drop {α:Type} {R:Value→α→Prop} {vs:List Value} {xs:List α} (h:All2 R vs xs):∀ n,All2 R (vs.drop n) (xs.drop n):=by
  induction h with
  | nil=>intro n;simpa using All2.nil
  | cons a r ih =>
    intro n
    cases n with
    | zero=>exact .cons a r
    | succ n=>exact ih n
theorem All2.take {α:Type} {R:Value→α→Prop} {vs:List Value} {xs:List α} (h:All2 R vs xs):∀ n,All2 R (vs.take n) (xs.take n):=by
  induction h with
  | nil=>intro n;simpa using All2.nil
  | cons a r ih =>
    intro n
    cases n with
    | zero=>exact .nil
    | succ n=>exact .cons a (ih n)
theorem two_of {ss:List Int} {i:Nat} (h:i + 2≤ss.length):(ss.drop i).take 2 = [ss.getD i 0,ss.getD (i + 1) 0]:=by
  have h1:i < ss.length:=by (first | lia | omega)
  have h2:i + 1 < ss.length:=by (first | lia | omega)
  rw [List.drop_eq_getElem_cons h1,List.drop_eq_getElem_cons h2]
  show [ss[i],ss[i + 1]] = _
  simp [h1,h2]
structure MedF (n:Nat):Prop where
  e:Int.fmod (n:Int) 2 = 0→0≤Int.fdiv (n:Int) 2 - 1∧Int.fdiv (n:Int) 2 + 1 = Int.fdiv (n:Int) 2 - 1 + 2∧Int.fdiv (n:Int) 2 + 1≤(n:Int)
  e2:Int.fmod (n:Int) 2 = 0→(Int.fdiv (n:Int) 2 - 1).toNat = n / 2 - 1∧n / 2 - 1 + 1 = n / 2∧n % 2 = 0
  e3:Int.fmod (n:Int) 2 = 0→(Int.fdiv (n:Int) 2 - 1).toNat < n∧(Int.fdiv (n:Int) 2 - 1).toNat + 1 < n
  o1:¬ Int.fmod (n:Int) 2 = 0→Int.fdiv (n:Int) 2 < (n:Int)
  o2:¬ Int.fmod (n:Int) 2 = 0→(Int.fdiv (n:Int) 2).toNat = n / 2∧n % 2 = 1
  z:0≤Int.fdiv (n:Int) 2
theorem medF {n:Nat} (h:n≤6) (h0:0 < n):MedF n :=
  ⟨(by decide +kernel:∀ n:Nat,n < 7→0 < n→(Int.fmod (n:Int) 2 = 0→0≤Int.fdiv (n:Int) 2 - 1∧Int.fdiv (n:Int) 2 + 1 = Int.fdiv (n:Int) 2 - 1 + 2∧Int.fdiv (n:Int) 2 + 1≤(n:Int))) n (Nat.lt_succ_of_le h) h0,
   (by decide +kernel:∀ n:Nat,n < 7→0 < n→(Int.fmod (n:Int) 2 = 0→(Int.fdiv (n:Int) 2 - 1).toNat = n / 2 - 1∧n / 2 - 1 + 1 = n / 2∧n % 2 = 0)) n (Nat.lt_succ_of_le h) h0,
   (by decide +kernel:∀ n:Nat,n < 7→0 < n→(Int.fmod (n:Int) 2 = 0→(Int.fdiv (n:Int) 2 - 1).toNat < n∧(Int.fdiv (n:Int) 2 - 1).toNat + 1 < n)) n (Nat.lt_succ_of_le h) h0,
   (by decide +kernel:∀ n:Nat,n < 7→0 < n→(¬ Int.fmod (n:Int) 2 = 0→Int.fdiv (n:Int) 2 < (n:Int))) n (Nat.lt_succ_of_le h) h0,
   (by decide +kernel:∀ n:Nat,n < 7→0 < n→(¬ Int.fmod (n:Int) 2 = 0→(Int.fdiv (n:Int) 2).toNat = n / 2∧n % 2 = 1)) n (Nat.lt_succ_of_le h) h0,
   (by decide +kernel:∀ n:Nat,n < 7→0 < n→(0≤Int.fdiv (n:Int) 2)) n (Nat.lt_succ_of_le h) h0⟩
theorem pick2 {n i:Nat} (h:n≤6) (h2:i + 2≤n):kms_lo (some (i:Int)) n = i∧kms_hi (some ((i:Int) + 2)) n - kms_lo (some (i:Int)) n = 2 :=
  (by decide +kernel:∀ n:Nat,n≤6→∀ i:Nat,i≤6→i + 2≤n→kms_lo (some (i:Int)) n = i∧kms_hi (some ((i:Int) + 2)) n - kms_lo (some (i:Int)) n = 2) n h i (Nat.le_trans (Nat.le_add_right _ _) (Nat.le_trans h2 h)) h2
section
variable {A:Around} {E:Value→Shared→Prop} {hpS:Heap} {tkS:Nat} {h₀:Heap} {L l:Addr} {m:Str→Option Value} {news:Led} {value slice:PySem.Expr} {out:List Value} {ss:List Int} {R:Value→Int→Prop} {c:Nat} {Q:Value→Shared→Prop}
theorem slice2 {lo hi:Int} {t1 t2:Tok} (F:Fr h₀ L hpS m) (N:News h₀ L hpS news) (hm:(l,listOf out.toArray c)∈news) (hR:All2 R out ss) (hb:0≤lo∧hi = lo + 2∧hi≤ss.length) (h6:ss.length≤6)
    (h:∀ D v1 v2 h',R v1 (ss.getD lo.toNat 0)→R v2 (ss.getD (lo.toNat + 1) 0)→Fr h₀ L h' m→News h₀ L h' ((D,listOf #[v1,v2] 0)::news)→(∀ p∈news,p.1 < D)→Q (.ref D) ⟨h',GC,DC,tkS,OC⟩)
    (hs:subscripted slice false (.ref l) (.ref hpS.objs.size) = operate [.ref hpS.objs.size,.ref l] (getItem (.ref l) (.ref hpS.objs.size))) (ht:∀ r,letTemporaryGo value (.ref l) r = pure ()) :
    wpAny (model prog w) A (subscriptTail value slice (.ref l) (.ref hpS.objs.size)) Q E ⟨hpS.push { cls:=.type "slice", data:=.fields #[.int lo t1,.int hi t2,.none] },GC,DC,tkS,OC⟩:=by
  have hlen:=hR.length
  have hl:hpS.IsList l out.toArray:=⟨_,(N _ hm).1,rfl,c,rfl⟩
  obtain ⟨b1,rfl,b3⟩:=hb
  obtain ⟨i,rfl⟩:=Int.eq_ofNat_of_zero_le b1
  have h2:i + 2≤ss.length:=Int.ofNat_le.mp b3
  have pk:=pick2 (hlen▸h6) (hlen▸h2)
  have e:kms_pick out (some (i:Int)) (some ((i:Int) + 2)) = (out.drop i).take 2:=by
    unfold kms_pick
    rw [pk.2,pk.1]
  have hp:All2 R ((out.drop i).take 2) [ss.getD i 0,ss.getD (i + 1) 0]:=two_of h2▸(hR.drop i).take 2
  refine kms_slice_lit (s:=⟨hpS,GC,DC,tkS,OC⟩) F N hl (IsPart.int _ _) (IsPart.int _ _) e (fun D h' F' N' l1=>?_) hs ht (Nat.le_trans (m:=6) (hlen▸h6:out.length≤6) (by rw [sizeLine_eq];decide))
  generalize (out.drop i).take 2 = q at hp N'
  cases hp with
  | cons a r =>
  cases r with
  | cons b r =>
  cases r
  exact h D _ _ h' a b F' N' l1
theorem item_a2 {i:Int} {u:Tok} (N:News h₀ L hpS news) (hm:(l,listOf out.toArray c)∈news) (hR:All2 R out ss) (h0:0≤i) (h1:i < ss.length) (h6:ss.length≤6) (h:∀ v,R v (ss.getD i.toNat 0)→Q v ⟨hpS,GC,DC,tkS,OC⟩)
    (hs:subscripted slice false (.ref l) (.int i u) = operate [.ref l,.int i u] (getItem (.ref l) (.int i u)):=by with_unfolding_all rfl) :
    wpAny (model prog w) A (subscriptTail value slice (.ref l) (.int i u)) Q E ⟨hpS,GC,DC,tkS,OC⟩:=by
  have hlen:=hR.length
  have hi:i.toNat < out.length:=by (first | lia | omega)
  refine item_l (v:=out[i.toNat]) N hm h0 (by (first | lia | omega)) (by simp [hi]) (h _ ?_) hs
  have:=hR.getD (i:=i.toNat) (by (first | lia | omega))
  simpa [hi] using this
end
theorem sortI_len (zs:List Int):(sortI zs).length = zs.length:=by
  have ins:∀ (x:Int) (l:List Int),(insI x l).length = l.length + 1:=by
    intro x l
    induction l with
    | nil=>rfl
    | cons y r ih =>
      unfold insI
      split
      · rfl
      · simp [ih]
  induction zs with
  | nil=>rfl
  | cons z r ih=>simp [sortI,ins,ih]
theorem sortI_mem {zs:List Int} {P:Int→Prop} (h:∀ z∈zs,P z):∀ z∈sortI zs,P z:=by
  have ins:∀ (x:Int) (l:List Int),P x→(∀ z∈l,P z)→∀ z∈insI x l,P z:=by
    intro x l hx hl
    induction l with
    | nil=>intro z hz;rw [List.mem_singleton.mp hz];exact hx
    | cons y r ih =>
      unfold insI
      split
      · intro z hz
        rcases List.mem_cons.mp hz with rfl | hz
        · exact hx
        · exact hl z hz
      · intro z hz
        rcases List.mem_cons.mp hz with rfl | hz
        · exact hl _ (.head _)
        · exact ih (fun z hz=>hl z (.tail _ hz)) z hz
  induction zs with
  | nil=>intro z hz;cases hz
  | cons z r ih=>exact ins z _ (h z (.head _)) (ih fun y hy=>h y (.tail _ hy))
section
local macro_rules (kind := PySem.W.tacticK_extra_) | s => mq "0" s
inductive MedV (w:World) (xs:List (Option Int)) (add:Led) (u:Value):Prop
  | na:(xs = []∨xs.any (·.isNone) = true)→ResV w "integer" (fun _ v=>v = .none) add u→MedV w xs add u
  | odd (zs:List Int):xs = zs.map some→zs.length % 2 = 1→ResV w "integer" (fun _ v=>∃ t,v = .int ((sortI zs).getD (zs.length / 2) 0) t) add u→MedV w xs add u
  | even (zs:List Int):xs = zs.map some→zs≠[]→zs.length % 2 = 0→ResV w "double" (fun led v=>OptR led v (meanO [some ((sortI zs).getD (zs.length / 2 - 1) 0),some ((sortI zs).getD (zs.length / 2) 0)])) add u→MedV w xs add u
theorem ne_app {A r led:Led} {o:Obj} (a:∀ p∈A,∀ q∈led,q.1≠p.1) (hm:(936,o)∈led) (h:∀ p∈r,p.1≠936):∀ p∈A++r,p.1≠936:=fun p hp=>(List.mem_append.mp hp).elim (fun hp=>Ne.symm (a p hp _ hm)) (h p)
theorem ints_del {a:Addr} {ps:Array Value} {led rest:Led} (D:Del a (tabObj ps) led rest) {vs:List Value} {xs:List (Option Int)} {zs:List Int} (h:All2 (OptO led) vs xs) (e:xs = zs.map some):All2 (IntR rest) vs zs:=by
  subst e
  refine (All2.unmap (f:=some) h).imp fun v z hv=>?_
  cases hv with
  | some hm =>
    rcases D.or _ hm with e | hm
    · cases e
    · exact .some hm
theorem retVT {h₀ h:Heap} {L x d l:Addr} {kind:String} {m:Str→Option Value} {rest led:Led} {tk k:Nat} {t1 t2 t3 t4 t5 tv:Tok} {v:Value} {R:Led→Value→Prop} {ps:Array Value} (A:Led) (F:Fr h₀ L h m)
    (N:News h₀ L h ((x,instObj 262 d)::(d,vecO w t1 t2 t3 t4 t5 (Str.ofString kind) tv (.ref l) .none)::(l,listOf #[v] k)::led)) (hl:∀ p∈led,p.1 < l) (hd:@LT.lt Nat _ l d∧AllLt d led) (hx:@LT.lt Nat _ d x)
    (hA:∀ p∈A++(936,tabObj ps)::rest,p∈led) (aA:∀ p∈A,p.1≠936∧∀ q∈rest,q.1≠p.1) (ht:TabSt (A++rest) ps)
    (r:∀ add:Led,(x,instObj 262 d)∈add→(d,vecO w t1 t2 t3 t4 t5 (Str.ofString kind) tv (.ref l) .none)∈add→(l,listOf #[v] k)∈add→(∀ p∈A,p∈add)→R add (.ref x)) :
    RetT h₀ L m rest R (.ref x) ⟨h,GC,DC,tk,OC⟩:=by
  have b1:∀ q∈(936,tabObj ps)::rest,@LT.lt Nat _ q.1 l:=fun q hq=>hl q (hA q (List.mem_append_right _ hq))
  have b2:∀ q∈(936,tabObj ps)::rest,@LT.lt Nat _ q.1 d:=fun q hq=>Nat.lt_trans (b1 q hq) hd.1
  have b3:∀ q∈(936,tabObj ps)::rest,@LT.lt Nat _ q.1 x:=fun q hq=>Nat.lt_trans (b2 q hq) hx
  refine ⟨h,tk,(x,instObj 262 d)::(d,vecO w t1 t2 t3 t4 t5 (Str.ofString kind) tv (.ref l) .none)::(l,listOf #[v] k)::A,ps,rfl,F,fun p hp=>N p ?_,fun p hp=>?_,ht.mono fun p hp=>.tail _ (.tail _ (.tail _ hp)),r _ (.head _) (.tail _ (.head _)) (.tail _ (.tail _ (.head _))) fun p hp=>.tail _ (.tail _ (.tail _ hp))⟩
  · simp only [List.cons_append,List.mem_cons] at hp ⊢
    rcases hp with e | e | e | hp
    · exact .inl e
    · exact .inr (.inl e)
    · exact .inr (.inr (.inl e))
    · exact .inr (.inr (.inr (hA p hp)))
  · simp only [List.mem_cons] at hp
    rcases hp with rfl | rfl | rfl | hp
    · exact ⟨Nat.ne_of_gt (b3 _ (.head _)),fun q hq=>Nat.ne_of_lt (b3 q (.tail _ hq))⟩
    · exact ⟨Nat.ne_of_gt (b2 _ (.head _)),fun q hq=>Nat.ne_of_lt (b2 q (.tail _ hq))⟩
    · exact ⟨Nat.ne_of_gt (b1 _ (.head _)),fun q hq=>Nat.ne_of_lt (b1 q (.tail _ hq))⟩
    · exact aA p hp
theorem srt_bd {zs:List Int} {i:Nat} (h:∀ z∈zs,1≤z∧z≤3) (hi:i < zs.length):1≤(sortI zs).getD i 0∧(sortI zs).getD i 0≤3:=by
  have hi':i < (sortI zs).length:=by rw [sortI_len];exact hi
  have:(sortI zs).getD i 0 = (sortI zs)[i]:=by simp [hi']
  rw [this]
  exact sortI_mem h _ (List.getElem_mem hi')
theorem srt_bd2 {zs:List Int} {i:Nat} (h:∀ z∈zs,1≤z∧z≤3) (hi:i < (sortI zs).length):1≤(sortI zs).getD i 0∧(sortI zs).getD i 0≤3:=srt_bd h (sortI_len zs▸hi)
theorem OptR.up {news news':Led} {v:Value} {x:Option (Int×Int)} (h:OptR news v x) (hs:∀ p∈news,p∈news'):OptR news' v x:=OptR.mono hs h
theorem apart12 {A1 A2 rest news:Led} {o:Obj} (D:Del 936 o news rest) (a1:∀ p∈A1,p.1≠936∧∀ q∈A2++rest,q.1≠p.1) (a2:∀ p∈A2,∀ q∈news,q.1≠p.1):∀ p∈A1++A2,p.1≠936∧∀ q∈rest,q.1≠p.1:=fun p hp=>by
  rcases List.mem_append.mp hp with hp | hp
  · exact ⟨(a1 p hp).1,fun q hq=>(a1 p hp).2 q (List.mem_append_right _ hq)⟩
  · exact ⟨Ne.symm (a2 p hp _ D.mem),fun q hq=>a2 p hp q (D.sub q hq)⟩
section
variable {hpS:Heap} {tkS:Nat} {h₀ h:Heap} {L x d l:Addr} {kind:String} {m:Str→Option Value} {rest news A1 A2 A3:Led} {tk k:Nat} {t1 t2 t3 t4 t5 tv:Tok} {v:Value} {R:Led→Value→Prop} {ps:Array Value} {o:Obj} {S:Addr×Obj}
theorem retOdd (D:Del 936 o news rest) (F:Fr h₀ L h m) (N:News h₀ L h ((x,instObj 262 d)::(d,vecO w t1 t2 t3 t4 t5 (Str.ofString kind) tv (.ref l) .none)::(l,listOf #[v] k)::(A1++(936,tabObj ps)::(A2++rest))))
    (hl:∀ p∈A1++(936,tabObj ps)::(A2++rest),p.1 < l) (hd:@LT.lt Nat _ l d∧AllLt d (A1++(936,tabObj ps)::(A2++rest))) (hx:@LT.lt Nat _ d x) (a1:∀ p∈A1,p.1≠936∧∀ q∈A2++rest,q.1≠p.1) (a2:∀ p∈A2,∀ q∈news,q.1≠p.1) (ht:TabSt (A1++(A2++rest)) ps)
    (r:∀ add:Led,(x,instObj 262 d)∈add→(d,vecO w t1 t2 t3 t4 t5 (Str.ofString kind) tv (.ref l) .none)∈add→(l,listOf #[v] k)∈add→R add (.ref x)) :
    RetT h₀ L m rest R (.ref x) ⟨h,GC,DC,tk,OC⟩ :=
  retVT (A1++A2) F N hl hd hx (fun p hp=>by
    simp only [List.mem_append,List.mem_cons] at hp ⊢
    rcases hp with (h | h) | h | h
    · exact .inl h
    · exact .inr (.inr (.inl h))
    · exact .inr (.inl h)
    · exact .inr (.inr (.inr h))) (apart12 D a1 a2) (by rw [List.append_assoc];exact ht) fun add b1 b2 b3 _=>r add b1 b2 b3
theorem retEven (D:Del 936 o news rest) (F:Fr h₀ L h m) (N:News h₀ L h ((x,instObj 262 d)::(d,vecO w t1 t2 t3 t4 t5 (Str.ofString kind) tv (.ref l) .none)::(l,listOf #[v] k)::(A3++S::(A1++(936,tabObj ps)::(A2++rest)))))
    (hl:∀ p∈A3++S::(A1++(936,tabObj ps)::(A2++rest)),p.1 < l) (hd:@LT.lt Nat _ l d∧AllLt d (A3++S::(A1++(936,tabObj ps)::(A2++rest)))) (hx:@LT.lt Nat _ d x) (a3:∀ p∈A3,∀ q∈S::(A1++(936,tabObj ps)::(A2++rest)),q.1≠p.1) (a1:∀ p∈A1,p.1≠936∧∀ q∈A2++rest,q.1≠p.1) (a2:∀ p∈A2,∀ q∈news,q.1≠p.1) (ht:TabSt (A1++(A2++rest)) ps)
    (r:∀ add:Led,(x,instObj 262 d)∈add→(d,vecO w t1 t2 t3 t4 t5 (Str.ofString kind) tv (.ref l) .none)∈add→(l,listOf #[v] k)∈add→(∀ p∈A3,p∈add)→R add (.ref x)) :
    RetT h₀ L m rest R (.ref x) ⟨h,GC,DC,tk,OC⟩ :=
  retVT (A3++(A1++A2)) F N hl hd hx (fun p hp=>by
    simp only [List.mem_append,List.mem_cons] at hp ⊢
    rcases hp with (h | h | h) | h | h
    · exact .inl h
    · exact .inr (.inr (.inl h))
    · exact .inr (.inr (.inr (.inr (.inl h))))
    · exact .inr (.inr (.inr (.inl h)))
    · exact .inr (.inr (.inr (.inr (.inr h))))) (fun p hp=>by
      rcases List.mem_append.mp hp with hp | hp
      · exact ⟨Ne.symm (a3 p hp (936,tabObj ps) (.tail _ (List.mem_append_right _ (.head _)))),fun q hq=>a3 p hp q (.tail _ (List.mem_append_right _ (.tail _ (List.mem_append_right _ hq))))⟩
      · exact apart12 D a1 a2 p hp) (ht.mono fun p hp=>by
      simp only [List.mem_append] at hp ⊢
      rcases hp with h | h | h
      · exact .inl (.inr (.inl h))
      · exact .inl (.inr (.inr h))
      · exact .inr h) fun add b1 b2 b3 b4=>r add b1 b2 b3 fun p hp=>b4 p (List.mem_append_left _ hp)
end
section
variable (B:Below A₀ base outer h₀) (F:Fr h₀ L hpS m) (X:(Mine.hd.heap_1 (World.params w)).In h₀) (N:News h₀ L hpS news) (T:Top p loose mean mg mb h₀) (hk:cs.kind = .function)
include B F X N T hk
theorem mean2_ct {l:Addr} {v u:Value} {k:Nat} {a1 b1:Int} (h3:(l,listOf #[v,u] k)∈news) (hv:IntR news v a1) (hw:IntR news u b1) (ha:1≤a1∧a1≤3) (hb:1≤b1∧b1≤3) (hd:dp + 10 < recursionLimit) (hu:un + 80 < cLine)
  (ret:∀ u s',Ret h₀ L m news (fun add u=>OptR add u (meanO [some a1,some b1])) u s'→Q u s') :
  wpAny (model prog w) (ktrTop dp un gd cn cs L a ccd cl outer) (call (.ref 901) [.ref l]) Q E ⟨hpS,GC,DC,tkS,OC⟩ :=
  mean_items_ct B F X N T hk (vs:=[v,u]) (xs:=[some a1,some b1]) h3 (.cons hv (.cons hw .nil)) (by simp) (fun i hi=>by
    simp only [List.mem_cons,Option.some.injEq,List.not_mem_nil,or_false] at hi
    (first | lia | omega)) (by simp) hd hu ret
end
end
example:True:=by
  k_with "b9 call ref" => ((k_here;(with_reducible refine (?_:wpAny _ _ (PySem.call (Value.ref 948) [Value.ref _] _) _ _ _));k_dflt (apply lacking_ct;k_extra "@HK1"; (k_mem);(first | assumption | exact OptR.monoA (by assumption) (by intro p_ h_;k_mem));k_extra "@HK2"; (intro h9_ tk9_ F9_ N9_);k_extra "@HK3")))
  trivial
section
local macro_rules (kind := PySem.W.tacticK_extra_) | s => mq "0 b9 b3 m l k t j q h g f e d c p o a" s

section
variable (B:Below A₀ base outer h₀) (F:Fr h₀ L hpS m) (X:(Mine.hd.heap_1 (World.params w)).In h₀) (N:News h₀ L hpS news) (T:Top p loose mean mg mb h₀) (hk:cs.kind = .function)
include B F X N T hk
theorem median_na_ct {v:Value} {xs:List (Option Int)} (h1:VecI w news xs v) (h5:xs.length≤6) (h7:xs = []∨xs.any (·.isNone) = true) (hd:dp + 10 < recursionLimit) (hu:un + 100 < cLine)
  (ret:∀ u s',Ret h₀ L m news (ResV w "integer" fun _ v=>v = .none) u s'→Q u s') :
  wpAny (model prog w) (ktrTop dp un gd cn cs L a ccd cl outer) (call (.ref 955) [v]) Q E ⟨hpS,GC,DC,tkS,OC⟩:=by
  cases h1 with
  | mk a1 a2 a3 a4 =>
  have hV:=VecI.mk a1 a2 a3 a4
  rcases h7 with rfl | h7
  · k_extra "@ENTER"
    k_steps
    exact ret _ _ (retVec [] (by k_asm) (by k_asm) (by assumption) (by assumption) (by assumption) (List.forall_mem_nil _) (by intro p h;k_mem) (List.forall_mem_nil _) fun _ _=>rfl)
  · have he:xs.isEmpty = false:=by cases xs with
      | nil=>cases h7
      | cons _ _=>rfl
    k_extra "@ENTER"
    k_steps
    exact ret _ _ (retVec [] (by k_asm) (by k_asm) (by assumption) (by assumption) (by assumption) (List.forall_mem_nil _) (by intro p h;k_mem) (List.forall_mem_nil _) fun _ _=>rfl)
end
end
example:True:=by
  k_with "ca call ref" => ((k_here;(with_reducible refine (?_:wpAny _ _ (PySem.call (Value.ref 941) [Value.ref _] _) _ _ _));k_dflt (apply ascending_ct;k_extra "@HK1"; (k_extra "@DEL");(first | assumption | exact TabSt.mono (by assumption) (by intro p_ h_;k_mem));(k_extra "@NE9");(k_mem);(exact ints_del (by k_extra "@DEL") (by assumption) (by assumption));(assumption);(assumption);k_extra "@HK2"; (refine retTK3a2 ?_;intro D9_ out9_ c9_ h9_ tk9_ add9_ ps9_ F9_ N9_ l9_ t9_ mr9_ mp9_);k_extra "@HK3")))
  k_with "cb call ref" => ((k_here;(with_reducible refine (?_:wpAny _ _ (PySem.call (Value.ref 901) [Value.ref _] _) _ _ _));k_dflt (apply mean2_ct;k_extra "@HK1"; (k_mem);(exact OptR.up (by assumption) (by intro p_ h_;k_mem));(exact OptR.up (by assumption) (by intro p_ h_;k_mem));(exact srt_bd2 (by assumption) (MedF.e3 (by assumption) (by assumption)).1);(exact srt_bd2 (by assumption) (MedF.e3 (by assumption) (by assumption)).2);k_extra "@HK2"; (refine retK ?_;intro u9_ h9_ tk9_ add9_ F9_ N9_ l9_ r9_);k_extra "@HK3")))
  k_with "cc DEL" => (first | assumption | exact Del.head | (refine' Del.app ?dl__;(case dl__=>k_extra "@DEL")) | (refine' Del.tail ?dl__;(case dl__=>k_extra "@DEL")))
  k_with "cc NE9" => (first | assumption | exact ne_app (by assumption) (Del.mem (by assumption)) (by assumption))
  k_with "cc subscriptTail Name Slice ref ref" => ((k_here;k_dflt (refine' slice2 ?F__ ?N__ ?m__ ?R__ ?b__ ?h__ ?_ ?s__ ?t__;(case F__=>k_asm);(case N__=>k_asm);(case m__=>k_mem);(case R__=>first | with_reducible assumption | assumption);(case b__=>exact MedF.e (by assumption) (by assumption));(case h__=>first | with_reducible assumption | assumption);(case s__=>with_unfolding_all rfl);(case t__=>kmk_pure));intro D9_ v9_ w9_ h9_ hv9_ hw9_ F9_ N9_ l9_))
  k_with "cc subscriptTail Name Name ref int" => ((k_here;k_dflt (refine' item_a2 ?N__ ?m__ ?R__ ?a__ ?b__ ?h__ ?_;(case N__=>k_asm);(case m__=>k_mem);(case R__=>first | with_reducible assumption | assumption);(case a__=>exact MedF.z (by assumption));(case b__=>exact MedF.o1 (by assumption) (by assumption));(case h__=>first | with_reducible assumption | assumption));intro v9_ hv9_;(cases hv9_)))
  trivial
section
local macro_rules (kind := PySem.W.tacticK_extra_) | s => mq "0 cc cb ca b9 b3 m l k t j q h g f e d c p o a" s

section
variable (B:Below A₀ base outer h₀) (F:Fr h₀ L hpS m) (X:(Mine.hd.heap_1 (World.params w)).In h₀) (N:News h₀ L hpS news) (T:Top p loose mean mg mb h₀) (hk:cs.kind = .function)
include B F X N T hk
theorem median_ct {v:Value} {xs:List (Option Int)} {zs:List Int} {ps:Array Value} {rest:Led} (D:Del 936 (tabObj ps) news rest) (hT:TabSt rest ps) (h9:∀ p∈rest,p.1≠936)
  (h1:VecI w news xs v) (hx:xs = zs.map some) (hne:zs≠[]) (h5:xs.length≤6) (h6:∀ z∈zs,1≤z∧z≤3) (hd:dp + 12 < recursionLimit) (hu:un + 120 < cLine)
  (ret:∀ u s',RetT h₀ L m rest (MedV w xs) u s'→Q u s') :
  wpAny (model prog w) (ktrTop dp un gd cn cs L a ccd cl outer) (call (.ref 955) [v]) Q E ⟨hpS,GC,DC,tkS,OC⟩:=by
  cases h1 with
  | mk a1 a2 a3 a4 =>
  have hV:=VecI.mk a1 a2 a3 a4
  have hz6:zs.length≤6:=by rw [hx,List.length_map] at h5;exact h5
  have hs6:(sortI zs).length≤6:=by rw [sortI_len];exact hz6
  have hs:=sortI_len zs
  have hpos:0 < zs.length:=List.length_pos_iff.mpr hne
  have hMF:=medF hs6 (hs.symm▸hpos)
  have he:xs.isEmpty = false:=by rw [hx];cases zs with
    | nil=>exact absurd rfl hne
    | cons _ _=>rfl
  have hla:xs.any (·.isNone) = false:=by rw [hx];simp
  k_extra "@ENTER"
  k_steps
  · have r:=(by assumption:OptR _ _ (meanO [_,_]))
    have e0:=hMF.e2 (by assumption)
    rw [e0.1,e0.2.1,hs] at r
    exact ret _ _ (retEven D (by k_asm) (by k_asm) (by assumption) (by assumption) (by assumption) (by assumption) (by assumption) (by assumption) (by assumption) fun add b1 b2 b3 b4=>.even zs hx hne (hs▸e0.2.2) ⟨_,_,_,_,_,_,_,_,_,_,_,rfl,b1,b2,b3,OptR.up r b4⟩)
  · have e0:=hMF.o2 (by assumption)
    rw [hs] at e0
    exact ret _ _ (retOdd D (by k_asm) (by k_asm) (by assumption) (by assumption) (by assumption) (by assumption) (by assumption) (by assumption) fun add b1 b2 b3=>.odd zs hx e0.2 ⟨_,_,_,_,_,_,_,_,_,_,_,rfl,b1,b2,b3,_,by rw [hs,e0.1]⟩)
end
end
section
local macro_rules (kind := PySem.W.tacticK_extra_) | s => mq "0" s
theorem vec_or {led add:Led} {b:Bool} {xs:List (Option Int)} {u v:Value} (h:(b = false∧u = v)∨VecI w add (kept b xs) u) (hV:VecI w led xs v) (hs:∀ p∈add,p∈led):VecI w led (kept b xs) u:=by
  rcases h with ⟨rfl,rfl⟩ | h
  · exact hV
  · exact h.mono hs
theorem ResV.mono {kind:String} {P:Led→Value→Prop} {led led':Led} {u:Value} (h:ResV w kind P led u) (hs:∀ p∈led,p∈led') (hP:∀ v,P led v→P led' v):ResV w kind P led' u:=by
  obtain ⟨x,d,l,t1,t2,t3,t4,t5,tk,v,k,e,a,b,c,r⟩:=h
  exact ⟨x,d,l,t1,t2,t3,t4,t5,tk,v,k,e,hs _ a,hs _ b,hs _ c,hP _ r⟩
theorem MedV.mono {xs:List (Option Int)} {led led':Led} {u:Value} (h:MedV w xs led u) (hs:∀ p∈led,p∈led'):MedV w xs led' u:=by
  cases h with
  | na a r=>exact .na a (r.mono hs fun _ h=>h)
  | odd zs a b r=>exact .odd zs a b (r.mono hs fun _ h=>h)
  | even zs a b c r=>exact .even zs a b c (r.mono hs fun _ h=>h.up hs)
section
variable {hpS:Heap} {tkS:Nat} {h₀ h:Heap} {L:Addr} {m:Str→Option Value} {news rest A1 A2:Led} {tk:Nat} {ps:Array Value} {o:Obj} {u:Value} {R:Led→Value→Prop}
theorem retT0 (D:Del 936 (tabObj ps) news rest) (hT:TabSt rest ps) (F:Fr h₀ L h m) (N:News h₀ L h (A1++(A2++news))) (a1:∀ p∈A1,∀ q∈A2++news,q.1≠p.1) (a2:∀ p∈A2,∀ q∈news,q.1≠p.1) (r:R (A1++A2) u) :
    RetT h₀ L m rest R u ⟨h,GC,DC,tk,OC⟩:=by
  refine ⟨h,tk,A1++A2,ps,rfl,F,fun p hp=>?_,fun p hp=>?_,hT.mono fun p hp=>List.mem_append_right _ hp,r⟩
  · rw [List.append_assoc] at hp
    rcases List.mem_append.mp hp with hp | hp
    · exact N p (List.mem_append_left _ hp)
    rcases List.mem_append.mp hp with hp | hp
    · exact N p (List.mem_append_right _ (List.mem_append_left _ hp))
    · exact (D.nws fun q hq=>N q (List.mem_append_right _ (List.mem_append_right _ hq))) p hp
  · rcases List.mem_append.mp hp with hp | hp
    · exact ⟨Ne.symm (a1 p hp _ (List.mem_append_right _ D.mem)),fun q hq=>a1 p hp q (List.mem_append_right _ (D.sub q hq))⟩
    · exact ⟨Ne.symm (a2 p hp _ D.mem),fun q hq=>a2 p hp q (D.sub q hq)⟩
theorem retT3 (D:Del 936 o news rest) (F:Fr h₀ L h m) (N:News h₀ L h (A1++(936,tabObj ps)::(A2++rest))) (a1:∀ p∈A1,p.1≠936∧∀ q∈A2++rest,q.1≠p.1) (a2:∀ p∈A2,∀ q∈news,q.1≠p.1) (ht:TabSt (A1++(A2++rest)) ps) (r:R (A1++A2) u) :
    RetT h₀ L m rest R u ⟨h,GC,DC,tk,OC⟩ :=
  ⟨h,tk,A1++A2,ps,rfl,F,fun p hp=>N p (by
    simp only [List.mem_append,List.mem_cons] at hp ⊢
    rcases hp with (h | h) | h | h
    · exact .inl h
    · exact .inr (.inr (.inl h))
    · exact .inr (.inl h)
    · exact .inr (.inr (.inr h))),apart12 D a1 a2,by rw [List.append_assoc];exact ht,r⟩
end
section
variable (B:Below A₀ base outer h₀) (F:Fr h₀ L hpS m) (X:(Mine.hd.heap_1 (World.params w)).In h₀) (N:News h₀ L hpS news) (T:Top p loose mean mg mb h₀) (hk:cs.kind = .function)
include B F X N T hk
theorem without2_ct {v:Value} {b:Bool} {xs:List (Option Int)} (h1:VecI w news xs v) (h5:xs.length≤6) (hd:dp + 6 < recursionLimit) (hu:un + 60 < cLine)
  (ret:∀ u s',Ret h₀ L m news (fun add u=>(b = false∧u = v)∨VecI w add (kept b xs) u) u s'→Q u s') :
  wpAny (model prog w) (ktrTop dp un gd cn cs L a ccd cl outer) (call (.ref 986) [v,.bool b]) Q E ⟨hpS,GC,DC,tkS,OC⟩:=by
  cases h1 with
  | mk a1 a2 a3 a4 =>
    cases b with
    | false=>exact without_no_ct B F X N T hk (by (first | lia | omega)) (by (first | lia | omega)) fun h' tk' F' N'=>ret _ _ ⟨h',tk',[],rfl,F',N',apart0,.inl ⟨rfl,rfl⟩⟩
    | true =>
      refine without_yes_ct B F X N T hk a1 a2 a3 a4 h5 hd hu fun u s' q=>ret _ _ ?_
      obtain ⟨h',tk',add,e,F',N',ap,x,d,l,t1,t2,t3,t4,t5,tk,ys,k,rfl,m1,m2,m3,m4⟩:=q
      exact ⟨h',tk',add,e,F',N',ap,.inr (.mk m1 m2 m3 m4)⟩
end
end
example:True:=by
  k_with "cd call ref" => ((k_here;(with_reducible refine (?_:wpAny _ _ (PySem.call (Value.ref 986) _ _) _ _ _));k_dflt (apply without2_ct;k_extra "@HK1"; (first | assumption | exact VecI.mono (by assumption) (by intro p_ h_;k_mem));(first | assumption | exact kept_len (by assumption));k_extra "@HK2"; (refine retK ?_;intro u9_ h9_ tk9_ add9_ F9_ N9_ l9_ r9_);k_extra "@HK3")))
  k_with "cd call ref" => ((k_here;(with_reducible refine (?_:wpAny _ _ (PySem.call (Value.ref 894) _ _) _ _ _));k_dflt (apply numbers_ct;k_extra "@HK1"; (first | assumption | exact VecI.mono (by assumption) (by intro p_ h_;k_mem));(first | assumption | exact kept_len (by assumption));k_extra "@HK2"; (refine retK3a2 ?_;intro D9_ ys9_ k9_ h9_ tk9_ add9_ F9_ N9_ l9_ mr9_ mp9_);k_extra "@HK3")))
  k_with "cd call ref" => ((k_here;(with_reducible refine (?_:wpAny _ _ (PySem.call (Value.ref 87) _ _) _ _ _));k_dflt (apply inheritsI_ct;k_extra "@HK1"; (first | assumption | exact VecI.mono (by assumption) (by intro p_ h_;k_mem));(k_mem);k_extra "@HK2"; (intro h9_ tk9_ F9_ N9_);k_extra "@HK3")))
  k_with "ce exec For Tuple Name cons nil" => ((k_here;(rename Fr _ _ _ _=>lF');k_dflt (refine For_turns lF' ?_)))
  k_with "ce pyIter ref" => ((k_here;(rename Fr _ _ _ _=>lF');k_dflt (refine iter_listTurns (vs:=[]) (by rfl) lF' (by k_asm) (by k_mem) (by rfl) (by rfl) ?_);(clear lF');intro i'_ l1_))
  k_with "ce ItemsRest" => ((k_dflt (refine ItemsRest.zero ?_);intro h9_ tk9_ F9_ N9_;(try k_fold)))
  trivial
section
local macro_rules (kind := PySem.W.tacticK_extra_) | s => mq "0 ce cd bv bq m l k t j q h g f e d c p o a" s

section
variable (B:Below A₀ base outer h₀) (F:Fr h₀ L hpS m) (X:(Mine.hd.heap_1 (World.params w)).In h₀) (N:News h₀ L hpS news) (T:Top p loose mean mg mb h₀) (hk:cs.kind = .function)
include B F X N T hk
theorem numeric_plain_ct {al:Addr} {x fs sk:Value} {b:Bool} {xs:List (Option Int)} (h1:ArgsIn news al x sk) (h2:SkipV w news sk b) (h3:VecI w news xs x) (h5:xs.length≤6)
  (hd:dp + 18 < recursionLimit) (hu:un + 160 < cLine)
  (ret:∀ u s',Ret h₀ L m news (fun add u=>(b = false∧u = x)∨VecI w add (kept b xs) u) u s'→Q u s') :
  wpAny (model prog w) (ktrTop dp un gd cn cs L a ccd cl outer) (call (.ref 1000) [.ref al,fs]) Q E ⟨hpS,GC,DC,tkS,OC⟩:=by
  cases h3 with
  | mk a1 a2 a3 a4 =>
  have hV:=VecI.mk a1 a2 a3 a4
  cases h2 with
  | no =>
    k_extra "@ENTER"
    k_steps
    have r:=(by assumption:(_ = false∧_ = _)∨VecI _ _ _ _)
    have l:=(by assumption:∀ p:Addr×Obj,p∈_→∀ q:Addr×Obj,q∈_→@Ne Nat q.1 p.1)
    rcases r with ⟨r1,r2⟩ | r
    · exact ret _ _ ⟨_,_,[],rfl,by k_asm,news_sub (by k_asm) (by intro p h;k_mem),apart0,.inl ⟨r1,r2⟩⟩
    · exact ret _ _ ⟨_,_,_,rfl,by k_asm,news_sub (by k_asm) (fun p h=>(List.mem_append.mp h).elim (fun h=>List.mem_append_left _ h) (fun h=>by k_mem)),fun p hp q hq=>l p hp q (by k_mem),.inr r⟩
  | yes b1 b2 b3 =>
    have hS:=SkipV.yes b1 b2 b3
    k_extra "@ENTER"
    k_steps
    have r:=(by assumption:(_ = false∧_ = _)∨VecI _ _ _ _)
    have l:=(by assumption:∀ p:Addr×Obj,p∈_→∀ q:Addr×Obj,q∈_→@Ne Nat q.1 p.1)
    rcases r with ⟨r1,r2⟩ | r
    · exact ret _ _ ⟨_,_,[],rfl,by k_asm,news_sub (by k_asm) (by intro p h;k_mem),apart0,.inl ⟨r1,r2⟩⟩
    · exact ret _ _ ⟨_,_,_,rfl,by k_asm,news_sub (by k_asm) (fun p h=>(List.mem_append.mp h).elim (fun h=>List.mem_append_left _ h) (fun h=>by k_mem)),fun p hp q hq=>l p hp q (by k_mem),.inr r⟩
end
end
example:True:=by
  k_with "cf call ref" => ((k_here;(with_reducible refine (?_:wpAny _ _ (PySem.call (Value.ref 1000) _ _) _ _ _));k_dflt (apply numeric_plain_ct;k_extra "@HK1"; (first | assumption | exact ArgsIn.mono (by assumption) (by intro p_ h_;k_mem));(first | assumption | exact SkipV.no | exact SkipV.mono (by assumption) (by intro p_ h_;k_mem));(first | assumption | exact VecI.mono (by assumption) (by intro p_ h_;k_mem));(assumption);k_extra "@HK2"; (refine retK ?_;intro u9_ h9_ tk9_ add9_ F9_ N9_ l9_ r9_);have rv9_:=vec_or r9_ (by first | assumption | exact VecI.mono (by assumption) (by intro p_ h_;k_mem)) (fun p_ h_=>List.mem_append_left _ h_);k_extra "@HK3")))
  k_with "cg call ref" => ((k_here;(with_reducible refine (?_:wpAny _ _ (PySem.call (Value.ref 955) _ _) _ _ _));k_dflt (apply median_na_ct;k_extra "@HK1"; (first | assumption | exact VecI.mono (by assumption) (by intro p_ h_;k_mem));(first | assumption | exact kept_len (by assumption));(assumption);k_extra "@HK2"; (refine retK ?_;intro u9_ h9_ tk9_ add9_ F9_ N9_ l9_ r9_);k_extra "@HK3")))
  trivial
section
local macro_rules (kind := PySem.W.tacticK_extra_) | s => mq "0 cg cf cc m l k t j q h g f e d c p o a" s

section
variable (B:Below A₀ base outer h₀) (F:Fr h₀ L hpS m) (X:(Mine.hd.heap_1 (World.params w)).In h₀) (N:News h₀ L hpS news) (T:Top p loose mean mg mb h₀) (hk:cs.kind = .function)
include B F X N T hk
theorem bmedian_na_ct {al:Addr} {x i e sk:Value} {b:Bool} {xs:List (Option Int)} {ps:Array Value} {rest:Led} (D:Del 936 (tabObj ps) news rest) (hT:TabSt rest ps) (h1:ArgsIn news al x sk) (h2:SkipV w news sk b) (h3:VecI w news xs x) (h5:xs.length≤6) (h7:kept b xs = []∨(kept b xs).any (·.isNone) = true)
  (hd:dp + 20 < recursionLimit) (hu:un + 180 < cLine)
  (ret:∀ u s',RetT h₀ L m rest (MedV w (kept b xs)) u s'→Q u s') :
  wpAny (model prog w) (ktrTop dp un gd cn cs L a ccd cl outer) (call (.ref 1019) [i,.ref al,e]) Q E ⟨hpS,GC,DC,tkS,OC⟩:=by
  k_extra "@ENTER"
  k_steps
  have r:=(by assumption:ResV _ _ _ _ _)
  exact ret _ _ (retT0 D hT (by k_asm) (by k_asm) (by assumption) (by assumption) (.na h7 (r.mono (fun p h=>List.mem_append_left _ h) fun _ h=>h)))
end
end
example:True:=by
  k_with "ch call ref" => ((k_here;(with_reducible refine (?_:wpAny _ _ (PySem.call (Value.ref 955) _ _) _ _ _));k_dflt (apply median_ct;k_extra "@HK1"; (k_extra "@DEL");(first | assumption | exact TabSt.mono (by assumption) (by intro p_ h_;k_mem));(k_extra "@NE9");(first | assumption | exact VecI.mono (by assumption) (by intro p_ h_;k_mem));(assumption);(assumption);(first | assumption | exact kept_len (by assumption));(assumption);k_extra "@HK2"; (refine retTK ?_;intro u9_ h9_ tk9_ add9_ ps9_ F9_ N9_ l9_ t9_ r9_);k_extra "@HK3")))
  trivial
section
local macro_rules (kind := PySem.W.tacticK_extra_) | s => mq "0 ch cf cc m l k t j q h g f e d c p o a" s

section
variable (B:Below A₀ base outer h₀) (F:Fr h₀ L hpS m) (X:(Mine.hd.heap_1 (World.params w)).In h₀) (N:News h₀ L hpS news) (T:Top p loose mean mg mb h₀) (hk:cs.kind = .function)
include B F X N T hk
theorem bmedian_ct {al:Addr} {x i e sk:Value} {b:Bool} {xs:List (Option Int)} {zs:List Int} {ps:Array Value} {rest:Led} (D:Del 936 (tabObj ps) news rest) (hT:TabSt rest ps) (h9:∀ p∈rest,p.1≠936) (h1:ArgsIn news al x sk) (h2:SkipV w news sk b) (h3:VecI w news xs x) (h5:xs.length≤6)
  (hx:kept b xs = zs.map some) (hne:zs≠[]) (h6:∀ z∈zs,1≤z∧z≤3)
  (hd:dp + 20 < recursionLimit) (hu:un + 180 < cLine)
  (ret:∀ u s',RetT h₀ L m rest (MedV w (kept b xs)) u s'→Q u s') :
  wpAny (model prog w) (ktrTop dp un gd cn cs L a ccd cl outer) (call (.ref 1019) [i,.ref al,e]) Q E ⟨hpS,GC,DC,tkS,OC⟩:=by
  k_extra "@ENTER"
  k_steps
  have r:=(by assumption:MedV _ _ _ _)
  exact ret _ _ (retT3 D (by k_asm) (by k_asm) (by assumption) (by assumption) (by assumption) (r.mono fun p h=>List.mem_append_left _ h))
end
end
example:True:=by
  k_with "ci call ref" => ((k_here;(with_reducible refine (?_:wpAny _ _ (PySem.call (Value.ref 565) [Value.ref _] _) _ _ _));k_dflt (apply neg_ct;k_extra "@HK1"; (first | assumption | exact RatIn.zero | exact RatIn.led (by k_mem));k_extra "@HK2"; (intro x9_ tn9_ td9_ c9_ h9_ tk9_ F9_ N9_ l9_);k_extra "@HK3")))
  trivial
section
local macro_rules (kind := PySem.W.tacticK_extra_) | s => mq "k 1 ci j o a" s

section
variable (B:Below A₀ base outer h₀) (F:Fr h₀ L hpS m) (X:(Mine.hd.heap_1 (World.params w)).In h₀) (N:News h₀ L hpS news) (T:Top p loose mean mg mb h₀) (hk:cs.kind = .function)
include B F X N T hk
theorem sub_ct {x:Addr} {n d:Int} {tn td:Tok} {k:Nat} (hx:(x,({ cls:=.type "tuple", data:=.seq #[.int n tn,.int d td] k }:Obj))∈news) {y:Addr} {n' d':Int} {tn' td':Tok} {k':Nat} (hy:(y,({ cls:=.type "tuple", data:=.seq #[.int n' tn',.int d' td'] k' }:Obj))∈news) (h1:n.natAbs < 10000) (h2:0 < d) (h3:d.natAbs < 10000) (h1':n'.natAbs < 10000) (h2':0 < d') (h3':d'.natAbs < 10000)
  (hd:dp + 8 < recursionLimit) (hu:un + 64 < cLine) (ret:RatNew h₀ L m news Q (mkN (n * d' + (0 - n') * d) (d * d')) (mkD (n * d' + (0 - n') * d) (d * d'))) :
  wpAny (model prog w) (ktrTop dp un gd cn cs L a ccd cl outer) (call (.ref 579) [.ref x,.ref y]) Q E ⟨hpS,GC,DC,tkS,OC⟩:=by
  have h9:(0 - n').natAbs < 10000:=by rw [Int.zero_sub,Int.natAbs_neg];exact h1'
  k_extra "@ENTER"
  k_steps
  have l:=(by assumption:∀ q:Addr×Obj,q∈_::news→@LT.lt Nat _ q.1 _)
  exact ret _ _ _ _ _ _ (by k_asm) (news_sub (by k_asm) (by intro p h;(rcases List.mem_cons.mp h with e | h);(subst e;exact .head _);exact .tail _ (.tail _ h))) (fun q hq=>l q (.tail _ hq))
end
end
section
local macro_rules (kind := PySem.W.tacticK_extra_) | s => mq "0 bo l k b2 j q h g f e d c p o a" s
noncomputable def QP (a b:Int):Prop:=(a = 0∧b = 1)∨(a = 1∧b = 4)∨(a = 1∧b = 2)∨(a = 3∧b = 4)∨(a = 1∧b = 1)
theorem mul_bd {p z D:Int} (h1:p.natAbs < 100) (h2:z.natAbs < 100) (h3:0 < D):(mkN (p * z) D).natAbs < 10000:=by
  refine Nat.lt_of_le_of_lt (mkN_abs h3) ?_
  rw [Int.natAbs_mul]
  exact Nat.lt_of_le_of_lt (Nat.mul_le_mul (Nat.le_of_lt_succ h1) (Nat.le_of_lt_succ h2)) (by decide)
theorem getD_bd {ss:List Int} {i:Nat} (hz:∀ z∈ss,1≤z∧z≤3) (hi:i < ss.length):1≤ss.getD i 0∧ss.getD i 0≤3:=by
  have:ss.getD i 0 = ss[i]:=by simp [hi]
  rw [this]
  exact hz _ (List.getElem_mem hi)
theorem mul_q1 {p a b D:Int} (h1:p.natAbs < 100) (h2:(a + b).natAbs < 100) (h3:0 < D):(mkN (p * mkN (a * 1 + b * 1) (1 * 1)) (D * mkD (a * 1 + b * 1) (1 * 1))).natAbs < 10000:=by
  rw [(mk_add a b).1,(mk_add a b).2]
  exact mul_bd h1 h2 (by omega)
theorem mul_q2 {p a b D:Int} (h3:0 < D):0 < mkD (p * mkN (a * 1 + b * 1) (1 * 1)) (D * mkD (a * 1 + b * 1) (1 * 1)):=by
  rw [(mk_add a b).2]
  exact mkD_pos (by omega)
theorem mul_q3 {p a b D:Int} (h3:0 < D) (h4:D < 100):(mkD (p * mkN (a * 1 + b * 1) (1 * 1)) (D * mkD (a * 1 + b * 1) (1 * 1))).natAbs < 10000:=by
  have h5:=mul_q2 (p:=p) (a:=a) (b:=b) h3
  have h6:=mkD_le (n:=p * mkN (a * 1 + b * 1) (1 * 1)) (d:=D * mkD (a * 1 + b * 1) (1 * 1)) (by rw [(mk_add a b).2];omega)
  rw [(mk_add a b).2] at h5 h6 ⊢
  omega
section
variable {A:Around} {E:Value→Shared→Prop} {hpS:Heap} {tkS:Nat} {h₀:Heap} {L l:Addr} {m:Str→Option Value} {news:Led} {value slice:PySem.Expr} {out:List Value} {ss:List Int} {R:Value→Int→Prop} {c:Nat} {Q:Value→Shared→Prop}
theorem item_b2 {i:Int} {u:Tok} (N:News h₀ L hpS news) (hm:(l,listOf out.toArray c)∈news) (hR:All2 R out ss) (hz:∀ z∈ss,1≤z∧z≤3) (h0:0≤i) (h1:i < ss.length) (h6:ss.length≤6) (h:∀ v z,z = ss.getD i.toNat 0→1≤z∧z≤3→R v z→Q v ⟨hpS,GC,DC,tkS,OC⟩)
    (hs:subscripted slice false (.ref l) (.int i u) = operate [.ref l,.int i u] (getItem (.ref l) (.int i u)):=by with_unfolding_all rfl) :
    wpAny (model prog w) A (subscriptTail value slice (.ref l) (.int i u)) Q E ⟨hpS,GC,DC,tkS,OC⟩ :=
  item_a2 N hm hR h0 h1 h6 (fun v hv=>h v _ rfl (getD_bd hz (by omega)) hv) hs
end
structure QF (a b:Int) (n:Nat):Prop where
  h6:n≤6
  b0:0 < b
  a0:0≤a
  ab:a≤b
  b4:b≤4
  f1:a.natAbs < 10000
  f2:b.natAbs < 10000
  f3:((n:Int) - 1).natAbs < 10000
  g1:0 < mkD (a * ((n:Int) - 1)) (b * 1)
  g2:mkD (a * ((n:Int) - 1)) (b * 1) < 1000000000
  g3:(mkN (a * ((n:Int) - 1)) (b * 1)).natAbs < 10000
  g4:(mkD (a * ((n:Int) - 1)) (b * 1)).natAbs < 10000
  g5:((mkN (a * ((n:Int) - 1)) (b * 1)).fdiv (mkD (a * ((n:Int) - 1)) (b * 1))).natAbs < 10000
  i1:0≤(mkN (a * ((n:Int) - 1)) (b * 1)).fdiv (mkD (a * ((n:Int) - 1)) (b * 1))
  i2:(mkN (a * ((n:Int) - 1)) (b * 1)).fdiv (mkD (a * ((n:Int) - 1)) (b * 1)) < n
  i3:0≤(mkN (a * ((n:Int) - 1)) (b * 1)).fdiv (mkD (a * ((n:Int) - 1)) (b * 1)) + 1
  k1:(mkN (mkN (a * ((n:Int) - 1)) (b * 1) * 1 + (0 - (mkN (a * ((n:Int) - 1)) (b * 1)).fdiv (mkD (a * ((n:Int) - 1)) (b * 1))) * mkD (a * ((n:Int) - 1)) (b * 1)) (mkD (a * ((n:Int) - 1)) (b * 1) * 1)).natAbs < 10000
  k2:0 < mkD (mkN (a * ((n:Int) - 1)) (b * 1) * 1 + (0 - (mkN (a * ((n:Int) - 1)) (b * 1)).fdiv (mkD (a * ((n:Int) - 1)) (b * 1))) * mkD (a * ((n:Int) - 1)) (b * 1)) (mkD (a * ((n:Int) - 1)) (b * 1) * 1)
  k3:(mkD (mkN (a * ((n:Int) - 1)) (b * 1) * 1 + (0 - (mkN (a * ((n:Int) - 1)) (b * 1)).fdiv (mkD (a * ((n:Int) - 1)) (b * 1))) * mkD (a * ((n:Int) - 1)) (b * 1)) (mkD (a * ((n:Int) - 1)) (b * 1) * 1)).natAbs < 10000
  k4:(mkN (mkN (a * ((n:Int) - 1)) (b * 1) * 1 + (0 - (mkN (a * ((n:Int) - 1)) (b * 1)).fdiv (mkD (a * ((n:Int) - 1)) (b * 1))) * mkD (a * ((n:Int) - 1)) (b * 1)) (mkD (a * ((n:Int) - 1)) (b * 1) * 1)).natAbs < 100
  k5:mkD (mkN (a * ((n:Int) - 1)) (b * 1) * 1 + (0 - (mkN (a * ((n:Int) - 1)) (b * 1)).fdiv (mkD (a * ((n:Int) - 1)) (b * 1))) * mkD (a * ((n:Int) - 1)) (b * 1)) (mkD (a * ((n:Int) - 1)) (b * 1) * 1) < 100
  pt:mkN (mkN (a * ((n:Int) - 1)) (b * 1) * 1 + (0 - (mkN (a * ((n:Int) - 1)) (b * 1)).fdiv (mkD (a * ((n:Int) - 1)) (b * 1))) * mkD (a * ((n:Int) - 1)) (b * 1)) (mkD (a * ((n:Int) - 1)) (b * 1) * 1) = 0∨(mkN (a * ((n:Int) - 1)) (b * 1)).fdiv (mkD (a * ((n:Int) - 1)) (b * 1)) + 1 < n
  qi:(a = 0∨a = b)→((mkN (a * ((n:Int) - 1)) (b * 1)).fdiv (mkD (a * ((n:Int) - 1)) (b * 1))).toNat = (if a = 0 then 0 else n - 1)∧mkN (mkN (a * ((n:Int) - 1)) (b * 1) * 1 + (0 - (mkN (a * ((n:Int) - 1)) (b * 1)).fdiv (mkD (a * ((n:Int) - 1)) (b * 1))) * mkD (a * ((n:Int) - 1)) (b * 1)) (mkD (a * ((n:Int) - 1)) (b * 1) * 1) = 0
noncomputable def qfb (a b:Int) (n:Nat):Bool:=decide ((n≤6)∧(0 < b)∧(0≤a)∧(a≤b)∧(b≤4)∧(a.natAbs < 10000)∧(b.natAbs < 10000)∧(((n:Int) - 1).natAbs < 10000)∧(0 < mkD (a * ((n:Int) - 1)) (b * 1))∧(mkD (a * ((n:Int) - 1)) (b * 1) < 1000000000)∧((mkN (a * ((n:Int) - 1)) (b * 1)).natAbs < 10000)∧((mkD (a * ((n:Int) - 1)) (b * 1)).natAbs < 10000)∧(((mkN (a * ((n:Int) - 1)) (b * 1)).fdiv (mkD (a * ((n:Int) - 1)) (b * 1))).natAbs < 10000)∧(0≤(mkN (a * ((n:Int) - 1)) (b * 1)).fdiv (mkD (a * ((n:Int) - 1)) (b * 1)))∧((mkN (a * ((n:Int) - 1)) (b * 1)).fdiv (mkD (a * ((n:Int) - 1)) (b * 1)) < n)∧(0≤(mkN (a * ((n:Int) - 1)) (b * 1)).fdiv (mkD (a * ((n:Int) - 1)) (b * 1)) + 1)∧((mkN (mkN (a * ((n:Int) - 1)) (b * 1) * 1 + (0 - (mkN (a * ((n:Int) - 1)) (b * 1)).fdiv (mkD (a * ((n:Int) - 1)) (b * 1))) * mkD (a * ((n:Int) - 1)) (b * 1)) (mkD (a * ((n:Int) - 1)) (b * 1) * 1)).natAbs < 10000)∧(0 < mkD (mkN (a * ((n:Int) - 1)) (b * 1) * 1 + (0 - (mkN (a * ((n:Int) - 1)) (b * 1)).fdiv (mkD (a * ((n:Int) - 1)) (b * 1))) * mkD (a * ((n:Int) - 1)) (b * 1)) (mkD (a * ((n:Int) - 1)) (b * 1) * 1))∧((mkD (mkN (a * ((n:Int) - 1)) (b * 1) * 1 + (0 - (mkN (a * ((n:Int) - 1)) (b * 1)).fdiv (mkD (a * ((n:Int) - 1)) (b * 1))) * mkD (a * ((n:Int) - 1)) (b * 1)) (mkD (a * ((n:Int) - 1)) (b * 1) * 1)).natAbs < 10000)∧((mkN (mkN (a * ((n:Int) - 1)) (b * 1) * 1 + (0 - (mkN (a * ((n:Int) - 1)) (b * 1)).fdiv (mkD (a * ((n:Int) - 1)) (b * 1))) * mkD (a * ((n:Int) - 1)) (b * 1)) (mkD (a * ((n:Int) - 1)) (b * 1) * 1)).natAbs < 100)∧(mkD (mkN (a * ((n:Int) - 1)) (b * 1) * 1 + (0 - (mkN (a * ((n:Int) - 1)) (b * 1)).fdiv (mkD (a * ((n:Int) - 1)) (b * 1))) * mkD (a * ((n:Int) - 1)) (b * 1)) (mkD (a * ((n:Int) - 1)) (b * 1) * 1) < 100)∧(mkN (mkN (a * ((n:Int) - 1)) (b * 1) * 1 + (0 - (mkN (a * ((n:Int) - 1)) (b * 1)).fdiv (mkD (a * ((n:Int) - 1)) (b * 1))) * mkD (a * ((n:Int) - 1)) (b * 1)) (mkD (a * ((n:Int) - 1)) (b * 1) * 1) = 0∨(mkN (a * ((n:Int) - 1)) (b * 1)).fdiv (mkD (a * ((n:Int) - 1)) (b * 1)) + 1 < n)∧((a = 0∨a = b)→((mkN (a * ((n:Int) - 1)) (b * 1)).fdiv (mkD (a * ((n:Int) - 1)) (b * 1))).toNat = (if a = 0 then 0 else n - 1)∧mkN (mkN (a * ((n:Int) - 1)) (b * 1) * 1 + (0 - (mkN (a * ((n:Int) - 1)) (b * 1)).fdiv (mkD (a * ((n:Int) - 1)) (b * 1))) * mkD (a * ((n:Int) - 1)) (b * 1)) (mkD (a * ((n:Int) - 1)) (b * 1) * 1) = 0))
theorem QF.of {a b:Int} {n:Nat} (h:qfb a b n = true):QF a b n:=by
  have h:=of_decide_eq_true h
  exact ⟨h.1,h.2.1,h.2.2.1,h.2.2.2.1,h.2.2.2.2.1,h.2.2.2.2.2.1,h.2.2.2.2.2.2.1,h.2.2.2.2.2.2.2.1,h.2.2.2.2.2.2.2.2.1,h.2.2.2.2.2.2.2.2.2.1,h.2.2.2.2.2.2.2.2.2.2.1,h.2.2.2.2.2.2.2.2.2.2.2.1,h.2.2.2.2.2.2.2.2.2.2.2.2.1,h.2.2.2.2.2.2.2.2.2.2.2.2.2.1,h.2.2.2.2.2.2.2.2.2.2.2.2.2.2.1,h.2.2.2.2.2.2.2.2.2.2.2.2.2.2.2.1,h.2.2.2.2.2.2.2.2.2.2.2.2.2.2.2.2.1,h.2.2.2.2.2.2.2.2.2.2.2.2.2.2.2.2.2.1,h.2.2.2.2.2.2.2.2.2.2.2.2.2.2.2.2.2.2.1,h.2.2.2.2.2.2.2.2.2.2.2.2.2.2.2.2.2.2.2.1,h.2.2.2.2.2.2.2.2.2.2.2.2.2.2.2.2.2.2.2.2.1,h.2.2.2.2.2.2.2.2.2.2.2.2.2.2.2.2.2.2.2.2.2.1,h.2.2.2.2.2.2.2.2.2.2.2.2.2.2.2.2.2.2.2.2.2.2⟩
theorem q_facts {a b:Int} {n:Nat} (hq:QP a b) (hn:n = 1∨n = 2∨n = 3∨n = 4∨n = 5∨n = 6):QF a b n :=
  QF.of (by rcases hq with ⟨rfl,rfl⟩ | ⟨rfl,rfl⟩ | ⟨rfl,rfl⟩ | ⟨rfl,rfl⟩ | ⟨rfl,rfl⟩<;>rcases hn with rfl | rfl | rfl | rfl | rfl | rfl<;>decide)
theorem z_abs {z:Int} (h:1≤z∧z≤3):z.natAbs < 10000:=by (first | lia | omega)
section
variable (B:Below A₀ base outer h₀) (F:Fr h₀ L hpS m) (X:(Mine.hd.heap_1 (World.params w)).In h₀) (N:News h₀ L hpS news) (T:Top p loose mean mg mb h₀) (hk:cs.kind = .function)
include B F X N T hk
theorem is_nan_ct {x:Addr} {n d:Int} {tn td:Tok} {k:Nat} (hx:(x,({ cls:=.type "tuple", data:=.seq #[.int n tn,.int d td] k }:Obj))∈news) (h0:0 < d) (hd:dp + 2 < recursionLimit) (hu:un + 16 < cLine)
  (ret:∀ h' tk',Fr h₀ L h' m→News h₀ L h' news→Q (.bool false) ⟨h',GC,DC,tk',OC⟩) :
  wpAny (model prog w) (ktrTop dp un gd cn cs L a ccd cl outer) (call (.ref 544) [.ref x]) Q E ⟨hpS,GC,DC,tkS,OC⟩:=by
  have hz:(d == 0) = false:=by simp;(first | lia | omega)
  k_extra "@ENTER"
  k_steps
  all_goals first | (first | lia | omega) | exact ret _ _ (by k_asm) (by k_asm) | (rw [hz];exact ret _ _ (by k_asm) (by k_asm)) | (have h9:=(by assumption:¬ n = 0);rw [show (n == 0) = false from by simp [h9]];exact ret _ _ (by k_asm) (by k_asm))
end
end
example:True:=by
  k_with "cj call ref" => ((k_here;(with_reducible refine (?_:wpAny _ _ (PySem.call (Value.ref 544) [Value.ref _] _) _ _ _));k_dflt (apply is_nan_ct;k_extra "@HK1"; (k_mem);(assumption);k_extra "@HK2"; (intro h9_ tk9_ F9_ N9_);k_extra "@HK3")))
  k_with "ck call ref" => ((k_here;(with_reducible refine (?_:wpAny _ _ (PySem.call (Value.ref 586) [Value.ref _,Value.ref _] _) _ _ _));k_dflt (apply mul_ct;k_extra "@HK1"; (k_mem);(k_mem);(first | assumption | exact z_abs (by assumption) | decide | (first | lia | omega) | k_extra "@MK" | k_extra "@QD");(first | assumption | exact z_abs (by assumption) | decide | (first | lia | omega) | k_extra "@MK" | k_extra "@QD");(first | assumption | exact z_abs (by assumption) | decide | (first | lia | omega) | k_extra "@MK" | k_extra "@QD");(first | assumption | exact z_abs (by assumption) | decide | (first | lia | omega) | k_extra "@MK" | k_extra "@QD");(first | assumption | exact z_abs (by assumption) | decide | (first | lia | omega) | k_extra "@MK" | k_extra "@QD");(first | assumption | exact z_abs (by assumption) | decide | (first | lia | omega) | k_extra "@MK" | k_extra "@QD");k_extra "@HK2"; (intro x9_ tn9_ td9_ c9_ h9_ tk9_ F9_ N9_ l9_);k_extra "@HK3")))
  k_with "cl call ref" => ((k_here;(with_reducible refine (?_:wpAny _ _ (PySem.call (Value.ref 572) [_,Value.ref _] _) _ _ _));k_dflt (apply add_ct;k_extra "@HK1"; (first | assumption | exact RatIn.zero | exact RatIn.led (by k_mem));(k_mem);(first | assumption | exact z_abs (by assumption) | decide | (first | lia | omega) | k_extra "@MK" | k_extra "@QD");(first | assumption | exact z_abs (by assumption) | decide | (first | lia | omega) | k_extra "@MK" | k_extra "@QD");(first | assumption | exact z_abs (by assumption) | decide | (first | lia | omega) | k_extra "@MK" | k_extra "@QD");(first | assumption | exact z_abs (by assumption) | decide | (first | lia | omega) | k_extra "@MK" | k_extra "@QD");(first | assumption | exact z_abs (by assumption) | decide | (first | lia | omega) | k_extra "@MK" | k_extra "@QD");(first | assumption | exact z_abs (by assumption) | decide | (first | lia | omega) | k_extra "@MK" | k_extra "@QD");k_extra "@HK2"; (intro x9_ tn9_ td9_ c9_ h9_ tk9_ F9_ N9_ l9_);k_extra "@HK3")))
  k_with "cm call ref" => ((k_here;(with_reducible refine (?_:wpAny _ _ (PySem.call (Value.ref 614) [Value.ref _] _) _ _ _));k_dflt (apply floor_ct;k_extra "@HK1"; (first | assumption | exact RatIn.zero | exact RatIn.led (by k_mem));(first | assumption | exact z_abs (by assumption) | decide | (first | lia | omega) | k_extra "@MK" | k_extra "@QD");(first | assumption | exact z_abs (by assumption) | decide | (first | lia | omega) | k_extra "@MK" | k_extra "@QD");k_extra "@HK2"; (intro x9_ tn9_ td9_ c9_ h9_ tk9_ F9_ N9_ l9_);k_extra "@HK3")))
  k_with "cn call ref" => ((k_here;(with_reducible refine (?_:wpAny _ _ (PySem.call (Value.ref 579) [Value.ref _,Value.ref _] _) _ _ _));k_dflt (apply sub_ct;k_extra "@HK1"; (k_mem);(k_mem);(first | assumption | exact z_abs (by assumption) | decide | (first | lia | omega) | k_extra "@MK" | k_extra "@QD");(first | assumption | exact z_abs (by assumption) | decide | (first | lia | omega) | k_extra "@MK" | k_extra "@QD");(first | assumption | exact z_abs (by assumption) | decide | (first | lia | omega) | k_extra "@MK" | k_extra "@QD");(first | assumption | exact z_abs (by assumption) | decide | (first | lia | omega) | k_extra "@MK" | k_extra "@QD");(first | assumption | exact z_abs (by assumption) | decide | (first | lia | omega) | k_extra "@MK" | k_extra "@QD");(first | assumption | exact z_abs (by assumption) | decide | (first | lia | omega) | k_extra "@MK" | k_extra "@QD");k_extra "@HK2"; (intro x9_ tn9_ td9_ c9_ h9_ tk9_ F9_ N9_ l9_);k_extra "@HK3")))
  k_with "co QD" => (((rename QP _ _=>hq9);(rename (List.length _ = 1∨_)=>hn9);rcases hq9 with ⟨e1_,e2_⟩ | ⟨e1_,e2_⟩ | ⟨e1_,e2_⟩ | ⟨e1_,e2_⟩ | ⟨e1_,e2_⟩<;>rcases hn9 with h_ | h_ | h_ | h_ | h_ | h_<;>(simp only [e1_,e2_,h_];decide)))
  k_with "cp subscriptTail Name BinOp ref int" => ((k_here;k_dflt (refine' item_b2 ?N__ ?m__ ?R__ ?z__ ?a__ ?b__ ?h__ ?_;(case N__=>k_asm);(case m__=>k_mem);(case R__=>first | with_reducible assumption | assumption);(case z__=>first | with_reducible assumption | assumption);(case a__=>first | assumption | (first | lia | omega));(case b__=>first | assumption | (first | lia | omega));(case h__=>first | with_reducible assumption | assumption));intro v9_ z9_ ez9_ bz9_ hv9_;(obtain ⟨hv8_,hv7_⟩:=hv9_;cases hv8_)))
  k_with "cp subscriptTail Name Name ref int" => ((k_here;k_dflt (refine' item_b2 ?N__ ?m__ ?R__ ?z__ ?a__ ?b__ ?h__ ?_;(case N__=>k_asm);(case m__=>k_mem);(case R__=>first | with_reducible assumption | assumption);(case z__=>first | with_reducible assumption | assumption);(case a__=>first | assumption | (first | lia | omega));(case b__=>first | assumption | (first | lia | omega));(case h__=>first | with_reducible assumption | assumption));intro v9_ z9_ ez9_ bz9_ hv9_;(obtain ⟨hv8_,hv7_⟩:=hv9_;cases hv8_)))
  k_with "cp MK" => (first | (rw [(mk_add _ _).1];(first | lia | omega)) | (rw [(mk_add _ _).2];decide) | exact mul_q1 (by first | assumption | (first | lia | omega) | k_extra "@QD") (by (first | lia | omega)) (by first | assumption | (first | lia | omega) | k_extra "@QD") | exact mul_q2 (by first | assumption | (first | lia | omega) | k_extra "@QD") | exact mul_q3 (by first | assumption | (first | lia | omega) | k_extra "@QD") (by first | assumption | (first | lia | omega) | k_extra "@QD"))
  trivial
section
local macro_rules (kind := PySem.W.tacticK_extra_) | s => mq "k b2 cp co cn cm cl ck w cj t j o a" s

section
variable (B:Below A₀ base outer h₀) (F:Fr h₀ L hpS m) (X:(Mine.hd.heap_1 (World.params w)).In h₀) (N:News h₀ L hpS news) (T:Top p loose mean mg mb h₀) (hk:cs.kind = .function)
include B F X N T hk
theorem qitem_ct {l pt:Addr} {out:List Value} {ss:List Int} {c kp:Nat} {a1 b1:Int} {ta tb:Tok} {led:Led} (h1:(l,listOf out.toArray c)∈news) (h2:All2 (fun v z=>IntR news v z∧IntR led v z) out ss) (hn:ss.length = 1∨ss.length = 2∨ss.length = 3∨ss.length = 4∨ss.length = 5∨ss.length = 6) (hz:∀ z∈ss,1≤z∧z≤3)
  (hp:(pt,({ cls:=.type "tuple", data:=.seq #[.int a1 ta,.int b1 tb] kp }:Obj))∈news) (hq:QP a1 b1)
  (hd:dp + 12 < recursionLimit) (hu:un + 120 < cLine)
  (ret:∀ u s',Ret h₀ L m news (fun _ u=>(a1 = 0∨a1 = b1)→IntR led u (ss.getD (if a1 = 0 then 0 else ss.length - 1) 0)) u s'→Q u s') :
  wpAny (model prog w) (ktrTop dp un gd cn cs L a ccd cl outer) (call (.ref 962) [.ref l,.ref pt]) Q E ⟨hpS,GC,DC,tkS,OC⟩:=by
  have qf:=q_facts hq hn
  have h6:=qf.h6
  have hb0:=qf.b0
  have ha0:=qf.a0
  have hab:=qf.ab
  have hb4:=qf.b4
  have f1:=qf.f1
  have f2:=qf.f2
  have f3:=qf.f3
  have g1:=qf.g1
  have g2:=qf.g2
  have g3:=qf.g3
  have g4:=qf.g4
  have g5:=qf.g5
  have i1:=qf.i1
  have i2:=qf.i2
  have i3:=qf.i3
  have k1:=qf.k1
  have k2:=qf.k2
  have k3:=qf.k3
  have k4:=qf.k4
  have k5:=qf.k5
  have he:ss.isEmpty = false:=by cases ss with
    | nil=>simp at hn
    | cons _ _=>rfl
  have hpt:=qf.pt
  k_extra "@ENTER"
  k_steps
  · have ez:=(by assumption:_ = ss.getD _ 0)
    exact ret _ _ (ret0 (by k_asm) (by k_asm) (by intro p h;k_mem) fun h=>by
      rw [← (qf.qi h).1,← ez]
      assumption)
  · have hne:=(by assumption:¬ mkN _ _ = 0)
    exact ret _ _ (ret0 (by k_asm) (by k_asm) (by intro p h;k_mem) fun h=>absurd (qf.qi h).2 hne)
end
end
section
local macro_rules (kind := PySem.W.tacticK_extra_) | s => mq "0 m l k b2 cj t j q h g f e d c p o a" s

section
variable (B:Below A₀ base outer h₀) (F:Fr h₀ L hpS m) (X:(Mine.hd.heap_1 (World.params w)).In h₀) (N:News h₀ L hpS news) (T:Top p loose mean mg mb h₀) (hk:cs.kind = .function)
include B F X N T hk
theorem qitem_nil_ct {l pt:Addr} {c kp:Nat} {a1 b1:Int} {ta tb:Tok} (h1:(l,listOf #[] c)∈news) (hp:(pt,({ cls:=.type "tuple", data:=.seq #[.int a1 ta,.int b1 tb] kp }:Obj))∈news) (hq:QP a1 b1)
  (hd:dp + 12 < recursionLimit) (hu:un + 120 < cLine) (ret:∀ h' tk',Fr h₀ L h' m→News h₀ L h' news→Q .none ⟨h',GC,DC,tk',OC⟩) :
  wpAny (model prog w) (ktrTop dp un gd cn cs L a ccd cl outer) (call (.ref 962) [.ref l,.ref pt]) Q E ⟨hpS,GC,DC,tkS,OC⟩:=by
  have hb0:0 < b1:=by rcases hq with ⟨rfl,rfl⟩ | ⟨rfl,rfl⟩ | ⟨rfl,rfl⟩ | ⟨rfl,rfl⟩ | ⟨rfl,rfl⟩<;>decide
  have ha0:0≤a1:=by rcases hq with ⟨rfl,rfl⟩ | ⟨rfl,rfl⟩ | ⟨rfl,rfl⟩ | ⟨rfl,rfl⟩ | ⟨rfl,rfl⟩<;>decide
  have hab:a1≤b1:=by rcases hq with ⟨rfl,rfl⟩ | ⟨rfl,rfl⟩ | ⟨rfl,rfl⟩ | ⟨rfl,rfl⟩ | ⟨rfl,rfl⟩<;>decide
  k_extra "@ENTER"
  k_steps
  all_goals first | (first | lia | omega) | exact ret _ _ (by k_asm) (news_sub (by k_asm) (by intro p h;k_mem))
end
end
section
local macro_rules (kind := PySem.W.tacticK_extra_) | s => mq "0 b6 b9 b3 bp m l k t j q h g f e d c p o a" s

section
variable (B:Below A₀ base outer h₀) (F:Fr h₀ L hpS m) (X:(Mine.hd.heap_1 (World.params w)).In h₀) (N:News h₀ L hpS news) (T:Top p loose mean mg mb h₀) (hk:cs.kind = .function)
include B F X N T hk
theorem quantile7_ref_ct {v pv:Value} {xs:List (Option Int)} (h1:VecI w news xs v) (h5:xs.length≤6) (h7:xs.any (·.isNone) = true) (hd:dp + 12 < recursionLimit) (hu:un + 120 < cLine)
  (retE:∀ tf e d tk h' tk',RaisedX h₀ L m base (envX cn cs L a ccd cl::outer) e d ((d,exD w tk (.str (Str.ofString "missing values and NaN's not allowed if 'na.rm' is FALSE") tf))::news) h'→E (.ref e) ⟨h',GC,DC,tk',OC⟩) :
  wpAny (model prog w) (ktrTop dp un gd cn cs L a ccd cl outer) (call (.ref 967) [v,pv]) Q E ⟨hpS,GC,DC,tkS,OC⟩:=by
  k_extra "@ENTERC"
  k_steps
  all_goals exact retE _ _ _ _ _ _ (by k_extra "@RE")
end
end
example:True:=by
  k_with "cq NE9" => (first | assumption | (refine' ne_app ?na__ ?nm__ ?nb__;(case na__=>first | with_reducible assumption | assumption);(case nm__=>exact Del.mem (by k_extra "@DEL"));(case nb__=>k_extra "@NE9")) | (refine' List.forall_mem_cons.mpr ⟨?na__,?nb__⟩;(case na__=>first | exact tab_ne (by assumption) | exact Ne.symm (Nat.ne_of_lt (Nat.lt_succ_of_lt ((by assumption:∀ p:Addr×Obj,p∈_→@LT.lt Nat _ p.1 _) _ (Del.mem (by assumption))))));(case nb__=>k_extra "@NE9")))
  k_with "cq DEL" => (first | assumption | exact Del.head | (refine' Del.tail ?dl__;(case dl__=>k_extra "@DEL")) | (refine' Del.app ?dl__;(case dl__=>k_extra "@DEL")))
  k_with "cr TABNE" => (first | exact Ne.symm (tab_ne (by assumption)) | exact del_tab (by assumption) (by assumption))
  k_with "cr K_UPDF" => (first | (refine' UpdF.head ?a__;(case a__=>k_all)) | (refine' UpdF.tail ?a__ ?b__;(case a__=>first | k_ne | k_extra "@TABNE");(case b__=>k_updF)) | (refine' updF_app ?a__ ?b__;(case a__=>k_extra "@APPNE");(case b__=>k_updF)))
  k_with "cr APPNE" => (first | exact app_ne0 (by assumption) (by k_mem) | exact app_ne1 (by assumption) (by k_mem))
  k_with "cr K_ALL" => (first | exact tab_all (by assumption) | exact del_ne (by assumption) (by assumption))
  k_with "cs call ref" => ((k_here;(with_reducible refine (?_:wpAny _ _ (PySem.call (Value.ref 962) [Value.ref _,Value.ref _] _) _ _ _));k_dflt (apply qitem_ct;k_extra "@HK1"; (k_mem);(exact All2.imp (by assumption) (fun _ _ h_=>⟨OptR.mono (by intro p_ h_;k_mem) h_,h_⟩));(assumption);(assumption);(k_mem);(assumption);k_extra "@HK2"; (refine retK ?_;intro u9_ h9_ tk9_ add9_ F9_ N9_ l9_ r9_);k_extra "@HK3")))
  trivial
section
local macro_rules (kind := PySem.W.tacticK_extra_) | s => mq "0 cs by b6 cr cq ca b9 b3 m l k t j q h g f e d c p o a" s
theorem updF_app {d:Addr} {o:Obj} {A l:Led} {g:Obj→Led} (hA:∀ p∈A,p.1≠d) (U:UpdF d o l g):UpdF d o (A++l) (fun o'=>A++g o'):=by
  induction A with
  | nil=>exact U
  | cons p A ih=>exact UpdF.tail (hA p (.head _)) (ih fun q hq=>hA q (.tail _ hq))
inductive PrbR (led:Led):Value→Int×Int→Prop
  | mk {pt:Addr} {a b:Int} {ta tb:Tok} {k:Nat}:(pt,({ cls:=.type "tuple", data:=.seq #[.int a ta,.int b tb] k }:Obj))∈led→QP a b→PrbR led (.ref pt) (a,b)
noncomputable def QR (led:Led) (v:Value) (x:Option Int):Prop:=∀ z,x = some z→IntR led v z
theorem QR.mono {led led':Led} {v:Value} {x:Option Int} (h:QR led v x) (hs:∀ p∈led,p∈led'):QR led' v x:=fun z e=>OptR.mono hs (h z e)
noncomputable def qf (ss:List Int) (x:Int×Int):Option Int:=if x.1 = 0∨x.1 = x.2 then some (ss.getD (if x.1 = 0 then 0 else ss.length - 1) 0) else none
theorem retTQ {h₀ h:Heap} {L:Addr} {m:Str→Option Value} {rest led:Led} {tk:Nat} {ps:Array Value} {u:Value} {R:Led→Value→Prop} (A:Led) (F:Fr h₀ L h m) (N:News h₀ L h led) (hA:∀ p∈A++(936,tabObj ps)::rest,p∈led) (aA:∀ p∈A,p.1≠936∧∀ q∈rest,q.1≠p.1) (ht:TabSt (A++rest) ps) (r:R A u) :
    RetT h₀ L m rest R u ⟨h,GC,DC,tk,OC⟩:=⟨h,tk,A,ps,rfl,F,fun p hp=>N p (hA p hp),aA,ht,r⟩
theorem app_ne0 {A r:Led} {d:Addr} {o:Obj} (h:∀ p∈A,∀ q∈r,q.1≠p.1) (hm:(d,o)∈r):∀ p∈A,p.1≠d:=fun p hp=>Ne.symm (h p hp _ hm)
theorem app_ne1 {A r:Led} {d:Addr} {o:Obj} (h:∀ p∈A,p.1≠936∧∀ q∈r,q.1≠p.1) (hm:(d,o)∈r):∀ p∈A,p.1≠d:=fun p hp=>Ne.symm ((h p hp).2 _ hm)
theorem tab_ne {d:Addr} {r:Led} (l:@LT.lt Nat _ 936 d∧AllLt d r):d + 1≠936:=Ne.symm (Nat.ne_of_lt (Nat.lt_succ_of_lt l.1))
theorem ints_cell {A r:Led} {c:Addr} {o:Obj} {cv:Option Value} {vs:List Value} {zs:List Int} (h:All2 (IntR (A++(c,o)::r)) vs zs) (hd:o.data = .cell cv):All2 (IntR (A++r)) vs zs:=by
  refine h.imp fun v z hv=>?_
  cases hv with
  | some hm =>
    rcases List.mem_append.mp hm with hm | hm
    · exact .some (List.mem_append_left _ hm)
    · rcases List.mem_cons.mp hm with e | hm
      · cases e
        cases hd
      · exact .some (List.mem_append_right _ hm)
theorem tab_cell {A1 A2 r:Led} {c:Addr} {o:Obj} {cv:Option Value} {ps:Array Value} (h:TabSt (A1++(A2++(c,o)::r)) ps) (hd:o.data = .cell cv):TabSt ((A1++A2)++r) ps:=by
  rcases h with h | ⟨c',oc,vs,t,e,hm,hf,hv⟩
  · exact .inl h
  · refine .inr ⟨c',oc,vs,t,e,?_,hf,hv⟩
    simp only [List.mem_append,List.mem_cons] at hm ⊢
    rcases hm with hm | hm | hm | hm
    · exact .inl (.inl hm)
    · exact .inl (.inr hm)
    · cases hm
      rw [hd] at hf
      cases hf
    · exact .inr hm
theorem QR.of {led add:Led} {u:Value} {ss:List Int} {a b:Int} (h:(a = 0∨a = b)→IntR led u (ss.getD (if a = 0 then 0 else ss.length - 1) 0)):QR (add++led) u (qf ss (a,b)):=fun z e=>by
  unfold qf at e
  dsimp only at e
  split at e
  · cases e
    exact OptR.up (h (by assumption)) fun p hp=>List.mem_append_right _ hp
  · cases e
theorem QR.keep {led led':Led} {v:Value} {x:Option Int} (h:QR led v x) (hs:∀ (y:Addr) (o:Obj),(y,o)∈led→o.cls = .type "tuple" → (∀ cv,o.data≠.cell cv)→(y,o)∈led'):QR led' v x:=fun z e=>by
  cases h z e with
  | some hm=>exact .some (hs _ _ hm rfl fun cv e=>nomatch e)
theorem retQ {h₀ h:Heap} {L D c:Addr} {m:Str→Option Value} {rest add A1 A2:Led} {tk:Nat} {ps ps0:Array Value} {o oc oc0 oc1:Obj} {cv:Option Value} {ys:List Value} {xs:List (Option Int)} {R:Led→Value→Prop} (F:Fr h₀ L h m) (N:News h₀ L h ((D,o)::(add++(A1++(936,tabObj ps)::(A2++(c,oc)::rest)))))
    (hD:LCg.Off1 D (add++(A1++(936,tabObj ps)::(A2++(c,oc)::rest)))) (ap:∀ p∈add,∀ q∈A1++(936,tabObj ps)::(A2++(c,oc)::rest),q.1≠p.1) (a1:∀ p∈A1,p.1≠936∧∀ q∈A2++(c,oc0)::rest,q.1≠p.1) (a2:∀ p∈A2,∀ q∈(c,oc1)::(936,tabObj ps0)::rest,q.1≠p.1)
    (hd:oc.data = .cell cv) (ht:TabSt ((A1++A2)++rest) ps) (hy:All2 (QR (add++(A1++(936,tabObj ps)::(A2++(c,oc)::rest)))) ys xs) (r:∀ ad:Led,(D,o)∈ad→All2 (QR (ad++rest)) ys xs→R ad (.ref D)) :
    RetT h₀ L m rest R (.ref D) ⟨h,GC,DC,tk,OC⟩:=by
  have hD':=off1_mem hD
  refine retTQ ((D,o)::(add++(A1++A2))) F N (fun p hp=>?_) (fun p hp=>?_) (ht.mono fun p hp=>?_) (r _ (.head _) (hy.imp fun v x hv=>hv.keep fun y o' hm ht hc=>?_))
  · simp only [List.mem_append,List.mem_cons] at hp ⊢
    rcases hp with (e | h | h | h) | e | h
    · exact .inl e
    · exact .inr (.inl h)
    · exact .inr (.inr (.inl h))
    · exact .inr (.inr (.inr (.inr (.inl h))))
    · exact .inr (.inr (.inr (.inl e)))
    · exact .inr (.inr (.inr (.inr (.inr (.inr h)))))
  · rcases List.mem_cons.mp hp with rfl | hp
    · exact ⟨Ne.symm (hD' (936,tabObj ps) (by simp)),fun q hq=>hD' q (by simp [hq])⟩
    rcases List.mem_append.mp hp with hp | hp
    · exact ⟨Ne.symm (ap p hp (936,tabObj ps) (by simp)),fun q hq=>ap p hp q (by simp [hq])⟩
    rcases List.mem_append.mp hp with hp | hp
    · exact ⟨(a1 p hp).1,fun q hq=>(a1 p hp).2 q (by simp [hq])⟩
    · exact ⟨Ne.symm (a2 p hp (936,tabObj ps0) (by simp)),fun q hq=>a2 p hp q (by simp [hq])⟩
  · simp only [List.mem_append,List.mem_cons] at hp ⊢
    rcases hp with (h | h) | h
    · exact .inl (.inr (.inr (.inl h)))
    · exact .inl (.inr (.inr (.inr h)))
    · exact .inr h
  · simp only [List.mem_append,List.mem_cons] at hm ⊢
    rcases hm with h | h | h | h | h | h
    · exact .inl (.inr (.inl h))
    · exact .inl (.inr (.inr (.inl h)))
    · cases h
      cases ht
    · exact .inl (.inr (.inr (.inr h)))
    · cases h
      exact absurd hd (hc _)
    · exact .inr h
section
variable (B:Below A₀ base outer h₀) (F:Fr h₀ L hpS m) (X:(Mine.hd.heap_1 (World.params w)).In h₀) (N:News h₀ L hpS news) (T:Top p loose mean mg mb h₀) (hk:cs.kind = .function)
include B F X N T hk
theorem quantile7_ct {v:Value} {pl:Addr} {pvs:List Value} {kp:Nat} {shares:List (Int×Int)} {xs:List (Option Int)} {zs:List Int} {ps:Array Value} {rest:Led} (D:Del 936 (tabObj ps) news rest) (hT:TabSt rest ps) (h9:∀ p∈rest,p.1≠936)
  (h1:VecI w rest xs v) (hx:xs = zs.map some) (hn:(sortI zs).length = 1∨(sortI zs).length = 2∨(sortI zs).length = 3∨(sortI zs).length = 4∨(sortI zs).length = 5∨(sortI zs).length = 6) (h5:xs.length≤6) (h6:∀ z∈zs,1≤z∧z≤3)
  (hp:(pl,listOf pvs.toArray kp)∈rest) (hP:All2 (PrbR rest) pvs shares) (hs6:shares.length≤6) (hd:dp + 22 < recursionLimit) (hu:un + 200 < cLine)
  (ret:∀ u s',RetT h₀ L m rest (fun add u=>∃ D out c,u = .ref D∧(D,listOf (List.toArray out) c)∈add∧All2 (QR (add++rest)) out (shares.map (qf (sortI zs)))) u s'→Q u s') :
  wpAny (model prog w) (ktrTop dp un gd cn cs L a ccd cl outer) (call (.ref 967) [v,.ref pl]) Q E ⟨hpS,GC,DC,tkS,OC⟩:=by
  have hz6:zs.length≤6:=by rw [hx,List.length_map] at h5;exact h5
  have hzs:=fun z h=>sortI_mem h6 z h
  have hla:xs.any (·.isNone) = false:=by rw [hx];simp
  replace N:=D.nws N
  clear D
  have D:=Del.head (a:=936) (o:=tabObj ps) (r:=rest)
  k_extra "@ENTERC"
  k_steps
  have q1:=ints_cell (by assumption:All2 (IntR _) _ (sortI zs)) (by assumption)
  have q2:=tab_cell (by assumption:TabSt (_++(_++(_,_)::rest)) _) (by assumption)
  refine' comp_src (Rv:=PrbR rest) (Ro:=QR) (qf (sortI zs)) ?c1 ?c2 ?c3 ?c4 ?c5 ?c6 ?c7 (fun _ _ h _ _ r=>QR.mono r h) ?_ ?_
  case c3=>k_asm
  case c4=>exact fun _ h=>h
  case c5=>k_mem
  case c6=>exact hP
  case c7=>exact hs6
  case c1=>rfl
  case c2=>k_asm
  · constructor
    intro v y news' I oI C oC D ys m₂ s' E' hv hs hC hx F1 N1 hst
    obtain ⟨g,tk,rfl⟩:=hst
    cases hv with
    | mk a1 a2 =>
      have m1:=hs _ (List.mem_append_right _ (.tail _ (List.mem_append_right _ (.head _))))
      have m2:=hs _ (List.mem_append_left _ (by assumption:(_,listOf (List.toArray _) _)∈_))
      have m3:=All2.imp q1 (fun _ _ h=>OptR.up h fun p hp=>hs p ((List.mem_append.mp hp).elim (fun hp=>List.mem_append_right _ (.tail _ (List.mem_append_left _ hp))) fun hp=>List.mem_append_right _ (.tail _ (List.mem_append_right _ (.tail _ hp)))))
      have m4:=hs _ (List.mem_append_right _ (.tail _ (List.mem_append_right _ (.tail _ a1))))
      clear hs a1
      k_steps
      exact ⟨_,_,_,rfl,by k_asm,by k_asm,by assumption,QR.of (by assumption)⟩
  · constructor
    intro g ys add ap hy
    k_steps
    exact ret _ _ (retQ (by k_asm) (by k_asm) (by assumption) ap (by assumption) (by assumption) (by assumption) q2 hy fun ad b1 b2=>⟨_,_,_,rfl,b1,b2⟩)
end
end
example:True:=by
  k_with "ct call ref" => ((k_here;(with_reducible refine (?_:wpAny _ _ (PySem.call (Value.ref 962) [Value.ref _,Value.ref _] _) _ _ _));k_dflt (apply qitem_nil_ct;k_extra "@HK1"; (k_mem);(k_mem);(assumption);k_extra "@HK2"; (intro h9_ tk9_ F9_ N9_);k_extra "@HK3")))
  trivial
section
local macro_rules (kind := PySem.W.tacticK_extra_) | s => mq "0 ct by b6 cr cq ca b9 b3 m l k t j q h g f e d c p o a" s
theorem all2_nil {α:Type} {R:Value→α→Prop} {vs:List Value} {l:List α} (h:All2 R vs l) (e:l = []):vs = []:=by
  subst e
  cases h
  rfl
theorem retN {h₀ h:Heap} {L D c:Addr} {m:Str→Option Value} {rest add A1 A2:Led} {tk:Nat} {ps ps0:Array Value} {o oc oc0 oc1:Obj} {cv:Option Value} {R:Led→Value→Prop} (F:Fr h₀ L h m) (N:News h₀ L h ((D,o)::(add++(A1++(936,tabObj ps)::(A2++(c,oc)::rest)))))
    (hD:LCg.Off1 D (add++(A1++(936,tabObj ps)::(A2++(c,oc)::rest)))) (ap:∀ p∈add,∀ q∈A1++(936,tabObj ps)::(A2++(c,oc)::rest),q.1≠p.1) (a1:∀ p∈A1,p.1≠936∧∀ q∈A2++(c,oc0)::rest,q.1≠p.1) (a2:∀ p∈A2,∀ q∈(c,oc1)::(936,tabObj ps0)::rest,q.1≠p.1)
    (hd:oc.data = .cell cv) (ht:TabSt ((A1++A2)++rest) ps) (r:∀ ad:Led,(D,o)∈ad→R ad (.ref D)) :
    RetT h₀ L m rest R (.ref D) ⟨h,GC,DC,tk,OC⟩ :=
  retQ (ys:=[]) (xs:=[]) F N hD ap a1 a2 hd ht .nil fun ad b _=>r ad b
section
variable (B:Below A₀ base outer h₀) (F:Fr h₀ L hpS m) (X:(Mine.hd.heap_1 (World.params w)).In h₀) (N:News h₀ L hpS news) (T:Top p loose mean mg mb h₀) (hk:cs.kind = .function)
include B F X N T hk
theorem quantile7_nil_ct {v:Value} {pl:Addr} {pvs:List Value} {kp:Nat} {shares:List (Int×Int)} {xs:List (Option Int)} {zs:List Int} {ps:Array Value} {rest:Led} (D:Del 936 (tabObj ps) news rest) (hT:TabSt rest ps) (h9:∀ p∈rest,p.1≠936)
  (h1:VecI w rest xs v) (hx:xs = zs.map some) (hn:sortI zs = []) (h5:xs.length≤6) (h6:∀ z∈zs,1≤z∧z≤3)
  (hp:(pl,listOf pvs.toArray kp)∈rest) (hP:All2 (PrbR rest) pvs shares) (hs6:shares.length≤6) (hd:dp + 22 < recursionLimit) (hu:un + 200 < cLine)
  (ret:∀ u s',RetT h₀ L m rest (fun add u=>∃ D out c,u = .ref D∧(D,listOf (List.toArray out) c)∈add∧All2 (fun v _=>v = .none) out shares) u s'→Q u s') :
  wpAny (model prog w) (ktrTop dp un gd cn cs L a ccd cl outer) (call (.ref 967) [v,.ref pl]) Q E ⟨hpS,GC,DC,tkS,OC⟩:=by
  have hz6:zs.length≤6:=by rw [hx,List.length_map] at h5;exact h5
  have hla:xs.any (·.isNone) = false:=by rw [hx];simp
  replace N:=D.nws N
  clear D
  have D:=Del.head (a:=936) (o:=tabObj ps) (r:=rest)
  k_extra "@ENTERC"
  k_steps
  have q1:=ints_cell (by assumption:All2 (IntR _) _ (sortI zs)) (by assumption)
  have q2:=tab_cell (by assumption:TabSt (_++(_++(_,_)::rest)) _) (by assumption)
  have q3:=all2_nil q1 hn
  subst q3
  refine' comp_src (Rv:=PrbR rest) (Ro:=fun _ v _=>v = .none) id ?c1 ?c2 ?c3 ?c4 ?c5 ?c6 ?c7 (fun _ _ _ _ _ r=>r) ?_ ?_
  case c3=>k_asm
  case c4=>exact fun _ h=>h
  case c5=>k_mem
  case c6=>exact hP
  case c7=>exact hs6
  case c1=>rfl
  case c2=>k_asm
  · constructor
    intro v y news' I oI C oC D ys m₂ s' E' hv hs hC hx F1 N1 hst
    obtain ⟨g,tk,rfl⟩:=hst
    cases hv with
    | mk a1 a2 =>
      have m1:=hs _ (List.mem_append_right _ (.tail _ (List.mem_append_right _ (.head _))))
      have m2:=hs _ (List.mem_append_left _ (by assumption:(_,listOf (List.toArray _) _)∈_))
      have m4:=hs _ (List.mem_append_right _ (.tail _ (List.mem_append_right _ (.tail _ a1))))
      clear hs a1
      k_steps
      exact ⟨_,_,[],rfl,by k_asm,by k_asm,apart0,rfl⟩
  · constructor
    intro g ys add ap hy
    k_steps
    rw [List.map_id] at hy
    exact ret _ _ (retN (by k_asm) (by k_asm) (by assumption) ap (by assumption) (by assumption) (by assumption) q2 fun ad b1=>⟨_,_,_,rfl,b1,hy⟩)
end
end
example:True:=by
  k_with "cu exec For Name Subscript cons nil" => ((k_here;k_dflt (refine' For_invVF ?F__ ?k1__ ?k2__ ?_;(case F__=>k_asm);(case k1__=>eq_refl);(case k2__=>eq_refl))))
  k_with "cu exec For Name Call cons nil" => ((k_here;k_dflt (refine' For_invVF ?F__ ?k1__ ?k2__ ?_;(case F__=>k_asm);(case k1__=>eq_refl);(case k2__=>eq_refl))))
  k_with "cv pyIter ref" => ((k_dflt (refine Held.get ?_)))
  k_with "cw eval IfExp" => ((k_here;k_dflt (refine' ifexp_abs ?F__ ?k__ ?hs__ ?_;(case F__=>k_asm);(case k__=>first | eq_refl | assumption);(case hs__=>exact fun _ _=>rfl);k_whole;intro t9_ tk9_)))
  k_with "cx call builtin:list.reverse" => ((k_here;k_dflt (refine' reverse_head_ints ?F__ ?N__ ?a__ ?i__ ?_ ?z__;(case F__=>k_asm);(case N__=>k_asm);(case a__=>exact off2lt (by assumption));(case i__=>first | with_reducible assumption | assumption);(case z__=>rw [sizeLine_eq];(first | lia | omega)));intro h'_ F'_ N'_ I'_))
  trivial
section
local macro_rules (kind := PySem.W.tacticK_extra_) | s => mq "0 cx cw cv ba cu m l k j i h g f e d c b a" s

noncomputable def SEnd {γ:Type} (h₀:Heap) (L:Addr) (own:Led) (x:Str) (ms:γ→Str→Option Value) (led:γ→Led) (ok:γ→Prop) (Q:Flow→Shared→Prop) (fl:Flow) (s'':Shared):Prop :=
  match fl with
  | .ret v=>Q (.ret v) s''
  | .brk=>Q .next s''
  | _=>∃ h' tk' m' g,s'' = ⟨h',GC,DC,tk',OC⟩∧Fr h₀ L h' m'∧News h₀ L h' (led g++own)∧OwnOff own ((led g).map (·.1))∧(∀ z,z≠x→m' z = ms g z)∧ok g
section
variable {A:Around} {E:Value→Shared→Prop} {hpS:Heap} {tkS:Nat} {env:Env} {h₀:Heap} {x:Str} {body:List Stmt} {Q:Flow→Shared→Prop} {m₀:Str→Option Value} {γ:Type}
theorem SEnd.mk {h':Heap} {tk':Nat} {m':Str→Option Value} {own all:Led} {ms:γ→Str→Option Value} {led:γ→Led} {ok:γ→Prop} (g:γ) (F':Fr h₀ env.locals h' m') (N':News h₀ env.locals h' all) (hs:∀ p∈led g++own,p∈all) (off:OwnOff own ((led g).map (·.1))) (hm:∀ z,z≠x→m' z = ms g z) (hok:ok g) :
    SEnd h₀ env.locals own x ms led ok Q .next ⟨h',GC,DC,tk',OC⟩:=⟨h',tk',m',g,rfl,F',fun p hp=>N' p (hs p hp),off,hm,hok⟩
theorem ms_eq {m₁ ms:Str→Option Value} {v:Option Value} (e2:∀ z,z≠x→m₁ z = ms z):(fun z=>if z = x then v else m₁ z) = fun z=>if z = x then v else ms z:=by
  funext z
  by_cases hz:z = x
  · rw [if_pos hz,if_pos hz]
  · rw [if_neg hz,if_neg hz,e2 z hz]
theorem forLS {l:Addr} {its:List Value} {k:Nat} {α:Type} {Rv:Value→α→Prop} {xs:List α} (ms:γ→Str→Option Value) (led:γ→Led) (ok:List α→γ→Prop)
    (hh:A.handled = none) (F:Fr h₀ env.locals hpS m₀) (hR:All2 Rv its xs) (g₀:γ) (N:News h₀ env.locals hpS (led g₀)) (hm:∀ g,(l,listOf its.toArray k)∈led g) (e0:∀ z,z≠x→m₀ z = ms g₀ z) (h0:ok [] g₀)
    (turn:Held (∀ pre y post v h tk own g,xs = pre++y::post→Rv v y→ok pre g→OwnOff own ((led g).map (·.1)) →
      Fr h₀ env.locals h (fun z=>if z = x then some v else ms g z)→News h₀ env.locals h (led g++own) →
      wpAny (model prog w) A (execs body env) (SEnd h₀ env.locals own x ms led (ok (pre++[y])) Q) E ⟨h,GC,DC,tk,OC⟩))
    (done:Held (∀ g (u:Option Value) h tk,ok xs g→Fr h₀ env.locals h (fun z=>if z = x then u else ms g z)→News h₀ env.locals h (led g)→Q .next ⟨h,GC,DC,tk,OC⟩)) :
    wpAny (model prog w) A (pyIter (.ref l)) (fun it s₂=>LoopAtV prog w A h₀ env x body Q E it s₂) E ⟨hpS,GC,DC,tkS,OC⟩:=by
  have hlen:=hR.length
  refine kdl_iter (fun i m n1=>∃ g,n1 = led g∧ok (xs.take i) g∧∀ z,z≠x→m z = ms g z) hh (hm g₀) F N ⟨g₀,rfl,by simpa using h0,e0⟩ ?_ ?_
  · rintro i v m₁ n1 h tk own hv hoff hl ⟨g,rfl,hst,e2⟩ F1 N1
    obtain ⟨y,ey,hy,et⟩:=hR.get hv
    have exs:xs = xs.take i++y::xs.drop (i + 1):=by
      have h9:=List.take_append_drop (i + 1) xs
      rw [et,List.append_assoc] at h9
      exact h9.symm
    rw [ms_eq e2] at F1
    refine wpAny_mono (turn.get (xs.take i) y (xs.drop (i + 1)) v h tk own g exs hy hst hoff F1 N1) (fun fl s2 q=>?_) fun _ _ x=>x
    have up:(∃ h' tk' m' g,s2 = ⟨h',GC,DC,tk',OC⟩∧Fr h₀ env.locals h' m'∧News h₀ env.locals h' (led g++own)∧OwnOff own ((led g).map (·.1))∧(∀ z,z≠x→m' z = ms g z)∧ok (xs.take i++[y]) g) →
        InvEndG h₀ env.locals (fun m' nx=>(l,listOf its.toArray k)∈nx∧∃ g,nx = led g∧ok (xs.take (i + 1)) g∧∀ z,z≠x→m' z = ms g z) own ⟨h,GC,DC,tk,OC⟩ s2:=by
      rintro ⟨h',tk',m',g',e,F',N',off,e2',hst'⟩
      exact ⟨h',tk',m',led g'++own,led g',e,F',N',fun p hp=>List.mem_append_left _ hp,fun p hp=>List.mem_append_right _ hp,off,hm g',g',rfl,by rw [et];exact hst',e2'⟩
    cases fl with
    | ret v=>exact q
    | brk=>exact q
    | next=>exact up q
    | cont=>exact up q
  · rintro m₁ n1 h tk ⟨g,rfl,hst,e2⟩ F1 N1
    rw [hlen,List.take_length] at hst
    refine done.get g (m₁ x) h tk hst ?_ N1
    have em:m₁ = fun z=>if z = x then m₁ x else ms g z:=by
      funext z
      by_cases hz:z = x
      · rw [if_pos hz,hz]
      · rw [if_neg hz,e2 z hz]
    rw [em] at F1
    simpa using F1
theorem forRS {r:Addr} {a₀ b₀:Int} {t₀ u₀ v₀:Tok} (n:Nat) (ms:γ→Str→Option Value) (led:γ→Led) (ok:Nat→γ→Prop) (hh:A.handled = none) (hr:IsRange hpS r a₀ b₀ 1 t₀ u₀ v₀) (hsmall:Builtin.Range.small a₀ b₀ 1 = true) (hsz:Builtin.Range.rangeSize a₀ b₀ 1 = (n:Int))
    (F:Fr h₀ env.locals hpS m₀) (g₀:γ) (N:News h₀ env.locals hpS (led g₀)) (e0:∀ z,z≠x→m₀ z = ms g₀ z) (h0:ok 0 g₀)
    (turn:Held (∀ i t h tk own g,i < n→ok i g→OwnOff own ((led g).map (·.1)) →
      Fr h₀ env.locals h (fun z=>if z = x then some (.int (a₀ + (i:Int)) t) else ms g z)→News h₀ env.locals h (led g++own) →
      wpAny (model prog w) A (execs body env) (SEnd h₀ env.locals own x ms led (ok (i + 1)) Q) E ⟨h,GC,DC,tk,OC⟩))
    (done:Held (∀ g (u:Option Value) h tk,ok n g→Fr h₀ env.locals h (fun z=>if z = x then u else ms g z)→News h₀ env.locals h (led g)→Q .next ⟨h,GC,DC,tk,OC⟩)) :
    wpAny (model prog w) A (pyIter (.ref r)) (fun it s₂=>LoopAtV prog w A h₀ env x body Q E it s₂) E ⟨hpS,GC,DC,tkS,OC⟩:=by
  refine wpAny_pyIter_range hr hsmall ?_
  have W:Walks prog w A hpS.objs.size [hpS.objs.size] [hpS.objs.size] n (fun i v=>i < n∧∃ t,v = .int (a₀ + i * 1) t)
      (fun i h=>IsRangeIter h hpS.objs.size (a₀ + (i:Nat) * 1) ((n:Int) - (i:Nat)) 1):=(Walks.range hh _ a₀ 1 n).bound
  refine kdr_loop (fun i m n1=>∃ g,n1 = led g∧ok i g∧∀ z,z≠x→m z = ms g z) W (fun _ h=>h) (fun _ h=>h) ?_ ?_ ?_ ?_ (by show IsRangeIter _ _ _ _ _;rw [hsz];simpa using Heap.get?_push_size _ rfl) (F.push _) (fun p hp=>⟨Heap.get?_push_of_some _ (N p hp).1,(N p hp).2⟩) ⟨g₀,rfl,h0,e0⟩ ?_ ?_
  · intro i h hi b hb
    rw [List.mem_singleton.mp hb]
    exact ⟨_,hi⟩
  · intro hm
    exact absurd F.ns.lt ((List.mem_singleton.mp hm)▸Nat.lt_irrefl _)
  · intro b hb
    rw [List.mem_singleton.mp hb]
    exact next_is_new F
  · intro p hp hI
    exact absurd (Heap.lt_size (N p hp).1) ((List.mem_singleton.mp hI)▸Nat.lt_irrefl _)
  · rintro i v m₁ n1 h1 tk own hi ⟨hin,t,rfl⟩ hoff ⟨g,rfl,hst,e2⟩ F1 N1
    have e1:a₀ + (i:Int) * 1 = a₀ + (i:Int):=by (first | lia | omega)
    rw [e1,ms_eq e2] at F1
    refine wpAny_mono (turn.get i t h1 tk own g hin hst hoff F1 N1) (fun fl s2 q=>?_) fun _ _ x=>x
    have up:(∃ h' tk' m' g,s2 = ⟨h',GC,DC,tk',OC⟩∧Fr h₀ env.locals h' m'∧News h₀ env.locals h' (led g++own)∧OwnOff own ((led g).map (·.1))∧(∀ z,z≠x→m' z = ms g z)∧ok (i + 1) g) →
        InvEndG h₀ env.locals (fun m' nx=>∃ g,nx = led g∧ok (i + 1) g∧∀ z,z≠x→m' z = ms g z) own ⟨h1,GC,DC,tk,OC⟩ s2:=by
      rintro ⟨h',tk',m',g',e,F',N',off,e2',hst'⟩
      exact ⟨h',tk',m',led g'++own,led g',e,F',N',fun p hp=>List.mem_append_left _ hp,fun p hp=>List.mem_append_right _ hp,off,g',rfl,hst',e2'⟩
    cases fl with
    | ret v=>exact q
    | brk=>exact q
    | next=>exact up q
    | cont=>exact up q
  · rintro m₁ n1 h tk ⟨g,rfl,hst,e2⟩ F1 N1
    refine done.get g (m₁ x) h tk hst ?_ N1
    have em:m₁ = fun z=>if z = x then m₁ x else ms g z:=by
      funext z
      by_cases hz:z = x
      · rw [if_pos hz,hz]
      · rw [if_neg hz,e2 z hz]
    rw [em] at F1
    simpa using F1
end
noncomputable def lsM (m₀:Str→Option Value) (ch:List Str) (tv:List (Str×Value)) (u:Str→Option Value):Str→Option Value :=
  fun z=>match tv.lookup z with
    | some v=>some v
    | none=>if ch.contains z then u z else m₀ z
noncomputable def TEnd {γ:Type} (h₀:Heap) (L:Addr) (own:Led) (x:Str) (m₀:Str→Option Value) (ch:List Str) (tv:γ→List (Str×Value)) (led:γ→Led) (ok:γ→Prop) (Q:Flow→Shared→Prop) (fl:Flow) (s'':Shared):Prop :=
  match fl with
  | .ret v=>Q (.ret v) s''
  | .brk=>Q .next s''
  | _=>∃ h' tk' m' g,s'' = ⟨h',GC,DC,tk',OC⟩∧Fr h₀ L h' m'∧News h₀ L h' (led g++own)∧OwnOff own ((led g).map (·.1))∧(∀ z,z≠x→(tv g).lookup z = none→ch.contains z = false→m' z = m₀ z)∧(∀ q∈tv g,m' q.1 = some q.2)∧ok g
theorem lookup_in {z:Str} {v:Value} {l:List (Str×Value)}:l.lookup z = some v→(z,v)∈l:=by
  induction l with
  | nil=>intro h;cases h
  | cons p l ih =>
    intro h
    obtain ⟨a,b⟩:=p
    rw [List.lookup_cons] at h
    cases q:z == a with
    | true =>
      rw [q] at h
      cases h
      rw [eq_of_beq q]
      exact .head _
    | false =>
      rw [q] at h
      exact .tail _ (ih h)
theorem lsM_eq {m' m₀:Str→Option Value} {ch:List Str} {tv:List (Str×Value)} {x:Str} (h1:∀ z,z≠x→tv.lookup z = none→ch.contains z = false→m' z = m₀ z) (h2:∀ q∈tv,m' q.1 = some q.2):∀ z,z≠x→m' z = lsM m₀ ch tv m' z:=by
  intro z hz
  unfold lsM
  cases q:tv.lookup z with
  | some v=>exact h2 _ (lookup_in q)
  | none =>
    cases c:ch.contains z with
    | true=>simp
    | false=>simp [h1 z hz q c]
section
variable {A:Around} {E:Value→Shared→Prop} {hpS:Heap} {tkS:Nat} {env:Env} {h₀:Heap} {x:Str} {body:List Stmt} {Q:Flow→Shared→Prop} {m₀:Str→Option Value} {γ:Type}
theorem TEnd.mk {L:Addr} {h':Heap} {tk':Nat} {m':Str→Option Value} {own all:Led} {ch:List Str} {tv:γ→List (Str×Value)} {led:γ→Led} {ok:γ→Prop} (g:γ) (F':Fr h₀ L h' m') (N':News h₀ L h' all) (hs:∀ p∈led g++own,p∈all) (off:OwnOff own ((led g).map (·.1)))
    (h1:∀ z,z≠x→(tv g).lookup z = none→ch.contains z = false→m' z = m₀ z) (h2:∀ q∈tv g,m' q.1 = some q.2) (hok:ok g) :
    TEnd h₀ L own x m₀ ch tv led ok Q .next ⟨h',GC,DC,tk',OC⟩:=⟨h',tk',m',g,rfl,F',fun p hp=>N' p (hs p hp),off,h1,h2,hok⟩
theorem TEnd.up {own:Led} {ch:List Str} {tv:γ→List (Str×Value)} {led:γ→Led} {ok:γ→Prop} {fl:Flow} {s'':Shared} (h:TEnd h₀ env.locals own x m₀ ch tv led ok Q fl s'') :
    SEnd h₀ env.locals own x (fun (g:γ×(Str→Option Value))=>lsM m₀ ch (tv g.1) g.2) (fun g=>led g.1) (fun g=>ok g.1) Q fl s'':=by
  cases fl with
  | ret v=>exact h
  | brk=>exact h
  | next=>obtain ⟨h',tk',m',g,e,a,b,c,h1,h2,o⟩:=h;exact ⟨h',tk',m',(g,m'),e,a,b,c,lsM_eq h1 h2,o⟩
  | cont=>obtain ⟨h',tk',m',g,e,a,b,c,h1,h2,o⟩:=h;exact ⟨h',tk',m',(g,m'),e,a,b,c,lsM_eq h1 h2,o⟩
theorem forLT {l:Addr} {its:List Value} {k:Nat} {α:Type} {Rv:Value→α→Prop} {xs:List α} (ch:List Str) (tv:γ→List (Str×Value)) (led:γ→Led) (ok:List α→γ→Prop)
    (hh:A.handled = none) (F:Fr h₀ env.locals hpS m₀) (hR:All2 Rv its xs) (g₀:γ) (N:News h₀ env.locals hpS (led g₀)) (hm:∀ g,(l,listOf its.toArray k)∈led g) (e0:∀ q∈tv g₀,m₀ q.1 = some q.2) (h0:ok [] g₀)
    (turn:Held (∀ pre y post v h tk own g u,xs = pre++y::post→Rv v y→ok pre g→OwnOff own ((led g).map (·.1)) →
      Fr h₀ env.locals h (fun z=>if z = x then some v else lsM m₀ ch (tv g) u z)→News h₀ env.locals h (led g++own) →
      wpAny (model prog w) A (execs body env) (TEnd h₀ env.locals own x m₀ ch tv led (ok (pre++[y])) Q) E ⟨h,GC,DC,tk,OC⟩))
    (done:Held (∀ g u (v:Option Value) h tk,ok xs g→Fr h₀ env.locals h (fun z=>if z = x then v else lsM m₀ ch (tv g) u z)→News h₀ env.locals h (led g)→Q .next ⟨h,GC,DC,tk,OC⟩)) :
    wpAny (model prog w) A (pyIter (.ref l)) (fun it s₂=>LoopAtV prog w A h₀ env x body Q E it s₂) E ⟨hpS,GC,DC,tkS,OC⟩:=by
  refine forLS (γ:=γ×(Str→Option Value)) (fun g=>lsM m₀ ch (tv g.1) g.2) (fun g=>led g.1) (fun l g=>ok l g.1) hh F hR (g₀,m₀) N (fun g=>hm g.1) (lsM_eq (fun _ _ _ _=>rfl) e0) h0 ?_ ?_
  · exact ⟨fun pre y post v h tk own g e r o off F N=>wpAny_mono (turn.get pre y post v h tk own g.1 g.2 e r o off F N) (fun fl s2 q=>q.up) fun _ _ x=>x⟩
  · exact ⟨fun g u h tk o F N=>done.get g.1 g.2 u h tk o F N⟩
theorem forRT {r:Addr} {a₀ b₀:Int} {t₀ u₀ v₀:Tok} (n:Nat) (ch:List Str) (tv:γ→List (Str×Value)) (led:γ→Led) (ok:Nat→γ→Prop) (hh:A.handled = none) (hr:IsRange hpS r a₀ b₀ 1 t₀ u₀ v₀) (hsmall:Builtin.Range.small a₀ b₀ 1 = true) (hsz:Builtin.Range.rangeSize a₀ b₀ 1 = (n:Int))
    (F:Fr h₀ env.locals hpS m₀) (g₀:γ) (N:News h₀ env.locals hpS (led g₀)) (e0:∀ q∈tv g₀,m₀ q.1 = some q.2) (h0:ok 0 g₀)
    (turn:Held (∀ i t h tk own g u,i < n→ok i g→OwnOff own ((led g).map (·.1)) →
      Fr h₀ env.locals h (fun z=>if z = x then some (.int (a₀ + (i:Int)) t) else lsM m₀ ch (tv g) u z)→News h₀ env.locals h (led g++own) →
      wpAny (model prog w) A (execs body env) (TEnd h₀ env.locals own x m₀ ch tv led (ok (i + 1)) Q) E ⟨h,GC,DC,tk,OC⟩))
    (done:Held (∀ g u (v:Option Value) h tk,ok n g→Fr h₀ env.locals h (fun z=>if z = x then v else lsM m₀ ch (tv g) u z)→News h₀ env.locals h (led g)→Q .next ⟨h,GC,DC,tk,OC⟩)) :
    wpAny (model prog w) A (pyIter (.ref r)) (fun it s₂=>LoopAtV prog w A h₀ env x body Q E it s₂) E ⟨hpS,GC,DC,tkS,OC⟩:=by
  refine forRS (γ:=γ×(Str→Option Value)) n (fun g=>lsM m₀ ch (tv g.1) g.2) (fun g=>led g.1) (fun l g=>ok l g.1) hh hr hsmall hsz F (g₀,m₀) N (lsM_eq (fun _ _ _ _=>rfl) e0) h0 ?_ ?_
  · exact ⟨fun i t h tk own g e o off F N=>wpAny_mono (turn.get i t h tk own g.1 g.2 e o off F N) (fun fl s2 q=>q.up) fun _ _ x=>x⟩
  · exact ⟨fun g u h tk o F N=>done.get g.1 g.2 u h tk o F N⟩
end
theorem TEnd.brk {γ:Type} {h₀:Heap} {L:Addr} {own:Led} {x:Str} {m₀:Str→Option Value} {ch:List Str} {tv:γ→List (Str×Value)} {led:γ→Led} {ok:γ→Prop} {s'':Shared} {Q:Flow→Shared→Prop} (h:Q .next s''):TEnd h₀ L own x m₀ ch tv led ok Q .brk s'':=h
theorem news_swap {g h:Heap} {L:Addr} {a b:Addr×Obj} {r:Led} (N:News g L h (a::b::r)):News g L h (b::a::r):=fun p hp=>N p (by
  rcases List.mem_cons.mp hp with e | hp
  · exact e▸.tail _ (.head _)
  · rcases List.mem_cons.mp hp with e | hp
    · exact e▸.head _
    · exact .tail _ (.tail _ hp))
noncomputable abbrev IntI (v:Value) (i:Int):Prop:=∃ t,v = .int i t
theorem ints_all2 {vs:List Value} {l:List Int} (h:IntsAre vs l):All2 IntI vs l:=by
  induction h with
  | nil=>exact .nil
  | cons k t r ih=>exact .cons ⟨t,rfl⟩ ih
theorem ints_push {vs:List Value} {l:List Int} {i:Int} {t:Tok} (h:IntsAre vs l):IntsAre (vs++[.int i t]) (l++[i]):=by
  induction h with
  | nil=>exact .cons i t .nil
  | cons k t r ih=>exact .cons k t ih
theorem mem_ab {p a b:Addr×Obj} {r o:Led} (h:p∈a::b::r):p∈a::b::(r++o):=by
  rcases List.mem_cons.mp h with e | h
  · exact e▸.head _
  · rcases List.mem_cons.mp h with e | h
    · exact e▸.tail _ (.head _)
    · exact .tail _ (.tail _ (List.mem_append_left _ h))
theorem lsM_out {m₀ u:Str→Option Value} {ch:List Str} {tv:List (Str×Value)} {z:Str} (h1:tv.lookup z = none) (h2:ch.contains z = false):lsM m₀ ch tv u z = m₀ z:=by
  unfold lsM
  rw [h1]
  simp only [h2,Bool.false_eq_true,if_false]
theorem ne_of_out {ch:List Str} {z a:Str} (h:ch.contains z = false) (ha:ch.contains a = true):z≠a:=fun e=>by rw [e,ha] at h;cases h
theorem look_out {z a:Str} {v:Value} (h:[(a,v)].lookup z = none):z≠a:=fun e=>by
  rw [e,List.lookup_cons,beq_self_eq_true] at h
  cases h
theorem look_ne {z a:Str} {v:Value} (h:z≠a):[(a,v)].lookup z = none:=by
  rw [List.lookup_cons,beq_false_of_ne h]
  rfl
theorem allLt_ne {d:Addr} {l:Led} (h:AllLt d l):∀ p∈l,p.1≠d:=fun p hp=>Nat.ne_of_lt (kst_ltOf h p hp)
theorem ifexp_abs {A:Around} {E:Value→Shared→Prop} {g h:Heap} {L a:Addr} {m:Str→Option Value} {tk:Nat} {cn:Str} {cs:Scope} {ccd:Value} {cl:List (Str×Addr)} {x:Str} {p1 p2 p3 p4 p5 p6 p7 p8:Pos} {k1 k2:Nat} {c i:Int} {t:Tok} {Q:Value→Shared→Prop} (F:Fr g L h m) (hk:cs.kind = .function) (hs:∀ p tk,sev cs m (.Name x p) tk = some (.int i t,tk)) (hq:∀ t' tk',Q (.int (if 0≤i then i else c - i) t') ⟨h,GC,DC,tk',OC⟩) :
    wpAny (model prog w) A (eval (.IfExp (.Compare (.Name x p1) [.GtE] [.Constant (.int 0) k1 p2] p3) (.Name x p4) (.BinOp (.Constant (.int c) k2 p5) .Sub (.Name x p6) p7) p8) (envX cn cs L a ccd cl)) Q E ⟨h,GC,DC,tk,OC⟩:=by
  refine IfExp_ (sev2_isTrue (x:=.int i t) (y:=.int 0 tk) (t1:=tk) (t':=tk + 1) F hk (hs _ _) rfl (ge_int (wpAny_truthy_bool ?_)) rfl)
  by_cases hi:0≤i
  · rw [if_pos (by simpa using hi)]
    refine sev_ok F hk (hs _ _) ?_
    have:=hq t (tk + 1)
    rwa [if_pos hi] at this
  · rw [if_neg (by simpa using hi)]
    refine wpAny_BinOp (sev_ok (v:=.int c (tk + 1)) (t':=tk + 1 + 1) F hk rfl (sev_ok F hk (hs _ _) (sub_int ?_)))
    have:=hq (tk + 1 + 1) (tk + 1 + 1 + 1)
    rwa [if_neg hi] at this
theorem off2lt {d a b:Addr} {o1 o2:Obj} {l:Led} (h:@LT.lt Nat _ a d∧@LT.lt Nat _ b d∧AllLt d l):∀ p∈(a,o1)::(b,o2)::l,p.1≠d:=fun _ hp=>(List.mem_cons.mp hp).elim (fun e=>e▸Nat.ne_of_lt h.1) fun hp=>(List.mem_cons.mp hp).elim (fun e=>e▸Nat.ne_of_lt h.2.1) fun hp=>Nat.ne_of_lt (kst_ltOf h.2.2 _ hp)
section
variable (B:Below A₀ base outer h₀) (F:Fr h₀ L hpS m) (X:(Mine.hd.heap_1 (World.params w)).In h₀) (N:News h₀ L hpS news) (T:Top p loose mean mg mb h₀) (hk:cs.kind = .function)
include B F X N T hk
theorem coins2_ct {sl:Addr} {us:List Value} {l:List Int} (h1:h₀.IsList sl us.toArray) (hi:IntsAre us l) (h2:l.length≤63) (hd:dp + 8 < recursionLimit) (hu:un + 100 < cLine)
  (ret:∀ (x:Addr) (vs:List Value) (l':List Int) k' h' tk',IntsAre vs l'→vs.length≤60→Fr h₀ L h' m→News h₀ L h' ((x,listOf vs.toArray k')::news)→(∀ q∈news,q.1≠x)→Q (.ref x) ⟨h',GC,DC,tk',OC⟩) :
  wpAny (model prog w) (ktrTop dp un gd cn cs L a ccd cl outer) (call (.ref 1373) [.ref sl]) Q E ⟨hpS,GC,DC,tkS,OC⟩:=by
  k_extra "@ENTER"
  replace h1:=Fr.lst (by assumption) h1
  k_steps
  constructor
  rename IntsAre _ (List.take 50 l)=>hI
  rename (List.take 50 l).length = min 50 l.length=>hC
  rename _ < _∧AllLt _ news=>l1
  rename ∀ p:Addr×Obj,p∈news→@LT.lt Nat _ p.1 _=>l2
  have n1:=Nat.ne_of_gt l1.1
  have n2:=Nat.ne_of_lt l1.1
  have n3:∀ p∈news,p.1≠_:=fun p hp=>Nat.ne_of_lt (l2 p hp)
  clear l1
  k_dflt (refine forLT (γ:=List Value×List Int×Nat) [Str.ofString "grain", Str.ofString "lap"] (fun _=>[]) (fun g=>(_,listOf g.1.toArray g.2.2)::(_,listOf _ 0)::news) (fun pre g=>IntsAre g.1 g.2.1∧g.2.1.length≤12 * pre.length) (by rfl) (by k_asm) (ints_all2 hI) ([],[],0) (news_swap (by k_asm)) (fun g=>.tail _ (.head _)) (fun q h=>nomatch h) ⟨.nil,Nat.le_refl _⟩ ?_ ?_)
  · constructor
    intro pre y post v h tk own g u hx hv hst hoff F1 N1
    obtain ⟨t,rfl⟩:=hv
    obtain ⟨vs,ls,kk⟩:=g
    obtain ⟨hv1,hv2⟩:=hst
    simp only [List.cons_append] at N1
    have hlen:=congrArg List.length hx
    simp only [List.length_append,List.length_cons] at hlen
    have o1:=hoff.ne (.head _)
    have o2:=hoff.ne (.tail _ (.head _))
    k_steps
    constructor
    (k_dflt (refine forRT (γ:=List Value×List Int×Nat×Int×Tok) 12 [] (fun g=>[(Str.ofString "grain", .int g.2.2.2.1 g.2.2.2.2)]) (fun g=>(_,listOf g.1.toArray g.2.2.1)::(_,listOf _ 0)::(news++own)) (fun i g=>IntsAre g.1 g.2.1∧g.2.1.length≤12 * pre.length + i) (by rfl) (by assumption) (by rfl) (by rfl) (by k_asm) (vs,ls,kk,_,_) (by k_asm) (fun q h=>by rw [List.mem_singleton.mp h];rfl) ⟨hv1,hv2⟩ ?_ ?_))
    · constructor
      intro i t h tk own2 g u hi hst2 hoff2 F2 N2
      obtain ⟨vs,ls,kk,gi,gt⟩:=g
      obtain ⟨hw1,hw2⟩:=hst2
      dsimp only at hw1 hw2 N2 F2 hoff2
      simp only [List.cons_append] at N2
      have hlen2:=hw1.length
      have p1:=hoff2.ne (.head _)
      have p2:=hoff2.ne (.tail _ (.head _))
      k_steps
      · k_dflt (refine TEnd.brk ?_)
        (try dsimp only)
        k_steps
        rename News _ _ _ _=>NN
        simp only [List.push_toArray] at NN
        k_dflt (refine TEnd.mk (γ:=List Value×List Int×Nat) (vs++[_],ls++[_],_) (by k_asm) NN (fun p h=>mem_ab h) hoff ?_ (fun q h=>nomatch h) ⟨ints_push hw1,?_⟩)
        · intro z hz hl hc
          have hg:=ne_of_out hc (a:=Str.ofString "grain") (by decide)
          have hp:=ne_of_out hc (a:=Str.ofString "lap") (by decide)
          simp only [if_neg hg,if_neg hp,lsM_out (ch:=[]) (look_ne hg) rfl,if_neg hz]
          exact lsM_out (tv:=[]) rfl hc
        · simp only [List.length_append,List.length_cons,List.length_nil]
          exact c12 hw2 hi
      · rename News _ _ _ _=>NN
        simp only [List.push_toArray] at NN
        k_dflt (refine TEnd.mk (γ:=List Value×List Int×Nat×Int×Tok) (vs++[_],ls++[_],_,_,_) (by k_asm) NN (fun p h=>h) hoff2 ?_ (fun q h=>by rw [List.mem_singleton.mp h];rfl) ⟨ints_push hw1,?_⟩)
        · intro z hz hl hc
          have hg:=look_out hl
          simp only [if_neg hg,if_neg hz,lsM_out (ch:=[]) (look_ne hg) rfl]
        · simp only [List.length_append,List.length_cons,List.length_nil]
          exact Nat.succ_le_succ hw2
    · constructor
      intro g u v h tk hst F2 N2
      obtain ⟨vs,ls,kk,gi,gt⟩:=g
      dsimp only at hst N2 F2
      (try dsimp only)
      k_steps
      k_dflt (refine TEnd.mk (γ:=List Value×List Int×Nat) (vs,ls,_) (by k_asm) (by k_asm) (fun p h=>h) hoff ?_ (fun q h=>nomatch h) ⟨hst.1,?_⟩)
      · intro z hz hl hc
        have hg:=ne_of_out hc (a:=Str.ofString "grain") (by decide)
        have hp:=ne_of_out hc (a:=Str.ofString "lap") (by decide)
        simp only [if_neg hp,lsM_out (ch:=[]) (look_ne hg) rfl,if_neg hg,if_neg hz]
        exact lsM_out (tv:=[]) rfl hc
      · simp only [List.length_append,List.length_cons,List.length_nil]
        exact hst.2
  · constructor
    intro g u v h tk hst F1 N1
    obtain ⟨vs,ls,kk⟩:=g
    dsimp only at hst N1 F1
    obtain ⟨hs1,hs2⟩:=hst
    have hln:=hs1.length
    k_steps
    rename _ < _∧_ < _∧AllLt _ news=>l9
    rename (List.take 60 ls).length = _=>h60
    rename IntsAre _ (List.reverse _)=>hr
    exact ret _ _ _ 0 _ _ hr (by rw [hr.length,List.length_reverse];exact List.length_take_le _ _) (by k_asm) (fun p hp=>(by k_asm:News h₀ _ _ _) p (by rcases List.mem_cons.mp hp with e | hp;exact e▸.head _;exact .tail _ (.tail _ (.tail _ hp)))) (fun q hq=>Nat.ne_of_lt (kst_ltOf l9.2.2 q hq))
end
end
example:True:=by
  k_with "cy compareOp Eq ref ref" => ((k_here;(with_reducible refine (?_:wpAny _ _ (compareOp CmpOp.Eq (Value.ref _) (Value.ref _)) _ _ _));k_dflt (refine' eq_intsK ?k1__ ?k2__ ?k3__ ?k4__ ?k5__ ?_;(case k1__=>exact News.isList (by k_asm) (by k_mem));(case k2__=>first | assumption | exact .nil);(case k3__=>exact News.isList (by k_asm) (by k_mem));(case k4__=>first | assumption | exact .nil);(case k5__=>ktr_units);k_whole)))
  trivial
section
local macro_rules (kind := PySem.W.tacticK_extra_) | s => mq "0 ba cy m l k j q h g f e d c bf o a" s
theorem fm_lo {a b:Int} (h:0 < b):0≤Int.fmod a b:=by
  rw [Int.fmod_eq_emod_of_nonneg _ (by (first | lia | omega))]
  exact Int.emod_nonneg _ (by (first | lia | omega))
theorem fm_hi {a b:Int} (h:0 < b):Int.fmod a b < b:=by
  rw [Int.fmod_eq_emod_of_nonneg _ (by (first | lia | omega))]
  exact Int.emod_lt_of_pos _ h
section
variable (B:Below A₀ base outer h₀) (F:Fr h₀ L hpS m) (X:(Mine.hd.heap_1 (World.params w)).In h₀) (N:News h₀ L hpS news) (T:Top p loose mean mg mb h₀) (hk:cs.kind = .function)
include B F X N T hk
theorem coin0_ct {c:Addr} {k:Nat} {mn:Int} {tm:Tok} (hc:(c,listOf #[] k)∈news) (hm:0 < mn) (hd:dp + 2 < recursionLimit) (hu:un + 100 < cLine)
  (ret:∀ i t h' tk',0≤i→i < mn→Fr h₀ L h' m→News h₀ L h' news→Q (.int i t) ⟨h',GC,DC,tk',OC⟩) :
  wpAny (model prog w) (ktrTop dp un gd cn cs L a ccd cl outer) (call (.ref 1380) [.ref c,.int mn tm]) Q E ⟨hpS,GC,DC,tkS,OC⟩:=by
  k_extra "@ENTER"
  k_steps
  all_goals exact ret 0 _ _ _ (Int.le_refl 0) hm (by k_asm) (news_sub (by k_asm) (by intro p h;k_mem))
theorem coin1_ct {c:Addr} {us:List Value} {l:List Int} {k:Nat} {mn:Int} {tm:Tok} {rest:Led} (hr:news = (c,listOf us.toArray k)::rest) (ap:∀ p∈rest,p.1≠c) (hi:IntsAre us l) (hl:us.length≤60) (hp:0 < us.length) (hm:0 < mn) (hd:dp + 2 < recursionLimit) (hu:un + 100 < cLine)
  (ret:∀ i t h' tk',0≤i→i < mn→Fr h₀ L h' m→News h₀ L h' ((c,listOf us.dropLast.toArray (k + 1))::rest)→IntsAre us.dropLast l.dropLast→Q (.int i t) ⟨h',GC,DC,tk',OC⟩) :
  wpAny (model prog w) (ktrTop dp un gd cn cs L a ccd cl outer) (call (.ref 1380) [.ref c,.int mn tm]) Q E ⟨hpS,GC,DC,tkS,OC⟩:=by
  subst hr
  k_extra "@ENTER"
  k_steps
  · exfalso
    have e:l = []:=of_decide_eq_true (by assumption)
    have h9:us.length = 0:=by rw [hi.length,e];rfl
    (first | lia | omega)
  · exact ret _ _ _ _ (fm_lo hm) (fm_hi hm) (by k_asm) (news_sub (by k_asm) (by intro p h;k_mem)) (by assumption)
theorem coin_ct {c:Addr} {us:List Value} {l:List Int} {k:Nat} {mn:Int} {tm:Tok} {rest:Led} (hr:news = (c,listOf us.toArray k)::rest) (ap:∀ p∈rest,p.1≠c) (hi:IntsAre us l) (hl:us.length≤60) (hm:0 < mn) (hd:dp + 2 < recursionLimit) (hu:un + 100 < cLine)
  (ret:∀ i t h' tk' us' l' k',0≤i→i < mn→IntsAre us' l'→us'.length≤60→Fr h₀ L h' m→News h₀ L h' ((c,listOf us'.toArray k')::rest)→Q (.int i t) ⟨h',GC,DC,tk',OC⟩) :
  wpAny (model prog w) (ktrTop dp un gd cn cs L a ccd cl outer) (call (.ref 1380) [.ref c,.int mn tm]) Q E ⟨hpS,GC,DC,tkS,OC⟩:=by
  cases us with
  | nil=>exact coin0_ct B F X N T hk (hr▸List.Mem.head _) hm hd hu fun i t h' tk' a b F' N'=>ret i t h' tk' [] l k a b hi hl F' (hr▸N')
  | cons v r=>exact coin1_ct B F X N T hk hr ap hi hl (Nat.succ_pos _) hm hd hu fun i t h' tk' a b F' N' i'=>ret i t h' tk' _ _ _ a b i' (by rw [List.length_dropLast];(first | lia | omega)) F' N'
end
end
section
local macro_rules (kind := PySem.W.tacticK_extra_) | s => mq "0 be m l k t j i h g f e d c b a" s
theorem comp_filt1 {A:Around} {h₀:Heap} {L:Addr} {m:Str→Option Value} {env:Env} {ct elt:Expr} {x:Str} {scope:Scope} {cl:List (Str×Addr)} {hpS:Heap} {tkS:Nat} {r:Value} {ax:Addr} {k:Nat} {news news₁:Led} {Fin:Shared→List Value→Led→Prop}
    (hh:A.handled = none) (F:Fr h₀ L hpS m) (N:News h₀ L hpS news₁) (hs:∀ p∈news,p∈news₁) (hm:(ax,listOf #[r] k)∈news)
    (turn:Held (∀ I oI C oC D ys m₂ (s':Shared) (E':Value→Shared→Prop),LCg.NsObj oC m₂→m₂ x = some r→Fr h₀ L s'.heap m→News h₀ L s'.heap ((I,oI)::(C,oC)::(D,LCg.lst ys)::news)→(∃ h tk,s' = ⟨h,GC,DC,tk,OC⟩) →
      wpAny (model prog w) A (isTrue ct (compEnvC scope cl C env) (eval ct (compEnvC scope cl C env))) (fun ok s''=>ok = true∧Stay h₀ L m ((I,oI)::(C,oC)::(D,LCg.lst ys)::news) s'') E' s'))
    (el:Held (∀ I oI C oC D ys m₂ (s':Shared) (E':Value→Shared→Prop),LCg.NsObj oC m₂→m₂ x = some r→Fr h₀ L s'.heap m→News h₀ L s'.heap ((I,oI)::(C,oC)::(D,LCg.lst ys)::news)→(∃ h tk,s' = ⟨h,GC,DC,tk,OC⟩) →
      wpAny (model prog w) A (eval elt (compEnvC scope cl C env)) (fun u s''=>u = r∧Stay h₀ L m ((I,oI)::(C,oC)::(D,LCg.lst ys)::news) s'') E' s'))
    (fin:Held (∀ g,Fin ⟨g,GC,DC,tkS,OC⟩ [r] news)) :
    LCt.CompSrcT prog w A h₀ L m env ct elt x scope cl Fin (.ref ax) ⟨hpS,GC,DC,tkS,OC⟩:=by
  refine comp_filt (α:=Unit) (its:=[r]) (Rv:=fun v _=>v = r) (xs:=[()]) (fun _=>true) hh F N hs hm (.cons rfl .nil) (by decide) ⟨?_⟩ ⟨?_⟩ ⟨?_⟩
  · intro v y I oI C oC D ys m₂ s' E' hv
    cases hv
    exact turn.get I oI C oC D ys m₂ s' E'
  · intro v y I oI C oC D ys m₂ s' E' hv _
    cases hv
    exact el.get I oI C oC D ys m₂ s' E'
  · intro g ys hy
    cases hy with
    | cons a b =>
      cases b
      cases a
      exact fin.get g
theorem comp_src1 {A:Around} {h₀:Heap} {L:Addr} {m:Str→Option Value} {env:Env} {elt:Expr} {x:Str} {scope:Scope} {cl:List (Str×Addr)} {hpS:Heap} {tkS:Nat} {r:Value} {ax:Addr} {k:Nat} {news news₁:Led} {Fin:Shared→List Value→Led→Prop} {Ro:Value→Prop}
    (hh:A.handled = none) (F:Fr h₀ L hpS m) (N:News h₀ L hpS news₁) (hs:∀ p∈news,p∈news₁) (hm:(ax,listOf #[r] k)∈news)
    (turn:Held (∀ I oI C oC D ys m₂ (s':Shared) (E':Value→Shared→Prop),LCg.NsObj oC m₂→m₂ x = some r→Fr h₀ L s'.heap m→News h₀ L s'.heap ((I,oI)::(C,oC)::(D,LCg.lst ys)::news)→(∃ h tk,s' = ⟨h,GC,DC,tk,OC⟩) →
      wpAny (model prog w) A (eval elt (compEnvC scope cl C env)) (fun u s''=>Ro u∧Stay h₀ L m ((I,oI)::(C,oC)::(D,LCg.lst ys)::news) s'') E' s'))
    (fin:Held (∀ g u,Ro u→Fin ⟨g,GC,DC,tkS,OC⟩ [u] news)) :
    LCg.CompSrc prog w A h₀ L m env elt x scope cl Fin (.ref ax) ⟨hpS,GC,DC,tkS,OC⟩:=by
  refine LCg.CompSrc.ledger hh F (fun p hp=>N p (hs p hp)) hm (szL (by decide:1≤6)) ?_
  intro g
  refine comp_ind (R:=fun i ys n1=>n1 = news∧ys.length = i∧∀ u∈ys,Ro u) ?_ ?_ _ _ _ _ (by simp) ⟨rfl,rfl,by simp⟩
  · rintro i ys n1 v I oI C oC D m₂ h tk E' hv ⟨rfl,e1,hy⟩ hC hx F1 N1 off ne
    have hv':v = r:=by
      cases i with
      | zero=>simpa using hv.symm
      | succ i=>simp at hv
    subst hv'
    refine wpAny_mono (turn.get I oI C oC D ys m₂ ⟨h,GC,DC,tk,OC⟩ E' hC hx F1 N1 ⟨_,_,rfl⟩) (fun u s'' q=>?_) fun _ _ x=>x
    obtain ⟨ru,h',tk',rfl,F2,N2⟩:=q
    refine ⟨h',tk',n1,rfl,F2,N2,off,Or.inr ⟨_,hm,rfl,_,rfl⟩,rfl,by simp [e1],?_⟩
    intro q hq
    rcases List.mem_append.mp hq with hq | hq
    · exact hy q hq
    · simp at hq;subst hq;exact ru
  · rintro ys n1 ⟨rfl,e1,hy⟩
    refine Exists.elim (List.length_eq_one_iff.mp e1) fun u eu=>?_
    rw [eu];exact fin.get g u (hy u (eu▸.head _))
theorem join_one {A:Around} {h₀:Heap} {L l:Addr} {hpS:Heap} {tkS:Nat} {news:Led} {its:Array Value} {k:Nat} {S:Str} {t:Tok} {Q E:Value→Shared→Prop} (N:News h₀ L hpS news) (hm:(l,listOf its k)∈news) (hi:∃ tS,its.toList = [.str S tS]) (hS:S.length≤10)
    (h:∀ t' k,Q (.str S t') ⟨hpS,GC,DC,k,OC⟩):wpAny (model prog w) A (call (.builtin "str.join") [.str (Str.ofString "") t,.ref l]) Q E ⟨hpS,GC,DC,tkS,OC⟩:=by
  refine join_madeW (α:=Str) (g:=id) (l:=[S]) 10 (News.isList N hm) ?_ ?_ (by simp) (by decide) ?_
  · obtain ⟨tS,hi⟩:=hi;rw [hi];exact .cons (.str _ _) .nil
  · intro a ha;simp at ha;subst ha;exact hS
  · intro t' k
    have e:Txt.join (Str.ofString "") ([S].map id) = S:=by
      show Txt.join (Str.ofString "") [S] = S
      first | rfl | simp [Txt.join]
    rw [e];exact h t' k
theorem news_tup3 {h₀:Heap} {L y:Addr} {h':Heap} {led:Led} {a a' c c':Int} {b b':Str} {t1 t2 t3:Tok} {k:Nat} (N:News h₀ L h' ((y,({ cls:=.type "tuple", data:=.seq #[.int a t1,.str b t2,.int c t3] k }:Obj))::led)) (ha:a = a') (hb:b = b') (hc:c = c') :
    News h₀ L h' ((y,({ cls:=.type "tuple", data:=.seq #[.int a' t1,.str b' t2,.int c' t3] k }:Obj))::led):=by
  subst ha hb hc;exact N
section
variable (B:Below A₀ base outer h₀) (F:Fr h₀ L hpS m) (X:(Mine.hd.heap_1 (World.params w)).In h₀) (N:News h₀ L hpS news) (T:Top p loose mean mg mb h₀) (hk:cs.kind = .function)
include B F X N T hk
theorem wtext_ct {z:Int} {ti:Tok} (h0:0≤z) (h1:z < 10 ^ 10) (hd:dp + 5 < recursionLimit) (hu:un + 60 < cLine)
  (ret:∀ t h' tk',Fr h₀ L h' m→News h₀ L h' news→Q (.str (Str.ofString (toString z)) t) ⟨h',GC,DC,tk',OC⟩) :
  wpAny (model prog w) (ktrTop dp un gd cn cs L a ccd cl outer) (call (.ref 649) [.int z ti]) Q E ⟨hpS,GC,DC,tkS,OC⟩:=by
  have hz:(if z < 0 then -z else z) = z:=if_neg (by (first | lia | omega))
  have hp:(10:Int) ^ Int.toNat 18 = 1000000000000000000:=by decide
  k_extra "@ENTER"
  k_steps
  all_goals simp only [hz] at *
  all_goals refine WhlIf.no (by rw [hp];simp only [decide_eq_false_iff_not];(first | lia | omega)) ?_
  all_goals k_steps
  all_goals (refine' join_one (S:=Str.ofString (toString z)) ?N ?m ?i ?z ?_;(case N=>k_asm);(case m=>k_mem);(case i=>exact ⟨_,rfl⟩);(case z=>exact KT.len_num h0 h1))
  all_goals intro t' k'
  all_goals k_steps
  all_goals exact ret _ _ _ (by k_asm) (news_sub (by k_asm) (by intro p h;k_mem))
theorem near1_ct {z:Int} {ti tj:Tok} (hd:dp + 5 < recursionLimit) (hu:un + 60 < cLine)
  (ret:∀ t h' tk',Fr h₀ L h' m→News h₀ L h' news→Q (.int z t) ⟨h',GC,DC,tk',OC⟩) :
  wpAny (model prog w) (ktrTop dp un gd cn cs L a ccd cl outer) (call (.ref 628) [.int z ti,.int 1 tj]) Q E ⟨hpS,GC,DC,tkS,OC⟩:=by
  have hz:z.fdiv 1 = z:=Int.fdiv_one z
  k_extra "@ENTER"
  k_steps
  all_goals first
    | (exfalso;simp only [hz,Int.mul_one,decide_eq_true_eq,Int.sub_self,Int.mul_zero] at *;(first | lia | omega))
    | (rw [hz];exact ret _ _ _ (by k_asm) (news_sub (by k_asm) (by intro p h;k_mem)))
end
end
example:True:=by
  k_with "cz subscriptTail Name Constant ref int" => ((k_here;(with_reducible refine (?_:wpAny _ _ (subscriptTail _ _ (Value.ref _) (Value.int _ _)) _ _ _));k_dflt (refine' item_tupleT ?t__ ?a__ ?b__ ?c__ ?d__ ?_;(case t__=>exact News.isTup (by k_asm) (by k_mem));(case a__=>decide);(case b__=>decide);(case c__=>eq_refl);(case d__=>eq_refl);k_whole)))
  trivial
section
local macro_rules (kind := PySem.W.tacticK_extra_) | s => mq "0 be cz m l k t j q h g f e d c p o a" s
noncomputable def ExpI (n e:Int):Prop:=(e = 0∧n < 10)∨(e = 1∧10≤n∧n < 100)∨(e = 2∧100≤n)
theorem whl_split {p:Prop} [Decidable p] {T F:Prop} (h1:p→T) (h2:¬ p→F):WhlIf (decide p) T F:=by
  by_cases h:p
  · exact WhlIf.yes (decide_eq_true h) (h1 h)
  · exact WhlIf.no (decide_eq_false h) (h2 h)
noncomputable def ScI (n e v:Int):Prop:=(e = 0∧v = n * 1000000)∨(e = 1∧v = n * 100000)∨(e = 2∧v = n * 10000)
section
variable (B:Below A₀ base outer h₀) (F:Fr h₀ L hpS m) (X:(Mine.hd.heap_1 (World.params w)).In h₀) (N:News h₀ L hpS news) (T:Top p loose mean mg mb h₀) (hk:cs.kind = .function)
include B F X N T hk
theorem expo_ct {x:Addr} {n:Int} {tn td:Tok} {k:Nat} (hx:(x,({ cls:=.type "tuple", data:=.seq #[.int n tn,.int 1 td] k }:Obj))∈news) (h1:1≤n) (h2:n≤100) (hd:dp + 2 < recursionLimit) (hu:un + 40 < cLine)
  (ret:∀ e t h' tk',ExpI n e→Fr h₀ L h' m→News h₀ L h' news→Q (.int e t) ⟨h',GC,DC,tk',OC⟩) :
  wpAny (model prog w) (ktrTop dp un gd cn cs L a ccd cl outer) (call (.ref 635) [.ref x]) Q E ⟨hpS,GC,DC,tkS,OC⟩:=by
  have hz:(if n < 0 then -n else n) = n:=if_neg (by (first | lia | omega))
  k_extra "@ENTER"
  k_with "WhlIf" => first
    | refine WhlIf.no (by simp only [hz,decide_eq_false_iff_not];(first | lia | omega)) ?_
    | refine WhlIf.yes (by simp only [hz,decide_eq_true_eq];(first | lia | omega)) ?_
    | (simp only [hz];refine whl_split (fun h=>?_) (fun h=>?_))
  k_steps
  all_goals exact ret _ _ _ _ (by unfold ExpI;first | exact .inl ⟨rfl,Int.not_le.mp (by assumption)⟩ | exact .inr (.inl ⟨rfl,(by assumption),Int.not_le.mp (by assumption)⟩) | exact .inr (.inr ⟨rfl,by assumption⟩) | (first | lia | omega)) (by k_asm) (news_sub (by k_asm) (by intro p h;k_mem))
end
end
example:True:=by
  k_with "c0 call ref" => ((k_here;(with_reducible refine (?_:wpAny _ _ (PySem.call (Value.ref 649) [Value.int _ _] _) _ _ _));k_dflt (apply wtext_ct;k_extra "@HK1"; (decide);(decide);k_extra "@HK2"; (intro t9_ h9_ tk9_ F9_ N9_);k_extra "@HK3")))
  k_with "c0 call ref" => ((k_here;(with_reducible refine (?_:wpAny _ _ (PySem.call (Value.ref 628) [Value.int _ _,Value.int _ _] _) _ _ _));k_dflt (apply near1_ct;k_extra "@HK1"; k_extra "@HK2"; (intro t9_ h9_ tk9_ F9_ N9_);k_extra "@HK3")))
  trivial
section
local macro_rules (kind := PySem.W.tacticK_extra_) | s => mq "0 c0 cz m l k t j q h g f e d c p o a" s

section
variable (B:Below A₀ base outer h₀) (F:Fr h₀ L hpS m) (X:(Mine.hd.heap_1 (World.params w)).In h₀) (N:News h₀ L hpS news) (T:Top p loose mean mg mb h₀) (hk:cs.kind = .function)
include B F X N T hk
theorem scaled_ct {x:Addr} {n e:Int} {tn td te ti:Tok} {k:Nat} (hx:(x,({ cls:=.type "tuple", data:=.seq #[.int n tn,.int 1 td] k }:Obj))∈news) (h1:1≤n) (h2:n≤100) (he:ExpI n e) (hd:dp + 8 < recursionLimit) (hu:un + 80 < cLine)
  (ret:∀ v t h' tk',ScI n e v→0≤v→v < 10000000→Fr h₀ L h' m→News h₀ L h' news→Q (.int v t) ⟨h',GC,DC,tk',OC⟩) :
  wpAny (model prog w) (ktrTop dp un gd cn cs L a ccd cl outer) (call (.ref 663) [.ref x,.int e te,.int 7 ti]) Q E ⟨hpS,GC,DC,tkS,OC⟩:=by
  have hz:(if n < 0 then -n else n) = n:=if_neg (by (first | lia | omega))
  rcases he with ⟨he,_⟩ | ⟨he,_⟩ | ⟨he,_⟩
  all_goals subst he
  all_goals k_extra "@ENTER"
  all_goals k_steps
  all_goals rw [hz]
  · rw [show (10:Int) ^ (7 - 1 - 0:Int).toNat = 1000000 from by decide]
    exact ret _ _ _ _ (.inl ⟨rfl,rfl⟩) (by (first | lia | omega)) (by (first | lia | omega)) (by k_asm) (news_sub (by k_asm) (by intro p h;k_mem))
  · rw [show (10:Int) ^ (7 - 1 - 1:Int).toNat = 100000 from by decide]
    exact ret _ _ _ _ (.inr (.inl ⟨rfl,rfl⟩)) (by (first | lia | omega)) (by (first | lia | omega)) (by k_asm) (news_sub (by k_asm) (by intro p h;k_mem))
  · rw [show (10:Int) ^ (7 - 1 - 2:Int).toNat = 10000 from by decide]
    exact ret _ _ _ _ (.inr (.inr ⟨rfl,rfl⟩)) (by (first | lia | omega)) (by (first | lia | omega)) (by k_asm) (news_sub (by k_asm) (by intro p h;k_mem))
end
end
example:True:=by
  k_with "c1 call ref" => ((k_here;(with_reducible refine (?_:wpAny _ _ (PySem.call (Value.ref 649) [Value.int _ _] _) _ _ _));k_dflt (apply wtext_ct;k_extra "@HK1"; ((first | lia | omega));((first | lia | omega));k_extra "@HK2"; (intro t9_ h9_ tk9_ F9_ N9_);k_extra "@HK3")))
  k_with "c1 call ref" => ((k_here;(with_reducible refine (?_:wpAny _ _ (PySem.call (Value.ref 635) [Value.ref _] _) _ _ _));k_dflt (apply expo_ct;k_extra "@HK1"; (k_mem);((first | lia | omega));((first | lia | omega));k_extra "@HK2"; (intro e9_ t9_ h9_ tk9_ i9_ F9_ N9_);k_extra "@HK3")))
  k_with "c1 call ref" => ((k_here;(with_reducible refine (?_:wpAny _ _ (PySem.call (Value.ref 663) [Value.ref _,Value.int _ _,Value.int _ _] _) _ _ _));k_dflt (apply scaled_ct;k_extra "@HK1"; (k_mem);((first | lia | omega));((first | lia | omega));(assumption);k_extra "@HK2"; (intro v9_ t9_ h9_ tk9_ i9_ j9_ k9_ F9_ N9_);k_extra "@HK3")))
  trivial
section
local macro_rules (kind := PySem.W.tacticK_extra_) | s => mq "0 c1 cz m l k t j q h g f e d c p o a" s

section
variable (B:Below A₀ base outer h₀) (F:Fr h₀ L hpS m) (X:(Mine.hd.heap_1 (World.params w)).In h₀) (N:News h₀ L hpS news) (T:Top p loose mean mg mb h₀) (hk:cs.kind = .function)
include B F X N T hk
theorem sig_ct {x:Addr} {n:Int} {tn td ti:Tok} {k:Nat} (hx:(x,({ cls:=.type "tuple", data:=.seq #[.int n tn,.int 1 td] k }:Obj))∈news) (h1:1≤n) (h2:n≤100) (hd:dp + 10 < recursionLimit) (hu:un + 100 < cLine)
  (ret:∀ y v e t1 t2 t3 c h' tk',ExpI n e→ScI n e v→Fr h₀ L h' m→News h₀ L h' ((y,({ cls:=.type "tuple", data:=.seq #[.int 1 t1,.str (Str.ofString (toString v)) t2,.int e t3] c }:Obj))::news)→(∀ p∈news,p.1 < y)→Q (.ref y) ⟨h',GC,DC,tk',OC⟩) :
  wpAny (model prog w) (ktrTop dp un gd cn cs L a ccd cl outer) (call (.ref 670) [.ref x,.int 7 ti]) Q E ⟨hpS,GC,DC,tkS,OC⟩:=by
  have p7:(10:Int) ^ Int.toNat 7 = 10000000:=by decide
  k_extra "@ENTER"
  k_with "ite" => first
    | refine PySem.W.ite_neg (fun h=>by have h:=of_decide_eq_true h;simp only [p7] at h;(first | lia | omega)) ?_
    | refine PySem.W.ite_pos (by first | (refine decide_eq_true ?_;(first | lia | omega))) ?_
  k_steps
  all_goals first
    | (exfalso;(first | lia | omega))
    | (refine' ret _ _ _ _ _ _ _ _ _ ?f4 ?f5 ?f1 ?f2 ?f3
       case f2=>k_asm
       case f1=>k_asm
       case f3=>k_asm
       case f4=>assumption
       case f5=>assumption)
theorem sig0_ct {x:Addr} {tn td ti:Tok} {k:Nat} (hx:(x,({ cls:=.type "tuple", data:=.seq #[.int 0 tn,.int 1 td] k }:Obj))∈news) (hd:dp + 10 < recursionLimit) (hu:un + 100 < cLine)
  (ret:∀ y t1 t2 t3 c h' tk',Fr h₀ L h' m→News h₀ L h' ((y,({ cls:=.type "tuple", data:=.seq #[.int 0 t1,.str (Str.ofString "0000000") t2,.int 0 t3] c }:Obj))::news)→(∀ p∈news,p.1 < y)→Q (.ref y) ⟨h',GC,DC,tk',OC⟩) :
  wpAny (model prog w) (ktrTop dp un gd cn cs L a ccd cl outer) (call (.ref 670) [.ref x,.int 7 ti]) Q E ⟨hpS,GC,DC,tkS,OC⟩:=by
  k_extra "@ENTER"
  k_steps
  all_goals exact ret _ _ _ _ _ _ _ (by k_asm) (news_tup3 (by k_asm) (by decide) (by decide +kernel) (by decide)) (by k_asm)
end
end
example:True:=by
  k_with "c2 call builtin:len" => ((k_here;(with_reducible refine (?_:wpAny _ _ (call (Value.builtin "len") [Value.str (Txt.slice _ _ _) _]) _ _ _));k_dflt (refine P.len_str (by decide +kernel) ?_)))
  trivial
section
local macro_rules (kind := PySem.W.tacticK_extra_) | s => mq "0 c2 cz m l k t j i h g f e d c b a" s
noncomputable def wtl (S:Str):Nat→Nat
  | 0=>0
  | k + 1=>if 1 < k + 1∧(Txt.item S (k:Int) == Str.ofString "0") = true then wtl S k else k + 1
theorem up1 {e:Int} (h:1 < e):∃ k:Nat,e = k + 1:=(Int.eq_ofNat_of_zero_le (Int.sub_nonneg_of_le (Int.le_of_lt h))).imp fun _ hk=>by rw [← hk,Int.sub_add_cancel]
theorem wtl_step {S:Str} {e:Int} {n:Nat} (h:1 < e) (hi:(Txt.item S (e - 1) == Str.ofString "0") = true) (hw:wtl S e.toNat = n):wtl S (e - 1).toNat = n:=by
  obtain ⟨k,rfl⟩:=up1 h
  rw [Int.add_sub_cancel] at hi ⊢
  have e1:((k:Int) + 1).toNat = k + 1:=rfl
  have h1:1 < k + 1:=Int.ofNat_lt.mp h
  rw [e1,wtl,if_pos ⟨h1,hi⟩] at hw
  exact hw
theorem wtl_one {S:Str} {e:Int} {n:Nat} (h1:1≤e) (h:¬ 1 < e) (hw:wtl S e.toNat = n):e = n:=by
  have e0:e = 1:=Int.le_antisymm (Int.not_lt.mp h) h1
  subst e0
  rw [show (1:Int).toNat = 0 + 1 from rfl,wtl,if_neg (fun q=>absurd q.1 (by decide))] at hw
  rw [← hw];rfl
theorem wtl_stop {S:Str} {e:Int} {n:Nat} (h:1 < e) (hi:(Txt.item S (e - 1) == Str.ofString "0") = false) (hw:wtl S e.toNat = n):e = n:=by
  obtain ⟨k,rfl⟩:=up1 h
  rw [Int.add_sub_cancel] at hi
  have e1:((k:Int) + 1).toNat = k + 1:=rfl
  rw [e1,wtl,if_neg (fun q=>by rw [hi] at q;exact absurd q.2 (by decide))] at hw
  rw [← hw];rfl
noncomputable def wcut (S:Str):Str:=Txt.slice S none (some ((wtl S S.length:Nat):Int))
noncomputable def SigI (n:Int) (S:Str) (e:Int):Prop:=(n = 0∧S = Str.ofString "0000000" ∧ e = 0)∨(ExpI n e∧∃ v,ScI n e v∧S = Str.ofString (toString v))
noncomputable def SigOk (n:Int):Prop:=∀ S e,SigI n S e→1≤S.length∧S.length≤16∧1≤(wcut S).length∧((wcut S).length:Int)≤e + 1∧0≤e∧e≤2
theorem sigOk_0:SigOk 0:=by
  rintro S e (⟨_,rfl,rfl⟩ | ⟨h,v,hv,rfl⟩)
  · decide +kernel
  · rcases h with ⟨rfl,_⟩ | ⟨rfl,h,_⟩ | ⟨rfl,h⟩
    · rcases hv with ⟨_,rfl⟩ | ⟨h,_⟩ | ⟨h,_⟩
      · decide +kernel
      · exact absurd h (by decide)
      · exact absurd h (by decide)
    · exact absurd h (by decide)
    · exact absurd h (by decide)
theorem exp2 {n e:Int} (h:ExpI n e) (h1:10≤n) (h2:n < 100):e = 1:=h.elim (fun q=>absurd q.2 (Int.not_lt.mpr h1)) fun h=>h.elim (·.1) fun q=>absurd q.2 (Int.not_le.mpr h2)
theorem sc1 {n v:Int} (h:ScI n 1 v):v = n * 100000:=h.elim (fun q=>absurd q.1 (by decide)) fun h=>h.elim (·.2) fun q=>absurd q.1 (by decide)
theorem sigOk_1 {n:Int} (h:n = 25∨n = 50∨n = 75):SigOk n:=by
  have b:10≤n∧n < 100:=by rcases h with rfl | rfl | rfl<;>decide
  rintro S e (⟨h0,_,_⟩ | ⟨h1,v,hv,rfl⟩)
  · rw [h0] at b;exact absurd b.1 (by decide)
  · have e1:=exp2 h1 b.1 b.2
    subst e1
    have ev:=sc1 hv
    subst ev
    rcases h with rfl | rfl | rfl<;>decide +kernel
theorem sigOk_2:SigOk 100:=by
  rintro S e (⟨h0,_,_⟩ | ⟨h1,v,hv,rfl⟩)
  · exact absurd h0 (by decide)
  · have e1:e = 2:=h1.elim (fun q=>absurd q.2 (by decide)) fun h=>h.elim (fun q=>absurd q.2.2 (by decide)) (·.1)
    subst e1
    have ev:v = 100 * 10000:=hv.elim (fun q=>absurd q.1 (by decide)) fun h=>h.elim (fun q=>absurd q.1 (by decide)) (·.2)
    subst ev
    decide +kernel
section
variable (B:Below A₀ base outer h₀) (F:Fr h₀ L hpS m) (X:(Mine.hd.heap_1 (World.params w)).In h₀) (N:News h₀ L hpS news) (T:Top p loose mean mg mb h₀) (hk:cs.kind = .function)
include B F X N T hk
theorem wotail_ct {S:Str} {ti:Tok} (h1:1≤S.length) (h2:S.length≤16) (hd:dp + 2 < recursionLimit) (hu:un + 60 < cLine)
  (ret:∀ t h' tk',Fr h₀ L h' m→News h₀ L h' news→Q (.str (wcut S) t) ⟨h',GC,DC,tk',OC⟩) :
  wpAny (model prog w) (ktrTop dp un gd cn cs L a ccd cl outer) (call (.ref 677) [.str S ti]) Q E ⟨hpS,GC,DC,tkS,OC⟩:=by
  k_extra "@ENTER"
  k_with "state" => exact ⟨by (first | lia | omega),by (first | lia | omega),wtl_step (by assumption) (by assumption) (by assumption)⟩
  k_with "exec While BoolOp cons nil" => k_while (fun _ e'=>1≤e'∧e'≤(S.length:Int)∧wtl S e'.toNat = wtl S S.length) (fun _ e'=>e'.toNat) "end"
  k_steps
  · have e:=wtl_stop (by assumption) (by assumption) (by assumption:wtl S _ = wtl S S.length)
    subst e
    exact ret _ _ _ (by k_asm) (by k_asm)
  · have e:=wtl_one (by assumption) (by assumption) (by assumption:wtl S _ = wtl S S.length)
    subst e
    exact ret _ _ _ (by k_asm) (by k_asm)
theorem sigU_ct {x:Addr} {n:Int} {tn td ti:Tok} {k:Nat} (hx:(x,({ cls:=.type "tuple", data:=.seq #[.int n tn,.int 1 td] k }:Obj))∈news) (h1:0≤n) (h2:n≤100) (hd:dp + 10 < recursionLimit) (hu:un + 100 < cLine)
  (ret:∀ y v e S t1 t2 t3 c h' tk',SigI n S e→Fr h₀ L h' m→News h₀ L h' ((y,({ cls:=.type "tuple", data:=.seq #[.int v t1,.str S t2,.int e t3] c }:Obj))::news)→(∀ p∈news,p.1 < y)→Q (.ref y) ⟨h',GC,DC,tk',OC⟩) :
  wpAny (model prog w) (ktrTop dp un gd cn cs L a ccd cl outer) (call (.ref 670) [.ref x,.int 7 ti]) Q E ⟨hpS,GC,DC,tkS,OC⟩:=by
  by_cases h:n = 0
  · subst h
    exact sig0_ct B F X N T hk hx hd hu fun y t1 t2 t3 c h' tk' F' N' l=>ret _ _ _ _ _ _ _ _ _ _ (.inl ⟨rfl,rfl,rfl⟩) F' N' l
  · exact sig_ct B F X N T hk hx (by (first | lia | omega)) h2 hd hu fun y v e t1 t2 t3 c h' tk' i j F' N' l=>ret _ _ _ _ _ _ _ _ _ _ (.inr ⟨i,v,j,rfl⟩) F' N' l
end
end
example:True:=by
  k_with "c3 call ref" => ((k_here;(with_reducible refine (?_:wpAny _ _ (PySem.call (Value.ref 670) [Value.ref _,Value.int _ _] _) _ _ _));k_dflt (apply sigU_ct;k_extra "@HK1"; (k_mem);((first | lia | omega));((first | lia | omega));k_extra "@HK2"; (intro y9_ v9_ e9_ S9_ ta9_ tb9_ tc9_ c9_ h9_ tk9_ i9_ F9_ N9_ l9_;obtain ⟨z1_,z2_,z3_,z4_,z5_,z6_⟩:=(by assumption:SigOk _) _ _ i9_);k_extra "@HK3")))
  k_with "c3 call ref" => ((k_here;(with_reducible refine (?_:wpAny _ _ (PySem.call (Value.ref 677) [Value.str _ _] _) _ _ _));k_dflt (apply wotail_ct;k_extra "@HK1"; (assumption);(assumption);k_extra "@HK2"; (intro t9_ h9_ tk9_ F9_ N9_);k_extra "@HK3")))
  k_with "c3 call builtin:len" => ((k_here;(with_reducible refine (?_:wpAny _ _ (call (Value.builtin "len") [Value.str (wcut _) _]) _ _ _));k_dflt (refine P.len_str (by (first | lia | omega)) ?_)))
  trivial
section
local macro_rules (kind := PySem.W.tacticK_extra_) | s => mq "0 c3 cz m l k t j q h g f e d c bf o a" s
theorem news_tup4 {h₀:Heap} {L y:Addr} {h':Heap} {led led':Led} {a a' b b' c c' d d':Int} {t1 t2 t3 t4:Tok} {k:Nat} (N:News h₀ L h' ((y,({ cls:=.type "tuple", data:=.seq #[.int a t1,.int b t2,.int c t3,.int d t4] k }:Obj))::led)) (hs:∀ p∈led',p∈led) (ha:a = a') (hb:b = b') (hc:c = c') (hd:d = d') :
    News h₀ L h' ((y,({ cls:=.type "tuple", data:=.seq #[.int a' t1,.int b' t2,.int c' t3,.int d' t4] k }:Obj))::led'):=by
  subst ha hb hc hd;exact news_sub N fun p h=>(List.mem_cons.mp h).elim (fun e=>e▸.head _) fun h=>.tail _ (hs p h)
theorem news_one {h₀:Heap} {L y:Addr} {o:Obj} {h':Heap} {led led':Led} (N:News h₀ L h' ((y,o)::led)) (hs:∀ p∈led',p∈led):News h₀ L h' ((y,o)::led') :=
  news_sub N fun p h=>(List.mem_cons.mp h).elim (fun e=>e▸.head _) fun h=>.tail _ (hs p h)
theorem meas_end {h₀:Heap} {L y:Addr} {h':Heap} {led led':Led} {c e:Int} {t1 t2 t3 t4:Tok} {k:Nat} (N:News h₀ L h' ((y,({ cls:=.type "tuple", data:=.seq #[.int c t1,.int ((if 0 > e then 0 else e) + 1) t2,.int (if 0 > c - 1 - e then 0 else c - 1 - e) t3,.int e t4] k }:Obj))::led)) (hs:∀ p∈led',p∈led) (h0:0≤e) (h1:c≤e + 1) :
    News h₀ L h' ((y,({ cls:=.type "tuple", data:=.seq #[.int c t1,.int (e + 1) t2,.int 0 t3,.int e t4] k }:Obj))::led') :=
  news_tup4 N hs rfl (by rw [if_neg (by (first | lia | omega))]) (by split<;>(first | lia | omega)) rfl
theorem news_tupsi {h₀:Heap} {L y:Addr} {h':Heap} {led:Led} {S:Str} {a a':Int} {t1 t2:Tok} {k:Nat} (N:News h₀ L h' ((y,({ cls:=.type "tuple", data:=.seq #[.str S t1,.int a t2] k }:Obj))::led)) (ha:a = a') :
    News h₀ L h' ((y,({ cls:=.type "tuple", data:=.seq #[.str S t1,.int a' t2] k }:Obj))::led):=by
  subst ha;exact N
theorem rj_len {S:Str} {c:Nat} (h1:1≤S.length) (h2:S.length≤10):(Txt.rjustF S (0 + 1) c).length≤16:=by
  unfold Txt.rjustF
  rw [if_pos (by (first | lia | omega))]
  (first | lia | omega)
section
variable (B:Below A₀ base outer h₀) (F:Fr h₀ L hpS m) (X:(Mine.hd.heap_1 (World.params w)).In h₀) (N:News h₀ L hpS news) (T:Top p loose mean mg mb h₀) (hk:cs.kind = .function)
include B F X N T hk
theorem meas_ct {x:Addr} {n:Int} {tn td ti:Tok} {k:Nat} (hx:(x,({ cls:=.type "tuple", data:=.seq #[.int n tn,.int 1 td] k }:Obj))∈news) (h1:0≤n) (h2:n≤100) (hok:SigOk n) (hd:dp + 12 < recursionLimit) (hu:un + 120 < cLine)
  (ret:∀ y c l e t1 t2 t3 t4 cc h' tk',1≤c→c≤3→1≤l→l≤3→0≤e→e≤2→Fr h₀ L h' m→News h₀ L h' ((y,({ cls:=.type "tuple", data:=.seq #[.int c t1,.int l t2,.int 0 t3,.int e t4] cc }:Obj))::news)→(∀ p∈news,p.1 < y)→Q (.ref y) ⟨h',GC,DC,tk',OC⟩) :
  wpAny (model prog w) (ktrTop dp un gd cn cs L a ccd cl outer) (call (.ref 698) [.ref x,.int 7 ti]) Q E ⟨hpS,GC,DC,tkS,OC⟩:=by
  k_extra "@ENTER"
  k_steps
  have N8:=meas_end (h₀:=h₀) (L:=L) (led':=news) (by assumption) (by intro p h;k_mem) (by (first | lia | omega)) (by (first | lia | omega))
  exact ret _ _ _ _ _ _ _ _ _ _ _ (by (first | lia | omega)) (by (first | lia | omega)) (by (first | lia | omega)) (by (first | lia | omega)) (by (first | lia | omega)) (by (first | lia | omega)) (by k_asm) N8 (fun q hq=>kst_ltOf (And.right (by assumption)) q hq)
end
end
example:True:=by
  k_with "c4 call ref" => ((k_here;(with_reducible refine (?_:wpAny _ _ (PySem.call (Value.ref 698) [Value.ref _,Value.int _ _] _) _ _ _));k_dflt (apply meas_ct;k_extra "@HK1"; (k_mem);(assumption);(assumption);(assumption);k_extra "@HK2"; (intro y9_ k9_ l9_ e9_ ta9_ tb9_ tc9_ td9_ c9_ h9_ tk9_ z1_ z2_ z3_ z4_ z5_ z6_ F9_ N9_ l8_);k_extra "@HK3")))
  k_with "c4 call ref" => ((k_here;(with_reducible refine (?_:wpAny _ _ (PySem.call (Value.ref 649) [Value.int _ _] _) _ _ _));k_dflt (apply wtext_ct;k_extra "@HK1"; ((first | lia | omega));((first | lia | omega));k_extra "@HK2"; (intro t9_ h9_ tk9_ F9_ N9_);k_extra "@HK3")))
  k_with "c5 exec For Name Name cons nil" => ((k_here;k_dflt (refine' For_invVF ?F__ ?k1__ ?k2__ ?_;(case F__=>k_asm);(case k1__=>eq_refl);(case k2__=>eq_refl))))
  k_with "c5 pyIter ref" => ((k_dflt (refine' uloop_list (its:=[Value.ref _]) ?a__ ?m__ ?F__ ?N__ ?_;(case F__=>k_asm);(case N__=>k_asm);(case m__=>k_mem);(case a__=>eq_refl))))
  k_with "c5 URest" => ((k_dflt (first | refine URest.val (fun h' tk' own' off' F' N'=>?_) | refine URest.nil (fun h' tk' F' N'=>?_));(try simp only [List.cons_append,List.nil_append] at N')))
  k_with "c5 UPost" => ((dsimp only [UPost]))
  k_with "c5 UEnd" => ((k_dflt (refine UEnd.same (by assumption) (by k_asm) (by k_asm) (by intro p_ h_;k_mem) (by intro p_ h_;rw [List.mem_singleton.mp h_];k_mem) ?_)))
  trivial
section
local macro_rules (kind := PySem.W.tacticK_extra_) | s => mq "0 cz c5 c4 m l k t j q h g f e d c p o a" s

section
variable (B:Below A₀ base outer h₀) (F:Fr h₀ L hpS m) (X:(Mine.hd.heap_1 (World.params w)).In h₀) (N:News h₀ L hpS news) (T:Top p loose mean mg mb h₀) (hk:cs.kind = .function)
include B F X N T hk
theorem chosen_ct {x l:Addr} {n:Int} {tn td:Tok} {k c:Nat} {ti:Tok} (hx:(x,({ cls:=.type "tuple", data:=.seq #[.int n tn,.int 1 td] k }:Obj))∈news) (hl:(l,listOf #[Value.ref x] c)∈news) (h1:0≤n) (h2:n≤100) (hok:SigOk n) (hd:dp + 16 < recursionLimit) (hu:un + 200 < cLine)
  (ret:∀ y t1 t2 c h' tk',Fr h₀ L h' m→News h₀ L h' ((y,({ cls:=.type "tuple", data:=.seq #[.str (Str.ofString "fixed") t1,.int 0 t2] c }:Obj))::news)→(∀ p∈news,p.1 < y)→Q (.ref y) ⟨h',GC,DC,tk',OC⟩) :
  wpAny (model prog w) (ktrTop dp un gd cn cs L a ccd cl outer) (call (.ref 705) [.ref l,.int 7 ti]) Q E ⟨hpS,GC,DC,tkS,OC⟩:=by
  k_extra "@ENTER"
  k_steps
  all_goals exact ret _ _ _ _ _ _ (by k_asm) (news_tupsi (by k_asm) (by decide)) (by k_asm)
end
end
example:True:=by
  k_with "c6 ENTER" => ((refine wpAny_call ?_;k_dflt (refine' code_def ?k1__ ?k2__ ?k3__ ?k4__ ?k5__ ?kA__ ?kF__ ?kK__ ?k6__ ?k7__ ?k8__ ?k9__ ?kB__ ?_ ?c2__ ?c3__ ?c4__ ?c5__;(case kA__=>eq_refl);(case kF__=>eq_refl);(case kK__=>first | with_reducible assumption | assumption);(case k1__=>k_asm);(case k2__=>k_asm);(case k3__=>k_asm);(case k4__=>k_asm);(case k5__=>k_asm);(case k6__=>k_is);(case k7__=>k_is);(case k8__=>ktr_room);(case k9__=>first | exact BindsTo.of_eq rfl | exact binds_K (by k_in) rfl (by k_is) rfl rfl rfl);(case c5__=>decide);(case kB__=>exact locs rfl);(case c2__=>eq_refl);(case c3__=>eq_refl);(case c4__=>eq_refl);k_whole;intro g'_ L'_ h'_ FG'_ F'_ N'_ B'_ X'_ T'_;(try dsimp only);(try k_fold);refine let_body F'_ ?_;clear F'_;intro mL_ eL_ AL_ QL_ EL_ F9_)))
  k_with "c6 ENTERC" => ((refine wpAny_call ?_;k_dflt (refine' code_defC ?k1__ ?k2__ ?k3__ ?k4__ ?k5__ ?kA__ ?kF__ ?kK__ ?k6__ ?k7__ ?k8__ ?k9__ ?kB__ ?kD__ ?_ ?c2__ ?c3__ ?c4__;(case kA__=>eq_refl);(case kF__=>eq_refl);(case kK__=>first | with_reducible assumption | assumption);(case k1__=>k_asm);(case k2__=>k_asm);(case k3__=>k_asm);(case k4__=>k_asm);(case k5__=>k_asm);(case k6__=>k_is);(case k7__=>k_is);(case k8__=>ktr_room);(case k9__=>first | exact BindsTo.of_eq rfl | exact binds_K (by k_in) rfl (by k_is) rfl rfl rfl);(case kB__=>eq_refl);(case kD__=>decide +kernel);(case c2__=>eq_refl);(case c3__=>eq_refl);(case c4__=>eq_refl);k_whole;intro g'_ L'_ h'_ tk'_ cells'_ FG'_ F'_ N'_ Y'_ B'_ X'_ T'_ l1_;(try k_lt l1_);k_cells Y'_;(try simp only [List.cons_append,List.nil_append] at N'_);(try dsimp only);(try k_fold))))
  k_with "c7 exec Assign cons ListComp" => ((k_here;k_dflt (refine LCt.Assign_ListComp_T (F₀:=by k_asm) (by rfl) (by with_unfolding_all rfl) (by with_unfolding_all rfl) (by decide) (by rfl) (by decide) (by rfl) (by rfl) (by rfl) ?_)))
  k_with "c8 CompSrcT" => ((k_here;k_dflt (refine' comp_filt1 ?hh__ ?F__ ?N__ ?hs__ ?hm__ ?_ ?_ ?_;(case N__=>k_asm);(case hs__=>exact fun _ h=>h);(case hm__=>k_mem);(case hh__=>eq_refl);(case F__=>k_asm))))
  k_with "c8 CompSrc" => ((k_here;k_dflt (refine' comp_src1 (Ro:=fun v=>∃ S t,v = Value.str S t∧S.length≤16) ?hh__ ?F__ ?N__ ?hs__ ?hm__ ?_ ?_;(case N__=>k_asm);(case hs__=>exact fun _ h=>h);(case hm__=>k_mem);(case hh__=>eq_refl);(case F__=>k_asm))))
  k_with "c9 call ref" => ((k_here;(with_reducible refine (?_:wpAny _ _ (PySem.call (Value.ref 698) [Value.ref _,Value.int _ _] _) _ _ _));k_dflt (apply meas_ct;k_extra "@HK1"; (k_mem);(assumption);(assumption);(assumption);k_extra "@HK2"; (intro y9_ k9_ l9_ e9_ ta9_ tb9_ tc9_ td9_ c9_ h9_ tk9_ z1_ z2_ z3_ z4_ z5_ z6_ F9_ N9_ l8_);k_extra "@HK3")))
  k_with "c9 call ref" => ((k_here;(with_reducible refine (?_:wpAny _ _ (PySem.call (Value.ref 649) [Value.int _ _] _) _ _ _));k_dflt (apply wtext_ct;k_extra "@HK1"; ((first | lia | omega));((first | lia | omega));k_extra "@HK2"; (intro t9_ h9_ tk9_ F9_ N9_);k_extra "@HK3")))
  k_with "c9 call ref" => ((k_here;(with_reducible refine (?_:wpAny _ _ (PySem.call (Value.ref 628) [Value.int _ _,Value.int _ _] _) _ _ _));k_dflt (apply near1n_ct;k_extra "@HK1"; (assumption);k_extra "@HK2"; (intro t9_ h9_ tk9_ F9_ N9_);k_extra "@HK3")))
  k_with "c9 call ref" => ((k_here;(with_reducible refine (?_:wpAny _ _ (PySem.call (Value.ref 705) [Value.ref _,Value.int _ _] _) _ _ _));k_dflt (apply chosen_ct;k_extra "@HK1"; (k_mem);(k_mem);(assumption);(assumption);(assumption);k_extra "@HK2"; (intro y9_ ta9_ tb9_ c9_ h9_ tk9_ F9_ N9_ l8_;(try k_lt l8_));k_extra "@HK3")))
  trivial
section
local macro_rules (kind := PySem.W.tacticK_extra_) | s => mq "cz by b6 c9 c8 c7 c6 t j o a" s
section
variable (B:Below A₀ base outer h₀) (F:Fr h₀ L hpS m) (X:(Mine.hd.heap_1 (World.params w)).In h₀) (N:News h₀ L hpS news) (T:Top p loose mean mg mb h₀) (hk:cs.kind = .function)
include B F X N T hk
theorem near1n_ct {n:Int} {ti tj:Tok} (hz:(if n < 0 then -n else n) = n) (hd:dp + 5 < recursionLimit) (hu:un + 60 < cLine)
  (ret:∀ t h' tk',Fr h₀ L h' m→News h₀ L h' news→Q (.int n t) ⟨h',GC,DC,tk',OC⟩) :
  wpAny (model prog w) (ktrTop dp un gd cn cs L a ccd cl outer) (call (.ref 628) [.int ((if n < 0 then -n else n) * 10 ^ (0:Int).toNat) ti,.int 1 tj]) Q E ⟨hpS,GC,DC,tkS,OC⟩:=by
  have e:(if n < 0 then -n else n) * 10 ^ (0:Int).toNat = n:=by rw [hz,show (10:Int) ^ (0:Int).toNat = 1 from by decide,Int.mul_one]
  rw [e]
  exact near1_ct B F X N T hk hd hu ret
end
section
variable (B:Below A₀ base outer h₀) (F:Fr h₀ L hpS m) (X:(Mine.hd.heap_1 (World.params w)).In h₀) (N:News h₀ L hpS news) (T:Top p loose mean mg mb h₀) (hk:cs.kind = .function)
include B F X N T hk
theorem ctexts_ct {x l:Addr} {n:Int} {tn td:Tok} {k c:Nat} {ti:Tok} (hx:(x,({ cls:=.type "tuple", data:=.seq #[.int n tn,.int 1 td] k }:Obj))∈news) (hl:(l,listOf #[Value.ref x] c)∈news) (h1:0≤n) (h2:n≤100) (hok:SigOk n) (hd:dp + 18 < recursionLimit) (hu:un + 260 < cLine)
  (ret:∀ y S t c h' tk',S.length≤16→Fr h₀ L h' m→News h₀ L h' ((y,listOf #[Value.str S t] c)::news)→(∀ p∈news,p.1≠y)→Q (.ref y) ⟨h',GC,DC,tk',OC⟩) :
  wpAny (model prog w) (ktrTop dp un gd cn cs L a ccd cl outer) (call (.ref 717) [.ref l,.int 7 ti]) Q E ⟨hpS,GC,DC,tkS,OC⟩:=by
  have hz:(if n < 0 then -n else n) = n:=if_neg (by (first | lia | omega))
  k_extra "@ENTERC"
  k_steps
  · constructor
    intro I oI C oC D ys m₂ s' E' hC hx F1 N1 hst
    obtain ⟨g,tk,rfl⟩:=hst
    k_steps
    all_goals (first | exact ⟨_,_,rfl,by k_asm,news_sub (by k_asm) (by intro p h;k_mem)⟩ | exact ⟨rfl,⟨_,_,rfl,by k_asm,news_sub (by k_asm) (by intro p h;k_mem)⟩⟩)
  · constructor
    intro I oI C oC D ys m₂ s' E' hC hx F1 N1 hst
    obtain ⟨g,tk,rfl⟩:=hst
    k_steps
    all_goals (first | exact ⟨_,_,rfl,by k_asm,news_sub (by k_asm) (by intro p h;k_mem)⟩ | exact ⟨rfl,⟨_,_,rfl,by k_asm,news_sub (by k_asm) (by intro p h;k_mem)⟩⟩)
  · constructor
    intro g
    k_steps
    · constructor
      intro I oI C oC D ys m₂ s' E' hC hx F1 N1 hst
      obtain ⟨g,tk,rfl⟩:=hst
      k_steps
      all_goals (first | exact ⟨_,_,rfl,by k_asm,news_sub (by k_asm) (by intro p h;k_mem)⟩ | exact rj_len (KLn.one_le h1) (KT.len_num h1 (Int.lt_of_le_of_lt h2 (by decide))))
    · constructor
      intro g u hu
      obtain ⟨S,t,rfl,hS⟩:=hu
      k_steps
      all_goals
        have o1:=(by assumption:_∧_∧_∧LCg.Off1 _ news)
        exact ret _ _ _ _ _ _ hS (by k_asm) (news_one (by k_asm) (by intro p h;k_mem)) (fun q hq=>off1_mem o1.2.2.2 q hq)
end
end
example:True:=by
  k_with "da call ref" => ((k_here;(with_reducible refine (?_:wpAny _ _ (PySem.call (Value.ref 717) [Value.ref _,Value.int _ _] _) _ _ _));k_dflt (apply ctexts_ct;k_extra "@HK1"; (k_mem);(k_mem);(assumption);(assumption);(assumption);k_extra "@HK2"; (intro y9_ S9_ ta9_ c9_ h9_ tk9_ z9_ F9_ N9_ l8_);k_extra "@HK3")))
  trivial
section
local macro_rules (kind := PySem.W.tacticK_extra_) | s => mq "0 da m l k t j q h g f e d c p o a" s

section
variable (B:Below A₀ base outer h₀) (F:Fr h₀ L hpS m) (X:(Mine.hd.heap_1 (World.params w)).In h₀) (N:News h₀ L hpS news) (T:Top p loose mean mg mb h₀) (hk:cs.kind = .function)
include B F X N T hk
theorem ntext_ct {x:Addr} {n:Int} {tn td:Tok} {k:Nat} {ti:Tok} (hx:(x,({ cls:=.type "tuple", data:=.seq #[.int n tn,.int 1 td] k }:Obj))∈news) (h1:0≤n) (h2:n≤100) (hok:SigOk n) (hd:dp + 20 < recursionLimit) (hu:un + 300 < cLine)
  (ret:∀ S t h' tk',S.length≤16→Fr h₀ L h' m→News h₀ L h' news→Q (.str S t) ⟨h',GC,DC,tk',OC⟩) :
  wpAny (model prog w) (ktrTop dp un gd cn cs L a ccd cl outer) (call (.ref 725) [.ref x,.int 7 ti]) Q E ⟨hpS,GC,DC,tkS,OC⟩:=by
  k_extra "@ENTER"
  k_steps
  all_goals exact ret _ _ _ _ (by assumption) (by k_asm) (news_sub (by k_asm) (by intro p h;k_mem))
end
end
example:True:=by
  k_with "db call ref" => ((k_here;(with_reducible refine (?_:wpAny _ _ (PySem.call (Value.ref 986) _ _) _ _ _));k_dflt (apply without2_ct;k_extra "@HK1"; (first | assumption | exact VecI.mono (by assumption) (by intro p_ h_;k_mem));(first | assumption | exact kept_len (by assumption));k_extra "@HK2"; (refine retK ?_;intro u9_ h9_ tk9_ add9_ F9_ N9_ l9_ r9_);have rv9_:=vec_or r9_ (by first | assumption | exact VecI.mono (by assumption) (by intro p_ h_;k_mem)) (fun p_ h_=>List.mem_append_left _ h_);k_extra "@HK3")))
  k_with "db call ref" => ((k_here;(with_reducible refine (?_:wpAny _ _ (PySem.call (Value.ref 967) _ _) _ _ _));k_dflt (apply quantile7_ref_ct;k_extra "@HK1"; (first | assumption | exact VecI.mono (by assumption) (fun p h=>(List.mem_append.mp h).elim (fun h=>List.mem_append_left _ h) (fun h=>by k_mem)));(first | assumption | exact kept_len (by assumption));(assumption);k_extra "@HK2"; (intro e9_ d9_ tk9_ h9_ tk8_ R9_);k_extra "@HK3")))
  trivial
section
local macro_rules (kind := PySem.W.tacticK_extra_) | s => mq "0 v db bv b3 bt bp bo l k t j q h g f e d c p o a" s

section
variable (B:Below A₀ base outer h₀) (F:Fr h₀ L hpS m) (X:(Mine.hd.heap_1 (World.params w)).In h₀) (N:News h₀ L hpS news) (T:Top p loose mean mg mb h₀) (hk:cs.kind = .function)
include B F X N T hk
theorem bquant_ref_ct {al:Addr} {x i e sk:Value} {b:Bool} {xs:List (Option Int)} (h1:ArgsIn news al x sk) (h2:SkipV w news sk b) (h3:VecI w news xs x) (h5:xs.length≤6) (h7:(kept b xs).any (·.isNone) = true)
  (hd:dp + 22 < recursionLimit) (hu:un + 200 < cLine)
  (retE:∀ tf e d tk h' tk',RaisedX h₀ L m base (envX cn cs L a ccd cl::outer) e d ((d,exD w tk (.str (Str.ofString "missing values and NaN's not allowed if 'na.rm' is FALSE") tf))::news) h'→E (.ref e) ⟨h',GC,DC,tk',OC⟩) :
  wpAny (model prog w) (ktrTop dp un gd cn cs L a ccd cl outer) (call (.ref 1045) [i,.ref al,e]) Q E ⟨hpS,GC,DC,tkS,OC⟩:=by
  cases h3 with
  | mk a1 a2 a3 a4 =>
  have hV:=VecI.mk a1 a2 a3 a4
  cases h2 with
  | no =>
    k_extra "@ENTER"
    k_steps
    all_goals exact retE _ _ _ _ _ _ (by k_extra "@RE")
  | yes b1 b2 b3=>exact absurd h7 (by simp [kept,pres])
end
end
section
local macro_rules (kind := PySem.W.tacticK_extra_) | s => mq "0" s
theorem ntL {x a:Addr} {its:Array Value} {k:Nat} {ps:Array Value}:((x,listOf its k):Addr×Obj)≠(a,tabObj ps):=fun e=>by cases e
theorem ntI {x a C d:Addr} {ps:Array Value}:((x,instObj C d):Addr×Obj)≠(a,tabObj ps):=fun e=>by cases e
theorem ntV {x a:Addr} {ps:Array Value} {t1 t2 t3 t4 t5:Tok} {kind:Str} {tk:Tok} {l av:Value}:((x,vecO w t1 t2 t3 t4 t5 kind tk l av):Addr×Obj)≠(a,tabObj ps):=fun e=>by cases e
theorem ntT {x a:Addr} {o:Obj} {ps:Array Value} (ht:o.cls = .type "tuple"):(x,o)≠(a,tabObj ps):=fun e=>by cases e;cases ht
theorem VecI.del {a:Addr} {ps:Array Value} {led rest:Led} {xs:List (Option Int)} {v:Value} (D:Del a (tabObj ps) led rest) (h:VecI w led xs v):VecI w rest xs v:=by
  cases h with
  | mk h1 h2 h3 h4 =>
    refine .mk ((D.or _ h1).resolve_left fun e=>?_) ((D.or _ h2).resolve_left fun e=>?_) ((D.or _ h3).resolve_left fun e=>?_) h4<;>cases e
theorem PrbR.del {a:Addr} {ps:Array Value} {led rest:Led} {v:Value} {x:Int×Int} (D:Del a (tabObj ps) led rest) (h:PrbR led v x):PrbR rest v x:=by
  cases h with
  | mk h1 h2=>exact .mk ((D.or _ h1).resolve_left fun e=>by cases e) h2
noncomputable def Q7 (zs:List Int) (led:Led) (v:Value) (x:Int×Int):Prop:=(zs = []→v = .none)∧(zs≠[]→QR led v (qf (sortI zs) x))
theorem all2_map {α β:Type} {R:Value→β→Prop} {f:α→β} {vs:List Value} {xs:List α} (h:All2 R vs (xs.map f)):All2 (fun v x=>R v (f x)) vs xs:=All2.unmap h
theorem retTF {h₀ h:Heap} {L:Addr} {m:Str→Option Value} {rest led ledt:Led} {tk:Nat} {ps:Array Value} {u:Value} {R:Led→Value→Prop} (F:Fr h₀ L h m) (N:News h₀ L h led) (hm:(936,tabObj ps)∈led) (hr:∀ p∈rest,p∈led)
    (ht:TabSt ledt ps) (hs:∀ p∈ledt,p∈led) (r:∀ A:Led,(∀ p∈led,p = (936,tabObj ps)∨p∈A++rest)→R A u):RetT h₀ L m rest R u ⟨h,GC,DC,tk,OC⟩:=by
  have hd:∀ p:Addr×Obj,Decidable (p.1≠936∧∀ q∈rest,q.1≠p.1):=fun p=>Classical.propDecidable _
  have same:∀ p∈led,∀ q∈led,p.1 = q.1→p = q:=fun p hp q hq e=>by
    have a:=(N p hp).1
    have b:=(N q hq).1
    rw [e] at a
    rw [a] at b
    exact Prod.ext e (Option.some.inj b)
  have key:∀ p∈led,p = (936,tabObj ps)∨p∈(led.filter fun p=>decide (p.1≠936∧∀ q∈rest,q.1≠p.1))++rest:=fun p hp=>by
    by_cases e:p.1 = 936
    · exact .inl (same p hp _ hm e)
    · by_cases f:∀ q∈rest,q.1≠p.1
      · exact .inr (List.mem_append_left _ (List.mem_filter.mpr ⟨hp,decide_eq_true ⟨e,f⟩⟩))
      · refine .inr (List.mem_append_right _ ?_)
        have ⟨q,hq⟩:=Classical.not_forall.mp f
        have ⟨h1,h2⟩:=Classical.not_imp.mp hq
        rw [← same q (hr q h1) p hp (Classical.not_not.mp h2)]
        exact h1
  refine ⟨h,tk,_,ps,rfl,F,fun p hp=>?_,fun p hp=>of_decide_eq_true (List.mem_filter.mp hp).2,?_,r _ key⟩
  · rcases List.mem_append.mp hp with hp | hp
    · exact N p (List.mem_filter.mp hp).1
    · rcases List.mem_cons.mp hp with e | hp
      · exact e▸N _ hm
      · exact N p (hr p hp)
  · rcases ht with e | ⟨c',oc,vs,t,e,hc,hf,hv⟩
    · exact .inl e
    · refine .inr ⟨c',oc,vs,t,e,(key _ (hs _ hc)).resolve_left fun q=>?_,hf,hv⟩
      cases q
      cases hf
      rw [e] at hv
      cases hv
theorem Q7.keep {zs:List Int} {led led':Led} {v:Value} {x:Int×Int} (h:Q7 zs led v x) (hs:∀ (y:Addr) (o:Obj),(y,o)∈led→o.cls = .type "tuple" → (y,o)∈led'):Q7 zs led' v x:=⟨h.1,fun n=>(h.2 n).keep fun y o a b _=>hs y o a b⟩
noncomputable abbrev shares5:List (Int×Int):=[(0,1),(1,4),(1,2),(3,4),(1,1)]
inductive QntV (w:World) (zs:List Int) (led:Led) (u:Value):Prop
  | mk (x:Addr) (d:Addr) (l:Addr) (t1:Tok) (t2:Tok) (t3:Tok) (t4:Tok) (t5:Tok) (tk:Tok) (av:Value) (out:List Value) (k:Nat):u = .ref x→(x,instObj 262 d)∈led→(d,vecO w t1 t2 t3 t4 t5 (Str.ofString "double") tk (.ref l) av)∈led→(l,listOf (List.toArray out) k)∈led→All2 (Q7 zs led) out shares5→QntV w zs led u
theorem SkipV.del {a:Addr} {ps:Array Value} {led rest:Led} {v:Value} {b:Bool} (D:Del a (tabObj ps) led rest) (h:SkipV w led v b):SkipV w rest v b:=by
  cases h with
  | no=>exact .no
  | yes h1 h2 h3=>refine .yes ((D.or _ h1).resolve_left fun e=>?_) ((D.or _ h2).resolve_left fun e=>?_) ((D.or _ h3).resolve_left fun e=>?_)<;>cases e
theorem ArgsIn.del {a:Addr} {ps:Array Value} {led rest:Led} {al:Addr} {v sk:Value} (D:Del a (tabObj ps) led rest) (h:ArgsIn led al v sk):ArgsIn rest al v sk:=by
  cases h with
  | one h1 h2=>refine .one ((D.or _ h1).resolve_left fun e=>?_) ((D.or _ h2).resolve_left fun e=>?_)<;>cases e
  | two h1 h2 h3=>refine .two ((D.or _ h1).resolve_left fun e=>?_) ((D.or _ h2).resolve_left fun e=>?_) ((D.or _ h3).resolve_left fun e=>?_)<;>cases e
theorem forLP {A:Around} {E:Value→Shared→Prop} {hpS:Heap} {tkS:Nat} {env:Env} {h₀:Heap} {x:Str} {body:List Stmt} {Q:Flow→Shared→Prop} {m₀:Str→Option Value} {l hl:Addr} {its vs₀:List Value} {k k₀:Nat} {LED:Led} {xs:List (Int×Int)} (ch:List Str) (P:List (Int×Int)→List Value→Prop)
    (hh:A.handled = none) (F:Fr h₀ env.locals hpS m₀) (N:News h₀ env.locals hpS ((hl,listOf (List.toArray vs₀) k₀)::LED)) (hm:(l,listOf its.toArray k)∈LED) (hR:All2 (PrbR LED) its xs) (h0:P [] vs₀) (hne:∀ p∈LED,p.1≠hl)
    (turn:Held (∀ pre y post v vs kk h tk own u,xs = pre++y::post→PrbR LED v y→P pre vs→(∀ p∈LED++own,p.1≠hl)→OwnOff own (((hl,listOf (List.toArray vs) kk)::LED).map (·.1)) →
      Fr h₀ env.locals h (fun z=>if z = x then some v else lsM m₀ ch [] u z)→News h₀ env.locals h ((hl,listOf (List.toArray vs) kk)::(LED++own)) →
      wpAny (model prog w) A (execs body env) (TEnd (γ:=List Value×Nat) h₀ env.locals own x m₀ ch (fun _=>[]) (fun g=>(hl,listOf (List.toArray g.1) g.2)::LED) (fun g=>P (pre++[y]) g.1) Q) E ⟨h,GC,DC,tk,OC⟩))
    (done:Held (∀ vs kk u (v:Option Value) h tk,P xs vs→Fr h₀ env.locals h (fun z=>if z = x then v else lsM m₀ ch [] u z)→News h₀ env.locals h ((hl,listOf (List.toArray vs) kk)::LED)→Q .next ⟨h,GC,DC,tk,OC⟩)) :
    wpAny (model prog w) A (pyIter (.ref l)) (fun it s₂=>LoopAtV prog w A h₀ env x body Q E it s₂) E ⟨hpS,GC,DC,tkS,OC⟩ :=
  forLT (γ:=List Value×Nat) ch (fun _=>[]) (fun g=>(hl,listOf (List.toArray g.1) g.2)::LED) (fun pre g=>P pre g.1) hh F hR (vs₀,k₀) N (fun g=>.tail _ hm) (fun q h=>nomatch h) h0
    ⟨fun pre y post v h tk own g u e r o off F1 N1=>turn.get pre y post v g.1 g.2 h tk own u e r o (fun p hp=>(List.mem_append.mp hp).elim (hne p) (off.ne (.head _) p)) off F1 N1⟩ ⟨fun g u v h tk o F1 N1=>done.get g.1 g.2 u v h tk o F1 N1⟩
theorem TEnd.same {γ:Type} {L:Addr} {h₀:Heap} {x:Str} {Q:Flow→Shared→Prop} {m₀ u:Str→Option Value} {h':Heap} {tk':Nat} {m':Str→Option Value} {own all:Led} {ch:List Str} {led:γ→Led} {ok:γ→Prop} {v:Option Value} (g:γ) (F':Fr h₀ L h' m') (em:m' = fun z=>if z = x then v else lsM m₀ ch [] u z) (N':News h₀ L h' all) (hs:∀ p∈led g++own,p∈all) (off:OwnOff own ((led g).map (·.1))) (hok:ok g) :
    TEnd h₀ L own x m₀ ch (fun _=>[]) led ok Q .next ⟨h',GC,DC,tk',OC⟩:=by
  refine TEnd.mk g F' N' hs off (fun z hz _ hc=>?_) (fun q h=>nomatch h) hok
  subst em
  show (if z = x then v else lsM m₀ ch [] u z) = m₀ z
  rw [if_neg hz]
  exact lsM_out (tv:=[]) rfl hc
theorem mulOk {a b:Int} (h:QP a b):∃ n,mkN (a * 100) (b * 1) = n∧mkD (a * 100) (b * 1) = 1∧0≤n∧n≤100∧SigOk n:=by
  rcases h with ⟨rfl,rfl⟩ | ⟨rfl,rfl⟩ | ⟨rfl,rfl⟩ | ⟨rfl,rfl⟩ | ⟨rfl,rfl⟩
  · exact ⟨0,by decide,by decide,by decide,by decide,sigOk_0⟩
  · exact ⟨25,by decide,by decide,by decide,by decide,sigOk_1 (.inl rfl)⟩
  · exact ⟨50,by decide,by decide,by decide,by decide,sigOk_1 (.inr (.inl rfl))⟩
  · exact ⟨75,by decide,by decide,by decide,by decide,sigOk_1 (.inr (.inr rfl))⟩
  · exact ⟨100,by decide,by decide,by decide,by decide,sigOk_2⟩
section
variable (B:Below A₀ base outer h₀) (F:Fr h₀ L hpS m) (X:(Mine.hd.heap_1 (World.params w)).In h₀) (N:News h₀ L hpS news) (T:Top p loose mean mg mb h₀) (hk:cs.kind = .function)
include B F X N T hk
theorem q7_ct {v:Value} {pl:Addr} {pvs:List Value} {kp:Nat} {shares:List (Int×Int)} {xs:List (Option Int)} {zs:List Int} {ps:Array Value} {rest:Led} (D:Del 936 (tabObj ps) news rest) (hT:TabSt rest ps) (h9:∀ p∈rest,p.1≠936)
  (h1:VecI w news xs v) (hx:xs = zs.map some) (h5:xs.length≤6) (h6:∀ z∈zs,1≤z∧z≤3)
  (hp:(pl,listOf pvs.toArray kp)∈news) (hP:All2 (PrbR news) pvs shares) (hs6:shares.length≤6) (hd:dp + 22 < recursionLimit) (hu:un + 200 < cLine)
  (ret:∀ u s',RetT h₀ L m rest (fun add u=>∃ D out c,u = .ref D∧(D,listOf (List.toArray out) c)∈add∧All2 (Q7 zs (add++rest)) out shares) u s'→Q u s') :
  wpAny (model prog w) (ktrTop dp un gd cn cs L a ccd cl outer) (call (.ref 967) [v,.ref pl]) Q E ⟨hpS,GC,DC,tkS,OC⟩:=by
  have hp':(pl,listOf pvs.toArray kp)∈rest:=(D.or _ hp).resolve_left fun e=>by cases e
  have hP':All2 (PrbR rest) pvs shares:=hP.imp fun _ _ h=>h.del D
  by_cases hz:zs = []
  · refine quantile7_nil_ct B F X N T hk D hT h9 (h1.del D) hx (by subst hz;rfl) h5 h6 hp' hP' hs6 hd hu fun u s' q=>ret u s' ?_
    obtain ⟨h',tk',add,ps',e,F',N',l',t',D',out,c,eu,hm,ha⟩:=q
    exact ⟨h',tk',add,ps',e,F',N',l',t',D',out,c,eu,hm,ha.imp fun v x q=>⟨fun _=>q,fun n=>absurd hz n⟩⟩
  · have hl:(sortI zs).length = zs.length:=sortI_len zs
    have hz6:zs.length≤6:=by rw [hx,List.length_map] at h5;exact h5
    have hz0:0 < zs.length:=List.length_pos_iff.mpr hz
    refine quantile7_ct B F X N T hk D hT h9 (h1.del D) hx (by rw [hl];exact nat6 hz6 hz0) h5 h6 hp' hP' hs6 hd hu fun u s' q=>ret u s' ?_
    obtain ⟨h',tk',add,ps',e,F',N',l',t',D',out,c,eu,hm,ha⟩:=q
    exact ⟨h',tk',add,ps',e,F',N',l',t',D',out,c,eu,hm,(all2_map ha).imp fun v x q=>⟨fun n=>absurd n hz,fun _=>q⟩⟩
theorem mulh_ct {x y:Addr} {aa b:Int} {tn td tn' td':Tok} {k k':Nat} (hx:(x,({ cls:=.type "tuple", data:=.seq #[.int aa tn,.int b td] k }:Obj))∈news) (hy:(y,({ cls:=.type "tuple", data:=.seq #[.int 100 tn',.int 1 td'] k' }:Obj))∈news) (hq:QP aa b)
  (hd:dp + 6 < recursionLimit) (hu:un + 48 < cLine)
  (ret:∀ z n t1 t2 c h' tk',0≤n→n≤100→SigOk n→Fr h₀ L h' m→News h₀ L h' ((z,({ cls:=.type "tuple", data:=.seq #[.int n t1,.int 1 t2] c }:Obj))::news)→(∀ p∈news,p.1 < z)→Q (.ref z) ⟨h',GC,DC,tk',OC⟩) :
  wpAny (model prog w) (ktrTop dp un gd cn cs L a ccd cl outer) (call (.ref 586) [.ref x,.ref y]) Q E ⟨hpS,GC,DC,tkS,OC⟩:=by
  obtain ⟨n,e1,e2,i1,i2,i3⟩:=mulOk hq
  refine mul_ct B F X N T hk hx hy ?_ ?_ ?_ (by decide) (by decide) (by decide) hd hu ?_
  · rcases hq with ⟨rfl,rfl⟩ | ⟨rfl,rfl⟩ | ⟨rfl,rfl⟩ | ⟨rfl,rfl⟩ | ⟨rfl,rfl⟩<;>decide
  · rcases hq with ⟨rfl,rfl⟩ | ⟨rfl,rfl⟩ | ⟨rfl,rfl⟩ | ⟨rfl,rfl⟩ | ⟨rfl,rfl⟩<;>decide
  · rcases hq with ⟨rfl,rfl⟩ | ⟨rfl,rfl⟩ | ⟨rfl,rfl⟩ | ⟨rfl,rfl⟩ | ⟨rfl,rfl⟩<;>decide
  · rw [e1,e2]
    exact fun z t1 t2 c h' tk' F' N' l=>ret z n t1 t2 c h' tk' i1 i2 i3 F' N' l
end
end
example:True:=by
  k_with "dc eval Name" => ((k_here;(with_reducible refine (?_:wpAny _ _ (eval (Expr.Name _ _) (envX _ _ _ _ _ _)) _ _ _));k_dflt (refine' nameX_L ?F__ ?v__ ?_ ?k__ ?a__ ?b__;(case F__=>k_asm);(case k__=>eq_refl);(case a__=>eq_refl);(case b__=>eq_refl);(case v__=>first | eq_refl | assumption);k_whole)))
  k_with "dc K_UPD" => ((refine' Upd.head ?a__;(case a__=>assumption)))
  trivial
section
local macro_rules (kind := PySem.W.tacticK_extra_) | s => mq "dc 0 m l k t j q h g f e d c bf o a" s

section
variable {dp un:Nat} {gd:Option (List Code)} {cn:Str} {a:Addr} {ccd:Value} {cl:List (Str×Addr)} {outer:List Env} {A₀:Around} {base h₀:Heap} {L:Addr} {m:Str→Option Value} {hpS:Heap} {tkS:Nat} {Q:Flow→Shared→Prop} {E:Value→Shared→Prop} {rest:Led} {p1 p2 p3 p4 p5 p6 p7 p8:Pos}
theorem names_st {x d hl l:Addr} {t1 t2 t3 t4 t5 tv:Tok} {kind:Str} {its:Array Value} {k:Nat}
  (B:Below A₀ base outer h₀) (F:Fr h₀ L hpS m) (X:(Mine.hd.heap_1 (World.params w)).In h₀) (N:News h₀ L hpS ((x,instObj 262 d)::(d,vecO w t1 t2 t3 t4 t5 kind tv (.ref l) .none)::(hl,listOf its k)::rest)) (T:Top p loose mean mg mb h₀)
  (hxd:@LT.lt Nat _ d x) (hr:∀ p∈(hl,listOf its k)::rest,p.1≠d) (h6:its.size≤6) (e1:m (Str.ofString "heads") = some (.ref hl)) (e2:m (Str.ofString "result") = some (.ref x)) (hd:dp + 24 < recursionLimit) (hu:un + 300 < cLine)
  (ret:∀ h' tk' d',Fr h₀ L h' m→News h₀ L h' ((x,instObj 262 d)::(d,vecO w t1 t2 t3 t4 t5 kind tv (.ref l) (.ref d'))::(hl,listOf its k)::rest)→Q .next ⟨h',GC,DC,tk',OC⟩) :
  wpAny (model prog w) (ktrTop dp un gd cn (H.fScope (H.A 138)) L a ccd cl outer) (exec (Stmt.Assign [.Attribute (.Name (Str.ofString "result") p1) (Str.ofString "attrs") p2] (.Dict [some (.Constant (.str (Str.ofString "names")) 0 p3)] [.Call (.Name (Str.ofString "character") p4) [.Name (Str.ofString "heads") p5] [] p6] p7) p8) (envX cn (H.fScope (H.A 138)) L a ccd cl)) Q E ⟨hpS,GC,DC,tkS,OC⟩:=by
  have hk:(H.fScope (H.A 138)).kind = .function:=rfl
  k_steps
  exact ret _ _ _ (by k_asm) (news_sub (by k_asm) (by intro p h;k_mem))
end
section
variable {dp un:Nat} {gd:Option (List Code)} {cn:Str} {a:Addr} {ccd:Value} {cl:List (Str×Addr)} {outer:List Env} {A₀:Around} {base h₀:Heap} {L:Addr} {m:Str→Option Value} {hpS:Heap} {tkS:Nat} {Q:Flow→Shared→Prop} {E:Value→Shared→Prop} {led:Led} {p1 p2 p3 p4 p5 p6 p7 p8:Pos}
theorem names_sl {x d hl l:Addr} {t1 t2 t3 t4 t5 tv:Tok} {kind:Str} {its:Array Value} {k:Nat}
  (B:Below A₀ base outer h₀) (F:Fr h₀ L hpS m) (X:(Mine.hd.heap_1 (World.params w)).In h₀) (N:News h₀ L hpS led) (T:Top p loose mean mg mb h₀) (m1:(x,instObj 262 d)∈led) (m2:(d,vecO w t1 t2 t3 t4 t5 kind tv (.ref l) .none)∈led) (m3:(hl,listOf its k)∈led)
  (hxd:@LT.lt Nat _ d x) (hr:@Ne Nat hl d) (h6:its.size≤6) (e1:m (Str.ofString "heads") = some (.ref hl)) (e2:m (Str.ofString "result") = some (.ref x)) (hd:dp + 24 < recursionLimit) (hu:un + 300 < cLine)
  (ret:∀ h' tk' d' led',Fr h₀ L h' m→News h₀ L h' led'→(∀ p∈led,p.1≠d→p∈led')→(d,vecO w t1 t2 t3 t4 t5 kind tv (.ref l) (.ref d'))∈led'→Q .next ⟨h',GC,DC,tk',OC⟩) :
  wpAny (model prog w) (ktrTop dp un gd cn (H.fScope (H.A 138)) L a ccd cl outer) (exec (Stmt.Assign [.Attribute (.Name (Str.ofString "result") p1) (Str.ofString "attrs") p2] (.Dict [some (.Constant (.str (Str.ofString "names")) 0 p3)] [.Call (.Name (Str.ofString "character") p4) [.Name (Str.ofString "heads") p5] [] p6] p7) p8) (envX cn (H.fScope (H.A 138)) L a ccd cl)) Q E ⟨hpS,GC,DC,tkS,OC⟩:=by
  refine names_st (k:=k) (rest:=led.filter fun p=>decide (p.1≠d)) B F X (fun p hp=>?_) T hxd (List.forall_mem_cons.mpr ⟨hr,fun p hp=>of_decide_eq_true (List.mem_filter.mp hp).2⟩) h6 e1 e2 hd hu fun h' tk' d' F' N'=>ret h' tk' d' _ F' N' (fun p hp hn=>.tail _ (.tail _ (.tail _ (List.mem_filter.mpr ⟨hp,decide_eq_true hn⟩)))) (.tail _ (.head _))
  rcases List.mem_cons.mp hp with e | hp
  · exact e▸N _ m1
  rcases List.mem_cons.mp hp with e | hp
  · exact e▸N _ m2
  rcases List.mem_cons.mp hp with e | hp
  · exact e▸N _ m3
  · exact N p (List.mem_filter.mp hp).1
end
end
example:True:=by
  k_with "dd K_NE" => (first | assumption | exact Ne.symm (by assumption) | (with_reducible exact Nat.ne_of_gt (by k_extra "@LTA")) | (with_reducible exact Nat.ne_of_lt (by k_extra "@LTA")))
  k_with "dd LTA" => (first | with_reducible assumption | with_reducible exact And.left (by assumption) | with_reducible exact And.left (And.right (by assumption)) | with_reducible exact And.left (And.right (And.right (by assumption))) | with_reducible exact And.left (And.right (And.right (And.right (by assumption)))) | with_reducible exact And.left (And.right (And.right (And.right (And.right (by assumption))))) | with_reducible exact And.left (And.right (And.right (And.right (And.right (And.right (by assumption)))))) | with_reducible exact And.left (And.right (And.right (And.right (And.right (And.right (And.right (by assumption))))))))
  k_with "de DEL" => (first | assumption | exact Del.head | (apply Del.app;k_extra "@DEL") | (apply Del.tail;k_extra "@DEL"))
  k_with "de NE1" => (first | exact Nat.ne_of_gt (kst_ltOf (by assumption:AllLt _ _) (936,_) (Del.mem (by k_extra "@DEL"))) | exact Nat.ne_of_gt (kst_ltOf (And.right (by assumption:_∧AllLt _ _)) (936,_) (Del.mem (by k_extra "@DEL"))) | exact Nat.ne_of_gt (kst_ltOf (And.right (And.right (by assumption:_∧_∧AllLt _ _))) (936,_) (Del.mem (by k_extra "@DEL"))) | exact Nat.ne_of_gt (kst_ltOf (And.right (And.right (And.right (by assumption:_∧_∧_∧AllLt _ _)))) (936,_) (Del.mem (by k_extra "@DEL"))) | exact Nat.ne_of_gt (kst_ltOf (And.right (And.right (And.right (And.right (by assumption:_∧_∧_∧_∧AllLt _ _))))) (936,_) (Del.mem (by k_extra "@DEL"))) | exact Nat.ne_of_gt (kst_ltOf (And.right (And.right (And.right (And.right (And.right (by assumption:_∧_∧_∧_∧_∧AllLt _ _)))))) (936,_) (Del.mem (by k_extra "@DEL"))) | exact Nat.ne_of_gt (kst_ltOf (And.right (And.right (And.right (And.right (And.right (And.right (by assumption:_∧_∧_∧_∧_∧_∧AllLt _ _))))))) (936,_) (Del.mem (by k_extra "@DEL"))) | exact Nat.ne_of_gt (kst_ltOf (And.right (And.right (And.right (And.right (And.right (And.right (And.right (by assumption:_∧_∧_∧_∧_∧_∧_∧AllLt _ _)))))))) (936,_) (Del.mem (by k_extra "@DEL"))) | exact Nat.ne_of_gt ((by assumption:∀ p:Addr×Obj,p∈_→@LT.lt Nat _ p.1 _) (936,_) (Del.mem (by k_extra "@DEL"))) | k_ne | (apply Ne.symm;k_ne))
  k_with "de NE9" => (first | assumption | (refine' List.forall_mem_cons.mpr ⟨?_,?_⟩;k_extra "@NE1"; k_extra "@NE9") | (apply ne_app;assumption;(apply Del.mem;k_extra "@DEL");k_extra "@NE9"))
  k_with "de call ref" => ((k_here;(with_reducible refine (?_:wpAny _ _ (PySem.call (Value.ref 986) _ _) _ _ _));k_dflt (apply without2_ct;k_extra "@HK1"; (first | assumption | exact VecI.mono (by assumption) (by intro p_ h_;k_mem));(first | assumption | exact kept_len (by assumption));k_extra "@HK2"; (refine retK ?_;intro u9_ h9_ tk9_ add9_ F9_ N9_ l9_ r9_);have rv9_:=vec_or r9_ (by first | assumption | exact VecI.mono (by assumption) (by intro p_ h_;k_mem)) (fun p_ h_=>List.mem_append_left _ h_);k_extra "@HK3")))
  k_with "de call ref" => ((k_here;(with_reducible refine (?_:wpAny _ _ (PySem.call (Value.ref 967) _ _) _ _ _));k_dflt (apply q7_ct;k_extra "@HK1"; (k_extra "@DEL");(first | assumption | exact TabSt.mono (by assumption) (by intro p_ h_;k_mem));(k_extra "@NE9");(first | assumption | (refine VecI.mono (by assumption) (fun p_ h_=>(List.mem_append.mp h_).elim (fun h_=>List.mem_append_left _ h_) (fun h_=>?_));k_mem));(assumption);(first | assumption | exact kept_len (by assumption));(assumption);(k_mem);(k_extra "@SHARES");(decide);k_extra "@HK2"; (refine retTK3a2 ?_;intro D9_ out9_ c9_ h9_ tk9_ add9_ ps9_ F9_ N9_ l9_ t9_ m9_ q9_);k_extra "@HK3")))
  k_with "de SHARES" => (exact .cons (.mk (by k_mem) (.inl ⟨rfl,rfl⟩)) (.cons (.mk (by k_mem) (.inr (.inl ⟨rfl,rfl⟩))) (.cons (.mk (by k_mem) (.inr (.inr (.inl ⟨rfl,rfl⟩)))) (.cons (.mk (by k_mem) (.inr (.inr (.inr (.inl ⟨rfl,rfl⟩))))) (.cons (.mk (by k_mem) (.inr (.inr (.inr (.inr ⟨rfl,rfl⟩))))) .nil)))))
  k_with "de exec For Name Name cons nil" => ((k_here;k_dflt (refine' For_invVF ?F__ ?k1__ ?k2__ ?_;(case F__=>k_asm);(case k1__=>eq_refl);(case k2__=>eq_refl))))
  k_with "df exec Assign" => ((k_here;(with_reducible refine (?_:wpAny _ _ (exec (Stmt.Assign [Expr.Attribute (Expr.Name _ _) _ _] (Expr.Dict _ _ _) _) _) _ _ _));k_dflt (refine' names_sl ?tB__ ?tF__ ?tX__ ?tN__ ?tT__ ?m1__ ?m2__ ?m3__ ?hx__ ?hr__ ?h6__ ?e1__ ?e2__ ?td__ ?tu__ ?_;(case tF__=>k_asm);(case e1__=>eq_refl);(case e2__=>eq_refl);(case tB__=>k_asm);(case tX__=>k_asm);(case tN__=>k_asm);(case tT__=>k_asm);(case m1__=>k_mem);(case m2__=>k_mem);(case m3__=>k_mem);(case hx__=>first | with_reducible assumption | assumption);(case hr__=>first | assumption | exact Nat.ne_of_gt (kst_ltOf (by assumption:AllLt _ _) (_,_) (by k_mem)) | k_ne);(case h6__=>k_extra "@H6");(case td__=>ktr_room);(case tu__=>ktr_units);(intro h9_ tk9_ d9_ led9_ F9_ N9_ key9_ md9_))))
  k_with "df H6" => ((show List.length _≤6;(first | assumption | (first | lia | omega))))
  k_with "dg call ref" => ((k_here;(with_reducible refine (?_:wpAny _ _ (PySem.call (Value.ref 586) [Value.ref _,Value.ref _] _) _ _ _));k_dflt (apply mulh_ct;k_extra "@HK1"; (k_mem);(k_mem);(assumption);k_extra "@HK2"; (intro z9_ n9_ ta9_ tb9_ c9_ h9_ tk9_ i9_ j9_ o9_ F9_ N9_ l9_;(try k_lt l9_));k_extra "@HK3")))
  k_with "dg call ref" => ((k_here;(with_reducible refine (?_:wpAny _ _ (PySem.call (Value.ref 725) [Value.ref _,Value.int _ _] _) _ _ _));k_dflt (apply ntext_ct;k_extra "@HK1"; (k_mem);(assumption);(assumption);(assumption);k_extra "@HK2"; (intro S9_ t9_ h9_ tk9_ z9_ F9_ N9_);k_extra "@HK3")))
  k_with "dg ALLNE" => (first | assumption | exact List.forall_mem_nil _ | (refine' List.forall_mem_cons.mpr ⟨?_,?_⟩;(first | assumption | exact Ne.symm (by assumption) | k_ne);k_extra "@ALLNE"))
  k_with "dg K_ALL" => (k_extra "@ALLNE")
  k_with "dg call ref" => ((k_here;(with_reducible refine (?_:wpAny _ _ (PySem.call (Value.ref 530) [Value.int _ _] _) _ _ _));k_dflt (apply from_int_ct;k_extra "@HK1"; k_extra "@HK2"; (intro x9_ tn9_ td9_ c9_ h9_ tk9_ F9_ N9_ l9_;(try k_lt l9_));k_extra "@HK3")))
  k_with "dh NEL" => (first | (apply Nat.ne_of_gt;apply kst_ltOf (And.right (by assumption:_∧AllLt _ _)) (_,_);k_extra "@MEM") | exact Nat.ne_of_gt ((by assumption:∀ q:Addr×Obj,q∈_→@LT.lt Nat _ q.1 _) (_,listOf _ _) (by k_extra "@MEM")))
  k_with "dh K_NE" => (first | assumption | (apply Ne.symm;assumption) | k_extra "@NEL")
  k_with "di SIZE_FITS" => (first | exact Nat.le_trans (m:=6) (by assumption) (by rw [PySem.sizeLine_eq];decide) | fail "size_fits: own")
  k_with "di K_NE" => (first | assumption | exact Ne.symm (by assumption))
  trivial
section
local macro_rules (kind := PySem.W.tacticK_extra_) | s => mq "0 di dh dg cv v df de w bv b3 bt m l k t j q h g f e d dd p o a" s
theorem mem_ca {α:Type} {a p:α} {l r:List α} (h:p∈(a::l)++r):p∈a::(l++r):=h
section
variable (B:Below A₀ base outer h₀) (F:Fr h₀ L hpS m) (X:(Mine.hd.heap_1 (World.params w)).In h₀) (N:News h₀ L hpS news) (T:Top p loose mean mg mb h₀) (hk:cs.kind = .function)
include B F X N T hk
theorem bquant_ct {al:Addr} {x i e sk:Value} {b:Bool} {xs:List (Option Int)} {zs:List Int} {ps:Array Value} {rest:Led} (D:Del 936 (tabObj ps) news rest) (hT:TabSt rest ps) (h9:∀ p∈rest,p.1≠936) (h1:ArgsIn news al x sk) (h2:SkipV w news sk b) (h3:VecI w news xs x) (h5:xs.length≤6)
  (hx:kept b xs = zs.map some) (h6:∀ z∈zs,1≤z∧z≤3)
  (hd:dp + 28 < recursionLimit) (hu:un + 400 < cLine)
  (ret:∀ u s',RetT h₀ L m rest (fun add u=>QntV w zs (add++rest) u) u s'→Q u s') :
  wpAny (model prog w) (ktrTop dp un gd cn cs L a ccd cl outer) (call (.ref 1045) [i,.ref al,e]) Q E ⟨hpS,GC,DC,tkS,OC⟩:=by
  replace h1:=h1.del D
  replace h2:=h2.del D
  replace h3:=h3.del D
  replace N:=D.nws N
  clear D
  have D:=Del.head (a:=936) (o:=tabObj ps) (r:=rest)
  cases h3 with
  | mk a1 a2 a3 a4 =>
  have hV:=VecI.mk a1 a2 a3 a4
  k_extra "@ENTER"
  k_steps
  constructor
  rename News _ _ _ (_::_)=>NN
  rename ∀ p:Addr×Obj,p∈_→@LT.lt Nat _ p.1 _=>l1
  k_dflt (refine forLP (its:=[_,_,_,_,_]) (vs₀:=[]) (xs:=shares5) [] (fun pre vs=>vs.length = pre.length) (by rfl) (by k_asm) NN (by k_mem) (by k_extra "@SHARES") rfl (fun p hp=>Nat.ne_of_lt (l1 p hp)) ?_ ?_)
  · constructor
    intro pre y post v vs kk h tk own u hx' hv hst o2 hoff F1 N1
    have hlen:=congrArg List.length hx'
    simp only [List.length_append,List.length_cons,List.length_nil] at hlen
    have o1:=hoff.ne (.head _)
    have h6v:List.length vs≤6:=Nat.le_trans (Nat.le_of_eq hst) (Nat.le_trans (Nat.le_add_right _ _) (Nat.le_trans (Nat.le_of_eq hlen.symm) (by decide)))
    cases hv with
    | mk m1 m2 =>
    k_steps
    rename News _ _ _ (_::_::_::_)=>NN
    (try simp only [List.push_toArray] at NN)
    refine' TEnd.same (γ:=List Value×Nat) (led:=fun g=>(_,listOf (List.toArray g.1) g.2)::_) (vs++[_],_) (by k_asm) rfl NN ?hs hoff ?ho
    case hs =>
      intro p h
      have h':=mem_ca h
      clear h
      k_mem
    case ho =>
      simp only [List.length_append,List.length_cons,List.length_nil]
      (first | lia | omega)
  · constructor
    intro vs kk u v h tk hst F1 N1
    have h6v:List.length vs≤6:=by rw [hst];decide
    k_steps
    have q1:=(by assumption:All2 (Q7 zs _) _ _)
    have t1:=(by assumption:TabSt _ _)
    rename ∀ p:Addr×Obj,p∈_→p.1≠_→p∈_=>key9
    have l19:=(by assumption:∀ q:Addr×Obj,q∈_++_→@LT.lt Nat _ q.1 _)
    have l29:=(by assumption:@LT.lt Nat _ _ _)
    rename (_,vecO _ _ _ _ _ _ _ _ _ (.ref _))∈_=>md9
    rename (_,listOf (List.toArray _) _)∈_=>ml9
    have K:=fun p hp=>key9 p (.tail _ (.tail _ (.tail _ hp))) (Nat.ne_of_lt (l19 p hp))
    refine ret _ _ (retTF (by k_asm) (by k_asm) (K _ (List.mem_append_right _ (.head _))) (fun p hp=>K p (by k_mem)) t1 (fun p h=>K p ((List.mem_append.mp h).elim (fun h=>List.mem_append_left _ h) (fun h=>List.mem_append_right _ (.tail _ h)))) fun A key=>?_)
    exact ⟨_,_,_,_,_,_,_,_,_,_,_,_,rfl,(key _ (key9 _ (.tail _ (.head _)) (Nat.ne_of_gt l29))).resolve_left ntI,(key _ md9).resolve_left ntV,(key _ (K _ (List.mem_append_left _ ml9))).resolve_left ntL,q1.imp fun v y q=>q.keep fun z o hm ht=>(key _ (K _ ((List.mem_append.mp hm).elim (fun h=>List.mem_append_left _ h) (fun h=>List.mem_append_right _ (.tail _ h))))).resolve_left (ntT ht)⟩
end
end
example:True:=by
  k_with "dj truthy ref" => ((k_here;(with_reducible refine (?_:wpAny _ _ (truthy (Value.ref _)) _ _ _));k_dflt (refine' truthy_l ?N__ ?m__ ?z__ ?b__ ?_;(case N__=>k_asm);(case m__=>k_mem);(case z__=>exact Nat.le_of_ble_eq_true rfl);(case b__=>first | exact (rfl:_ = true) | exact (rfl:_ = false)))))
  k_with "dk exec For Name Name cons nil" => ((k_here;k_dflt (refine' For_invVF ?F__ ?k1__ ?k2__ ?_;(case F__=>k_asm);(case k1__=>eq_refl);(case k2__=>eq_refl))))
  k_with "dk pyIter ref" => ((k_dflt (refine' uloop_list (its:=[_]) ?a__ ?m__ ?F__ ?N__ ?_;(case F__=>k_asm);(case N__=>k_asm);(case m__=>k_mem);(case a__=>eq_refl))))
  k_with "dk URest" => ((k_dflt (first | refine URest.val (fun h' tk' own' off' F' N'=>?_) | refine URest.nil (fun h' tk' F' N'=>?_));(try simp only [List.cons_append,List.nil_append] at N')))
  k_with "dk UPost" => ((dsimp only [UPost]))
  k_with "dk UEnd" => ((k_dflt (refine UEnd.fresh (by assumption) (fun p_ hp=>Nat.ne_of_lt (kst_ltOf (And.right (And.right (by assumption:_∧_∧AllLt _ (_++_)))) p_ (List.mem_append_right _ hp))) (by k_asm) (by k_asm) (by intro p_ h_;rw [List.mem_singleton.mp h_];k_mem) ?_)))
  trivial
section
local macro_rules (kind := PySem.W.tacticK_extra_) | s => mq "0 v dk ba m l k dj t j q h g f e d c bf o a" s
noncomputable abbrev entO (w:World) (S:String) (t:Tok) (v:Value):DictEntry:={ hash:=PyData.keyHash w.params (Str.ofString S),key:=.str (Str.ofString S) t,val:=v }
noncomputable abbrev evO (w:World) (kt:Nat→Tok) (vs:Nat→Value) (gl wl:Addr):Obj:=dictOf
  [entO w "limit" (kt 0) (vs 0),entO w "most_frames" (kt 1) (vs 1),entO w "steps" (kt 2) (vs 2),entO w "next_number" (kt 3) (vs 3),entO w "base" (kt 4) (vs 4),entO w "globals" (kt 5) (.ref gl),
   entO w "frames" (kt 6) (vs 6),entO w "out" (kt 7) (vs 7),entO w "warnings" (kt 8) (.ref wl),entO w "handlers" (kt 9) (vs 9),entO w "restarts" (kt 10) (vs 10),entO w "targets" (kt 11) (vs 11),
   entO w "visible" (kt 12) (.bool true),entO w "current" (kt 13) .none,entO w "dispatcher" (kt 14) (vs 14),entO w "signaller" (kt 15) (vs 15),entO w "warner" (kt 16) .none,entO w "deparser" (kt 17) (vs 17),entO w "s4" (kt 18) (vs 18)] 19
section
variable (B:Below A₀ base outer h₀) (F:Fr h₀ L hpS m) (X:(Mine.hd.heap_1 (World.params w)).In h₀) (N:News h₀ L hpS news) (T:Top p loose mean mg mb h₀) (hk:cs.kind = .function)
include B F X N T hk
theorem finish_ct {ip de wl gl nl:Addr} {kt:Nat→Tok} {vs:Nat→Value} {ws:List Value} {k kn:Nat} {S:Str} {ts:Tok} {v:Value} {rest:Led} (hr:news = (wl,listOf ws.toArray k)::(de,evO w kt vs gl wl)::rest) (hi:(ip,instObj 1355 de)∈rest) (hn:(nl,listOf #[.str S ts] kn)∈rest)
  (n1:de≠wl) (ap:∀ p∈rest,p.1≠wl) (ap2:∀ p∈rest,p.1≠de) (hw:ws.length = 0) (hd:dp + 8 < recursionLimit) (hu:un + 100 < cLine)
  (ret:∀ t ta h' tk' k',Fr h₀ L h' m→News h₀ L h' ((t,({ cls:=.type "tuple", data:=.seq #[.str S ta,.none] 0 }:Obj))::(wl,listOf #[.ref t] k')::(de,evO w kt vs gl wl)::rest)→@LT.lt Nat _ wl t→@LT.lt Nat _ de t→(∀ p∈rest,p.1 < t)→Q v ⟨h',GC,DC,tk',OC⟩) :
  wpAny (model prog w) (ktrTop dp un gd cn cs L a ccd cl outer) (call (.ref 974) [.ref ip,.ref nl,v]) Q E ⟨hpS,GC,DC,tkS,OC⟩:=by
  subst hr
  have n2:wl≠de:=Ne.symm n1
  obtain rfl:=List.eq_nil_of_length_eq_zero hw
  k_extra "@ENTER"
  k_steps
  have l1:=(by assumption:_∧_∧AllLt _ (rest++_))
  exact ret _ _ _ _ _ (by k_asm) (by k_asm) l1.1 l1.2.1 (fun p hp=>kst_ltOf l1.2.2 p (List.mem_append_left _ hp))
end
end

noncomputable def LeaveR (base h₀:Heap) (L:Addr) (m:Str→Option Value) (g:Heap) (R:Result→Shared→Prop) (v:Value) (s':Shared):Prop :=
  ∃ g2 L' m' news',Reb base g g2∧Fr g2 L' s'.heap m'∧News g2 L' s'.heap news'∧(∀ h₂,Reb base h₀ h₂→Fr h₂ L s'.heap m→News h₂ L s'.heap news'→R (.ok (.ret v)) s')
theorem LeaveR.out {A₀:Around} {base h₀:Heap} {outer:List Env} {L:Addr} {m:Str→Option Value} {g:Heap} {R:Result→Shared→Prop} {v:Value} {s':Shared} (B:Below A₀ base outer h₀) (FG:Fr h₀ L g m) (h:LeaveR base h₀ L m g R v s'):R (.ok (.ret v)) s':=by
  obtain ⟨g2,L',m',news',x,F',N',k⟩:=h
  obtain ⟨r,F2⟩:=Reb.under B FG x
  refine k _ r ⟨(Heap.UpToSlots.of_keeps F'.keep).ns F2.ns,fun b o e=>F'.keep b o (F2.keep b o e),F2.above⟩ fun p hp=>⟨(N' p hp).1,fun q=>?_,?_⟩
  · obtain ⟨o,_,_,e,_⟩:=F2.ns
    have:=(N' p hp).2.2
    rw [q,e] at this
    cases this
  · cases q:(restr g2 h₀).get? p.1 with
    | none=>rfl
    | some o =>
      have e:=F2.keep _ _ q
      have:=(N' p hp).2.2
      rw [e] at this
      cases this
section
variable {A A₀:Around} {hpS:Heap} {tkS:Nat} {K:Frag} {L:Addr} {h₀ base:Heap} {m:Str→Option Value} {news:List (Addr×Obj)}
theorem code_defR {env:Env} {outer:List Env} {R:Result→Shared→Prop} {name qual:Str} {params:Arguments} {body:List Stmt} {scope:Scope} {dV kV doc pm cdv ct oc:Value} {an od:Option Addr} {osl:Array (Option Value)} {f:Addr} {args:Args} {binds:List (Str×Value)}
    (B:Below A₀ base outer h₀) (F:Fr h₀ L hpS m) (X₀:K.In h₀) (N:News h₀ L hpS news) (T:Top p loose mean mg mb h₀) (hA:A.frames = some (env::outer)) (hf:env.frame = some L) (hke:env.scope.kind = .function)
    (ho:K.lookup f = some ⟨oc,od,.func (fnOf name qual params body scope dV kV doc pm an cdv ct),osl⟩) (hcd:codeIn K cdv qual = true) (hroom:A.depth < recursionLimit)
    (hbind:BindsTo ⟨hpS,GC,DC,tkS,OC⟩ (fnOf name qual params body scope dV kV doc pm an cdv ct) args binds) (hloc:∀ y∈binds,scope.names.lookup y.1 = some .local)
    (h:∀ g L' h₁,Fr h₀ L g m→Fr g L' h₁ (fun y=>binds.reverse.lookup y)→News g L' h₁ news→Below A base (env::outer) g→K.In g→Top p loose mean mg mb g →
      wpAny (model prog w) (A.deeper (envOf qual scope L' f cdv)) (execs body (envOf qual scope L' f cdv))
        (fun fl s'=>LeaveR base h₀ L m g R (match fl with | .ret v=>v | _=>.none) s')
        (fun e s'=>wpAny (model prog w) (A.deeper (envOf qual scope L' f cdv)) (leaving (envOf qual scope L' f cdv) e) (fun _ s''=>R (.error e) s'') (fun e' s''=>R (.error e') s'') s')
        ⟨h₁,GC,DC,tkS + binds.length,OC⟩)
    (hco:scope.isCoroutine = false) (hgen:scope.isGenerator = false) (hk:scope.kind = .function)
    (hcell:∀ x∈scope.names,x.2≠.cell):codeAny (model prog w) A (.call (.ref f) args) R ⟨hpS,GC,DC,tkS,OC⟩:=by
  obtain ⟨FG,BG,st,_⟩:=groundX (s:=⟨hpS,GC,DC,tkS,OC⟩) (R:=R) B F N hA hf hke
  refine codeAny_call_def (fd:=fnX name qual params body scope [] dV kV doc pm an cdv ct) (body:=body) (binds:=binds) hroom ((X₀.keeps F.keep) _ _ ho) rfl (T.nolimit.keeps F.keep) (codeRec_of (X₀.keeps F.keep) hcd) rfl hbind hcell hloc (fun h₁ hns hk₁=>?_) hco hgen hk
  exact wpAny_mono (h _ hpS.objs.size h₁ FG ⟨hns,fun b o e=>hk₁ b o (of_hideAll _ e),Nat.le_of_eq (hideAll_size _ _)⟩
    (fun p hp=>⟨hk₁ _ _ (N p hp).1,Nat.ne_of_lt (Heap.lt_size (N p hp).1),hideAll_none _ (List.mem_map_of_mem hp)⟩) BG (X₀.keeps st) (T.keeps st)) (fun fl s' hl=>LeaveR.out B FG hl) fun _ _ y=>y
end
section
local macro_rules (kind := PySem.W.tacticK_extra_) | s => mq "0" s
section
variable {A:Around} {hpS:Heap} {tkS:Nat} {E:Value→Shared→Prop}
theorem get_X {v:Value} {e:Addr} {oe:Obj} {tk:Tok} {ex:Bool} {Q:Value→Shared→Prop} (X:(Mine.hd.heap_1 (World.params w)).In hpS) (I:InstAt hpS e oe 117 (some (exD w tk v))) (hv:handedIn v = true)
    (h:Q v ⟨hpS,GC,DC,tkS + 1,OC⟩):wpAny (model prog w) A (getAttr (.ref e) (Str.ofString "message") ex) Q E ⟨hpS,GC,DC,tkS,OC⟩:=by
  have L0:=I.type (M:=model prog w)
  have ga:Looks (model prog w) hpS (typeLookup (.ref 117) (Str.ofString "__getattribute__")) (some (.builtin "BaseException.__getattribute__")):=looks_findIn X rfl
  have ha:Looks (model prog w) hpS (typeLookup (.ref 117) (Str.ofString "__getattr__")) none:=looks_findIn X rfl
  have sub:Looks (model prog w) hpS (isInstance (.ref e) (.type "BaseException")) true:=L0.andThen (looks_mroIn X rfl)
  have fd:Looks (model prog w) hpS (Builtin.ObjectAttr.find (.ref e) (.ref 117) (Str.ofString "message")) (.value v):=looks_find X I rfl
  have hk:builtinKind "BaseException.__getattribute__" = some .slot:=by decide +kernel
  have hsplit:splitId "BaseException.__getattribute__" = some ("BaseException", "__getattribute__"):=by decide +kernel
  have SB:=PySem.F.excAttr_ValueError.ga.bind (.ref e)
  have hx0:(ex && onTheHeap (Value.builtin "BaseException.__getattribute__")) = false:=by cases ex<;>rfl
  unfold getAttr getAttrBy
  refine wpAny_bind (wpAny_mkText (wpAny_holding (wpAny_bind (L0.at (wpAny_bind (ga.at ?_))))))
  show wpAny _ _ (getAttrByItsOwn _ _ _ _ _ _) _ _ _
  unfold getAttrByItsOwn
  refine wpAny_bind (ha.at (wpAny_bind (wpAny_attempt (wpAny_holding ?_))))
  unfold callGetattribute boundAndCalled
  rw [hx0,SB]
  refine wpAny_bind (wpAny_pure (wpAny_call ?_))
  refine codeAny_call_builtin PySem.F.excAttr_ValueError.ga.plain PySem.F.entry_bexc_ga (@check_slot (model prog w) _ _ _ "BaseException.__getattribute__" "BaseException" "__getattribute__" (.ref e) [_] [] _ hk hsplit sub (PySem.F.args_bexc_ga (.ref e) _) ?_)
  unfold Builtin.«object.__getattribute__»
  refine wpAny_bind (wpAny_pure (wpAny_bind (wpAny_pure (wpAny_bind (L0.at (wpAny_bind (fd.at ?_)))))))
  refine wpAny_pure ?_
  show wpAny _ _ (handedOut v) _ _ _
  rw [handedOut_of hv];exact wpAny_pure h
end
noncomputable abbrev tupN (v:Value) (t k:Nat) (S:Str):Obj:={ cls:=.type "tuple", data:=.seq #[.str S t,v] k }
noncomputable def NotesR (led:Led) (ws:List Value) (ns:List Str):Prop:=All2 (fun v S=>∃ t ta k,v = .ref t∧(t,({ cls:=.type "tuple", data:=.seq #[.str S ta,.none] k }:Obj))∈led) ws ns
inductive ItemsV (w:World) (led:Led) (u:Value) (its:List Value):Prop
  | mk (x:Addr) (d:Addr) (l:Addr) (t1:Tok) (t2:Tok) (t3:Tok) (t4:Tok) (t5:Tok) (tk:Tok) (kind:Str) (av:Value) (k:Nat):u = .ref x→(x,instObj 262 d)∈led→(d,vecO w t1 t2 t3 t4 t5 kind tk (.ref l) av)∈led→(l,listOf (List.toArray its) k)∈led→ItemsV w led u its
structure Apart3 (wl de:Addr) (led:Led):Prop where
  n1:de≠wl
  n2:wl≠936
  n3:de≠936
  ap:∀ p∈led,p.1≠936∧p.1≠wl∧p.1≠de
inductive Post3 (w:World) (h₀:Heap) (L:Addr) (m:Str→Option Value) (rest:Led) (wl de gl:Addr) (kt:Nat→Tok) (vs:Nat→Value) (R:Led→List Value→Value→Prop) (u:Value) (s':Shared):Prop
  | mk (h':Heap) (tk':Nat) (add:Led) (ps:Array Value) (ws:List Value) (k:Nat):s' = ⟨h',GC,DC,tk',OC⟩→Fr h₀ L h' m→News h₀ L h' (add++(936,tabObj ps)::(wl,listOf (List.toArray ws) k)::(de,evO w kt vs gl wl)::rest)→(∀ p∈add,p.1≠936∧p.1≠wl∧p.1≠de)→TabSt (add++rest) ps→R (add++rest) ws u→Post3 w h₀ L m rest wl de gl kt vs R u s'
theorem retS {h₀ h:Heap} {L wl de gl:Addr} {kt:Nat→Tok} {vs:Nat→Value} {m:Str→Option Value} {rest led:Led} {tk k:Nat} {ps:Array Value} {ws:List Value} {u:Value} {R:Led→List Value→Value→Prop} (F:Fr h₀ L h m) (N:News h₀ L h led) (n:Apart3 wl de rest) (hm:(936,tabObj ps)∈led) (hw:(wl,listOf (List.toArray ws) k)∈led) (he:(de,evO w kt vs gl wl)∈led) (hr:∀ p∈rest,p∈led)
    (ht:TabSt rest ps) (r:∀ A:Led,(∀ p∈led,p.1≠936→p.1≠wl→p.1≠de→p∈A++rest)→R (A++rest) ws u):Post3 w h₀ L m rest wl de gl kt vs R u ⟨h,GC,DC,tk,OC⟩:=by
  have hd:∀ p:Addr×Obj,Decidable (p.1≠936∧p.1≠wl∧p.1≠de):=fun p=>Classical.propDecidable _
  refine ⟨h,tk,led.filter fun p=>decide (p.1≠936∧p.1≠wl∧p.1≠de),ps,ws,k,rfl,F,fun p hp=>?_,fun p hp=>of_decide_eq_true (List.mem_filter.mp hp).2,ht.mono fun p hp=>List.mem_append_right _ hp,r _ fun p hp a b c=>List.mem_append_left _ (List.mem_filter.mpr ⟨hp,decide_eq_true ⟨a,b,c⟩⟩)⟩
  rcases List.mem_append.mp hp with hp | hp
  · exact N p (List.mem_filter.mp hp).1
  rcases List.mem_cons.mp hp with e | hp
  · exact e▸N _ hm
  rcases List.mem_cons.mp hp with e | hp
  · exact e▸N _ hw
  rcases List.mem_cons.mp hp with e | hp
  · exact e▸N _ he
  · exact N p (hr p hp)
theorem one_obj {h₀ h:Heap} {L x y:Addr} {o o':Obj} {led:Led} (N:News h₀ L h led) (a:(x,o)∈led) (b:(y,o')∈led) (e:x = y):o = o':=by
  subst e
  have p:=(N _ a).1
  rw [(N _ b).1] at p
  exact (Option.some.inj p).symm
theorem ne_cls {h₀ h:Heap} {L x y:Addr} {o o':Obj} {led:Led} (N:News h₀ L h led) (a:(x,o)∈led) (b:(y,o')∈led) (c:o.cls≠o'.cls):x≠y:=fun e=>c (congrArg Obj.cls (one_obj N a b e))
noncomputable def NaNote (w:World) (led:Led) (ws:List Value) (u:Value):Prop:=NotesR led ws [Str.ofString "argument is not numeric or logical: returning NA"]∧ItemsV w led u [.none]
theorem retNote {h₀ h g1 h1:Heap} {L L1 wl de gl t x d l:Addr} {kt:Nat→Tok} {vs:Nat→Value} {m:Str→Option Value} {rest news1 N2:Led} {tk k k' k2 kt0:Nat} {ta t1 t2 t3 t4 t5 tv:Tok} {ps:Array Value} {kind:Str} {av:Value} (F:Fr h₀ L h m)
    (N:News h₀ L h ((t,({ cls:=.type "tuple", data:=.seq #[.str (Str.ofString "argument is not numeric or logical: returning NA") ta,.none] kt0 }:Obj))::(wl,listOf #[.ref t] k')::(de,evO w kt vs gl wl)::N2)) (sub:∀ p∈news1,p.1≠wl→p.1≠de→p∈N2) (own:∀ p∈N2,p.1≠wl∧p.1≠de∧p∈news1) (l9:∀ p∈news1,p.1≠t) (N1:News g1 L1 h1 news1)
    (n:Apart3 wl de rest) (ht:TabSt rest ps) (mw:(wl,listOf #[] k)∈news1) (me:(de,evO w kt vs gl wl)∈news1) (hm:(936,tabObj ps)∈news1) (hr:∀ p∈rest,p∈news1) (hx:(x,instObj 262 d)∈news1) (hd:(d,vecO w t1 t2 t3 t4 t5 kind tv (.ref l) av)∈news1) (hl:(l,listOf #[.none] k2)∈news1) :
    Post3 w h₀ L m rest wl de gl kt vs (NaNote w) (.ref x) ⟨h,GC,DC,tk,OC⟩:=by
  have x1:x≠wl:=ne_cls N1 hx mw (fun q=>by cases q)
  have x2:x≠de:=ne_cls N1 hx me (fun q=>by cases q)
  have x3:x≠936:=ne_cls N1 hx hm (fun q=>by cases q)
  have d1:d≠wl:=ne_cls N1 hd mw (fun q=>by simp at q)
  have d2:d≠de:=fun e=>by
    have q:(5:Nat) = 19:=congrArg (fun o:Obj=>match o.data with | .dict _ n=>n | _=>0) (one_obj N1 hd me e)
    (first | lia | omega)
  have d3:d≠936:=ne_cls N1 hd hm (fun q=>by simp at q)
  have l1:l≠wl:=fun e=>by cases one_obj N1 hl mw e
  have l2:l≠de:=ne_cls N1 hl me (fun q=>by simp at q)
  have l3:l≠936:=ne_cls N1 hl hm (fun q=>by simp at q)
  refine retS (ws:=[.ref t]) F N n (.tail _ (.tail _ (.tail _ (sub _ hm (Ne.symm n.n2) (Ne.symm n.n3))))) (.tail _ (.head _)) (.tail _ (.tail _ (.head _))) (fun p hp=>.tail _ (.tail _ (.tail _ (sub p (hr p hp) (n.ap p hp).2.1 (n.ap p hp).2.2)))) ht fun A key=>⟨.cons ⟨t,ta,kt0,rfl,key _ (.head _) ?_ ?_ ?_⟩ .nil,x,d,l,t1,t2,t3,t4,t5,tv,kind,av,k2,rfl,?_,?_,?_⟩
  · exact Ne.symm (l9 _ hm)
  · exact Ne.symm (l9 _ mw)
  · exact Ne.symm (l9 _ me)
  · exact key _ (.tail _ (.tail _ (.tail _ (sub _ hx x1 x2)))) x3 x1 x2
  · exact key _ (.tail _ (.tail _ (.tail _ (sub _ hd d1 d2)))) d3 d1 d2
  · exact key _ (.tail _ (.tail _ (.tail _ (sub _ hl l1 l2)))) l3 l1 l2
structure TextIn (w:World) (news:Led) (x:Addr):Prop where
  ex:∃ d l t1 t2 t3 t4 t5 tk its k,(x,instObj 262 d)∈news∧(d,vecO w t1 t2 t3 t4 t5 (Str.ofString "character") tk (.ref l) .none)∈news∧(l,listOf its k)∈news
section
variable (B:Below A₀ base outer h₀) (F:Fr h₀ L hpS m) (X:(Mine.hd.heap_1 (World.params w)).In h₀) (N:News h₀ L hpS news) (T:Top p loose mean mg mb h₀) (hk:cs.kind = .function)
include B F X N T hk
theorem finishD_ct {ip de wl gl nl:Addr} {kt:Nat→Tok} {vs:Nat→Value} {k kn:Nat} {S:Str} {ts:Tok} {v:Value} (mw:(wl,listOf #[] k)∈news) (me:(de,evO w kt vs gl wl)∈news) (hi:(ip,instObj 1355 de)∈news) (hn:(nl,listOf #[.str S ts] kn)∈news)
  (hd:dp + 8 < recursionLimit) (hu:un + 100 < cLine)
  (ret:∀ t ta h' tk' k' N2,Fr h₀ L h' m→News h₀ L h' ((t,({ cls:=.type "tuple", data:=.seq #[.str S ta,.none] 0 }:Obj))::(wl,listOf #[.ref t] k')::(de,evO w kt vs gl wl)::N2)→(∀ p∈news,p.1≠wl→p.1≠de→p∈N2)→(∀ p∈N2,p.1≠wl∧p.1≠de∧p∈news)→(∀ p∈news,p.1≠t)→Q v ⟨h',GC,DC,tk',OC⟩) :
  wpAny (model prog w) (ktrTop dp un gd cn cs L a ccd cl outer) (call (.ref 974) [.ref ip,.ref nl,v]) Q E ⟨hpS,GC,DC,tkS,OC⟩:=by
  have n1:de≠wl:=fun e=>by have q:Value.type "dict" = Value.type "list" := congrArg Obj.cls (one_obj N me mw e);simp at q
  have n2:ip≠wl:=fun e=>by cases one_obj N hi mw e
  have n3:ip≠de:=fun e=>by cases one_obj N hi me e
  have n4:nl≠wl:=fun e=>by cases one_obj N hn mw e
  have n5:nl≠de:=fun e=>by have q:Value.type "list" = Value.type "dict" := congrArg Obj.cls (one_obj N hn me e);simp at q
  have hd':∀ p:Addr×Obj,Decidable (p.1≠wl∧p.1≠de):=fun p=>Classical.propDecidable _
  have sub:∀ p∈news,p.1≠wl→p.1≠de→p∈news.filter fun p=>decide (p.1≠wl∧p.1≠de):=fun p hp x y=>List.mem_filter.mpr ⟨hp,decide_eq_true ⟨x,y⟩⟩
  have own:∀ p∈news.filter fun p=>decide (p.1≠wl∧p.1≠de),p.1≠wl∧p.1≠de∧p∈news:=fun p hp=>⟨(of_decide_eq_true (List.mem_filter.mp hp).2).1,(of_decide_eq_true (List.mem_filter.mp hp).2).2,(List.mem_filter.mp hp).1⟩
  have N':News h₀ L hpS ((wl,listOf (List.toArray []) k)::(de,evO w kt vs gl wl)::news.filter fun p=>decide (p.1≠wl∧p.1≠de)):=fun p hp=>by
    rcases List.mem_cons.mp hp with e | hp
    · exact e▸N _ mw
    rcases List.mem_cons.mp hp with e | hp
    · exact e▸N _ me
    · exact N p (List.mem_filter.mp hp).1
  refine finish_ct B F X N' T hk rfl (sub _ hi n2 n3) (sub _ hn n4 n5) n1 (fun p hp=>(own p hp).1) (fun p hp=>(own p hp).2.1) rfl hd hu fun t ta h' tk' k' F' N' l1 l2 l3=>ret _ _ _ _ _ _ F' N' sub own fun p hp=>?_
  by_cases x:p.1 = wl
  · exact x▸Nat.ne_of_lt l1
  by_cases y:p.1 = de
  · exact y▸Nat.ne_of_lt l2
  · exact Nat.ne_of_lt (l3 p (sub p hp x y))
end
end
example:True:=by
  k_with "dl call ref" => ((k_here;(with_reducible refine (?_:wpAny _ _ (PySem.call (Value.ref 974) _ _) _ _ _));k_dflt (apply finishD_ct;k_extra "@HK1"; (k_mem);(k_mem);(k_mem);(k_mem);k_extra "@HK2"; (intro t9_ ta9_ h9_ tk9_ k9_ N29_ F9_ N9_ sub9_ own9_ l9_);k_extra "@HK3")))
  trivial
section
local macro_rules (kind := PySem.W.tacticK_extra_) | s => mq "0 dl v br bq m l k t j q h g f e d c p o a" s

section
variable (B:Below A₀ base outer h₀) (F:Fr h₀ L hpS m) (X:(Mine.hd.heap_1 (World.params w)).In h₀) (N:News h₀ L hpS news) (T:Top p loose mean mg mb h₀) (hk:cs.kind = .function)
include B F X N T hk
theorem bmean_fac_ct {ip de wl gl al x:Addr} {kt:Nat→Tok} {vs:Nat→Value} {ps:Array Value} {k:Nat} {sk l e:Value} {rest:Led} (hr:news = (936,tabObj ps)::(wl,listOf #[] k)::(de,evO w kt vs gl wl)::rest) (hT:TabSt rest ps) (n:Apart3 wl de rest) (hi:(ip,instObj 1355 de)∈rest)
  (h1:ArgsIn rest al (.ref x) sk) (h2:FacIn w rest x l) (hd:dp + 20 < recursionLimit) (hu:un + 180 < cLine)
  (ret:∀ u s',Post3 w h₀ L m rest wl de gl kt vs (NaNote w) u s'→Q u s') :
  wpAny (model prog w) (ktrTop dp un gd cn cs L a ccd cl outer) (call (.ref 1012) [.ref ip,.ref al,e]) Q E ⟨hpS,GC,DC,tkS,OC⟩:=by
  subst hr
  obtain ⟨d,ad,cv,cd,cwl,lv,t1,t2,t3,t4,t5,tk,c1,c2,c3,c4,c5,ck,w1,w2,k2,ao,its,a1,a2,a3,a4,a5,a6,a7,a8,a9⟩:=h2
  have h2:FacIn w rest x l:=⟨d,ad,cv,cd,cwl,lv,t1,t2,t3,t4,t5,tk,c1,c2,c3,c4,c5,ck,w1,w2,k2,ao,its,a1,a2,a3,a4,a5,a6,a7,a8,a9⟩
  k_extra "@ENTER"
  k_steps
  exact ret _ _ (retNote (by k_asm) (by k_asm) (by assumption) (by assumption) (by assumption) (by k_asm) n hT (by k_mem) (by k_mem) (by k_mem) (by intro p h;k_mem) (by k_mem) (by k_mem) (by k_mem))
end
end
section
local macro_rules (kind := PySem.W.tacticK_extra_) | s => mq "0 dl v bq m l k t j q h g f e d c p o a" s

section
variable (B:Below A₀ base outer h₀) (F:Fr h₀ L hpS m) (X:(Mine.hd.heap_1 (World.params w)).In h₀) (N:News h₀ L hpS news) (T:Top p loose mean mg mb h₀) (hk:cs.kind = .function)
include B F X N T hk
theorem bmean_text_ct {ip de wl gl al x:Addr} {kt:Nat→Tok} {vs:Nat→Value} {ps:Array Value} {k:Nat} {sk e:Value} {rest:Led} (hr:news = (936,tabObj ps)::(wl,listOf #[] k)::(de,evO w kt vs gl wl)::rest) (hT:TabSt rest ps) (n:Apart3 wl de rest) (hi:(ip,instObj 1355 de)∈rest)
  (h1:ArgsIn rest al (.ref x) sk) (h2:TextIn w rest x) (hd:dp + 20 < recursionLimit) (hu:un + 180 < cLine)
  (ret:∀ u s',Post3 w h₀ L m rest wl de gl kt vs (NaNote w) u s'→Q u s') :
  wpAny (model prog w) (ktrTop dp un gd cn cs L a ccd cl outer) (call (.ref 1012) [.ref ip,.ref al,e]) Q E ⟨hpS,GC,DC,tkS,OC⟩:=by
  subst hr
  obtain ⟨d,l,t1,t2,t3,t4,t5,tk,its,k2,a1,a2,a3⟩:=h2
  k_extra "@ENTER"
  k_steps
  exact ret _ _ (retNote (by k_asm) (by k_asm) (by assumption) (by assumption) (by assumption) (by k_asm) n hT (by k_mem) (by k_mem) (by k_mem) (by intro p h;k_mem) (by k_mem) (by k_mem) (by k_mem))
end
end

noncomputable def Callee (w:World) (p:Program) (loose:List Str) (mean:ExcName→Option Value) (mg mb:Str→Option Value) (fn ip wl de gl:Addr) (kt:Nat→Tok) (vs:Nat→Value) (v:Value) (b:Bool) (rest0:Led) (R:Led→List Value→Value→Prop) (RE:Str→Prop):Prop :=
  ∀ (dp un:Nat) (gd:Option (List Code)) (cn:Str) (cs:Scope) (a:Addr) (ccd:Value) (cl:List (Str×Addr)) (outer:List Env) (A₀:Around) (base h₀:Heap) (L:Addr) (m:Str→Option Value) (ps:Array Value) (k:Nat) (rest:Led) (hpS:Heap) (tkS:Nat) (Q E:Value→Shared→Prop) (sk:Value) (al:Addr),
    Below A₀ base outer h₀→Fr h₀ L hpS m→(Mine.hd.heap_1 (World.params w)).In h₀→News h₀ L hpS ((936,tabObj ps)::(wl,listOf #[] k)::(de,evO w kt vs gl wl)::rest)→Top p loose mean mg mb h₀→cs.kind = .function →
    TabSt rest ps→Apart3 wl de rest→(ip,instObj 1355 de)∈rest→ArgsIn rest al v sk→SkipV w rest sk b→(∀ p∈rest0,p∈rest)→dp + 30 < recursionLimit→un + 420 < cLine →
    (∀ u s',Post3 w h₀ L m rest wl de gl kt vs R u s'→Q u s') →
    (∀ S tf e d tk h' tk',RE S→RaisedX h₀ L m base (envX cn cs L a ccd cl::outer) e d ((d,exD w tk (.str S tf))::(936,tabObj ps)::(wl,listOf #[] k)::(de,evO w kt vs gl wl)::rest) h'→E (.ref e) ⟨h',GC,DC,tk',OC⟩) →
    wpAny (model prog w) (ktrTop dp un gd cn cs L a ccd cl outer) (call (.ref fn) [.ref ip,.ref al,.ref gl]) Q E ⟨hpS,GC,DC,tkS,OC⟩
theorem memT {a b c:Addr×Obj} {A R:Led}:∀ p∈A++R,p∈A++a::b::c::R:=fun p hp=>by
  rcases List.mem_append.mp hp with h | h
  · exact List.mem_append_left _ h
  · exact List.mem_append_right _ (.tail _ (.tail _ (.tail _ h)))
structure ToldOk (w:World) (R:Led→List Value→Value→Prop) (P:Led→List Value→List Str→Prop):Prop where
  go:∀ led ws u,R led ws u→∃ its ns,ItemsV w led u its∧NotesR led ws ns∧ns.length≤6∧P led its ns
  mono:∀ led led' its ns,P led its ns→(∀ p∈led,p∈led')→P led' its ns
inductive Told (P:Led→List Value→List Str→Prop) (RE:Str→Prop) (led:Led):Value→Prop
  | ret {D l nl:Addr} {its nts:List Value} {ns:List Str} {k1 k2 k3:Nat}:(D,({ cls:=.type "tuple", data:=.seq #[.ref l,.ref nl] k1 }:Obj))∈led→(l,listOf (List.toArray its) k2)∈led→(nl,listOf (List.toArray nts) k3)∈led→All2 (fun v S=>∃ t,v = Value.str S t) nts ns→P led its ns→Told P RE led (.ref D)
  | exc {D nl:Addr} {S:Str} {t:Tok} {k1 k2:Nat}:(D,({ cls:=.type "tuple", data:=.seq #[.str S t,.ref nl] k1 }:Obj))∈led→(nl,listOf #[] k2)∈led→RE S→Told P RE led (.ref D)
noncomputable def PostT (w:World) (base h₀:Heap) (L:Addr) (m:Str→Option Value) (rest:Led) (wl de gl:Addr) (kt:Nat→Tok) (vs:Nat→Value) (P:Led→List Value→List Str→Prop) (RE:Str→Prop) (u:Value) (s':Shared):Prop :=
  ∃ h₂,Reb base h₀ h₂∧Post3 w h₂ L m rest wl de gl kt vs (fun led ws u=>ws.length≤6∧Told P RE led u) u s'
theorem Callee.go {fn ip wl de gl:Addr} {kt:Nat→Tok} {vs:Nat→Value} {v:Value} {b:Bool} {rest0:Led} {R:Led→List Value→Value→Prop} {RE:Str→Prop} (C:Callee w p loose mean mg mb fn ip wl de gl kt vs v b rest0 R RE)
    {dp un:Nat} {gd:Option (List Code)} {cn:Str} {cs:Scope} {a:Addr} {ccd:Value} {cl:List (Str×Addr)} {outer:List Env} {A₀:Around} {base h₀:Heap} {L:Addr} {m:Str→Option Value} {ps:Array Value} {k:Nat} {rest led:Led} {hpS:Heap} {tkS:Nat} {Q E:Value→Shared→Prop} {sk:Value} {al:Addr}
    (B:Below A₀ base outer h₀) (F:Fr h₀ L hpS m) (X:(Mine.hd.heap_1 (World.params w)).In h₀) (N:News h₀ L hpS led) (T:Top p loose mean mg mb h₀) (hk:cs.kind = .function) (hs:∀ p∈(936,tabObj ps)::(wl,listOf #[] k)::(de,evO w kt vs gl wl)::rest,p∈led)
    (hT:TabSt rest ps) (n:Apart3 wl de rest) (hi:(ip,instObj 1355 de)∈rest) (hA:ArgsIn rest al v sk) (hS:SkipV w rest sk b) (h0:∀ p∈rest0,p∈rest) (hd:dp + 30 < recursionLimit) (hu:un + 420 < cLine)
    {P:Led→List Value→List Str→Prop} (O:ToldOk w R P)
    (ret:∀ h' tk' add ps' ws its ns x d l t1 t2 t3 t4 t5 tv kind av k1 k2,Fr h₀ L h' m→News h₀ L h' (add++(936,tabObj ps')::(wl,listOf (List.toArray ws) k1)::(de,evO w kt vs gl wl)::rest)→(∀ p∈add++rest,p.1≠936∧p.1≠wl∧p.1≠de)→TabSt (add++rest) ps'→P (add++rest) its ns→(l,listOf (List.toArray its) k2)∈add++rest →
      (x,instObj 262 d)∈add++(936,tabObj ps')::(wl,listOf (List.toArray ws) k1)::(de,evO w kt vs gl wl)::rest→(d,vecO w t1 t2 t3 t4 t5 kind tv (.ref l) av)∈add++(936,tabObj ps')::(wl,listOf (List.toArray ws) k1)::(de,evO w kt vs gl wl)::rest→(l,listOf (List.toArray its) k2)∈add++(936,tabObj ps')::(wl,listOf (List.toArray ws) k1)::(de,evO w kt vs gl wl)::rest →
      NotesR (add++(936,tabObj ps')::(wl,listOf (List.toArray ws) k1)::(de,evO w kt vs gl wl)::rest) ws ns→ns.length≤6→ws.length≤6→Q (.ref x) ⟨h',GC,DC,tk',OC⟩)
    (retE:∀ S tf e d tk h' tk',RE S→RaisedX h₀ L m base (envX cn cs L a ccd cl::outer) e d ((d,exD w tk (.str S tf))::(936,tabObj ps)::(wl,listOf #[] k)::(de,evO w kt vs gl wl)::rest) h'→E (.ref e) ⟨h',GC,DC,tk',OC⟩) :
    wpAny (model prog w) (ktrTop dp un gd cn cs L a ccd cl outer) (call (.ref fn) [.ref ip,.ref al,.ref gl]) Q E ⟨hpS,GC,DC,tkS,OC⟩ :=
  C _ _ _ _ _ _ _ _ _ _ _ _ _ _ _ _ _ _ _ _ _ _ _ B F X (fun p hp=>N p (hs p hp)) T hk hT n hi hA hS h0 hd hu (fun u s' q=>by
    obtain ⟨h9,tk9,add9,ps9,ws9,k9,e9,F9,N9,ap9,t9,r9⟩:=q
    subst e9
    obtain ⟨its9,ns9,⟨x9,d9,l9,a9,b9,c9,f9,g9,i9,j9,v9,n9,eu9,m1,m2,m3⟩,nr9,le9,p9⟩:=O.go _ _ _ r9
    subst eu9
    exact ret _ _ _ _ _ _ _ _ _ _ _ _ _ _ _ _ _ _ _ _ F9 N9 (fun p hp=>(List.mem_append.mp hp).elim (ap9 p) (n.ap p)) t9 p9 m3 (memT _ m1) (memT _ m2) (memT _ m3) (nr9.imp fun v S ⟨t,ta,k,e,h⟩=>⟨t,ta,k,e,memT _ h⟩) le9 (nr9.length▸le9)) retE
inductive ToldMid (w:World) (g:Heap) (L:Addr) (G:Array GenState) (D:Drawn) (O:OsState) (fn ip wl de gl:Addr) (kt:Nat→Tok) (vs:Nat→Value) (ps ws:Array Value) (k:Nat) (rest:Led) (v:Value) (b:Bool) (s':Shared):Prop
  | mk (h:Heap) (tk:Nat) (m:(Str→Option Value)) (al:Addr) (sk:Value) (add:Led):s' = ⟨h,G,D,tk,O⟩→Fr g L h m→News g L h (add++(936,tabObj ps)::(wl,listOf ws k)::(de,evO w kt vs gl wl)::rest)→(∀ p∈add,p.1≠936∧p.1≠wl∧p.1≠de)→ArgsIn (add++rest) al v sk→SkipV w (add++rest) sk b→m (Str.ofString "fn") = some (.ref fn)→m (Str.ofString "interp") = some (.ref ip)→m (Str.ofString "args") = some (.ref al)→ToldMid w g L G D O fn ip wl de gl kt vs ps ws k rest v b s'
theorem cut2 {M:Model} {A:Around} {env:Env} {E:Value→Shared→Prop} {s:Shared} {s1 s2:Stmt} {rest:List Stmt} {Q:Flow→Shared→Prop} (P:Shared→Prop) (h1:∀ s',P s'→wpAny M A (execs rest env) Q E s')
    (h2:wpAny M A (exec s1 env) (fun f s'=>match f with | .next=>wpAny M A (exec s2 env) (fun f s''=>match f with | .next=>P s'' | f=>Q f s'') E s' | f=>Q f s') E s):wpAny M A (execs (s1::s2::rest) env) Q E s:=by
  refine wpAny_execs_cons (wpAny_mono h2 (fun f s' x=>?_) fun _ _ x=>x)
  cases f<;>first | exact x | skip
  exact wpAny_execs_cons (wpAny_mono x (fun f s'' y=>by cases f<;>first | exact y | exact h1 _ y) fun _ _ x=>x)
theorem cutTold {M:Model} {A:Around} {env:Env} {E:Value→Shared→Prop} {g h:Heap} {L:Addr} {m:Str→Option Value} {tk:Nat} {s1 s2:Stmt} {rs:List Stmt} {Q:Flow→Shared→Prop} (fn ip wl de gl:Addr) (kt:Nat→Tok) (vs:Nat→Value) (ps ws:Array Value) (k:Nat) (rest:Led) (v:Value) (b:Bool) (_F:Fr g L h m)
    (h1:∀ s',ToldMid w g L GC DC OC fn ip wl de gl kt vs ps ws k rest v b s'→wpAny M A (execs rs env) Q E s')
    (h2:wpAny M A (exec s1 env) (fun f s'=>match f with | .next=>wpAny M A (exec s2 env) (fun f s''=>match f with | .next=>ToldMid w g L GC DC OC fn ip wl de gl kt vs ps ws k rest v b s'' | f=>Q f s'') E s' | f=>Q f s') E ⟨h,GC,DC,tk,OC⟩):wpAny M A (execs (s1::s2::rs) env) Q E ⟨h,GC,DC,tk,OC⟩:=cut2 _ h1 h2
theorem perm3 {a b c:Addr×Obj} {add rest:Led}:∀ p∈a::b::c::(add++rest),p∈add++a::b::c::rest:=fun p hp=>by
  simp only [List.mem_cons,List.mem_append] at hp ⊢
  rcases hp with h | h | h | h | h
  · exact .inr (.inl h)
  · exact .inr (.inr (.inl h))
  · exact .inr (.inr (.inr (.inl h)))
  · exact .inl h
  · exact .inr (.inr (.inr (.inr h)))
theorem instX {h₀ h:Heap} {L e d:Addr} {oe:Obj} {tk:Tok} {v:Value} {led:Led} (N:News h₀ L h led) (he:(e,oe)∈led) (hd:(d,exD w tk v)∈led) (oc:oe.cls = .ref 117) (od:oe.dict = some d) (of:∃ vs,oe.data = .fields vs):InstAt h e oe 117 (some (exD w tk v)):=by
  obtain ⟨vs,of⟩:=of
  refine ⟨(N _ he).1,oc,?_,?_⟩
  · show notCls oe = true
    unfold notCls
    rw [of]
  · rw [od]
    exact (N _ hd).1
theorem retTold {base h₀ h₂ h:Heap} {L wl de gl D D' l:Addr} {kt:Nat→Tok} {vs:Nat→Value} {m:Str→Option Value} {rest add add9 add0:Led} {tk k k1 k2 k3:Nat} {ps:Array Value} {its nts ws:List Value} {ns:List Str} {R:Led→List Value→Value→Prop} {P:Led→List Value→List Str→Prop} {RE:Str→Prop} (r:Reb base h₀ h₂) (F:Fr h₂ L h m)
    (N:News h₂ L h ((D,({ cls:=.type "tuple", data:=.seq #[.ref l,.ref D'] k1 }:Obj))::(D',listOf (List.toArray nts) k3)::(add++(add9++(936,tabObj ps)::(wl,listOf (List.toArray ws) k)::(de,evO w kt vs gl wl)::(add0++rest))))) (n:Apart3 wl de rest) (O:ToldOk w R P) (ap:∀ p∈add9++(add0++rest),p.1≠936∧p.1≠wl∧p.1≠de) (h6:ws.length≤6) (ht:TabSt (add9++(add0++rest)) ps) (hl:(l,listOf (List.toArray its) k2)∈add9++(add0++rest)) (hP:P (add9++(add0++rest)) its ns) (hn:All2 (fun v S=>∃ t,v = Value.str S t) nts ns)
    (e1:AllLt D ((D',listOf (List.toArray nts) k3)::(add++(add9++(936,tabObj ps)::(wl,listOf (List.toArray ws) k)::(de,evO w kt vs gl wl)::(add0++rest))))) (e2:LCg.Off1 D' (add++(add9++(936,tabObj ps)::(wl,listOf (List.toArray ws) k)::(de,evO w kt vs gl wl)::(add0++rest)))):PostT w base h₀ L m rest wl de gl kt vs P RE (.ref D) ⟨h,GC,DC,tk,OC⟩:=by
  have d1:∀ p∈(D',listOf (List.toArray nts) k3)::(add++(add9++(936,tabObj ps)::(wl,listOf (List.toArray ws) k)::(de,evO w kt vs gl wl)::(add0++rest))),p.1≠D:=fun p hp=>Nat.ne_of_lt (kst_ltOf e1 p hp)
  have d2:∀ p∈add9++(936,tabObj ps)::(wl,listOf (List.toArray ws) k)::(de,evO w kt vs gl wl)::(add0++rest),p.1≠D':=fun p hp=>off1_mem e2 p (List.mem_append_right _ hp)
  clear e1 e2
  have b1:(936,tabObj ps)∈add9++(936,tabObj ps)::(wl,listOf (List.toArray ws) k)::(de,evO w kt vs gl wl)::(add0++rest):=List.mem_append_right _ (.head _)
  have b2:(wl,listOf (List.toArray ws) k)∈add9++(936,tabObj ps)::(wl,listOf (List.toArray ws) k)::(de,evO w kt vs gl wl)::(add0++rest):=List.mem_append_right _ (.tail _ (.head _))
  have b3:(de,evO w kt vs gl wl)∈add9++(936,tabObj ps)::(wl,listOf (List.toArray ws) k)::(de,evO w kt vs gl wl)::(add0++rest):=List.mem_append_right _ (.tail _ (.tail _ (.head _)))
  have up:∀ p∈add9++(936,tabObj ps)::(wl,listOf (List.toArray ws) k)::(de,evO w kt vs gl wl)::(add0++rest),p∈(D,({ cls:=.type "tuple", data:=.seq #[.ref l,.ref D'] k1 }:Obj))::(D',listOf (List.toArray nts) k3)::(add++(add9++(936,tabObj ps)::(wl,listOf (List.toArray ws) k)::(de,evO w kt vs gl wl)::(add0++rest))):=fun p hp=>.tail _ (.tail _ (List.mem_append_right _ hp))
  have up1:∀ p∈add9++(936,tabObj ps)::(wl,listOf (List.toArray ws) k)::(de,evO w kt vs gl wl)::(add0++rest),p.1≠D:=fun p hp=>d1 p (.tail _ (List.mem_append_right _ hp))
  have hd:∀ p:Addr×Obj,Decidable (p.1≠936∧p.1≠wl∧p.1≠de):=fun p=>Classical.propDecidable _
  have tab:∀ A:Led,(∀ p∈add9++(add0++rest),p∈A)→TabSt A ps:=fun A h=>ht.mono h
  obtain ⟨h',tk',A,e1,e2,e3,e4,e5⟩:∃ h' tk' A,(⟨h,GC,DC,tk,OC⟩:Shared) = ⟨h',GC,DC,tk',OC⟩∧Fr h₂ L h' m∧News h₂ L h' (A++(936,tabObj ps)::(wl,listOf (List.toArray ws) k)::(de,evO w kt vs gl wl)::rest)∧(∀ p∈A,p.1≠936∧p.1≠wl∧p.1≠de)∧∀ p∈(D,({ cls:=.type "tuple", data:=.seq #[.ref l,.ref D'] k1 }:Obj))::(D',listOf (List.toArray nts) k3)::(add++(add9++(936,tabObj ps)::(wl,listOf (List.toArray ws) k)::(de,evO w kt vs gl wl)::(add0++rest))),p.1≠936→p.1≠wl→p.1≠de→p∈A++rest:=by
    refine ⟨h,tk,((D,({ cls:=.type "tuple", data:=.seq #[.ref l,.ref D'] k1 }:Obj))::(D',listOf (List.toArray nts) k3)::(add++(add9++(936,tabObj ps)::(wl,listOf (List.toArray ws) k)::(de,evO w kt vs gl wl)::(add0++rest)))).filter fun p=>decide (p.1≠936∧p.1≠wl∧p.1≠de),rfl,F,fun p hp=>?_,fun p hp=>of_decide_eq_true (List.mem_filter.mp hp).2,fun p hp a b c=>List.mem_append_left _ (List.mem_filter.mpr ⟨hp,decide_eq_true ⟨a,b,c⟩⟩)⟩
    rcases List.mem_append.mp hp with hp | hp
    · exact N p (List.mem_filter.mp hp).1
    rcases List.mem_cons.mp hp with e | hp
    · exact e▸N _ (up _ b1)
    rcases List.mem_cons.mp hp with e | hp
    · exact e▸N _ (up _ b2)
    rcases List.mem_cons.mp hp with e | hp
    · exact e▸N _ (up _ b3)
    · exact N p (up p (List.mem_append_right _ (.tail _ (.tail _ (.tail _ (List.mem_append_right _ hp))))))
  have sub:∀ p∈add9++(add0++rest),p∈A++rest:=fun p hp=>e5 p (up p (memT p hp)) (ap p hp).1 (ap p hp).2.1 (ap p hp).2.2
  have up2:∀ p∈add9++(936,tabObj ps)::(wl,listOf (List.toArray ws) k)::(de,evO w kt vs gl wl)::(add0++rest),p.1≠D':=d2
  exact ⟨h₂,r,h',tk',A,ps,ws,k,e1,e2,e3,e4,tab _ sub,h6,.ret (e5 _ (.head _) (Ne.symm (up1 _ b1)) (Ne.symm (up1 _ b2)) (Ne.symm (up1 _ b3))) (sub _ hl) (e5 _ (.tail _ (.head _)) (Ne.symm (up2 _ b1)) (Ne.symm (up2 _ b2)) (Ne.symm (up2 _ b3))) hn (O.mono _ _ _ _ hP sub)⟩
theorem retToldE {base h₀ h₂ h:Heap} {L wl de gl D D':Addr} {kt:Nat→Tok} {vs:Nat→Value} {m:Str→Option Value} {rest Z:Led} {tk k k1 k3:Nat} {ps:Array Value} {S:Str} {tf:Tok} {P:Led→List Value→List Str→Prop} {RE:Str→Prop} (r:Reb base h₀ h₂) (F:Fr h₂ L h m)
    (N:News h₂ L h ((D,({ cls:=.type "tuple", data:=.seq #[.str S tf,.ref D'] k1 }:Obj))::(D',listOf #[] k3)::Z)) (n:Apart3 wl de rest) (ht:TabSt rest ps) (b1:(936,tabObj ps)∈Z) (b2:(wl,listOf #[] k)∈Z) (b3:(de,evO w kt vs gl wl)∈Z) (hr:∀ p∈rest,p∈Z) (re:RE S)
    (e1:AllLt D ((D',listOf #[] k3)::Z)) (e2:AllLt D' Z):PostT w base h₀ L m rest wl de gl kt vs P RE (.ref D) ⟨h,GC,DC,tk,OC⟩ :=
  have d1:∀ p∈(D',listOf #[] k3)::Z,p.1≠D:=fun p hp=>Nat.ne_of_lt (kst_ltOf e1 p hp)
  have d2:∀ p∈Z,p.1≠D':=fun p hp=>Nat.ne_of_lt (kst_ltOf e2 p hp)
  ⟨h₂,r,retS (ws:=[]) F N n (.tail _ (.tail _ b1)) (.tail _ (.tail _ b2)) (.tail _ (.tail _ b3)) (fun p hp=>.tail _ (.tail _ (hr p hp))) ht fun A key =>
    ⟨Nat.zero_le _,.exc (key _ (.head _) (Ne.symm (d1 _ (.tail _ b1))) (Ne.symm (d1 _ (.tail _ b2))) (Ne.symm (d1 _ (.tail _ b3)))) (key _ (.tail _ (.head _)) (Ne.symm (d2 _ b1)) (Ne.symm (d2 _ b2)) (Ne.symm (d2 _ b3))) re⟩⟩
theorem midTold {g h:Heap} {L wl de gl ip fn:Addr} {m:Str→Option Value} {tk k:Nat} {kt:Nat→Tok} {vs:Nat→Value} {ps ws:Array Value} {rest add:Led} {v sk:Value} {al:Addr} {b:Bool} (F:Fr g L h m) (N:News g L h (add++(936,tabObj ps)::(wl,listOf ws k)::(de,evO w kt vs gl wl)::rest))
    (ap:∀ p∈add,∀ q∈(936,tabObj ps)::(wl,listOf ws k)::(de,evO w kt vs gl wl)::rest,q.1≠p.1) (hA:ArgsIn (add++rest) al v sk) (hS:SkipV w (add++rest) sk b) (e1:m (Str.ofString "fn") = some (.ref fn)) (e2:m (Str.ofString "interp") = some (.ref ip)) (e3:m (Str.ofString "args") = some (.ref al)) :
    ToldMid w g L GC DC OC fn ip wl de gl kt vs ps ws k rest v b ⟨h,GC,DC,tk,OC⟩ :=
  ⟨h,tk,m,al,sk,add,rfl,F,N,fun p hp=>⟨Ne.symm (ap p hp _ (.head _)),Ne.symm (ap p hp _ (.tail _ (.head _))),Ne.symm (ap p hp _ (.tail _ (.tail _ (.head _))))⟩,hA,hS,e1,e2,e3⟩
theorem apA {add base:Led} (h:∀ p∈add,AllLt p.1 base):∀ p∈add,∀ q∈base,q.1≠p.1:=fun p hp q hq=>Nat.ne_of_lt (kst_ltOf (h p hp) q hq)
theorem allLt_up {d x:Addr}:∀ {base:Led},@LT.lt Nat _ d x→AllLt d base→AllLt x base
  | [],_,_=>trivial
  | _::_,l,h=>⟨Nat.lt_trans h.1 l,allLt_up l h.2⟩
section
variable {A:Around} {E:Value→Shared→Prop} {hpS:Heap} {tkS:Nat}
theorem setItem_clear {l sl v:Addr} {items:Array Value} {Q:Unit→Shared→Prop} (hl:hpS.IsList l items) (hs:hpS.IsSliceOf sl .none .none .none) (hv:hpS.IsList v #[]) (ne:l≠v) (hsz:items.size≤sizeLine)
    (hQ:∀ f,f items = #[]→Q () ⟨hpS.update l (Obj.mapSeq f),GC,DC,tkS,OC⟩):wpAny (model prog w) A (setItem (.ref l) (.ref sl) (.ref v)) Q E ⟨hpS,GC,DC,tkS,OC⟩:=by
  obtain ⟨o,ho,hc,ne',hd⟩:=id hl
  obtain ⟨os,hos,hcs,hds⟩:=id hs
  obtain ⟨ov,hov,hcv,nv,hdv⟩:=id hv
  have hTs:(⟨hpS,GC,DC,tkS,OC⟩:Shared).TypeIs (.ref sl) "slice" := ⟨os,hos,hcs⟩
  unfold setItem
  refine wpAny_holding ?_
  refine wpAny_bind (wpAny_sequenceKey hl.typeIs (by decide) ?_)
  refine wpAny_bind (wpAny_callSpecial?_slot (name:=Str.ofString "__setitem__") hl.typeIs slot_list_setitem
    (wpAny_call_entry slot_list_setitem hl.typeIs entry_list_setitem ?_ (args_list_setitem _ _ _)))
  show wpAny _ _ (Builtin.List.listSubscript? (.ref sl) >>= _) _ _ ⟨hpS,GC,DC,tkS,OC⟩
  refine wpAny_bind ?_
  unfold Builtin.List.listSubscript?
  refine wpAny_bind (wpAny_specialOf hTs slice_no_index ?_)
  refine wpAny_pure ?_
  show wpAny _ _ (typeOf (.ref sl) >>= _) _ _ ⟨hpS,GC,DC,tkS,OC⟩
  refine wpAny_bind (wpAny_typeOf hTs ?_)
  rw [if_neg (by decide)]
  rw [listSliceParts_eq]
  refine wpAny_bind (wpAny_bind (wpAny_field hos hds (x:=.none) rfl (wpAny_bind (wpAny_listPart (k:=none) .none ?_))))
  rw [if_neg (show ¬ ((rawPart none == rawInt 0) = true) from Bool.false_ne_true)]
  refine wpAny_bind (wpAny_field hos hds (x:=.none) rfl (wpAny_bind (wpAny_listPart (k:=none) .none ?_)))
  refine wpAny_bind (wpAny_field hos hds (x:=.none) rfl (wpAny_bind (wpAny_listPart (k:=none) .none (wpAny_pure ?_))))
  have same:Builtin.List.listSameRef (.ref l) (.ref v) = false:=by
    show (l == v) = false
    exact beq_false_of_ne ne
  dsimp only
  rw [same]
  rw [if_neg Bool.false_ne_true]
  unfold Builtin.List.listAllItems
  refine wpAny_bind (wpAny_bind (wpAny_typeOf hv.typeIs ?_))
  rw [if_pos (by decide)]
  unfold Builtin.List.listItems
  refine wpAny_bind (wpAny_seqItems hov hdv (wpAny_pure ?_))
  refine wpAny_bind (wpAny_bind (wpAny_seqItems ho hd (wpAny_pure ?_)))
  refine wpAny_bind (wpAny_of_eq (sliceIndices_raw none none none items.size (by decide)) ?_)
  rw [if_pos (by rfl)]
  refine wpAny_bind (wpAny_rule ?_)
  rw [if_neg (by show ¬ (decide (items.size + 0 > sizeLine) = true);simp;exact hsz)]
  have e1:items.extract 0 (Int.toNat 0)++#[]++items.extract (Int.toNat (max 0 (items.size:Int))) items.size = #[]:=by simp
  refine wpAny_bind (m:=Builtin.List.listUpdate (.ref l) _) ?_
  unfold Builtin.List.listUpdate
  refine wpAny_updateSeq ho hd ?_ hsz (by show (items.extract 0 (Int.toNat 0)++#[]++items.extract (Int.toNat (max 0 (items.size:Int))) items.size).size≤_;rw [e1];simp)
  refine wpAny_bind (wpAny_letGo ?_)
  exact wpAny_pure ⟨.none,rfl,wpAny_pure (hQ _ e1)⟩
variable {h₀:Heap} {L:Addr} {m:Str→Option Value} {news:Led}
theorem clear_N {h:Heap} {tk:Nat} {l v:Addr} {items:Array Value} {k kv:Nat} {u:Obj→Led} {Q:Unit→Shared→Prop} (F:Fr h₀ L h m) (N:News h₀ L h news) (U:UpdF l (listOf items k) news u) (hv:(v,listOf #[] kv)∈news) (ne:l≠v) (hsz:items.size≤sizeLine)
    (hQ:∀ h' k',Fr h₀ L h' m→News h₀ L h' (u (listOf #[] k'))→Q () ⟨h',GC,DC,tk,OC⟩):wpAny (model prog w) A (setItem (.ref l) (.ref h.objs.size) (.ref v)) Q E ⟨h.push { cls:=.type "slice", data:=.fields #[.none,.none,.none] },GC,DC,tk,OC⟩:=by
  obtain ⟨pre,post,e1,e2,p1,p2⟩:=U.split
  subst e1
  have hl:=N (l,listOf items k) (by simp)
  have up:∀ b o,h.get? b = some o→(h.push { cls:=.type "slice", data:=.fields #[.none,.none,.none] }).get? b = some o:=fun b o e=>Heap.get?_push_of_some _ e
  refine setItem_clear (l:=l) (v:=v) (items:=items) ⟨_,up _ _ hl.1,rfl,k,rfl⟩ (Heap.IsSliceOf.new ..) ⟨_,up _ _ (N _ hv).1,rfl,kv,rfl⟩ ne hsz fun f hf=>?_
  have hp:=up _ _ hl.1
  have hu:((h.push { cls:=.type "slice", data:=.fields #[.none,.none,.none] }).update l (Obj.mapSeq f)).get? l = some (listOf (f items) (match (Obj.mapSeq f (listOf items k)).data with | .seq _ n=>n | _=>0)):=Heap.get?_update_self _ hp rfl
  rw [hf] at hu
  have hs:Heap.SameBut l (h.push { cls:=.type "slice", data:=.fields #[.none,.none,.none] }) ((h.push { cls:=.type "slice", data:=.fields #[.none,.none,.none] }).update l (Obj.mapSeq f)):=Heap.SameBut.update ..
  have F1:Fr h₀ L (h.push { cls:=.type "slice", data:=.fields #[.none,.none,.none] }) m:=F.keeps up
  have N1:News h₀ L (h.push { cls:=.type "slice", data:=.fields #[.none,.none,.none] }) (pre++(l,listOf items k)::post):=fun p hp=>⟨up _ _ (N p hp).1,(N p hp).2⟩
  exact hQ _ _ (F1.change hs hl.2.1 hl.2.2) (e2 _▸N1.setAt p1 p2 hs hu)
theorem clear_told {h:Heap} {tk:Nat} {wl de gl v:Addr} {kt:Nat→Tok} {vs:Nat→Value} {ps ws:Array Value} {k kv:Nat} {add rest:Led} {Q:Unit→Shared→Prop} (F:Fr h₀ L h m) (N:News h₀ L h ((v,listOf #[] kv)::(add++(936,tabObj ps)::(wl,listOf ws k)::(de,evO w kt vs gl wl)::rest)))
    (l1:∀ p∈add++(936,tabObj ps)::(wl,listOf ws k)::(de,evO w kt vs gl wl)::rest,@LT.lt Nat _ p.1 v) (n:Apart3 wl de (add++rest)) (h6:ws.size≤6)
    (hQ:∀ h' k',Fr h₀ L h' m→News h₀ L h' ((v,listOf #[] kv)::(add++(936,tabObj ps)::(wl,listOf #[] k')::(de,evO w kt vs gl wl)::rest))→Q () ⟨h',GC,DC,tk,OC⟩):wpAny (model prog w) A (setItem (.ref wl) (.ref h.objs.size) (.ref v)) Q E ⟨h.push { cls:=.type "slice", data:=.fields #[.none,.none,.none] },GC,DC,tk,OC⟩:=by
  have lv:@LT.lt Nat _ wl v:=l1 (wl,listOf ws k) (List.mem_append_right _ (.tail _ (.head _)))
  refine clear_N F N (.tail (Ne.symm (Nat.ne_of_lt lv)) (updF_app (fun p hp=>(n.ap p (List.mem_append_left _ hp)).2.1) (.tail (Ne.symm n.n2) (.head fun p hp=>?_)))) (.head _) (Nat.ne_of_lt lv) (by rw [sizeLine_eq];(first | lia | omega)) hQ
  rcases List.mem_cons.mp hp with rfl | hp
  · exact n.n1
  · exact (n.ap p (List.mem_append_right _ hp)).2.1
end
example:True:=by
  k_with "dm ENTERR" => ((refine wpAny_call ?_;k_dflt (refine' code_defR ?k1__ ?k2__ ?k3__ ?k4__ ?k5__ ?kA__ ?kF__ ?kK__ ?k6__ ?k7__ ?k8__ ?k9__ ?kB__ ?_ ?c2__ ?c3__ ?c4__ ?c5__;(case kA__=>eq_refl);(case kF__=>eq_refl);(case kK__=>first | with_reducible assumption | assumption);(case k1__=>k_asm);(case k2__=>k_asm);(case k3__=>k_asm);(case k4__=>k_asm);(case k5__=>k_asm);(case k6__=>k_is);(case k7__=>k_is);(case k8__=>ktr_room);(case k9__=>first | exact BindsTo.of_eq rfl | exact binds_K (by k_in) rfl (by k_is) rfl rfl rfl);(case c5__=>decide);(case kB__=>exact locs rfl);(case c2__=>eq_refl);(case c3__=>eq_refl);(case c4__=>eq_refl);k_whole;intro g'_ L'_ h'_ FG'_ F'_ N'_ B'_ X'_ T'_;(try dsimp only);(try k_fold);refine let_body F'_ ?_;clear F'_;intro mL_ eL_ AL_ QL_ EL_ F9_)))
  k_with "dn call ref" => ((k_here;(with_reducible refine (?_:wpAny _ _ (PySem.call (Value.ref _) [Value.ref _,Value.ref _,Value.ref _] _) _ _ _));k_dflt (refine Callee.go (by assumption) (by k_asm) (by k_asm) (by k_asm) (by k_asm) (by k_asm) (by first | exact rfl | assumption) (fun p hp=>List.Mem.tail _ (perm3 p hp)) (by assumption) (by assumption) (by assumption) (by assumption) (by assumption) (by assumption) (by ktr_room) (by ktr_units) (by assumption) ?_ ?_;rotate_left;(intro S9_ tf9_ e9_ d9_ tk9_ h9_ tk9'_ re9_ rx9_;k_extra "@HK3");rotate_left;(intro h9_ tk9_ add9_ ps9_ ws9_ its9_ ns9_ x9_ d9_ l9_ a9_ b9_ c9_ f9_ g9_ i9_ j9_ v9_ n9_ o9_ F9_ N9_ ap9_ t9_ r9_ m1_ m2_ m3_ nr9_ le9_;k_extra "@HK3"))))
  k_with "dn setItem ref ref" => ((k_here;k_dflt (refine clear_told (by k_asm) (by k_asm) (by assumption) (by assumption) (by assumption) ?_;intro h9_ k9_ F9_ N9_)))
  k_with "dn setItem" => ((k_here;k_dflt (refine clear_told (by k_asm) (by k_asm) (by assumption) (by assumption) (by assumption) ?_;intro h9_ k9_ F9_ N9_)))
  k_with "dn eval Name" => ((k_here;(with_reducible refine (?_:wpAny _ _ (eval (Expr.Name _ _) (envOf _ _ _ _ _)) _ _ _));k_dflt (refine' nameX_L ?F__ ?v__ ?_ ?a__ ?b__;(case F__=>k_asm);(case a__=>eq_refl);(case b__=>eq_refl);(case v__=>first | rfl | assumption);k_whole)))
  k_with "dn callWith ref" => ((k_here;k_dflt (refine' callWith_K ?k1__ ?k2__ ?_;(case k1__=>k_asm);(case k2__=>first | with_reducible assumption | assumption);k_whole)))
  k_with "dn eval ListComp" => ((k_here;k_dflt (refine LCg.ListComp_U (F₀:=by k_asm) (by rfl) (by decide) (by rfl) (by decide) (by rfl) ?_)))
  k_with "dn CompSrc" => ((k_here;k_dflt (refine' comp_src (Ro:=fun _ v (S:Str)=>∃ t,v = Value.str S t) id ?hh__ ?F__ ?N__ ?hs__ ?hm__ ?hR__ ?h6__ (fun _ _ _ _ _ r=>r) ?_ ?_;(case N__=>k_asm);(case hs__=>exact fun _ h=>h);(case hm__=>k_mem);(case hR__=>first | with_reducible assumption | assumption);(case h6__=>first | with_reducible assumption | assumption);(case hh__=>eq_refl);(case F__=>k_asm))))
  k_with "dn noteFrame ref" => ((k_here;k_dflt (refine caught_X (by assumption) (by assumption) (by assumption) (by assumption) ?_;intro h29_ h9_ oe9_ tk9_ rb9_ F9_ N9_ oc9_ od9_ of9_;have x9_:=Frag.In.keeps (by assumption) (Reb.stays rb9_);have t9_:=Top.keeps (by assumption) (Reb.stays rb9_);have b9_:=Reb.below rb9_ (by assumption);k_extra "@HK3")))
  k_with "dn getAttr ref" => ((k_here;(with_reducible refine (?_:wpAny _ _ (getAttr (Value.ref _) (Str.ofString "message") _) _ _ _));k_dflt (refine' get_X ?xx__ ?xi__ ?xh__ ?_;(case xx__=>exact inX (by k_asm) (by k_asm));(case xi__=>(refine' instX ?iN__ (List.Mem.head _) (List.Mem.tail _ (List.Mem.head _)) ?ic__ ?id__ ?if9__;(case iN__=>k_asm);all_goals assumption));(case xh__=>eq_refl))))
  k_with "dn bind" => ((k_here;k_dflt (refine' name_goes_keeps ?bF__ ?bN__ ?_ ?bk__ ?bl__;(case bF__=>k_asm);(case bN__=>k_asm);(case bk__=>eq_refl);(case bl__=>eq_refl);intro h9_ tk9_ F9_ N9_)))
  k_with "dn LT3" => (first | assumption | exact And.right (by assumption) | exact And.right (And.right (by assumption)) | exact And.right (And.right (And.right (by assumption))) | exact And.right (And.right (And.right (And.right (by assumption)))) | exact And.right (And.right (And.right (And.right (And.right (by assumption))))))
  trivial
section
local macro_rules (kind := PySem.W.tacticK_extra_) | s => mq "0 dn v dm m l k t j q h g f e d c bf o a" s

section
variable (B:Below A₀ base outer h₀) (F:Fr h₀ L hpS m) (X:(Mine.hd.heap_1 (World.params w)).In h₀) (N:News h₀ L hpS news) (T:Top p loose mean mg mb h₀) (hk:cs.kind = .function)
include B F X N T hk
theorem told_ct {fn ip wl de gl:Addr} {kt:Nat→Tok} {vs:Nat→Value} {v:Value} {b:Bool} {R:Led→List Value→Value→Prop} {P:Led→List Value→List Str→Prop} {RE:Str→Prop} {ps ws:Array Value} {k:Nat} {rest rest0:Led} (C:Callee w p loose mean mg mb fn ip wl de gl kt vs v b rest0 R RE) (OK:ToldOk w R P) (hfn:keepIn (Mine.hd.heap_1 (World.params w)) (.ref fn) = true) (hr:news = (936,tabObj ps)::(wl,listOf ws k)::(de,evO w kt vs gl wl)::rest) (hT:TabSt rest ps) (n:Apart3 wl de rest) (hi:(ip,instObj 1355 de)∈rest) (h0:∀ p∈rest0,p∈rest) (h6:ws.size≤6)
  (XB:(Mine.hd.heap_1 (World.params w)).In base) (TB:Top p loose mean mg mb base) (hd:dp + 32 < recursionLimit) (hu:un + 440 < cLine)
  (ret:∀ u s',PostT w base h₀ L m rest wl de gl kt vs P RE u s'→Q u s') :
  wpAny (model prog w) (ktrTop dp un gd cn cs L a ccd cl outer) (call (.ref 1385) [.ref fn,.ref ip,v,.bool b]) Q E ⟨hpS,GC,DC,tkS,OC⟩:=by
  subst hr
  k_extra "@ENTERR"
  k_dflt (refine cutTold fn ip wl de gl kt vs ps ws k rest v b (by k_asm) ?_ ?_)
  · rintro _ ⟨h,tk,m2,al,sk,add,rfl,F2,N2,ap,hA,hS,e1,e2,e3⟩
    have n2:Apart3 wl de (add++rest):=⟨n.n1,n.n2,n.n3,fun p hp=>(List.mem_append.mp hp).elim (ap p) (n.ap p)⟩
    have hT2:TabSt (add++rest) ps:=hT.mono fun p hp=>List.mem_append_right _ hp
    have hi2:(ip,instObj 1355 de)∈add++rest:=List.mem_append_right _ hi
    have h02:∀ p∈rest0,p∈add++rest:=fun p hp=>List.mem_append_right _ (h0 p hp)
    k_steps
    · constructor
      intro v y news' I oI C oC D ys m₂ s' E' hv hs hC hx F1 N1 hst
      obtain ⟨g,tk,rfl⟩:=hst
      obtain ⟨t,ta,k9,rfl,ht⟩:=hv
      replace ht:=hs _ ht
      k_steps
      exact ⟨_,_,[],rfl,by k_asm,by k_asm,apart0,_,rfl⟩
    · constructor
      intro g ys add1 hap hy
      rw [List.map_id] at hy
      k_steps
      exact ⟨_,_,_,_,Reb.refl (by assumption),by k_asm,by k_asm,fun h₂ r F N=>ret _ _ (retTold r F N n OK (by assumption) (by assumption) (by assumption) (by assumption) (by assumption) hy (by assumption) (by assumption))⟩
    · exact ⟨_,_,_,_,by assumption,by k_asm,by k_asm,fun h₂ r F N=>ret _ _ (retToldE r F N n hT (by k_mem) (by k_mem) (by k_mem) (by intro p h;k_mem) (by assumption) (by assumption) (by assumption))⟩
  · cases b with
    | false =>
      k_steps
      exact midTold (add:=[_,_]) (by k_asm) (by k_asm) (apA (List.forall_mem_cons.mpr ⟨by k_extra "@LT3", List.forall_mem_cons.mpr ⟨by k_extra "@LT3", List.forall_mem_nil _⟩⟩)) (.one (.head _) (.tail _ (.head _))) .no rfl rfl rfl
    | true =>
      k_steps
      exact midTold (add:=[_,_,_,_,_,_]) (by k_asm) (by k_asm) (apA (List.forall_mem_cons.mpr ⟨by k_extra "@LT3", List.forall_mem_cons.mpr ⟨allLt_up (by assumption) (by k_extra "@LT3"),List.forall_mem_cons.mpr ⟨by k_extra "@LT3", List.forall_mem_cons.mpr ⟨by k_extra "@LT3", List.forall_mem_cons.mpr ⟨by k_extra "@LT3", List.forall_mem_cons.mpr ⟨by k_extra "@LT3", List.forall_mem_nil _⟩⟩⟩⟩⟩⟩)) (.two (by k_mem) (by k_mem) (by k_mem)) (.yes (by k_mem) (by k_mem) (by k_mem)) rfl rfl rfl
end
end
noncomputable def RV (R1:Led→Value→Prop) (led:Led) (ws:List Value) (u:Value):Prop:=ws = []∧R1 led u
section
variable {hpS:Heap} {tkS:Nat} {h₀:Heap} {L wl de gl:Addr} {kt:Nat→Tok} {vs:Nat→Value} {m:Str→Option Value} {rest:Led} {k:Nat} {ps:Array Value} {u:Value} {s':Shared}
theorem postRet {R0 R1:Led→Value→Prop} (q:Ret h₀ L m ((936,tabObj ps)::(wl,listOf #[] k)::(de,evO w kt vs gl wl)::rest) R0 u s') (hT:TabSt rest ps) (r:∀ add,R0 add u→R1 (add++rest) u):Post3 w h₀ L m rest wl de gl kt vs (RV R1) u s':=by
  obtain ⟨h',tk',add,e,F,N,ap,q⟩:=q
  exact ⟨h',tk',add,ps,[],k,e,F,N,fun p hp=>⟨Ne.symm (ap p hp _ (.head _)),Ne.symm (ap p hp _ (.tail _ (.head _))),Ne.symm (ap p hp _ (.tail _ (.tail _ (.head _))))⟩,hT.mono fun p hp=>List.mem_append_right _ hp,rfl,r _ q⟩
theorem postRetT {R0 R1:Led→Value→Prop} (q:RetT h₀ L m ((wl,listOf #[] k)::(de,evO w kt vs gl wl)::rest) R0 u s') (r:∀ add,R0 add u→R1 (add++rest) u):Post3 w h₀ L m rest wl de gl kt vs (RV R1) u s':=by
  obtain ⟨h',tk',add,ps',e,F,N,ap,hT,q⟩:=q
  refine ⟨h',tk',add,ps',[],k,e,F,N,fun p hp=>⟨(ap p hp).1,Ne.symm ((ap p hp).2 _ (.head _)),Ne.symm ((ap p hp).2 _ (.tail _ (.head _)))⟩,?_,rfl,r _ q⟩
  rcases hT with e | ⟨c',oc,fs,t,e,hc,hf,hv⟩
  · exact .inl e
  · refine .inr ⟨c',oc,fs,t,e,?_,hf,hv⟩
    rcases List.mem_append.mp hc with hc | hc
    · exact List.mem_append_left _ hc
    rcases List.mem_cons.mp hc with e | hc
    · cases e;cases hf
    rcases List.mem_cons.mp hc with e | hc
    · cases e;cases hf
    · exact List.mem_append_right _ hc
end
theorem ap936 {wl de gl:Addr} {kt:Nat→Tok} {vs:Nat→Value} {rest:Led} {k:Nat} (n:Apart3 wl de rest):∀ p∈(wl,listOf #[] k)::(de,evO w kt vs gl wl)::rest,p.1≠936:=fun p hp=>by
  rcases List.mem_cons.mp hp with rfl | hp
  · exact n.n2
  rcases List.mem_cons.mp hp with rfl | hp
  · exact n.n3
  · exact (n.ap p hp).1
theorem mem3 {a b c:Addr×Obj} {rest:Led}:∀ p∈rest,p∈a::b::c::rest:=fun _ hp=>.tail _ (.tail _ (.tail _ hp))
theorem qntDrop {zs:List Int} {wl de gl:Addr} {kt:Nat→Tok} {vs:Nat→Value} {add rest:Led} {k:Nat} {u:Value} (h:QntV w zs (add++(wl,listOf #[] k)::(de,evO w kt vs gl wl)::rest) u):QntV w zs (add++rest) u:=by
  have drop:∀ (y:Addr) (o:Obj),(y,o)∈add++(wl,listOf #[] k)::(de,evO w kt vs gl wl)::rest→o≠listOf #[] k→o≠evO w kt vs gl wl→(y,o)∈add++rest:=fun y o hp a b=>by
    rcases List.mem_append.mp hp with hp | hp
    · exact List.mem_append_left _ hp
    rcases List.mem_cons.mp hp with e | hp
    · exact absurd (congrArg Prod.snd e) a
    rcases List.mem_cons.mp hp with e | hp
    · exact absurd (congrArg Prod.snd e) b
    · exact List.mem_append_right _ hp
  obtain ⟨x,d,l,t1,t2,t3,t4,t5,tk,av,out,k2,e,a,b,c,r⟩:=h
  have hl:out.length = 5:=r.length
  refine ⟨x,d,l,t1,t2,t3,t4,t5,tk,av,out,k2,e,drop _ _ a (fun q=>by cases q) (fun q=>by cases q),drop _ _ b (fun q=>?_) (fun q=>?_),drop _ _ c (fun q=>?_) (fun q=>?_),r.imp fun v x q=>q.keep fun y o hy ho=>drop _ _ hy (fun q=>?_) fun q=>?_⟩
  · have:=congrArg Obj.cls q;simp at this
  · have q:(5:Nat) = 19:=congrArg (fun o:Obj=>match o.data with | .dict _ n=>n | _=>0) q
    (first | lia | omega)
  · have q:out.length = 0:=congrArg (fun o:Obj=>match o.data with | .seq a _=>a.size | _=>0) q
    (first | lia | omega)
  · have:=congrArg Obj.cls q;simp at this
  · subst q;simp at ho
  · subst q;simp at ho
noncomputable abbrev noR (_:Led) (_:List Value) (_:Value):Prop:=False
theorem okNo:ToldOk w noR (fun _ _ _=>False):=⟨fun _ _ _ h=>h.elim,fun _ _ _ _ h _=>h⟩
section
variable {ip wl de gl:Addr} {kt:Nat→Tok} {vs:Nat→Value} {v:Value} {b:Bool} {rest0:Led}
theorem cMean {xs:List (Option Int)} (h:VecI w rest0 xs v) (h5:xs.length≤6) (h6:Small xs):Callee w p loose mean mg mb 1012 ip wl de gl kt vs v b rest0 (RV (ResV w "double" fun led v=>meanV led v (kept b xs))) (fun _=>False):=by
  intro dp un gd cn cs a ccd cl outer A₀ base h₀ L m ps k rest hpS tkS Q E sk al B F X N T hk hT n hi hA hS h0 hd hu ret _
  exact mean_plain_ct B F X N T hk (hA.mono mem3) (hS.mono mem3) ((h.mono h0).mono mem3) h5 h6 (by (first | lia | omega)) (by (first | lia | omega)) fun u s' q=>ret _ _ (postRet q hT fun add r=>r.mono (fun p hp=>List.mem_append_left _ hp) fun v r=>r.mono fun p hp=>List.mem_append_left _ hp)
theorem cMed {xs:List (Option Int)} (h:VecI w rest0 xs v) (h5:xs.length≤6) (h6:∀ z,some z∈xs→1≤z∧z≤3):Callee w p loose mean mg mb 1019 ip wl de gl kt vs v b rest0 (RV (MedV w (kept b xs))) (fun _=>False):=by
  intro dp un gd cn cs a ccd cl outer A₀ base h₀ L m ps k rest hpS tkS Q E sk al B F X N T hk hT n hi hA hS h0 hd hu ret _
  by_cases h7:kept b xs = []∨(kept b xs).any (·.isNone) = true
  · exact bmedian_na_ct B F X N T hk .head (hT.mono fun p hp=>.tail _ (.tail _ hp)) (hA.mono mem3) (hS.mono mem3) ((h.mono h0).mono mem3) h5 h7 (by (first | lia | omega)) (by (first | lia | omega)) fun u s' q=>ret _ _ (postRetT q fun add r=>r.mono fun p hp=>List.mem_append_left _ hp)
  · have all:∀ ys:List (Option Int),ys.any (·.isNone) = false→∃ zs:List Int,ys = zs.map some:=by
      intro ys
      induction ys with
      | nil=>exact fun _=>⟨[],rfl⟩
      | cons y ys ih =>
        intro e
        simp only [List.any_cons,Bool.or_eq_false_iff] at e
        obtain ⟨zs,rfl⟩:=ih e.2
        cases y with
        | none=>cases e.1
        | some z=>exact ⟨z::zs,rfl⟩
    obtain ⟨zs,hz⟩:=all _ (Bool.eq_false_iff.mpr fun e=>h7 (.inr e))
    have hm:∀ y∈kept b xs,y∈xs:=fun y hy=>by
      cases b with
      | false=>exact hy
      | true=>exact (List.mem_filter.mp hy).1
    exact bmedian_ct B F X N T hk .head (hT.mono fun p hp=>.tail _ (.tail _ hp)) (ap936 n) (hA.mono mem3) (hS.mono mem3) ((h.mono h0).mono mem3) h5 hz (fun e=>h7 (.inl (by rw [hz,e];rfl))) (fun z hzz=>h6 z (hm _ (by rw [hz];exact List.mem_map_of_mem hzz))) (by (first | lia | omega)) (by (first | lia | omega)) fun u s' q=>ret _ _ (postRetT q fun add r=>r.mono fun p hp=>List.mem_append_left _ hp)
theorem cQnt {xs:List (Option Int)} {zs:List Int} (h:VecI w rest0 xs v) (h5:xs.length≤6) (hz:kept b xs = zs.map some) (h6:∀ z∈zs,1≤z∧z≤3):Callee w p loose mean mg mb 1045 ip wl de gl kt vs v b rest0 (RV (QntV w zs)) (fun _=>False):=by
  intro dp un gd cn cs a ccd cl outer A₀ base h₀ L m ps k rest hpS tkS Q E sk al B F X N T hk hT n hi hA hS h0 hd hu ret _
  refine bquant_ct B F X N T hk .head (hT.mono fun p hp=>.tail _ (.tail _ hp)) (ap936 n) (hA.mono mem3) (hS.mono mem3) ((h.mono h0).mono mem3) h5 hz h6 (by (first | lia | omega)) (by (first | lia | omega)) fun u s' q=>ret _ _ (postRetT q fun add r=>qntDrop r)
theorem cQntRef {xs:List (Option Int)} (h:VecI w rest0 xs v) (h5:xs.length≤6) (h7:(kept b xs).any (·.isNone) = true):Callee w p loose mean mg mb 1045 ip wl de gl kt vs v b rest0 noR (fun S=>S = Str.ofString "missing values and NaN's not allowed if 'na.rm' is FALSE"):=by
  intro dp un gd cn cs a ccd cl outer A₀ base h₀ L m ps k rest hpS tkS Q E sk al B F X N T hk hT n hi hA hS h0 hd hu _ retE
  exact bquant_ref_ct B F X N T hk (hA.mono mem3) (hS.mono mem3) ((h.mono h0).mono mem3) h5 h7 (by (first | lia | omega)) (by (first | lia | omega)) fun tf e d tk h' tk' r=>retE _ _ _ _ _ _ _ rfl r
theorem cMeanF {x:Addr} {l:Value} (h:FacIn w rest0 x l):Callee w p loose mean mg mb 1012 ip wl de gl kt vs (.ref x) b rest0 (NaNote w) (fun _=>False):=by
  intro dp un gd cn cs a ccd cl outer A₀ base h₀ L m ps k rest hpS tkS Q E sk al B F X N T hk hT n hi hA hS h0 hd hu ret _
  exact bmean_fac_ct B F X N T hk rfl hT n hi hA (h.mono h0) (by (first | lia | omega)) (by (first | lia | omega)) ret
theorem cMeanT {x:Addr} (h:TextIn w rest0 x):Callee w p loose mean mg mb 1012 ip wl de gl kt vs (.ref x) b rest0 (NaNote w) (fun _=>False):=by
  intro dp un gd cn cs a ccd cl outer A₀ base h₀ L m ps k rest hpS tkS Q E sk al B F X N T hk hT n hi hA hS h0 hd hu ret _
  obtain ⟨d,l,t1,t2,t3,t4,t5,tk,its,k2,a1,a2,a3⟩:=h
  exact bmean_text_ct B F X N T hk rfl hT n hi hA ⟨d,l,t1,t2,t3,t4,t5,tk,its,k2,h0 _ a1,h0 _ a2,h0 _ a3⟩ (by (first | lia | omega)) (by (first | lia | omega)) ret
theorem cMedF {x:Addr} {l:Value} (h:FacIn w rest0 x l):Callee w p loose mean mg mb 1019 ip wl de gl kt vs (.ref x) b rest0 noR (fun S=>S = Str.ofString "need numeric data"):=by
  intro dp un gd cn cs a ccd cl outer A₀ base h₀ L m ps k rest hpS tkS Q E sk al B F X N T hk hT n hi hA hS h0 hd hu _ retE
  exact median_fac_ct B F X N T hk (hA.mono mem3) ((h.mono h0).mono mem3) (by (first | lia | omega)) (by (first | lia | omega)) fun tf e d tk h' tk' r=>retE _ _ _ _ _ _ _ rfl r
theorem cQntF {x:Addr} {l:Value} (h:FacIn w rest0 x l):Callee w p loose mean mg mb 1045 ip wl de gl kt vs (.ref x) b rest0 noR (fun S=>S = Str.ofString "factors are not allowed"):=by
  intro dp un gd cn cs a ccd cl outer A₀ base h₀ L m ps k rest hpS tkS Q E sk al B F X N T hk hT n hi hA hS h0 hd hu _ retE
  exact quantile_fac_ct B F X N T hk (hA.mono mem3) ((h.mono h0).mono mem3) (by (first | lia | omega)) (by (first | lia | omega)) fun tf e d tk h' tk' r=>retE _ _ _ _ _ _ _ rfl r
theorem cVarF {x:Addr} {l:Value} (h:FacIn w rest0 x l):Callee w p loose mean mg mb 1031 ip wl de gl kt vs (.ref x) b rest0 noR (fun S=>S = Str.ofString "Calling var(x) on a factor x is defunct."):=by
  intro dp un gd cn cs a ccd cl outer A₀ base h₀ L m ps k rest hpS tkS Q E sk al B F X N T hk hT n hi hA hS h0 hd hu _ retE
  exact var_fac_ct B F X N T hk (hA.mono mem3) ((h.mono h0).mono mem3) (hS.mono mem3) (by (first | lia | omega)) (by (first | lia | omega)) fun tf e d tk h' tk' r=>retE _ _ _ _ _ _ _ rfl r
theorem cSdF {x:Addr} {l:Value} (h:FacIn w rest0 x l):Callee w p loose mean mg mb 1038 ip wl de gl kt vs (.ref x) b rest0 noR (fun S=>S = Str.ofString "Calling var(x) on a factor x is defunct."):=by
  intro dp un gd cn cs a ccd cl outer A₀ base h₀ L m ps k rest hpS tkS Q E sk al B F X N T hk hT n hi hA hS h0 hd hu _ retE
  exact sd_fac_ct B F X N T hk (hA.mono mem3) ((h.mono h0).mono mem3) (by (first | lia | omega)) (by (first | lia | omega)) fun tf e d tk h' tk' r=>retE _ _ _ _ _ _ _ rfl r
end
example:True:=by
  k_with "do binaryOp FloorDiv int int" => ((k_here;refine lf_div (by assumption) (by assumption) (by assumption) (by assumption) (by assumption) ?_))
  trivial
section
local macro_rules (kind := PySem.W.tacticK_extra_) | s => mq "0 do m l k t j i h g f e d c b a" s
theorem lf_state {x y x' y':Int} (h:Int.gcd x' y' = Int.gcd x y) (hp:¬ y' = 0) (h0:0≤x') (h1:0≤y'):0≤y'∧0≤Int.fmod x' y'∧Int.gcd y' (Int.fmod x' y') = Int.gcd x y:=gcd_state h (by (first | lia | omega)) h0
theorem lf_end {x y x' y':Int} (h:Int.gcd x' y' = Int.gcd x y) (hp:y' = 0) (h0:0≤x'):x' = (Int.gcd x y:Int):=gcd_end h (by (first | lia | omega)) h0 (by (first | lia | omega))
theorem lf_div {A:Around} {E:Value→Shared→Prop} {hpS:Heap} {tkS:Nat} {Q:Value→Shared→Prop} {x y x' y' a:Int} {t u:Tok} (h:Int.gcd x' y' = Int.gcd x y) (hp:y' = 0) (h0:0≤x') (g:0 < (Int.gcd x y:Int)) (gl:(Int.gcd x y:Int) < 1000) (hQ:Q (.int (a.fdiv (Int.gcd x y)) tkS) ⟨hpS,GC,DC,tkS + 1,OC⟩):wpAny (model prog w) A (binaryOp .FloorDiv (.int a t) (.int x' u)) Q E ⟨hpS,GC,DC,tkS,OC⟩:=by
  obtain rfl:=lf_end h hp h0
  exact floordiv_int (by (first | lia | omega)) hQ (Or.inl (PyProof.noPylong_small (by (first | lia | omega))))
section
variable (B:Below A₀ base outer h₀) (F:Fr h₀ L hpS m) (X:(Mine.hd.heap_1 (World.params w)).In h₀) (N:News h₀ L hpS news) (T:Top p loose mean mg mb h₀) (hk:cs.kind = .function)
include B F X N T hk
theorem lfrac_ct {x y:Int} {tx ty:Tok} (h0:0≤x) (h1:0 < y) (b0:x < 1000) (b1:y < 1000) (hd:dp + 4 < recursionLimit) (hu:un + 32 < cLine)
  (ret:RatNew h₀ L m news Q (Int.fdiv x (Int.gcd x y)) (Int.fdiv y (Int.gcd x y))) :
  wpAny (model prog w) (ktrTop dp un gd cn cs L a ccd cl outer) (call (.ref 1392) [.int x tx,.int y ty]) Q E ⟨hpS,GC,DC,tkS,OC⟩:=by
  have g0:=gcd_pos (n:=x) h1
  have g1:(Int.gcd x y:Int) < 1000:=Int.lt_of_le_of_lt (Int.le_of_dvd h1 (Int.gcd_dvd_right ..)) b1
  k_extra "@ENTER"
  k_with "state" => exact lf_state (by assumption) (by assumption) (by assumption) (by assumption)
  k_with "measure" => exact gcd_meas (by (first | lia | omega))
  k_with "exec While Compare cons nil" => k_while (fun _ x' y'=>0≤x'∧0≤y'∧Int.gcd x' y' = Int.gcd x y) (fun _ _ y'=>y'.toNat) "one" "other"
  k_steps
  exact ret _ _ _ _ _ _ (by k_asm) (by k_asm) (by assumption)
end
end

inductive VD (led:Led):Value→PyData→Prop
  | none:VD led .none .none
  | int {z:Int} {t:Tok}:VD led (.int z t) (.int z)
  | tup {x:Addr} {a b:Int} {t1 t2:Tok} {k:Nat}:(x,({ cls:=.type "tuple", data:=.seq #[.int a t1,.int b t2] k }:Obj))∈led→VD led (.ref x) (.tuple [.int a,.int b])
  | nan:VD led (.ref 500) (.tuple [.int 0,.int 0])
theorem VD.mono {led led':Led} {v:Value} {d:PyData} (h:VD led v d) (hs:∀ p∈led,p∈led'):VD led' v d:=by
  cases h with
  | none=>exact .none
  | int=>exact .int
  | tup h=>exact .tup (hs _ h)
  | nan=>exact .nan
theorem VD.reads {g h:Heap} {L:Addr} {m:Str→Option Value} {led:Led} {v:Value} {d:PyData} (x:VD led v d) (F:Fr g L h m) (X:(Mine.hd.heap_1 (World.params w)).In g) (N:News g L h led):∃ as,Reads h v d as:=by
  cases x with
  | none=>exact ⟨_,.none⟩
  | int=>exact ⟨_,.int _ _⟩
  | tup hm=>exact ⟨_,.tuple (N _ hm).1 rfl rfl (.cons (.int _ _) (.cons (.int _ _) .nil))⟩
  | nan=>exact ⟨_,.tuple (inX F X _ _ (show List.lookup 500 (Mine.hd.heap_1 (World.params w)) = some { cls:=.type "tuple", data:=.seq #[.int 0 _,.int 0 _] _ } from rfl)) rfl rfl (.cons (.int _ _) (.cons (.int _ _) .nil))⟩
theorem VD.ok {led:Led} {v:Value} {d:PyData} (x:VD led v d):PySem.SeqAt.shaped d = true∧PySem.SeqAt.shaped (.list [d]) = true∧PyData.eqv d d = true∧PyData.eqv (.list [d]) (.list [d]) = true:=by
  cases x<;>exact ⟨by rfl,by rfl,by simp [PyData.eqv,PyData.eqvAll],by simp [PyData.eqv,PyData.eqvAll]⟩
section
variable {A:Around} {E:Value→Shared→Prop} {hpS:Heap} {tkS:Nat} {g:Heap} {L:Addr} {m:Str→Option Value} {led:Led} {Q:Value→Shared→Prop}
theorem neVD {l l2:Addr} {v v2:Value} {k k2:Nat} {d:PyData} (F:Fr g L hpS m) (X:(Mine.hd.heap_1 (World.params w)).In g) (N:News g L hpS led) (h1:(l,listOf #[v] k)∈led) (h2:(l2,listOf #[v2] k2)∈led) (r1:VD led v d) (r2:VD led v2 d) (hu:A.units + 64 < cLine)
    (h:Q (.bool false) ⟨hpS,GC,DC,tkS,OC⟩):wpAny (model prog w) A (compareOp .NotEq (.ref l) (.ref l2)) Q E ⟨hpS,GC,DC,tkS,OC⟩:=by
  obtain ⟨as,e1⟩:=r1.reads F X N
  obtain ⟨bs,e2⟩:=r2.reads F X N
  obtain ⟨-,q1,-,q2⟩:=r1.ok
  refine ne_dataH (.list (N _ h1).1 rfl rfl (.cons e1 .nil)) (.list (N _ h2).1 rfl rfl (.cons e2 .nil)) q1 q1 hu ?_
  rw [q2];exact h
theorem eqVD {v v2:Value} {d:PyData} (F:Fr g L hpS m) (X:(Mine.hd.heap_1 (World.params w)).In g) (N:News g L hpS led) (r1:VD led v d) (r2:VD led v2 d) (hu:A.units + 64 < cLine)
    (h:Q (.bool true) ⟨hpS,GC,DC,tkS,OC⟩):wpAny (model prog w) A (compareOp .Eq v v2) Q E ⟨hpS,GC,DC,tkS,OC⟩:=by
  obtain ⟨as,e1⟩:=r1.reads F X N
  obtain ⟨bs,e2⟩:=r2.reads F X N
  obtain ⟨q1,-,q2,-⟩:=r1.ok
  refine eq_dataH e1 e2 q1 q1 hu ?_
  rw [q2];exact h
theorem neNil {l l2:Addr} {k k2:Nat} (N:News g L hpS led) (h1:(l,listOf #[] k)∈led) (h2:(l2,listOf #[] k2)∈led) (hu:A.units + 64 < cLine)
    (h:Q (.bool false) ⟨hpS,GC,DC,tkS,OC⟩):wpAny (model prog w) A (compareOp .NotEq (.ref l) (.ref l2)) Q E ⟨hpS,GC,DC,tkS,OC⟩ :=
  ne_dataH (.list (N _ h1).1 rfl rfl .nil) (.list (N _ h2).1 rfl rfl .nil) rfl rfl hu h
theorem eqNil {l l2:Addr} {k k2:Nat} (N:News g L hpS led) (h1:(l,listOf #[] k)∈led) (h2:(l2,listOf #[] k2)∈led) (hu:A.units + 64 < cLine)
    (h:Q (.bool true) ⟨hpS,GC,DC,tkS,OC⟩):wpAny (model prog w) A (compareOp .Eq (.ref l) (.ref l2)) Q E ⟨hpS,GC,DC,tkS,OC⟩ :=
  eq_dataH (.list (N _ h1).1 rfl rfl .nil) (.list (N _ h2).1 rfl rfl .nil) rfl rfl hu h
theorem reads_nones {h:Heap}:∀ n:Nat,ReadsAll h (List.replicate n Value.none) (List.replicate n PyData.none) []
  | 0=>.nil
  | n + 1=>.cons (as:=[]) (bs:=[]) .none (reads_nones n)
theorem eqNones {l l2:Addr} {k k2:Nat} (N:News g L hpS led) (h1:(l,listOf #[.none,.none,.none,.none,.none] k)∈led) (h2:(l2,listOf #[.none,.none,.none,.none,.none] k2)∈led) (hu:A.units + 64 < cLine)
    (h:Q (.bool true) ⟨hpS,GC,DC,tkS,OC⟩):wpAny (model prog w) A (compareOp .Eq (.ref l) (.ref l2)) Q E ⟨hpS,GC,DC,tkS,OC⟩ :=
  eq_dataH (.list (N _ h1).1 rfl rfl (reads_nones 5)) (.list (N _ h2).1 rfl rfl (reads_nones 5)) rfl rfl hu h
theorem neTold {x y l1 l2 l3 l4:Addr} {S:Str} {t t':Tok} {k1 k2 k3 k4 k5 k6:Nat} (N:News g L hpS led) (h1:(x,({ cls:=.type "tuple", data:=.seq #[.ref l1,.ref l2] k1 }:Obj))∈led) (h2:(l1,listOf #[.none] k2)∈led) (h3:(l2,listOf #[.str S t] k3)∈led)
    (i1:(y,({ cls:=.type "tuple", data:=.seq #[.ref l3,.ref l4] k4 }:Obj))∈led) (i2:(l3,listOf #[.none] k5)∈led) (i3:(l4,listOf #[.str S t'] k6)∈led) (hS:PySem.SeqAt.shaped (.tuple [.list [.none],.list [.str S]]) = true) (hu:A.units + 64 < cLine) (h:Q (.bool false) ⟨hpS,GC,DC,tkS,OC⟩):wpAny (model prog w) A (compareOp .NotEq (.ref x) (.ref y)) Q E ⟨hpS,GC,DC,tkS,OC⟩:=by
  refine ne_dataH (.tuple (N _ h1).1 rfl rfl (.cons (.list (N _ h2).1 rfl rfl (.cons .none .nil)) (.cons (.list (N _ h3).1 rfl rfl (.cons (.str _ _) .nil)) .nil))) (.tuple (N _ i1).1 rfl rfl (.cons (.list (N _ i2).1 rfl rfl (.cons .none .nil)) (.cons (.list (N _ i3).1 rfl rfl (.cons (.str _ _) .nil)) .nil))) hS hS hu ?_
  have e:PyData.eqv (.tuple [.list [.none],.list [.str S]]) (.tuple [.list [.none],.list [.str S]]) = true:=by simp [PyData.eqv,PyData.eqvAll]
  rw [e];exact h
theorem neMsg {x y l2 l4:Addr} {S:Str} {t t':Tok} {k1 k3 k4 k6:Nat} (N:News g L hpS led) (h1:(x,({ cls:=.type "tuple", data:=.seq #[.str S t,.ref l2] k1 }:Obj))∈led) (h3:(l2,listOf #[] k3)∈led)
    (i1:(y,({ cls:=.type "tuple", data:=.seq #[.str S t',.ref l4] k4 }:Obj))∈led) (i3:(l4,listOf #[] k6)∈led) (hS:PySem.SeqAt.shaped (.tuple [.str S,.list []]) = true) (hu:A.units + 64 < cLine) (h:Q (.bool false) ⟨hpS,GC,DC,tkS,OC⟩):wpAny (model prog w) A (compareOp .NotEq (.ref x) (.ref y)) Q E ⟨hpS,GC,DC,tkS,OC⟩:=by
  refine ne_dataH (.tuple (N _ h1).1 rfl rfl (.cons (.str _ _) (.cons (.list (N _ h3).1 rfl rfl .nil) .nil))) (.tuple (N _ i1).1 rfl rfl (.cons (.str _ _) (.cons (.list (N _ i3).1 rfl rfl .nil) .nil))) hS hS hu ?_
  have e:PyData.eqv (.tuple [.str S,.list []]) (.tuple [.str S,.list []]) = true:=by simp [PyData.eqv,PyData.eqvAll]
  rw [e];exact h
end
structure LK (xs:List (Option Int)) (zs:List Int) (b lk:Bool):Prop where
  yes:lk = true→kept b xs = xs∧xs.any (·.isNone) = true
  no:lk = false→kept b xs = zs.map some
noncomputable def frac (n d:Int):PyData:=.tuple [.int (Int.fdiv n (Int.gcd n d)),.int (Int.fdiv d (Int.gcd n d))]
noncomputable def meanD (lk:Bool) (zs:List Int):PyData:=if lk then .none else if zs = [] then .tuple [.int 0,.int 0] else frac zs.sum zs.length
noncomputable def medD (lk:Bool) (zs:List Int):PyData:=if lk∨zs = [] then .none else if zs.length % 2 = 1 then .int ((sortI zs).getD (zs.length / 2) 0) else frac ((sortI zs).getD (zs.length / 2 - 1) 0 + (sortI zs).getD (zs.length / 2) 0) 2
theorem foldO_none:∀ xs:List (Option Int),xs.foldl (fun a y=>match a,y with | some a,some b=>some (a + b) | _,_=>none) none = none
  | []=>rfl
  | _::xs=>foldO_none xs
theorem foldO_any:∀ (xs:List (Option Int)) (a:Int),xs.any (·.isNone) = true→xs.foldl (fun a y=>match a,y with | some a,some b=>some (a + b) | _,_=>none) (some a) = none
  | none::xs,_,_=>foldO_none xs
  | some z::xs,a,h=>foldO_any xs (a + z) (by simpa using h)
theorem foldO_some:∀ (zs:List Int) (a:Int),(zs.map some).foldl (fun a y=>match a,y with | some a,some b=>some (a + b) | _,_=>none) (some a) = some (a + zs.sum)
  | [],a=>by simp
  | z::zs,a=>by
    show (zs.map some).foldl _ (some (a + z)) = _
    rw [foldO_some zs (a + z),List.sum_cons,Int.add_assoc]
theorem sumO_none {xs:List (Option Int)} (h:xs.any (·.isNone) = true):sumO xs = none:=foldO_any xs 0 h
theorem sumO_some {zs:List Int}:sumO (zs.map some) = some zs.sum:=by
  exact (foldO_some zs 0).trans (by rw [Int.zero_add])
theorem meanVD {xs:List (Option Int)} {zs:List Int} {b lk:Bool} {led:Led} {v:Value} (K:LK xs zs b lk) (h:meanV led v (kept b xs)):VD led v (meanD lk zs):=by
  unfold meanD
  cases lk with
  | true =>
    obtain ⟨e,a⟩:=K.yes rfl
    rw [e] at h
    rcases h with ⟨e,_⟩ | ⟨_,h⟩
    · rw [e] at a;cases a
    · rw [meanO,sumO_none a] at h
      cases h
      exact .none
  | false =>
    rw [K.no rfl] at h
    rw [if_neg Bool.false_ne_true]
    rcases h with ⟨e,rfl⟩ | ⟨n,h⟩
    · rw [if_pos (List.map_eq_nil_iff.mp e)]
      exact .nan
    · rw [if_neg (fun e=>n (by rw [e];rfl))]
      rw [meanO,sumO_some] at h
      simp only [Option.map_some,mkN,mkD,Int.mul_one,Int.one_mul,List.length_map] at h
      cases h with
      | some h=>exact .tup h
theorem medVD {xs:List (Option Int)} {zs:List Int} {b lk:Bool} {led:Led} {u:Value} (K:LK xs zs b lk) (h:MedV w (kept b xs) led u):∃ kind v,ResV w kind (fun _ v'=>v' = v) led u∧VD led v (medD lk zs):=by
  have get:∀ {kind:String} {P:Led→Value→Prop},ResV w kind P led u→∃ v,ResV w kind (fun _ v'=>v' = v) led u∧P led v:=fun ⟨x,d,l,t1,t2,t3,t4,t5,tk,v,k,e,a,b,c,r⟩=>⟨v,⟨x,d,l,t1,t2,t3,t4,t5,tk,v,k,e,a,b,c,rfl⟩,r⟩
  have sm:∀ {ys zs:List Int},ys.map some = zs.map some→ys = zs:=fun {ys zs} e=>List.map_inj_right (fun _ _ h=>Option.some.inj h) |>.mp e
  unfold medD
  cases h with
  | na a r =>
    obtain ⟨v,q,rfl⟩:=get r
    refine ⟨_,_,q,?_⟩
    rw [if_pos]
    · exact .none
    · cases lk with
      | true=>exact .inl rfl
      | false =>
        rw [K.no rfl] at a
        rcases a with a | a
        · exact .inr (List.map_eq_nil_iff.mp a)
        · simp at a
  | odd zs' e ho r =>
    obtain ⟨v,q,t,rfl⟩:=get r
    refine ⟨_,_,q,?_⟩
    cases lk with
    | true =>
      obtain ⟨e2,a⟩:=K.yes rfl
      rw [← e2,e] at a
      simp at a
    | false =>
      rw [K.no rfl] at e
      obtain rfl:=sm e
      rw [if_neg (by rintro (h | rfl)<;>simp_all),if_pos ho]
      exact .int
  | even zs' e hn ho r =>
    obtain ⟨v,q,r⟩:=get r
    refine ⟨_,_,q,?_⟩
    cases lk with
    | true =>
      obtain ⟨e2,a⟩:=K.yes rfl
      rw [← e2,e] at a
      simp at a
    | false =>
      rw [K.no rfl] at e
      obtain rfl:=sm e
      rw [if_neg (by rintro (h | rfl)<;>simp_all),if_neg (by (first | lia | omega))]
      rw [show ([some ((sortI zs).getD (zs.length / 2 - 1) 0),some ((sortI zs).getD (zs.length / 2) 0)]:List (Option Int)) = [(sortI zs).getD (zs.length / 2 - 1) 0,(sortI zs).getD (zs.length / 2) 0].map some from rfl,meanO,sumO_some] at r
      simp only [Option.map_some,mkN,mkD,Int.mul_one,Int.one_mul,List.length_map,List.sum_cons,List.sum_nil,List.length_cons,List.length_nil,Int.add_zero] at r
      cases r with
      | some h=>exact .tup h
noncomputable def QntP (zs:List Int) (led:Led) (its:List Value):Prop:=(zs = []→its = [.none,.none,.none,.none,.none])∧(zs≠[]→∃ v0 v1 v2 v3 v4,its = [v0,v1,v2,v3,v4]∧VD led v0 (.tuple [.int ((sortI zs).getD 0 0),.int 1])∧VD led v4 (.tuple [.int ((sortI zs).getD (zs.length - 1) 0),.int 1]))
theorem resItems {kind:String} {led:Led} {u v:Value} (h:ResV w kind (fun _ v'=>v' = v) led u):ItemsV w led u [v]:=by
  obtain ⟨x,d,l,t1,t2,t3,t4,t5,tk,v,k,e,a,b,c,rfl⟩:=h
  exact ⟨x,d,l,t1,t2,t3,t4,t5,tk,_,_,k,e,a,b,c⟩
noncomputable def OneP (d:PyData) (led:Led) (its:List Value) (ns:List Str):Prop:=ns = []∧∃ v,its = [v]∧VD led v d
theorem OneP.mono {d:PyData} (led led':Led) (its:List Value) (ns:List Str) (h:OneP d led its ns) (hs:∀ p∈led,p∈led'):OneP d led' its ns:=⟨h.1,h.2.choose,h.2.choose_spec.1,h.2.choose_spec.2.mono hs⟩
theorem okMean {xs:List (Option Int)} {zs:List Int} {b lk:Bool} (K:LK xs zs b lk):ToldOk w (RV (ResV w "double" fun led v=>meanV led v (kept b xs))) (OneP (meanD lk zs)) where
  go led ws u h:=by
    obtain ⟨rfl,x,d,l,t1,t2,t3,t4,t5,tk,v,k,e,a,b,c,r⟩:=h
    exact ⟨[v],[],⟨x,d,l,t1,t2,t3,t4,t5,tk,_,_,k,e,a,b,c⟩,.nil,Nat.zero_le _,rfl,v,rfl,meanVD K r⟩
  mono:=OneP.mono
theorem okMed {xs:List (Option Int)} {zs:List Int} {b lk:Bool} (K:LK xs zs b lk):ToldOk w (RV (MedV w (kept b xs))) (OneP (medD lk zs)) where
  go led ws u h:=by
    obtain ⟨rfl,h⟩:=h
    obtain ⟨kind,v,r,q⟩:=medVD K h
    exact ⟨[v],[],resItems r,.nil,Nat.zero_le _,rfl,v,rfl,q⟩
  mono:=OneP.mono
theorem All2.inv {α:Type} {R:Value→α→Prop} {vs:List Value} {x:α} {xs:List α} (h:All2 R vs (x::xs)):∃ v r,vs = v::r∧R v x∧All2 R r xs:=by
  cases h with
  | cons a b=>exact ⟨_,_,rfl,a,b⟩
theorem All2.inv0 {α:Type} {R:Value→α→Prop} {vs:List Value} (h:All2 R vs ([]:List α)):vs = []:=by
  cases h
  rfl
theorem okQnt {zs:List Int} (h0:(sortI zs).length = zs.length):ToldOk w (RV (QntV w zs)) (fun led its ns=>ns = []∧QntP zs led its) where
  go led ws u h:=by
    obtain ⟨rfl,x,d,l,t1,t2,t3,t4,t5,tk,av,out,k,e,a,b,c,r⟩:=h
    refine ⟨out,[],⟨x,d,l,t1,t2,t3,t4,t5,tk,_,av,k,e,a,b,c⟩,.nil,Nat.zero_le _,rfl,?_⟩
    obtain ⟨v0,o1,rfl,r0,r⟩:=r.inv
    obtain ⟨v1,o2,rfl,r1,r⟩:=r.inv
    obtain ⟨v2,o3,rfl,r2,r⟩:=r.inv
    obtain ⟨v3,o4,rfl,r3,r⟩:=r.inv
    obtain ⟨v4,o5,rfl,r4,r⟩:=r.inv
    obtain rfl:=r.inv0
    refine ⟨fun hz=>by rw [r0.1 hz,r1.1 hz,r2.1 hz,r3.1 hz,r4.1 hz],fun hz=>⟨v0,v1,v2,v3,v4,rfl,?_,?_⟩⟩
    · have q:=r0.2 hz _ rfl
      cases q with
      | some h=>exact .tup h
    · have q:=r4.2 hz _ rfl
      rw [show ((if (1:Int) = 0 then 0 else (sortI zs).length - 1):Nat) = zs.length - 1 from by rw [if_neg (by decide),h0]] at q
      cases q with
      | some h=>exact .tup h
  mono led led' its ns h hs:=⟨h.1,h.2.1,fun hz=>let ⟨v0,v1,v2,v3,v4,e,a,b⟩:=h.2.2 hz;⟨v0,v1,v2,v3,v4,e,a.mono hs,b.mono hs⟩⟩
theorem okNote:ToldOk w (NaNote w) (fun _ its ns=>ns = [Str.ofString "argument is not numeric or logical: returning NA"]∧its = [.none]) where
  go led ws u h:=⟨[.none],_,h.2,h.1,by decide,rfl,rfl⟩
  mono _ _ _ _ h _:=h

inductive LMid (w:World) (base g:Heap) (L:Addr) (G:Array GenState) (D:Drawn) (O:OsState) (ip wl de gl el:Addr) (kt:Nat→Tok) (vs:Nat→Value) (rest:Led) (v:Value) (b lk:Bool) (zs:List Int) (X:Led→(Str→Option Value)→Prop) (s':Shared):Prop
  | mk (g2:Heap) (h:Heap) (tk:Nat) (m:(Str→Option Value)) (add:Led) (ps:Array Value) (ws:List Value) (k:Nat) (pl:Addr) (pvs:List Value) (kp:Nat):s' = ⟨h,G,D,tk,O⟩→Reb base g g2→Fr g2 L h m→News g2 L h (add++(936,tabObj ps)::(wl,listOf (List.toArray ws) k)::(de,evO w kt vs gl wl)::rest)→(∀ p∈add++rest,p.1≠936∧p.1≠wl∧p.1≠de)→TabSt (add++rest) ps→ws.length≤6→(pl,listOf (List.toArray pvs) kp)∈add++rest→All2 OptI pvs (zs.map some)→m (Str.ofString "present") = some (.ref pl)→m (Str.ofString "lacks_one") = some (.bool lk)→m (Str.ofString "interp") = some (.ref ip)→m (Str.ofString "v") = some v→m (Str.ofString "entries") = some (.ref el)→m (Str.ofString "skip") = some (.bool b)→X (add++rest) m→LMid w base g L G D O ip wl de gl el kt vs rest v b lk zs X s'
noncomputable abbrev noX (_:Led) (_:Str→Option Value):Prop:=True
inductive RisX (zs:List Int) (led:Led) (m:Str→Option Value):Prop
  | mk (rl:Addr) (rvs:List Value) (kr:Nat):(rl,listOf (List.toArray rvs) kr)∈led→All2 OptI rvs ((sortI zs).map some)→m (Str.ofString "rising") = some (.ref rl)→RisX zs led m
theorem risX {wl de D:Addr} {zs:List Int} {led led0 rest:Led} {m:Str→Option Value} {rvs:List Value} {kr:Nat} {o1 o2 o3:Obj} (e:m (Str.ofString "rising") = some (.ref D)) (hD:(D,listOf (List.toArray rvs) kr)∈led) (l:∀ q∈led0,@LT.lt Nat _ q.1 D) (b1:(936,o1)∈led0) (b2:(wl,o2)∈led0) (b3:(de,o3)∈led0) (hi:All2 OptI rvs ((sortI zs).map some)):∀ A:Led,(∀ p∈led,p.1≠936→p.1≠wl→p.1≠de→p∈A++rest)→RisX zs (A++rest) m :=
  fun A key=>⟨D,rvs,kr,key _ hD (Nat.ne_of_gt (l _ b1)) (Nat.ne_of_gt (l _ b2)) (Nat.ne_of_gt (l _ b3)),hi,e⟩
section
variable {M:Model} {A:Around} {env:Env} {E:Value→Shared→Prop} {base g h:Heap} {L:Addr} {m:Str→Option Value} {tk:Nat} {s1 s2 s3 s4 s5:Stmt} {rs:List Stmt} {Q:Flow→Shared→Prop}
theorem cutA (ip wl de gl el:Addr) (kt:Nat→Tok) (vs:Nat→Value) (rest:Led) (v:Value) (b lk:Bool) (zs:List Int) (_S:base.StaysIn g) (_F:Fr g L h m)
    (h1:∀ s',LMid w base g L GC DC OC ip wl de gl el kt vs rest v b lk zs noX s'→wpAny M A (execs rs env) Q E s')
    (h2:wpAny M A (exec s1 env) (fun f s'=>match f with | .next=>wpAny M A (exec s2 env) (fun f s''=>match f with | .next=>LMid w base g L GC DC OC ip wl de gl el kt vs rest v b lk zs noX s'' | f=>Q f s'') E s' | f=>Q f s') E ⟨h,GC,DC,tk,OC⟩):wpAny M A (execs (s1::s2::rs) env) Q E ⟨h,GC,DC,tk,OC⟩:=cut2 _ h1 h2
end
theorem midA {base g h:Heap} {L D':Addr} {m:Str→Option Value} {tk:Nat} {ip wl de gl el:Addr} {kt:Nat→Tok} {vs:Nat→Value} {rest:Led} {v:Value} {b lk c:Bool} {zs:List Int} {ps ws:Array Value} {k:Nat} {ys:List Value} {A₀:Around} {outer:List Env} (B:Below A₀ base outer g) (F:Fr g L h m) (N:News g L h ((D',LCg.lst ys)::(936,tabObj ps)::(wl,listOf ws k)::(de,evO w kt vs gl wl)::rest)) (n:Apart3 wl de rest) (hT:TabSt rest ps) (h6:ws.size≤6)
    (o1:LCg.Off1 D' ((936,tabObj ps)::(wl,listOf ws k)::(de,evO w kt vs gl wl)::rest)) (hy:All2 OptI ys (zs.map some)) (e1:m (Str.ofString "present") = some (.ref D')) (e2:m (Str.ofString "lacks_one") = some (.bool c)) (e3:m (Str.ofString "interp") = some (.ref ip)) (e4:m (Str.ofString "v") = some v) (e5:m (Str.ofString "entries") = some (.ref el)) (e6:m (Str.ofString "skip") = some (.bool b)) (lkv:lk = c):LMid w base g L GC DC OC ip wl de gl el kt vs rest v b lk zs noX ⟨h,GC,DC,tk,OC⟩ :=
  ⟨g,h,tk,m,[(D',LCg.lst ys)],ps,ws.toList,k,D',ys,_,rfl,Reb.refl B,F,N,fun p hp=>by
    rcases List.mem_cons.mp hp with rfl | hp
    · exact ⟨Ne.symm (off1_mem o1 _ (.head _)),Ne.symm (off1_mem o1 _ (.tail _ (.head _))),Ne.symm (off1_mem o1 _ (.tail _ (.tail _ (.head _))))⟩
    · exact n.ap p hp,hT.mono fun p hp=>.tail _ hp,by simpa using h6,.head _,hy,e1,lkv▸e2,e3,e4,e5,e6,trivial⟩
theorem optI_some {v:Value} {z:Int} (h:OptI v (some z)):∃ t,v = .int z t:=by cases h;exact ⟨_,rfl⟩
theorem intsOf {zs:List Int} {vs:List Value} (h:All2 OptI vs (zs.map some)):IntsAre vs zs:=by
  have g:=h.unmap
  clear h
  induction g with
  | nil=>exact .nil
  | cons r _ ih =>
    obtain ⟨t,rfl⟩:=optI_some r
    exact .cons _ t ih
theorem ofInts:∀ {zs:List Int} {vs:List Value},IntsAre vs zs→All2 OptI vs (zs.map some)
  | _,_,.nil=>.nil
  | _,_,.cons n t h=>.cons (.int n t) (ofInts h)
theorem insI_perm (x:Int):∀ l:List Int,(insI x l).Perm (x::l)
  | []=>.refl _
  | y::l=>by
    unfold insI
    split
    · exact .refl _
    · exact ((insI_perm x l).cons y).trans (.swap x y l)
theorem sortI_perm:∀ l:List Int,(sortI l).Perm l
  | []=>.refl _
  | x::l=>(insI_perm x (sortI l)).trans ((sortI_perm l).cons x)
theorem insI_sorted (x:Int):∀ l:List Int,l.Pairwise (·≤·)→(insI x l).Pairwise (·≤·)
  | [],_=>List.pairwise_singleton ..
  | y::l,h=>by
    unfold insI
    obtain ⟨h1,h2⟩:=List.pairwise_cons.mp h
    split
    · rename_i q
      refine List.pairwise_cons.mpr ⟨fun z hz=>?_,h⟩
      rcases List.mem_cons.mp hz with rfl | hz
      · (first | lia | omega)
      · have:=h1 z hz
        (first | lia | omega)
    · rename_i q
      refine List.pairwise_cons.mpr ⟨fun z hz=>?_,insI_sorted x l h2⟩
      rcases List.mem_cons.mp ((insI_perm x l).mem_iff.mp hz) with rfl | hz
      · (first | lia | omega)
      · exact h1 z hz
theorem sortI_sorted:∀ l:List Int,(sortI l).Pairwise (·≤·)
  | []=>List.Pairwise.nil
  | x::l=>insI_sorted x _ (sortI_sorted l)
theorem sorted_is {zs ns:List Int} (h:ns.Perm zs) (s:ns.Pairwise (·≤·)):ns = sortI zs :=
  List.Perm.eq_of_pairwise (fun a b _ _ h1 h2=>Int.le_antisymm h1 h2) s (sortI_sorted zs) (h.trans (sortI_perm zs).symm)
section
variable {A:Around} {E:Value→Shared→Prop} {hpS:Heap} {tkS:Nat} {g:Heap} {L:Addr} {m:Str→Option Value} {led:Led} {Q:Value→Shared→Prop}
theorem sum_led {l:Addr} {vs:List Value} {zs:List Int} {k:Nat} (F:Fr g L hpS m) (N:News g L hpS led) (hh:A.handled = none) (hl:(l,listOf (List.toArray vs) k)∈led) (hi:All2 OptI vs (zs.map some))
    (h:∀ h' tk t',Fr g L h' m→News g L h' led→Q (.int zs.sum t') ⟨h',GC,DC,tk,OC⟩):wpAny (model prog w) A (call (.builtin "sum") [.ref l]) Q E ⟨hpS,GC,DC,tkS,OC⟩ :=
  PyProof.Rows.LSm.sum_ints F N hh ⟨_,(N _ hl).1,rfl,k,rfl⟩ (intsOf hi) h
theorem sorted_led {l:Addr} {vs:List Value} {zs:List Int} {k:Nat} (F:Fr g L hpS m) (N:News g L hpS led) (hl:(l,listOf (List.toArray vs) k)∈led) (hi:All2 OptI vs (zs.map some)) (h6:zs.length≤6)
    (h:∀ D vs' c h',Fr g L h' m→News g L h' ((D,listOf (List.toArray vs') c)::led)→(∀ q∈led,q.1 < D)→All2 OptI vs' ((sortI zs).map some)→Q (.ref D) ⟨h',GC,DC,tkS,OC⟩):wpAny (model prog w) A (call (.builtin "sorted") [.ref l]) Q E ⟨hpS,GC,DC,tkS,OC⟩ :=
  kso_sorted F N ⟨_,(N _ hl).1,rfl,k,rfl⟩ (intsOf hi) (by (first | lia | omega)) fun D vs' ns' c h' F' N' l1 hi' _ hp hs _=>h D vs' c h' F' N' l1 (ofInts (sorted_is hp hs▸hi'))
theorem eqSome {l l2:Addr} {vs:List Value} {zs:List Int} {k k2:Nat} (N:News g L hpS led) (h1:(l,listOf (List.toArray vs) k)∈led) (hi:All2 OptI vs (zs.map some)) (hne:zs≠[]) (h2:(l2,listOf #[] k2)∈led) (hu:A.units + 64 < cLine)
    (h:Q (.bool false) ⟨hpS,GC,DC,tkS,OC⟩):wpAny (model prog w) A (compareOp .Eq (.ref l) (.ref l2)) Q E ⟨hpS,GC,DC,tkS,OC⟩:=by
  have rd:∀ {ys:List Int} {us:List Value},All2 OptI us (ys.map some)→ReadsAll hpS us (ys.map PyData.int) []:=by
    intro ys
    induction ys with
    | nil=>intro us h;cases h;exact .nil
    | cons y ys ih =>
      intro us h
      cases h with
      | cons a h =>
        cases a
        exact .cons (as:=[]) (bs:=[]) (.int _ _) (ih h)
  refine eq_dataH (.list (N _ h1).1 rfl rfl (rd hi)) (.list (N _ h2).1 rfl rfl .nil) ?_ rfl hu ?_
  · exact shaped_ints _
  · cases zs with
    | nil=>exact absurd rfl hne
    | cons z zs=>exact h
theorem eqNilI {l l2:Addr} {vs:List Value} {zs:List Int} {k k2:Nat} (N:News g L hpS led) (h1:(l,listOf (List.toArray vs) k)∈led) (hi:All2 OptI vs (zs.map some)) (hz:zs = []) (h2:(l2,listOf #[] k2)∈led) (hu:A.units + 64 < cLine)
    (h:Q (.bool true) ⟨hpS,GC,DC,tkS,OC⟩):wpAny (model prog w) A (compareOp .Eq (.ref l) (.ref l2)) Q E ⟨hpS,GC,DC,tkS,OC⟩:=by
  subst hz
  cases hi
  exact eqNil N h1 h2 hu h
theorem eqInt_t {a b:Int} {t u:Tok} (e:a = b) (h:Q (.bool true) ⟨hpS,GC,DC,tkS,OC⟩):wpAny (model prog w) A (compareOp .Eq (.int a t) (.int b u)) Q E ⟨hpS,GC,DC,tkS,OC⟩ :=
  eq_int (by rw [show (a == b) = true from beq_iff_eq.mpr e];exact h)
theorem eqInt_f {a b:Int} {t u:Tok} (e:a≠b) (h:Q (.bool false) ⟨hpS,GC,DC,tkS,OC⟩):wpAny (model prog w) A (compareOp .Eq (.int a t) (.int b u)) Q E ⟨hpS,GC,DC,tkS,OC⟩ :=
  eq_int (by rw [show (a == b) = false from beq_eq_false_iff_ne.mpr e];exact h)
theorem item_half {value slice:PySem.Expr} {l:Addr} {vs:List Value} {zs:List Int} {k:Nat} {i:Int} {u:Tok} (N:News g L hpS led) (h1:(l,listOf (List.toArray vs) k)∈led) (hi:All2 OptI vs (zs.map some)) (h6:zs.length≤6) (i0:0≤i) (i1:i.toNat < zs.length)
    (h:∀ t,Q (.int (zs.getD i.toNat 0) t) ⟨hpS,GC,DC,tkS,OC⟩)
    (hs:subscripted slice false (.ref l) (.int i u) = operate [.ref l,.int i u] (getItem (.ref l) (.int i u)):=by with_unfolding_all rfl) :
    wpAny (model prog w) A (subscriptTail value slice (.ref l) (.int i u)) Q E ⟨hpS,GC,DC,tkS,OC⟩:=by
  have hlen:=hi.length
  rw [List.length_map] at hlen
  have at_:∀ {zs:List Int} {vs:List Value} {n:Nat},All2 OptI vs (zs.map some)→n < zs.length→∃ t,(vs.drop n).head? = some (.int (zs.getD n 0) t):=by
    intro zs
    induction zs with
    | nil=>intro vs n _ h;cases h
    | cons z zs ih =>
      intro vs n h hn
      cases h with
      | cons a h =>
        cases a with
        | int _ t =>
          cases n with
          | zero=>exact ⟨t,rfl⟩
          | succ n=>exact ih h (Nat.lt_of_succ_lt_succ hn)
  obtain ⟨t,ht⟩:=at_ hi i1
  exact item_l N h1 i0 (by (first | lia | omega)) ht (h t) hs
end
theorem sum_le:∀ {zs:List Int},(∀ z∈zs,1≤z∧z≤3)→0≤zs.sum∧zs.sum≤3 * zs.length
  | [],_=>⟨Int.le_refl _,Int.le_refl _⟩
  | z::zs,h=>by
    have h1:=h z (.head _)
    have h2:=sum_le fun y hy=>h y (.tail _ hy)
    rw [List.sum_cons,List.length_cons]
    (first | lia | omega)
theorem len_ints {A:Around} {E:Value→Shared→Prop} {hpS:Heap} {tkS:Nat} {g:Heap} {L:Addr} {led:Led} {Q:Value→Shared→Prop} {l:Addr} {vs:List Value} {zs:List Int} {k:Nat} (N:News g L hpS led) (hl:(l,listOf (List.toArray vs) k)∈led) (hi:All2 OptI vs (zs.map some)) (h6:zs.length≤6)
    (h:Q (.int (zs.length:Int) (tkS + 1)) ⟨hpS,GC,DC,tkS + 1 + 1,OC⟩):wpAny (model prog w) A (call (.builtin "len") [.ref l]) Q E ⟨hpS,GC,DC,tkS,OC⟩:=by
  refine len_a2 N hl hi (by rw [List.length_map];exact h6) ?_
  rw [List.length_map]
  exact h
theorem medD_odd {zs:List Int} (hne:zs≠[]) (h:Int.fmod ((sortI zs).length:Nat) 2 = 1):medD false zs = .int ((sortI zs).getD (Int.fdiv ((sortI zs).length:Nat) 2).toNat 0):=by
  have e:zs.length % 2 = 1:=by rw [sortI_len,Int.fmod_eq_emod_of_nonneg _ (by decide)] at h;(first | lia | omega)
  unfold medD
  rw [if_neg (by rintro (h | h);exact absurd h Bool.false_ne_true;exact hne h),if_pos e,sortI_len,Int.fdiv_eq_ediv_of_nonneg _ (by decide)]
  rfl
theorem medD_even {zs:List Int} (hne:zs≠[]) (h:Int.fmod ((sortI zs).length:Nat) 2≠1):medD false zs = frac ((sortI zs).getD (Int.fdiv ((sortI zs).length:Nat) 2 - 1).toNat 0 + (sortI zs).getD (Int.fdiv ((sortI zs).length:Nat) 2).toNat 0) 2:=by
  have e:¬ zs.length % 2 = 1:=by rw [sortI_len,Int.fmod_eq_emod_of_nonneg _ (by decide)] at h;(first | lia | omega)
  unfold medD
  rw [if_neg (by rintro (h | h);exact absurd h Bool.false_ne_true;exact hne h),if_neg e,sortI_len,Int.fdiv_eq_ediv_of_nonneg _ (by decide),show ((zs.length:Int) / 2 - 1).toNat = zs.length / 2 - 1 from Int.toNat_sub (zs.length / 2) 1]
  rfl
theorem lt3_add {a b:Int} (h1:a≤3) (h2:b≤3):a + b < 1000:=Int.lt_of_le_of_lt (Int.add_le_add h1 h2) (by decide)
theorem half_n {n:Nat} (h:0 < n):((n:Int) / 2).toNat < n:=(Nat.div_lt_self h (by decide):n / 2 < n)
theorem half_n1 {n:Nat} (h:0 < n):((n:Int) / 2 - 1).toNat < n:=Nat.lt_of_le_of_lt (Nat.le_trans (Nat.le_of_eq (Int.toNat_sub (n / 2) 1)) (Nat.sub_le _ _)) (Nat.div_lt_self h (by decide))
theorem half_facts {zs:List Int} (hne:zs≠[]) (h:∀ z∈zs,1≤z∧z≤3):0≤Int.fdiv ((sortI zs).length:Nat) 2∧(Int.fdiv ((sortI zs).length:Nat) 2).toNat < (sortI zs).length∧(Int.fmod ((sortI zs).length:Nat) 2≠1→0≤Int.fdiv ((sortI zs).length:Nat) 2 - 1∧(Int.fdiv ((sortI zs).length:Nat) 2 - 1).toNat < (sortI zs).length) ∧
    ∀ i,0≤(sortI zs).getD i 0∧(sortI zs).getD i 0≤3:=by
  have hl:0 < (sortI zs).length:=by rw [sortI_len];exact List.length_pos_iff.mpr hne
  rw [Int.fdiv_eq_ediv_of_nonneg _ (by decide),Int.fmod_eq_emod_of_nonneg _ (by decide)]
  refine ⟨by (first | lia | omega),half_n hl,fun q=>⟨by (first | lia | omega),half_n1 hl⟩,fun i=>?_⟩
  rw [List.getD_eq_getElem?_getD]
  cases q:(sortI zs)[i]? with
  | none=>exact ⟨Int.le_refl _,by decide⟩
  | some z =>
    have:=sortI_mem h z (List.mem_of_getElem? q)
    exact ⟨by simp;(first | lia | omega),by simp;(first | lia | omega)⟩
section
variable {dp un:Nat} {gd:Option (List Code)} {cn:Str} {cs:Scope} {a:Addr} {ccd:Value} {cl:List (Str×Addr)} {outer:List Env} {A₀:Around} {base h₀:Heap} {L:Addr} {m:Str→Option Value} {hpS:Heap} {tkS:Nat} {Q E:Value→Shared→Prop}
  {fn ip wl de gl:Addr} {kt:Nat→Tok} {vs:Nat→Value} {v:Value} {b:Bool} {R:Led→List Value→Value→Prop} {P:Led→List Value→List Str→Prop} {RE:Str→Prop} {ps:Array Value} {ws:List Value} {k:Nat} {add rest rest0:Led}
theorem told_go (C:Callee w p loose mean mg mb fn ip wl de gl kt vs v b rest0 R RE) (OK:ToldOk w R P) (hfn:keepIn (Mine.hd.heap_1 (World.params w)) (.ref fn) = true)
  (B:Below A₀ base outer h₀) (F:Fr h₀ L hpS m) (X:(Mine.hd.heap_1 (World.params w)).In h₀) (N:News h₀ L hpS (add++(936,tabObj ps)::(wl,listOf (List.toArray ws) k)::(de,evO w kt vs gl wl)::rest)) (T:Top p loose mean mg mb h₀) (hk:cs.kind = .function) (XB:(Mine.hd.heap_1 (World.params w)).In base) (TB:Top p loose mean mg mb base)
  (hT:TabSt (add++rest) ps) (n2:Apart3 wl de (add++rest)) (hi:(ip,instObj 1355 de)∈add++rest) (h02:∀ p∈rest0,p∈add++rest) (h6:ws.length≤6) (hd:dp + 32 < recursionLimit) (hu:un + 440 < cLine)
  (ret:∀ u h₂ h' tk' add' ps' ws' k',Reb base h₀ h₂→Fr h₂ L h' m→News h₂ L h' (add'++(936,tabObj ps')::(wl,listOf (List.toArray ws') k')::(de,evO w kt vs gl wl)::(add++rest))→(∀ p∈add'++(add++rest),p.1≠936∧p.1≠wl∧p.1≠de)→TabSt (add'++(add++rest)) ps'→ws'.length≤6→Told P RE (add'++(add++rest)) u→Q u ⟨h',GC,DC,tk',OC⟩) :
  wpAny (model prog w) (ktrTop dp un gd cn cs L a ccd cl outer) (call (.ref 1385) [.ref fn,.ref ip,v,.bool b]) Q E ⟨hpS,GC,DC,tkS,OC⟩ :=
  told_ct B F X (fun p hp=>N p (perm3 p hp)) T hk C OK hfn rfl hT n2 hi h02 (by simpa using h6) XB TB hd hu fun u s' q=>by
    obtain ⟨h₂,r,h',tk',add',ps',ws',k',e,F',N',ap,t,l6,tq⟩:=q
    subst e
    exact ret _ _ _ _ _ _ _ _ r F' N' (fun p hp=>(List.mem_append.mp hp).elim (ap p) (n2.ap p)) t l6 tq
theorem told_one {d:PyData} (C:Callee w p loose mean mg mb fn ip wl de gl kt vs v b rest0 R (fun _=>False)) (OK:ToldOk w R (OneP d)) (hfn:keepIn (Mine.hd.heap_1 (World.params w)) (.ref fn) = true)
  (B:Below A₀ base outer h₀) (F:Fr h₀ L hpS m) (X:(Mine.hd.heap_1 (World.params w)).In h₀) (N:News h₀ L hpS (add++(936,tabObj ps)::(wl,listOf (List.toArray ws) k)::(de,evO w kt vs gl wl)::rest)) (T:Top p loose mean mg mb h₀) (hk:cs.kind = .function) (XB:(Mine.hd.heap_1 (World.params w)).In base) (TB:Top p loose mean mg mb base)
  (hT:TabSt (add++rest) ps) (n2:Apart3 wl de (add++rest)) (hi:(ip,instObj 1355 de)∈add++rest) (h02:∀ p∈rest0,p∈add++rest) (h6:ws.length≤6) (hd:dp + 32 < recursionLimit) (hu:un + 440 < cLine)
  (ret:∀ D l nl v' k1 k2 k3 h₂ h' tk' add' ps' ws' k',Reb base h₀ h₂→Fr h₂ L h' m→News h₂ L h' (add'++(936,tabObj ps')::(wl,listOf (List.toArray ws') k')::(de,evO w kt vs gl wl)::(add++rest))→(∀ p∈add'++(add++rest),p.1≠936∧p.1≠wl∧p.1≠de)→TabSt (add'++(add++rest)) ps'→ws'.length≤6 →
    (D,({ cls:=.type "tuple", data:=.seq #[.ref l,.ref nl] k1 }:Obj))∈add'++(936,tabObj ps')::(wl,listOf (List.toArray ws') k')::(de,evO w kt vs gl wl)::(add++rest)→(l,listOf #[v'] k2)∈add'++(936,tabObj ps')::(wl,listOf (List.toArray ws') k')::(de,evO w kt vs gl wl)::(add++rest)→(nl,listOf #[] k3)∈add'++(936,tabObj ps')::(wl,listOf (List.toArray ws') k')::(de,evO w kt vs gl wl)::(add++rest)→VD (add'++(936,tabObj ps')::(wl,listOf (List.toArray ws') k')::(de,evO w kt vs gl wl)::(add++rest)) v' d→Q (.ref D) ⟨h',GC,DC,tk',OC⟩) :
  wpAny (model prog w) (ktrTop dp un gd cn cs L a ccd cl outer) (call (.ref 1385) [.ref fn,.ref ip,v,.bool b]) Q E ⟨hpS,GC,DC,tkS,OC⟩ :=
  told_go C OK hfn B F X N T hk XB TB hT n2 hi h02 h6 hd hu fun u h₂ h' tk' add' ps' ws' k' r F' N' ap t l6 tq=>by
    cases tq with
    | ret m1 m2 m3 hn hp =>
      obtain ⟨rfl,v',rfl,q⟩:=hp
      cases hn
      exact ret _ _ _ _ _ _ _ _ _ _ _ _ _ _ r F' N' ap t l6 (memT _ m1) (memT _ m2) (memT _ m3) (q.mono memT)
    | exc _ _ re=>exact re.elim
end
section
variable {M:Model} {A:Around} {env:Env} {E:Value→Shared→Prop} {Q:Flow→Shared→Prop}
theorem cut3 (P:Shared→Prop) {s:Shared} {s1 s2 s3:Stmt} {rs:List Stmt} (h1:∀ s',P s'→wpAny M A (execs rs env) Q E s') (h2:wpAny M A (exec s1 env) (fun f s'=>match f with | .next=>wpAny M A (exec s2 env) (fun f s'=>match f with | .next=>wpAny M A (exec s3 env) (fun f s'=>match f with | .next=>P s' | f=>Q f s') E s' | f=>Q f s') E s' | f=>Q f s') E s):wpAny M A (execs (s1::s2::s3::rs) env) Q E s:=by
  refine wpAny_execs_cons (wpAny_mono h2 (fun f s' x=>?_) fun _ _ x=>x)
  cases f<;>first | exact x | exact cut2 P h1 x
theorem cut4 (P:Shared→Prop) {s:Shared} {s1 s2 s3 s4:Stmt} {rs:List Stmt} (h1:∀ s',P s'→wpAny M A (execs rs env) Q E s') (h2:wpAny M A (exec s1 env) (fun f s'=>match f with | .next=>wpAny M A (exec s2 env) (fun f s'=>match f with | .next=>wpAny M A (exec s3 env) (fun f s'=>match f with | .next=>wpAny M A (exec s4 env) (fun f s'=>match f with | .next=>P s' | f=>Q f s') E s' | f=>Q f s') E s' | f=>Q f s') E s' | f=>Q f s') E s):wpAny M A (execs (s1::s2::s3::s4::rs) env) Q E s:=by
  refine wpAny_execs_cons (wpAny_mono h2 (fun f s' x=>?_) fun _ _ x=>x)
  cases f<;>first | exact x | exact cut3 P h1 x
theorem cut5 (P:Shared→Prop) {s:Shared} {s1 s2 s3 s4 s5:Stmt} {rs:List Stmt} (h1:∀ s',P s'→wpAny M A (execs rs env) Q E s') (h2:wpAny M A (exec s1 env) (fun f s'=>match f with | .next=>wpAny M A (exec s2 env) (fun f s'=>match f with | .next=>wpAny M A (exec s3 env) (fun f s'=>match f with | .next=>wpAny M A (exec s4 env) (fun f s'=>match f with | .next=>wpAny M A (exec s5 env) (fun f s'=>match f with | .next=>P s' | f=>Q f s') E s' | f=>Q f s') E s' | f=>Q f s') E s' | f=>Q f s') E s' | f=>Q f s') E s):wpAny M A (execs (s1::s2::s3::s4::s5::rs) env) Q E s:=by
  refine wpAny_execs_cons (wpAny_mono h2 (fun f s' x=>?_) fun _ _ x=>x)
  cases f<;>first | exact x | exact cut4 P h1 x
theorem cutL3 {base g g3 h:Heap} {L:Addr} {m:Str→Option Value} {tk:Nat} {s1 s2 s3:Stmt} {rs:List Stmt} {ip wl de gl el:Addr} {kt:Nat→Tok} {vs:Nat→Value} {rest:Led} {v:Value} {b lk:Bool} {zs:List Int} (_rb:Reb base g g3) (_F:Fr g3 L h m)
    (h1:∀ s',LMid w base g L GC DC OC ip wl de gl el kt vs rest v b lk zs noX s'→wpAny M A (execs rs env) Q E s') (h2:wpAny M A (exec s1 env) (fun f s'=>match f with | .next=>wpAny M A (exec s2 env) (fun f s'=>match f with | .next=>wpAny M A (exec s3 env) (fun f s'=>match f with | .next=>LMid w base g L GC DC OC ip wl de gl el kt vs rest v b lk zs noX s' | f=>Q f s') E s' | f=>Q f s') E s' | f=>Q f s') E ⟨h,GC,DC,tk,OC⟩):wpAny M A (execs (s1::s2::s3::rs) env) Q E ⟨h,GC,DC,tk,OC⟩:=cut3 _ h1 h2
theorem cutL5 {base g g3 h:Heap} {L:Addr} {m:Str→Option Value} {tk:Nat} {s1 s2 s3 s4 s5:Stmt} {rs:List Stmt} {ip wl de gl el:Addr} {kt:Nat→Tok} {vs:Nat→Value} {rest:Led} {v:Value} {b lk:Bool} {zs:List Int} (_rb:Reb base g g3) (_F:Fr g3 L h m)
    (h1:∀ s',LMid w base g L GC DC OC ip wl de gl el kt vs rest v b lk zs (RisX zs) s'→wpAny M A (execs rs env) Q E s') (h2:wpAny M A (exec s1 env) (fun f s'=>match f with | .next=>wpAny M A (exec s2 env) (fun f s'=>match f with | .next=>wpAny M A (exec s3 env) (fun f s'=>match f with | .next=>wpAny M A (exec s4 env) (fun f s'=>match f with | .next=>wpAny M A (exec s5 env) (fun f s'=>match f with | .next=>LMid w base g L GC DC OC ip wl de gl el kt vs rest v b lk zs (RisX zs) s' | f=>Q f s') E s' | f=>Q f s') E s' | f=>Q f s') E s' | f=>Q f s') E s' | f=>Q f s') E ⟨h,GC,DC,tk,OC⟩):wpAny M A (execs (s1::s2::s3::s4::s5::rs) env) Q E ⟨h,GC,DC,tk,OC⟩:=cut5 _ h1 h2
end
theorem midB {base g g3 h:Heap} {L:Addr} {m:Str→Option Value} {tk:Nat} {ip wl de gl el pl:Addr} {kt:Nat→Tok} {vs:Nat→Value} {rest led Z:Led} {v:Value} {b lk:Bool} {zs:List Int} {ps:Array Value} {k kp:Nat} {ws pvs:List Value} (rb:Reb base g g3) (F:Fr g3 L h m) (N:News g3 L h led) (n:Apart3 wl de rest) (hm:(936,tabObj ps)∈led) (hw:(wl,listOf (List.toArray ws) k)∈led) (he:(de,evO w kt vs gl wl)∈led) (hr:∀ p∈rest,p∈led)
    (hZ:∀ p∈Z,p∈led) (aZ:∀ p∈Z,p.1≠936∧p.1≠wl∧p.1≠de) (hT:TabSt Z ps) (h6:ws.length≤6) (hp:(pl,listOf (List.toArray pvs) kp)∈Z) (hy:All2 OptI pvs (zs.map some)) (e1:m (Str.ofString "present") = some (.ref pl)) (e2:m (Str.ofString "lacks_one") = some (.bool lk)) (e3:m (Str.ofString "interp") = some (.ref ip)) (e4:m (Str.ofString "v") = some v) (e5:m (Str.ofString "entries") = some (.ref el)) (e6:m (Str.ofString "skip") = some (.bool b)) {X:Led→(Str→Option Value)→Prop} (x:∀ A:Led,(∀ p∈led,p.1≠936→p.1≠wl→p.1≠de→p∈A++rest)→X (A++rest) m):LMid w base g L GC DC OC ip wl de gl el kt vs rest v b lk zs X ⟨h,GC,DC,tk,OC⟩:=by
  have hd:∀ p:Addr×Obj,Decidable (p.1≠936∧p.1≠wl∧p.1≠de):=fun p=>Classical.propDecidable _
  have sub:∀ p∈Z,p∈(led.filter fun p=>decide (p.1≠936∧p.1≠wl∧p.1≠de))++rest:=fun p hp=>List.mem_append_left _ (List.mem_filter.mpr ⟨hZ p hp,decide_eq_true (aZ p hp)⟩)
  refine ⟨g3,h,tk,m,led.filter fun p=>decide (p.1≠936∧p.1≠wl∧p.1≠de),ps,ws,k,pl,pvs,kp,rfl,rb,F,fun p hp=>?_,fun p hp=>(List.mem_append.mp hp).elim (fun h=>of_decide_eq_true (List.mem_filter.mp h).2) (n.ap p),hT.mono sub,h6,sub _ hp,hy,e1,e2,e3,e4,e5,e6,x _ fun p hp a b c=>List.mem_append_left _ (List.mem_filter.mpr ⟨hp,decide_eq_true ⟨a,b,c⟩⟩)⟩
  rcases List.mem_append.mp hp with hp | hp
  · exact N p (List.mem_filter.mp hp).1
  rcases List.mem_cons.mp hp with e | hp
  · exact e▸N _ hm
  rcases List.mem_cons.mp hp with e | hp
  · exact e▸N _ hw
  rcases List.mem_cons.mp hp with e | hp
  · exact e▸N _ he
  · exact N p (hr p hp)
section
variable {dp un:Nat} {gd:Option (List Code)} {cn:Str} {cs:Scope} {a:Addr} {ccd:Value} {cl:List (Str×Addr)} {outer:List Env} {A₀:Around} {base h₀:Heap} {L:Addr} {m:Str→Option Value} {hpS:Heap} {tkS:Nat} {Q E:Value→Shared→Prop}
  {fn ip wl de gl:Addr} {kt:Nat→Tok} {vs:Nat→Value} {v:Value} {b:Bool} {ps:Array Value} {ws:List Value} {k:Nat} {add rest rest0:Led}
theorem told_exc {S:Str} (C:Callee w p loose mean mg mb fn ip wl de gl kt vs v b rest0 noR (fun S'=>S' = S)) (hfn:keepIn (Mine.hd.heap_1 (World.params w)) (.ref fn) = true)
  (B:Below A₀ base outer h₀) (F:Fr h₀ L hpS m) (X:(Mine.hd.heap_1 (World.params w)).In h₀) (N:News h₀ L hpS (add++(936,tabObj ps)::(wl,listOf (List.toArray ws) k)::(de,evO w kt vs gl wl)::rest)) (T:Top p loose mean mg mb h₀) (hk:cs.kind = .function) (XB:(Mine.hd.heap_1 (World.params w)).In base) (TB:Top p loose mean mg mb base)
  (hT:TabSt (add++rest) ps) (n2:Apart3 wl de (add++rest)) (hi:(ip,instObj 1355 de)∈add++rest) (h02:∀ p∈rest0,p∈add++rest) (h6:ws.length≤6) (hd:dp + 32 < recursionLimit) (hu:un + 440 < cLine)
  (ret:∀ D nl t k1 k2 h₂ h' tk' add' ps' ws' k',Reb base h₀ h₂→Fr h₂ L h' m→News h₂ L h' (add'++(936,tabObj ps')::(wl,listOf (List.toArray ws') k')::(de,evO w kt vs gl wl)::(add++rest))→(∀ p∈add'++(add++rest),p.1≠936∧p.1≠wl∧p.1≠de)→TabSt (add'++(add++rest)) ps'→ws'.length≤6 →
    (D,({ cls:=.type "tuple", data:=.seq #[.str S t,.ref nl] k1 }:Obj))∈add'++(936,tabObj ps')::(wl,listOf (List.toArray ws') k')::(de,evO w kt vs gl wl)::(add++rest)→(nl,listOf #[] k2)∈add'++(936,tabObj ps')::(wl,listOf (List.toArray ws') k')::(de,evO w kt vs gl wl)::(add++rest)→Q (.ref D) ⟨h',GC,DC,tk',OC⟩) :
  wpAny (model prog w) (ktrTop dp un gd cn cs L a ccd cl outer) (call (.ref 1385) [.ref fn,.ref ip,v,.bool b]) Q E ⟨hpS,GC,DC,tkS,OC⟩ :=
  told_go C okNo hfn B F X N T hk XB TB hT n2 hi h02 h6 hd hu fun u h₂ h' tk' add' ps' ws' k' r F' N' ap t l6 tq=>by
    cases tq with
    | ret m1 m2 m3 hn hp=>exact hp.elim
    | exc m1 m2 re =>
      subst re
      exact ret _ _ _ _ _ _ _ _ _ _ _ _ r F' N' ap t l6 (memT _ m1) (memT _ m2)
theorem told_qn0 (C:Callee w p loose mean mg mb fn ip wl de gl kt vs v b rest0 (RV (QntV w [])) (fun _=>False)) (hfn:keepIn (Mine.hd.heap_1 (World.params w)) (.ref fn) = true)
  (B:Below A₀ base outer h₀) (F:Fr h₀ L hpS m) (X:(Mine.hd.heap_1 (World.params w)).In h₀) (N:News h₀ L hpS (add++(936,tabObj ps)::(wl,listOf (List.toArray ws) k)::(de,evO w kt vs gl wl)::rest)) (T:Top p loose mean mg mb h₀) (hk:cs.kind = .function) (XB:(Mine.hd.heap_1 (World.params w)).In base) (TB:Top p loose mean mg mb base)
  (hT:TabSt (add++rest) ps) (n2:Apart3 wl de (add++rest)) (hi:(ip,instObj 1355 de)∈add++rest) (h02:∀ p∈rest0,p∈add++rest) (h6:ws.length≤6) (hd:dp + 32 < recursionLimit) (hu:un + 440 < cLine)
  (ret:∀ D l nl k1 k2 k3 h₂ h' tk' add' ps' ws' k',Reb base h₀ h₂→Fr h₂ L h' m→News h₂ L h' (add'++(936,tabObj ps')::(wl,listOf (List.toArray ws') k')::(de,evO w kt vs gl wl)::(add++rest))→(∀ p∈add'++(add++rest),p.1≠936∧p.1≠wl∧p.1≠de)→TabSt (add'++(add++rest)) ps'→ws'.length≤6 →
    (D,({ cls:=.type "tuple", data:=.seq #[.ref l,.ref nl] k1 }:Obj))∈add'++(936,tabObj ps')::(wl,listOf (List.toArray ws') k')::(de,evO w kt vs gl wl)::(add++rest)→(l,listOf #[.none,.none,.none,.none,.none] k2)∈add'++(936,tabObj ps')::(wl,listOf (List.toArray ws') k')::(de,evO w kt vs gl wl)::(add++rest)→(nl,listOf #[] k3)∈add'++(936,tabObj ps')::(wl,listOf (List.toArray ws') k')::(de,evO w kt vs gl wl)::(add++rest)→Q (.ref D) ⟨h',GC,DC,tk',OC⟩) :
  wpAny (model prog w) (ktrTop dp un gd cn cs L a ccd cl outer) (call (.ref 1385) [.ref fn,.ref ip,v,.bool b]) Q E ⟨hpS,GC,DC,tkS,OC⟩ :=
  told_go C (okQnt (sortI_len [])) hfn B F X N T hk XB TB hT n2 hi h02 h6 hd hu fun u h₂ h' tk' add' ps' ws' k' r F' N' ap t l6 tq=>by
    cases tq with
    | ret m1 m2 m3 hn hp =>
      obtain ⟨rfl,q,_⟩:=hp
      obtain rfl:=q rfl
      cases hn
      exact ret _ _ _ _ _ _ _ _ _ _ _ _ _ r F' N' ap t l6 (memT _ m1) (memT _ m2) (memT _ m3)
    | exc _ _ re=>exact re.elim
theorem told_qn1 {zs:List Int} (hz:zs≠[]) (C:Callee w p loose mean mg mb fn ip wl de gl kt vs v b rest0 (RV (QntV w zs)) (fun _=>False)) (hfn:keepIn (Mine.hd.heap_1 (World.params w)) (.ref fn) = true)
  (B:Below A₀ base outer h₀) (F:Fr h₀ L hpS m) (X:(Mine.hd.heap_1 (World.params w)).In h₀) (N:News h₀ L hpS (add++(936,tabObj ps)::(wl,listOf (List.toArray ws) k)::(de,evO w kt vs gl wl)::rest)) (T:Top p loose mean mg mb h₀) (hk:cs.kind = .function) (XB:(Mine.hd.heap_1 (World.params w)).In base) (TB:Top p loose mean mg mb base)
  (hT:TabSt (add++rest) ps) (n2:Apart3 wl de (add++rest)) (hi:(ip,instObj 1355 de)∈add++rest) (h02:∀ p∈rest0,p∈add++rest) (h6:ws.length≤6) (hd:dp + 32 < recursionLimit) (hu:un + 440 < cLine)
  (ret:∀ D l nl x0 v1 v2 v3 x4 t1 t2 t3 t4 k4 k5 k1 k2 k3 h₂ h' tk' add' ps' ws' k',Reb base h₀ h₂→Fr h₂ L h' m→News h₂ L h' (add'++(936,tabObj ps')::(wl,listOf (List.toArray ws') k')::(de,evO w kt vs gl wl)::(add++rest))→(∀ p∈add'++(add++rest),p.1≠936∧p.1≠wl∧p.1≠de)→TabSt (add'++(add++rest)) ps'→ws'.length≤6 →
    (D,({ cls:=.type "tuple", data:=.seq #[.ref l,.ref nl] k1 }:Obj))∈add'++(936,tabObj ps')::(wl,listOf (List.toArray ws') k')::(de,evO w kt vs gl wl)::(add++rest)→(l,listOf #[.ref x0,v1,v2,v3,.ref x4] k2)∈add'++(936,tabObj ps')::(wl,listOf (List.toArray ws') k')::(de,evO w kt vs gl wl)::(add++rest)→(nl,listOf #[] k3)∈add'++(936,tabObj ps')::(wl,listOf (List.toArray ws') k')::(de,evO w kt vs gl wl)::(add++rest) →
    (x0,({ cls:=.type "tuple", data:=.seq #[.int ((sortI zs).getD 0 0) t1,.int 1 t2] k4 }:Obj))∈add'++(936,tabObj ps')::(wl,listOf (List.toArray ws') k')::(de,evO w kt vs gl wl)::(add++rest)→(x4,({ cls:=.type "tuple", data:=.seq #[.int ((sortI zs).getD ((sortI zs).length - 1) 0) t3,.int 1 t4] k5 }:Obj))∈add'++(936,tabObj ps')::(wl,listOf (List.toArray ws') k')::(de,evO w kt vs gl wl)::(add++rest)→Q (.ref D) ⟨h',GC,DC,tk',OC⟩) :
  wpAny (model prog w) (ktrTop dp un gd cn cs L a ccd cl outer) (call (.ref 1385) [.ref fn,.ref ip,v,.bool b]) Q E ⟨hpS,GC,DC,tkS,OC⟩ :=
  told_go C (okQnt (sortI_len zs)) hfn B F X N T hk XB TB hT n2 hi h02 h6 hd hu fun u h₂ h' tk' add' ps' ws' k' r F' N' ap t l6 tq=>by
    cases tq with
    | ret m1 m2 m3 hn hp =>
      obtain ⟨rfl,_,q⟩:=hp
      obtain ⟨v0,v1,v2,v3,v4,rfl,q0,q4⟩:=q hz
      cases hn
      rw [← sortI_len zs] at q4
      have tp:∀ {led:Led} {v:Value} {d:Int},VD led v (.tuple [.int d,.int 1])→∃ x t1 t2 k,v = .ref x∧(x,({ cls:=.type "tuple", data:=.seq #[.int d t1,.int 1 t2] k }:Obj))∈led:=fun h=>by
        cases h with
        | tup h=>exact ⟨_,_,_,_,rfl,h⟩
      obtain ⟨x0,t1,t2,k4,rfl,y0⟩:=tp q0
      obtain ⟨x4,t3,t4,k5,rfl,y4⟩:=tp q4
      exact ret _ _ _ _ _ _ _ _ _ _ _ _ _ _ _ _ _ _ _ _ _ _ _ _ r F' N' ap t l6 (memT _ m1) (memT _ m2) (memT _ m3) (memT _ y0) (memT _ y4)
    | exc _ _ re=>exact re.elim
end
section
variable {A:Around} {E:Value→Shared→Prop} {hpS:Heap} {tkS:Nat} {g:Heap} {L:Addr} {led:Led} {Q:Value→Shared→Prop}
theorem wpAny_getItem_last {l:Addr} {vs:List Value} {k:Nat} {t:Tok} {x:Value} (N:News g L hpS led) (h1:(l,listOf (List.toArray vs) k)∈led) (hn:vs≠[]) (hx:vs[vs.length - 1]? = some x) (h:Q x ⟨hpS,GC,DC,tkS,OC⟩):wpAny (model prog w) A (getItem (.ref l) (.int (-1) t)) Q E ⟨hpS,GC,DC,tkS,OC⟩:=by
  have hl:hpS.IsList l (List.toArray vs):=⟨_,(N _ h1).1,rfl,k,rfl⟩
  obtain ⟨o,ho,hc,ne,hd⟩:=id hl
  have hlen:0 < vs.length:=List.length_pos_iff.mpr hn
  unfold getItem
  refine wpAny_holding ?_
  refine wpAny_bind (wpAny_sequenceKey hl.typeIs (by decide) ?_)
  refine wpAny_bind (wpAny_callSpecial?_slot (name:=Str.ofString "__getitem__") hl.typeIs slot_list_getitem
    (wpAny_call_entry slot_list_getitem hl.typeIs entry_list_getitem ?_ (args_list_getitem _ _)))
  show wpAny _ _ (Builtin.List.listSubscript? (.int (-1) t) >>= _) _ _ ⟨hpS,GC,DC,tkS,OC⟩
  refine wpAny_bind (wpAny_listSubscript_int (by decide) ?_)
  show wpAny _ _ ((Builtin.List.listItems (.ref l) >>= fun xs=>pure ((seqIndex? (-1) xs.size).bind fun j=>xs[j]?.map (j,·))) >>= _) _ _ ⟨hpS,GC,DC,tkS,OC⟩
  unfold Builtin.List.listItems
  refine wpAny_bind (wpAny_bind (wpAny_bind (wpAny_seqItems ho hd (wpAny_pure (wpAny_pure ?_)))))
  have e:(seqIndex? (-1) (List.toArray vs).size) = some (vs.length - 1):=by
    unfold seqIndex?
    simp only [List.size_toArray,show ((-1:Int) < 0) from by decide,if_true]
    obtain ⟨k,hk⟩:=Nat.exists_eq_succ_of_ne_zero (Nat.ne_of_gt hlen)
    have e9:(-1:Int) + ((k + 1:Nat):Int) = k:=by rw [Int.add_comm];exact Int.add_neg_cancel_right (k:Int) 1
    rw [hk,Nat.succ_eq_add_one,e9,if_pos (show (decide (0≤(k:Int)) && decide ((k:Int) < ((k + 1:Nat):Int))) = true from Bool.and_eq_true_iff.mpr ⟨decide_eq_true (Int.natCast_nonneg k),decide_eq_true (Int.lt_succ (k:Int))⟩)]
    rfl
  rw [e]
  simp only [Option.bind_some,List.getElem?_toArray,hx,Option.map_some]
  first
    | exact wpAny_pure ⟨x,rfl,wpAny_pure h⟩
    | exact wpAny_bind (wpAny_pure (wpAny_pure ⟨x,rfl,wpAny_pure h⟩))
theorem item_last {value slice:PySem.Expr} {l:Addr} {vs:List Value} {zs:List Int} {k:Nat} {u:Tok} (N:News g L hpS led) (h1:(l,listOf (List.toArray vs) k)∈led) (hi:All2 OptI vs (zs.map some)) (hne:zs≠[])
    (h:∀ t,Q (.int (zs.getD (zs.length - 1) 0) t) ⟨hpS,GC,DC,tkS,OC⟩)
    (hs:subscripted slice false (.ref l) (.int (-1) u) = operate [.ref l,.int (-1) u] (getItem (.ref l) (.int (-1) u)):=by with_unfolding_all rfl) :
    wpAny (model prog w) A (subscriptTail value slice (.ref l) (.int (-1) u)) Q E ⟨hpS,GC,DC,tkS,OC⟩:=by
  have hl:hpS.IsList l (List.toArray vs):=⟨_,(N _ h1).1,rfl,k,rfl⟩
  have hlen:=hi.length
  rw [List.length_map] at hlen
  have at_:∀ {zs:List Int} {vs:List Value} {n:Nat},All2 OptI vs (zs.map some)→n < zs.length→∃ t,vs[n]? = some (.int (zs.getD n 0) t):=by
    intro zs
    induction zs with
    | nil=>intro vs n _ h;cases h
    | cons z zs ih =>
      intro vs n h hn
      cases h with
      | cons a h =>
        cases a with
        | int _ t =>
          cases n with
          | zero=>exact ⟨t,rfl⟩
          | succ n=>exact ih h (Nat.lt_of_succ_lt_succ hn)
  have hz:0 < zs.length:=List.length_pos_iff.mpr hne
  obtain ⟨t,ht⟩:=at_ hi (n:=zs.length - 1) (by (first | lia | omega))
  exact tail_any hl.typeIs slot_list_getitem.lookup (wpAny_getItem_last N h1 (fun e=>by rw [e] at hlen;simp at hlen;(first | lia | omega)) (by rw [hlen];exact ht) (h t)) hs
theorem mul5 {m:Str→Option Value} {l:Addr} {v:Value} {k:Nat} {u:Tok} (F:Fr g L hpS m) (N:News g L hpS led) (h1:(l,listOf #[v] k)∈led)
    (h:∀ D h',Fr g L h' m→News g L h' ((D,listOf #[v,v,v,v,v] 0)::led)→(∀ p∈led,p.1 < D)→Q (.ref D) ⟨h',GC,DC,tkS,OC⟩):wpAny (model prog w) A (binaryOp .Mult (.ref l) (.int 5 u)) Q E ⟨hpS,GC,DC,tkS,OC⟩ :=
  KMa.mul (vs:=[v]) (ws:=[v,v,v,v,v]) F N ⟨_,(N _ h1).1,rfl,k,rfl⟩ (by decide) (by decide) (by show 1 * 5≤256;decide) rfl h
theorem eqStr_t {x y:Str} {t u:Tok} (e:x = y) (h:Q (.bool true) ⟨hpS,GC,DC,tkS,OC⟩):wpAny (model prog w) A (compareOp .Eq (.str x t) (.str y u)) Q E ⟨hpS,GC,DC,tkS,OC⟩:=by
  subst e
  exact eq_str (by rw [beq_self_eq_true];exact h)
end
noncomputable def PostP (w:World) (base h₀:Heap) (L:Addr) (m:Str→Option Value) (rest:Led) (wl de gl:Addr) (kt:Nat→Tok) (vs:Nat→Value) (s':Shared):Prop :=
  ∃ h₂,Reb base h₀ h₂∧Post3 w h₂ L m rest wl de gl kt vs (fun _ ws _=>ws.length≤6) .none s'
theorem retLP {base h₀ h₂ h:Heap} {L:Addr} {m:Str→Option Value} {tk:Nat} {wl de gl:Addr} {kt:Nat→Tok} {vs:Nat→Value} {rest led Z:Led} {ps:Array Value} {k:Nat} {ws:List Value} (r:Reb base h₀ h₂) (F:Fr h₂ L h m) (N:News h₂ L h led) (n:Apart3 wl de rest) (hm:(936,tabObj ps)∈led) (hw:(wl,listOf (List.toArray ws) k)∈led) (he:(de,evO w kt vs gl wl)∈led) (hr:∀ p∈rest,p∈led)
    (hZ:∀ p∈Z,p∈led) (aZ:∀ p∈Z,p.1≠936∧p.1≠wl∧p.1≠de) (hT:TabSt Z ps) (h6:ws.length≤6):PostP w base h₀ L m rest wl de gl kt vs ⟨h,GC,DC,tk,OC⟩:=by
  have hd:∀ p:Addr×Obj,Decidable (p.1≠936∧p.1≠wl∧p.1≠de):=fun p=>Classical.propDecidable _
  refine ⟨h₂,r,h,tk,led.filter fun p=>decide (p.1≠936∧p.1≠wl∧p.1≠de),ps,ws,k,rfl,F,fun p hp=>?_,fun p hp=>of_decide_eq_true (List.mem_filter.mp hp).2,hT.mono fun p hp=>List.mem_append_left _ (List.mem_filter.mpr ⟨hZ p hp,decide_eq_true (aZ p hp)⟩),h6⟩
  rcases List.mem_append.mp hp with hp | hp
  · exact N p (List.mem_filter.mp hp).1
  rcases List.mem_cons.mp hp with e | hp
  · exact e▸N _ hm
  rcases List.mem_cons.mp hp with e | hp
  · exact e▸N _ hw
  rcases List.mem_cons.mp hp with e | hp
  · exact e▸N _ he
  · exact N p (hr p hp)
theorem sevs_c {cs:Scope} {m:Str→Option Value} {e:PySem.Expr} {es:List PySem.Expr} {t t1 t2:Nat} {v:Value} {vs:List Value} (h1:sev cs m e t = some (v,t1)) (h2:sevs cs m es t1 = some (vs,t2)):sevs cs m (e::es) t = some (v::vs,t2):=by
  unfold sevs;rw [h1];dsimp only;rw [h2]
theorem sev_n {cs:Scope} {m:Str→Option Value} {x:Str} {p:Pos} {t:Nat} {v:Value} (h:cs.names.lookup x = some .local) (d:(x == ("__debug__" : Str)) = false) (e:m x = some v):sev cs m (.Name x p) t = some (v,t):=by
  show sevN cs m t x = _
  unfold sevN;rw [h,d,e];rfl
section
variable {dp un:Nat} {gd:Option (List Code)} {cn:Str} {a:Addr} {ccd:Value} {cl:List (Str×Addr)} {outer:List Env} {A₀:Around} {base h₀:Heap} {L:Addr} {m:Str→Option Value} {hpS:Heap} {tkS:Nat} {Q:Flow→Shared→Prop} {E:Value→Shared→Prop}
  {fn ip wl de gl:Addr} {kt:Nat→Tok} {vs:Nat→Value} {v:Value} {b:Bool} {R:Led→List Value→Value→Prop} {ps:Array Value} {ws:List Value} {k:Nat} {add rest rest0:Led} {p1 p2 p3 p4 p5 p6 p7 p8 p9 p10:Pos}
theorem ift {A:Around} {g:Heap} {led:Led} {l nl:Addr} {v1 v2:Value} {k1 k2:Nat} {d:PyData} {st:List Stmt} (F:Fr g L hpS m) (X:(Mine.hd.heap_1 (World.params w)).In g) (N:News g L hpS led) (e1:m (Str.ofString "told") = some (.ref l)) (e2:m (Str.ofString "notes") = some (.ref nl)) (e3:m (Str.ofString "due") = some v2) (h1:(l,listOf #[v1] k1)∈led) (h2:(nl,listOf #[] k2)∈led) (r1:VD led v1 d) (r2:VD led v2 d) (hu:A.units + 64 < cLine)
    (ret:∀ h' tk',Fr g L h' m→News g L h' led→Q .next ⟨h',GC,DC,tk',OC⟩) :
    wpAny (model prog w) A (exec (Stmt.If (.BoolOp .Or [.Compare (.Name (Str.ofString "told") p1) [.NotEq] [.List [.Name (Str.ofString "due") p2] p3] p4,.Compare (.Name (Str.ofString "notes") p5) [.NotEq] [.List [] p6] p7] p8) st [] p9) (envX cn (H.fScope (H.A 162)) L a ccd cl)) Q E ⟨hpS,GC,DC,tkS,OC⟩:=by
  refine wpAny_If (isTrue_or (wpAny_isTrue_Compare1 (nameX_L F e1 (evListE (vs:=[v2]) (t':=tkS) F N rfl ?_ rfl ?_))))
  · exact sevs_c (sev_n rfl rfl e3) rfl
  intro D h' F' N' _
  refine neVD F' X N' (.tail _ h1) (.head _) (r1.mono fun p hp=>.tail _ hp) (r2.mono fun p hp=>.tail _ hp) hu (wpAny_truthy_bool ?_)
  refine isTrue_or (wpAny_isTrue_Compare1 (nameX_L F' e2 (evListE (vs:=[]) F' N' rfl rfl rfl ?_)))
  intro D2 h2' F2 N2 _
  exact neNil N2 (.tail _ (.tail _ h2)) (.head _) hu (wpAny_truthy_bool (isTrue_or_nil (wpAny_execs_nil (ret _ _ F2 fun p hp=>N2 p (.tail _ (.tail _ hp))))))
theorem told_st {x:Str} {d:PyData} (C:Callee w p loose mean mg mb fn ip wl de gl kt vs v b rest0 R (fun _=>False)) (OK:ToldOk w R (OneP d)) (hfn:keepIn (Mine.hd.heap_1 (World.params w)) (.ref fn) = true) (en:nsIn (Mine.hd.heap_1 (World.params w)) mainGlobals x = some (some (.ref fn))) (hx:(envX cn (H.fScope (H.A 162)) L a ccd cl).kindOf x = some .globalImplicit) (hdb:(x == ("__debug__" : Str)) = false)
  (B:Below A₀ base outer h₀) (F:Fr h₀ L hpS m) (X:(Mine.hd.heap_1 (World.params w)).In h₀) (N:News h₀ L hpS (add++(936,tabObj ps)::(wl,listOf (List.toArray ws) k)::(de,evO w kt vs gl wl)::rest)) (T:Top p loose mean mg mb h₀) (XB:(Mine.hd.heap_1 (World.params w)).In base) (TB:Top p loose mean mg mb base)
  (hT:TabSt (add++rest) ps) (n2:Apart3 wl de (add++rest)) (hi:(ip,instObj 1355 de)∈add++rest) (h02:∀ p∈rest0,p∈add++rest) (h6:ws.length≤6) (hd:dp + 32 < recursionLimit) (hu:un + 440 < cLine)
  (e1:m (Str.ofString "interp") = some (.ref ip)) (e2:m (Str.ofString "v") = some v) (e3:m (Str.ofString "skip") = some (.bool b))
  (ret:∀ l nl v' k2 k3 h₂ h' tk' add' ps' ws' k',let m':Str→Option Value:=fun y=>if y = Str.ofString "notes" then some (.ref nl) else if y = Str.ofString "told" then some (.ref l) else m y
    Reb base h₀ h₂→Fr h₂ L h' m'→News h₂ L h' (add'++(936,tabObj ps')::(wl,listOf (List.toArray ws') k')::(de,evO w kt vs gl wl)::(add++rest))→(∀ p∈add'++(add++rest),p.1≠936∧p.1≠wl∧p.1≠de)→TabSt (add'++(add++rest)) ps'→ws'.length≤6 →
    (l,listOf #[v'] k2)∈add'++(936,tabObj ps')::(wl,listOf (List.toArray ws') k')::(de,evO w kt vs gl wl)::(add++rest)→(nl,listOf #[] k3)∈add'++(936,tabObj ps')::(wl,listOf (List.toArray ws') k')::(de,evO w kt vs gl wl)::(add++rest)→VD (add'++(936,tabObj ps')::(wl,listOf (List.toArray ws') k')::(de,evO w kt vs gl wl)::(add++rest)) v' d→Q .next ⟨h',GC,DC,tk',OC⟩) :
  wpAny (model prog w) (ktrTop dp un gd cn (H.fScope (H.A 162)) L a ccd cl outer) (exec (Stmt.Assign [.Tuple [.Name (Str.ofString "told") p1,.Name (Str.ofString "notes") p2] 0 p3] (.Call (.Name (Str.ofString "_law_told") p4) [.Name x p5,.Name (Str.ofString "interp") p6,.Name (Str.ofString "v") p7,.Name (Str.ofString "skip") p8] [] p9) p10) (envX cn (H.fScope (H.A 162)) L a ccd cl)) Q E ⟨hpS,GC,DC,tkS,OC⟩:=by
  have X':(Mine.hd.heap_1 (World.params w)).In hpS:=Frag.In.keeps X F.keep
  refine Assign_Tuple ?_
  refine Call_ ?_
  refine nameX_K F X (topRead_of T) (v:=.ref 1385) (by k_is) ?_
  refine callWith_K X (by k_is) ?_
  refine args_cons ?_
  refine nameX_K F X (topRead_of T) en ?_ rfl hx hdb
  refine sevs_ok F rfl (sevs_c (sev_n rfl rfl e1) (sevs_c (sev_n rfl rfl e2) (sevs_c (sev_n rfl rfl e3) rfl))) ⟨X',?_⟩
  refine told_one C OK hfn B F X N T rfl XB TB hT n2 hi h02 h6 hd hu ?_
  intro D l nl v' k1 k2 k3 h2 h' tk' add' ps' ws' k' rb F' N' ap t l6 m1 m2 m3 vd
  refine unpackN_ F' N' (News.isTup N' m1) rfl rfl rfl fun h3 F3 N3=>?_
  refine assignInOrder_cons (assign_Name (storeXE F3 N3 (fun h4 F4 N4=>?_) rfl rfl))
  refine assignInOrder_cons (assign_Name (storeXE F4 N4 (fun h5 F5 N5=>?_) rfl rfl))
  exact assignInOrder_nil (ret l nl v' k2 k3 h2 h5 _ add' ps' ws' k' rb F5 N5 ap t l6 m2 m3 vd)
end
example:True:=by
  k_with "dp eval Name" => ((k_here;(with_reducible refine (?_:wpAny _ _ (eval (Expr.Name _ _) (envOf _ _ _ _ _)) _ _ _));k_dflt (refine' nameX_L ?F__ ?v__ ?_ ?a__ ?b__;(case F__=>k_asm);(case a__=>eq_refl);(case b__=>eq_refl);(case v__=>first | rfl | assumption);k_whole)))
  k_with "dp call ref" => ((k_here;(with_reducible refine (?_:wpAny _ _ (PySem.call (Value.ref 1385) [Value.ref _,Value.ref _,_,Value.bool _] _) _ _ _));k_dflt (refine' told_one ?tC__ ?tO__ ?tf__ ?tB__ ?tF__ ?tX__ ?tN__ ?tT__ ?tk__ ?tXB__ ?tTB__ ?tT2__ ?tn__ ?ti__ ?t0__ ?t6__ ?td__ ?tu__ ?_;(case tC__=>first | with_reducible assumption | assumption);(case tO__=>first | with_reducible assumption | assumption);(case tf__=>first | with_reducible assumption | assumption);(case tB__=>k_asm);(case tF__=>k_asm);(case tX__=>k_asm);(case tN__=>k_asm);(case tT__=>k_asm);(case tk__=>first | eq_refl | assumption);(case tXB__=>first | with_reducible assumption | assumption);(case tTB__=>first | with_reducible assumption | assumption);(case tT2__=>first | with_reducible assumption | assumption);(case tn__=>first | with_reducible assumption | assumption);(case ti__=>first | with_reducible assumption | assumption);(case t0__=>first | with_reducible assumption | assumption);(case t6__=>first | with_reducible assumption | assumption);(case td__=>ktr_room);(case tu__=>ktr_units);(intro D9_ l9_ nl9_ v9_ k91_ k92_ k93_ h29_ h9_ tk9_ add9_ ps9_ ws9_ k9_ rb9_ F9_ N9_ ap9_ t9_ l69_ m91_ m92_ m93_ vd9_;have x9_:=Frag.In.keeps (by assumption) (Reb.stays rb9_);have tt9_:=Top.keeps (by assumption) (Reb.stays rb9_);have b9_:=Reb.below rb9_ (by assumption));k_extra "@HK3")))
  k_with "dp compareOp NotEq ref ref" => ((k_here;k_dflt first | (refine neNil (by k_asm) (by k_extra "@MEM") (by k_extra "@MEM") (by ktr_units) ?_) | (refine neVD (by k_asm) (by k_asm) (by k_asm) (by k_extra "@MEM") (by k_extra "@MEM") (VD.mono (by assumption) (by intro p_ h_;k_mem)) (by first | exact VD.none | exact VD.tup (by k_mem) | exact VD.int) (by ktr_units) ?_)))
  k_with "dp compareOp Eq ref ref" => ((k_here;k_dflt first | (refine' eqSome ?a1__ ?a2__ ?a3__ ?a4__ ?a5__ ?a6__ ?_;(case a1__=>k_asm);(case a2__=>k_extra "@MEM");(case a3__=>first | with_reducible assumption | assumption);(case a4__=>first | with_reducible assumption | assumption);(case a5__=>k_extra "@MEM");(case a6__=>ktr_units)) | (refine' eqNilI ?a1__ ?a2__ ?a3__ ?a4__ ?a5__ ?a6__ ?_;(case a1__=>k_asm);(case a2__=>k_extra "@MEM");(case a3__=>first | with_reducible assumption | assumption);(case a4__=>eq_refl);(case a5__=>k_extra "@MEM");(case a6__=>ktr_units))))
  k_with "dp compareOp Eq int int" => ((k_here;first | refine eqInt_t (by assumption) ?_ | refine eqInt_f (by assumption) ?_))
  k_with "dp subscriptTail" => ((k_here;(with_reducible refine (?_:wpAny _ _ (subscriptTail _ _ (Value.ref _) (Value.int _ _)) _ _ _));k_dflt (refine' item_half ?iN__ ?im__ ?iR__ ?i6__ ?i0__ ?i1__ ?_;(case iN__=>k_asm);(case im__=>k_mem);(case iR__=>first | with_reducible assumption | assumption);(case i6__=>first | with_reducible assumption | assumption);(case i0__=>first | with_reducible assumption | assumption);(case i1__=>first | with_reducible assumption | assumption);intro t9_)))
  k_with "dp subscriptTail Name" => ((k_here;(with_reducible refine (?_:wpAny _ _ (subscriptTail _ _ (Value.ref _) (Value.int _ _)) _ _ _));k_dflt (refine' item_half ?iN__ ?im__ ?iR__ ?i6__ ?i0__ ?i1__ ?_;(case iN__=>k_asm);(case im__=>k_mem);(case iR__=>first | with_reducible assumption | assumption);(case i6__=>first | with_reducible assumption | assumption);(case i0__=>first | with_reducible assumption | assumption);(case i1__=>first | with_reducible assumption | assumption);intro t9_)))
  k_with "dp call builtin:sum" => ((k_here;(with_reducible refine (?_:wpAny _ _ (call (Value.builtin "sum") [Value.ref _]) _ _ _));k_dflt (refine sum_led (by k_asm) (by k_asm) (by exact rfl) (by k_mem) (by assumption) ?_;intro h9_ tk9_ t9_ F9_ N9_)))
  k_with "dp call builtin:sorted" => ((k_here;(with_reducible refine (?_:wpAny _ _ (call (Value.builtin "sorted") [Value.ref _]) _ _ _));k_dflt (refine sorted_led (by k_asm) (by k_asm) (by k_mem) (by assumption) (by assumption) ?_;intro D9_ vs9_ c9_ h9_ F9_ N9_ l9_ i9_)))
  k_with "dp call builtin:len" => ((k_here;(with_reducible refine (?_:wpAny _ _ (call (Value.builtin "len") [Value.ref _]) _ _ _));k_dflt (refine len_ints (by k_asm) (by k_mem) (by assumption) (by assumption) ?_)))
  k_with "dp call ref" => ((k_here;(with_reducible refine (?_:wpAny _ _ (PySem.call (Value.ref 1392) [Value.int _ _,Value.int _ _] _) _ _ _));k_dflt (apply lfrac_ct;k_extra "@HK1"; (first | assumption | (first | lia | omega));(first | assumption | decide);(first | assumption | (first | lia | omega));(first | assumption | decide);k_extra "@HK2"; (intro x9_ tn9_ td9_ c9_ h9_ tk9_ F9_ N9_ l9_);k_extra "@HK3")))
  k_with "dq call ref" => ((k_here;(with_reducible refine (?_:wpAny _ _ (PySem.call (Value.ref 1385) [Value.ref 1045,Value.ref _,_,Value.bool _] _) _ _ _));k_dflt (refine' told_exc ?tC__ ?tf__ ?tB__ ?tF__ ?tX__ ?tN__ ?tT__ ?tk__ ?tXB__ ?tTB__ ?tT2__ ?tn__ ?ti__ ?t0__ ?t6__ ?td__ ?tu__ ?_;(case tC__=>first | with_reducible assumption | assumption);(case tf__=>first | with_reducible assumption | assumption);(case tB__=>k_asm);(case tF__=>k_asm);(case tX__=>k_asm);(case tN__=>k_asm);(case tT__=>k_asm);(case tk__=>first | eq_refl | assumption);(case tXB__=>first | with_reducible assumption | assumption);(case tTB__=>first | with_reducible assumption | assumption);(case tT2__=>first | with_reducible assumption | assumption);(case tn__=>first | with_reducible assumption | assumption);(case ti__=>first | with_reducible assumption | assumption);(case t0__=>first | with_reducible assumption | assumption);(case t6__=>first | with_reducible assumption | assumption);(case td__=>ktr_room);(case tu__=>ktr_units);(intro D9_ nl9_ t99_ k91_ k92_ h29_ h9_ tk9_ add9_ ps9_ ws9_ k9_ rb9_ F9_ N9_ ap9_ t9_ l69_ m91_ m92_;have x9_:=Frag.In.keeps (by assumption) (Reb.stays rb9_);have tt9_:=Top.keeps (by assumption) (Reb.stays rb9_);have b9_:=Reb.below rb9_ (by assumption));k_extra "@HK3")))
  k_with "dq call ref" => ((k_here;(with_reducible refine (?_:wpAny _ _ (PySem.call (Value.ref 1385) [Value.ref 1045,Value.ref _,_,Value.bool _] _) _ _ _));k_dflt (refine' told_qn0 ?tC__ ?tf__ ?tB__ ?tF__ ?tX__ ?tN__ ?tT__ ?tk__ ?tXB__ ?tTB__ ?tT2__ ?tn__ ?ti__ ?t0__ ?t6__ ?td__ ?tu__ ?_;(case tC__=>first | with_reducible assumption | assumption);(case tf__=>first | with_reducible assumption | assumption);(case tB__=>k_asm);(case tF__=>k_asm);(case tX__=>k_asm);(case tN__=>k_asm);(case tT__=>k_asm);(case tk__=>first | eq_refl | assumption);(case tXB__=>first | with_reducible assumption | assumption);(case tTB__=>first | with_reducible assumption | assumption);(case tT2__=>first | with_reducible assumption | assumption);(case tn__=>first | with_reducible assumption | assumption);(case ti__=>first | with_reducible assumption | assumption);(case t0__=>first | with_reducible assumption | assumption);(case t6__=>first | with_reducible assumption | assumption);(case td__=>ktr_room);(case tu__=>ktr_units);(intro D9_ l9_ nl9_ k91_ k92_ k93_ h29_ h9_ tk9_ add9_ ps9_ ws9_ k9_ rb9_ F9_ N9_ ap9_ t9_ l69_ m91_ m92_ m93_;have x9_:=Frag.In.keeps (by assumption) (Reb.stays rb9_);have tt9_:=Top.keeps (by assumption) (Reb.stays rb9_);have b9_:=Reb.below rb9_ (by assumption));k_extra "@HK3")))
  k_with "dq call ref" => ((k_here;(with_reducible refine (?_:wpAny _ _ (PySem.call (Value.ref 1385) [Value.ref 1045,Value.ref _,_,Value.bool _] _) _ _ _));k_dflt (refine' told_qn1 ?tz__ ?tC__ ?tf__ ?tB__ ?tF__ ?tX__ ?tN__ ?tT__ ?tk__ ?tXB__ ?tTB__ ?tT2__ ?tn__ ?ti__ ?t0__ ?t6__ ?td__ ?tu__ ?_;(case tC__=>first | with_reducible assumption | assumption);(case tz__=>first | with_reducible assumption | assumption);(case tf__=>first | with_reducible assumption | assumption);(case tB__=>k_asm);(case tF__=>k_asm);(case tX__=>k_asm);(case tN__=>k_asm);(case tT__=>k_asm);(case tk__=>first | eq_refl | assumption);(case tXB__=>first | with_reducible assumption | assumption);(case tTB__=>first | with_reducible assumption | assumption);(case tT2__=>first | with_reducible assumption | assumption);(case tn__=>first | with_reducible assumption | assumption);(case ti__=>first | with_reducible assumption | assumption);(case t0__=>first | with_reducible assumption | assumption);(case t6__=>first | with_reducible assumption | assumption);(case td__=>ktr_room);(case tu__=>ktr_units);(intro D9_ l9_ nl9_ x09_ v19_ v29_ v39_ x49_ t19_ t29_ t39_ t49_ k49_ k59_ k91_ k92_ k93_ h29_ h9_ tk9_ add9_ ps9_ ws9_ k9_ rb9_ F9_ N9_ ap9_ t9_ l69_ m91_ m92_ m93_ m94_ m95_;have x9_:=Frag.In.keeps (by assumption) (Reb.stays rb9_);have tt9_:=Top.keeps (by assumption) (Reb.stays rb9_);have b9_:=Reb.below rb9_ (by assumption));k_extra "@HK3")))
  k_with "dq compareOp Eq str str" => ((k_here;refine eqStr_t rfl ?_))
  k_with "dq subscriptTail Name" => ((k_here;(with_reducible refine (?_:wpAny _ _ (subscriptTail _ _ (Value.ref _) (Value.int _ _)) _ _ _));k_dflt first | (refine' item_half ?iN__ ?im__ ?iR__ ?i6__ ?i0__ ?i1__ ?_;(case iN__=>k_asm);(case im__=>k_extra "@MEM");(case iR__=>first | with_reducible assumption | assumption);(case i6__=>first | with_reducible assumption | assumption);(case i0__=>first | assumption | decide);(case i1__=>first | with_reducible assumption | assumption);intro t9_) | (refine' item_l ?N__ ?m__ ?a__ ?b__ ?c__ ?_;(case N__=>k_asm);(case m__=>k_extra "@MEM");(case a__=>decide);(case b__=>decide);(case c__=>eq_refl);k_whole)))
  k_with "dq subscriptTail Name" => ((k_here;(with_reducible refine (?_:wpAny _ _ (subscriptTail _ _ (Value.ref _) (Value.int (-1) _)) _ _ _));k_dflt (refine' item_last ?iN__ ?im__ ?iR__ ?ie__ ?_;(case iN__=>k_asm);(case im__=>k_extra "@MEM");(case iR__=>first | with_reducible assumption | assumption);(case ie__=>first | with_reducible assumption | assumption);intro t9_)))
  k_with "dq compareOp Eq ref ref" => ((k_here;k_dflt first | (refine' eqSome ?a1__ ?a2__ ?a3__ ?a4__ ?a5__ ?a6__ ?_;(case a1__=>k_asm);(case a2__=>k_extra "@MEM");(case a3__=>first | with_reducible assumption | assumption);(case a4__=>first | with_reducible assumption | assumption);(case a5__=>k_extra "@MEM");(case a6__=>ktr_units)) | (refine' eqNilI ?a1__ ?a2__ ?a3__ ?a4__ ?a5__ ?a6__ ?_;(case a1__=>k_asm);(case a2__=>k_extra "@MEM");(case a3__=>first | with_reducible assumption | assumption);(case a4__=>eq_refl);(case a5__=>k_extra "@MEM");(case a6__=>ktr_units)) | (refine eqNones (by k_asm) (by k_extra "@MEM") (by k_extra "@MEM") (by ktr_units) ?_) | (refine eqNil (by k_asm) (by k_extra "@MEM") (by k_extra "@MEM") (by ktr_units) ?_) | (refine' eqVD ?v1__ ?v2__ ?v3__ (VD.tup ?v4__) (VD.tup ?v5__) ?v6__ ?_;(case v1__=>k_asm);(case v2__=>k_asm);(case v3__=>k_asm);(case v4__=>k_extra "@MEM");(case v5__=>first | k_extra "@MEM" | k_extra "@MED");(case v6__=>ktr_units))))
  k_with "dq binaryOp Mult ref int" => ((k_here;k_dflt (refine mul5 (by k_asm) (by k_asm) (by k_extra "@MEM") ?_;intro D9_ h9_ F9_ N9_ l9_)))
  k_with "dr exec Assign" => ((k_here;(with_reducible refine (?_:wpAny _ _ (exec (Stmt.Assign [Expr.Tuple _ _ _] (Expr.Call (Expr.Name _ _) (_::_::_::_::[]) _ _) _) _) _ _ _));k_dflt (refine' told_st ?tC__ ?tO__ ?tf__ ?en__ ?hx__ ?db__ ?tB__ ?tF__ ?tX__ ?tN__ ?tT__ ?tXB__ ?tTB__ ?tT2__ ?tn__ ?ti__ ?t0__ ?t6__ ?td__ ?tu__ ?e1__ ?e2__ ?e3__ ?_;(case en__=>k_is);(case hx__=>eq_refl);(case db__=>eq_refl);(case tC__=>first | with_reducible assumption | assumption);(case tO__=>first | with_reducible assumption | assumption);(case tf__=>first | with_reducible assumption | assumption);(case tB__=>k_asm);(case tF__=>k_asm);(case tX__=>k_asm);(case tN__=>k_asm);(case tT__=>k_asm);(case tXB__=>first | with_reducible assumption | assumption);(case tTB__=>first | with_reducible assumption | assumption);(case tT2__=>first | with_reducible assumption | assumption);(case tn__=>first | with_reducible assumption | assumption);(case ti__=>first | with_reducible assumption | assumption);(case t0__=>first | with_reducible assumption | assumption);(case t6__=>first | with_reducible assumption | assumption);(case td__=>ktr_room);(case tu__=>ktr_units);(case e1__=>first | with_reducible assumption | assumption);(case e2__=>first | with_reducible assumption | assumption);(case e3__=>first | with_reducible assumption | assumption);(intro l9_ nl9_ v9_ k92_ k93_ h29_ h9_ tk9_ add9_ ps9_ ws9_ k9_ mL_ rb9_ F9_ N9_ ap9_ t9_ l69_ m92_ m93_ vd9_;have x9_:=Frag.In.keeps (by assumption) (Reb.stays rb9_);have tt9_:=Top.keeps (by assumption) (Reb.stays rb9_);have b9_:=Reb.below rb9_ (by assumption)))))
  k_with "dr exec If" => ((k_here;(with_reducible refine (?_:wpAny _ _ (exec (Stmt.If (Expr.BoolOp _ [Expr.Compare (Expr.Name _ _) [CmpOp.NotEq] _ _,_] _) _ _ _) _) _ _ _));k_dflt (refine' ift ?tF__ ?tX__ ?tN__ ?e1__ ?e2__ ?e3__ ?h1__ ?h2__ ?r1__ ?r2__ ?tu__ ?_;(case tF__=>k_asm);(case tX__=>k_asm);(case tN__=>k_asm);(case e1__=>first | eq_refl | assumption);(case e2__=>first | eq_refl | assumption);(case e3__=>first | eq_refl | assumption);(case h1__=>k_extra "@MEM");(case h2__=>k_extra "@MEM");(case r1__=>exact VD.mono (by assumption) (by intro p_ h_;k_mem));(case r2__=>first | exact VD.none | exact VD.tup (by k_mem) | exact VD.int);(case tu__=>ktr_units);(intro h9_ tk9_ F9_ N9_))))
  trivial
section
local macro_rules (kind := PySem.W.tacticK_extra_) | s => mq "0 dr dq dp v by bx dm m l k t j q h g f e d c p o a" s

section
variable (B:Below A₀ base outer h₀) (F:Fr h₀ L hpS m) (X:(Mine.hd.heap_1 (World.params w)).In h₀) (N:News h₀ L hpS news) (T:Top p loose mean mg mb h₀) (hk:cs.kind = .function)
include B F X N T hk
theorem lplain_ct {ip wl de gl el:Addr} {kt:Nat→Tok} {vs:Nat→Value} {v:Value} {b lk:Bool} {ps ws:Array Value} {k ke:Nat} {evs:List Value} {xs:List (Option Int)} {zs:List Int} {rest:Led} (hr:news = (936,tabObj ps)::(wl,listOf ws k)::(de,evO w kt vs gl wl)::rest) (hT:TabSt rest ps) (n:Apart3 wl de rest) (hi:(ip,instObj 1355 de)∈rest)
  (hv:VecI w rest xs v) (he:(el,listOf (List.toArray evs) ke)∈rest) (hE:All2 OptI evs xs) (h5:xs.length≤6) (h3:∀ z,some z∈xs→1≤z∧z≤3) (hz:pres xs = zs.map some) (hlk:lk = (decide (zs.length < xs.length) && !b)) (K:LK xs zs b lk) (hs3:Small xs) (hz6:zs.length≤6) (hz3:∀ z∈zs,1≤z∧z≤3) (h6:ws.size≤6)
  (XB:(Mine.hd.heap_1 (World.params w)).In base) (TB:Top p loose mean mg mb base) (hd:dp + 40 < recursionLimit) (hu:un + 500 < cLine)
  (ret:∀ s',PostP w base h₀ L m rest wl de gl kt vs s'→Q (.bool true) s') :
  wpAny (model prog w) (ktrTop dp un gd cn cs L a ccd cl outer) (call (.ref 1397) [.ref ip,v,.ref el,.bool b]) Q E ⟨hpS,GC,DC,tkS,OC⟩:=by
  subst hr
  k_extra "@ENTERR"
  k_dflt (refine cutA ip wl de gl el kt vs rest v b lk zs (Below.stays (by assumption)) (by k_asm) ?_ ?_)
  · rintro _ ⟨g2,h,tk,m2,add,ps2,ws2,k2,pl,pvs,kp,rfl,rb,F2,N2,ap,hT2,hw6,hpl,hpv,e1,e2,e3,e4,e5,e6,xx⟩
    have B2:=Reb.below rb (by assumption)
    have X2:=XB.keeps rb.stays
    have T2:=TB.keeps rb.stays
    have n2:Apart3 wl de (add++rest):=⟨n.n1,n.n2,n.n3,ap⟩
    have hi2:(ip,instObj 1355 de)∈add++rest:=List.mem_append_right _ hi
    have h02:∀ p∈rest,p∈add++rest:=fun p hp=>List.mem_append_right _ hp
    have hpl2:=memT (a:=(936,tabObj ps2)) (b:=(wl,listOf (List.toArray ws2) k2)) (c:=(de,evO w kt vs gl wl)) _ hpl
    k_dflt (refine cutL3 (ip:=ip) (wl:=wl) (de:=de) (gl:=gl) (el:=el) (kt:=kt) (vs:=vs) (rest:=rest) (v:=v) (b:=b) (lk:=lk) (zs:=zs) rb F2 ?_ ?_)
    · rintro _ ⟨g2,h,tk,m2,add,ps2,ws2,k2,pl,pvs,kp,rfl,rb,F2,N2,ap,hT2,hw6,hpl,hpv,e1,e2,e3,e4,e5,e6,xx⟩
      have B2:=Reb.below rb (by assumption)
      have X2:=XB.keeps rb.stays
      have T2:=TB.keeps rb.stays
      have n2:Apart3 wl de (add++rest):=⟨n.n1,n.n2,n.n3,ap⟩
      have hi2:(ip,instObj 1355 de)∈add++rest:=List.mem_append_right _ hi
      have h02:∀ p∈rest,p∈add++rest:=fun p hp=>List.mem_append_right _ hp
      have hpl2:=memT (a:=(936,tabObj ps2)) (b:=(wl,listOf (List.toArray ws2) k2)) (c:=(de,evO w kt vs gl wl)) _ hpl
      k_dflt (refine cutL5 (ip:=ip) (wl:=wl) (de:=de) (gl:=gl) (el:=el) (kt:=kt) (vs:=vs) (rest:=rest) (v:=v) (b:=b) (lk:=lk) (zs:=zs) rb F2 ?_ ?_)
      · rintro _ ⟨g2,h,tk,m2,add,ps2,ws2,k2,pl,pvs,kp,rfl,rb,F2,N2,ap,hT2,hw6,hpl,hpv,e1,e2,e3,e4,e5,e6,xx⟩
        have B2:=Reb.below rb (by assumption)
        have X2:=XB.keeps rb.stays
        have T2:=TB.keeps rb.stays
        have n2:Apart3 wl de (add++rest):=⟨n.n1,n.n2,n.n3,ap⟩
        have hi2:(ip,instObj 1355 de)∈add++rest:=List.mem_append_right _ hi
        have h02:∀ p∈rest,p∈add++rest:=fun p hp=>List.mem_append_right _ hp
        have hpl2:=memT (a:=(936,tabObj ps2)) (b:=(wl,listOf (List.toArray ws2) k2)) (c:=(de,evO w kt vs gl wl)) _ hpl
        obtain ⟨rl,rvs,kr,hrl,hrv,er⟩:=xx
        have hs6:(sortI zs).length≤6:=by rw [sortI_len];exact hz6
        have f1:keepIn (Mine.hd.heap_1 (World.params w)) (.ref 1045) = true:=rfl
        cases lk with
        | true =>
          have C1:Callee w p loose mean mg mb 1045 ip wl de gl kt vs v b rest noR (fun S=>S = Str.ofString "missing values and NaN's not allowed if 'na.rm' is FALSE"):=cQntRef hv h5 (by rw [(K.yes rfl).1];exact (K.yes rfl).2)
          k_steps
          exact ⟨_,_,_,_,rb.trans (by assumption),by k_asm,by k_asm,fun h₂ r F N=>ret _ (retLP (Z:=_++(add++rest)) r F N n (by k_mem) (by k_mem) (by k_mem) (by intro p h;k_mem) (by intro p h;repeat (first | exact memT p h | refine List.Mem.tail _ ?_)) (by assumption) (by assumption) (by assumption))⟩
        | false =>
          have C0:Callee w p loose mean mg mb 1045 ip wl de gl kt vs v b rest (RV (QntV w zs)) (fun _=>False):=cQnt hv h5 (K.no rfl) hz3
          cases zs with
          | nil =>
            k_steps
            exact ⟨_,_,_,_,rb.trans (by assumption),by k_asm,by k_asm,fun h₂ r F N=>ret _ (retLP (Z:=_++(add++rest)) r F N n (by k_mem) (by k_mem) (by k_mem) (by intro p h;k_mem) (by intro p h;repeat (first | exact memT p h | refine List.Mem.tail _ ?_)) (by assumption) (by assumption) (by assumption))⟩
          | cons z zs =>
            have hne:z::zs≠[]:=List.cons_ne_nil _ _
            have hne2:sortI (z::zs)≠[]:=fun e=>by have:=sortI_len (z::zs);rw [e] at this;cases this
            have c0:(0:Int).toNat < (sortI (z::zs)).length:=List.length_pos_iff.mpr hne2
            have c1:=sortI_len (z::zs)
            k_steps
            exact ⟨_,_,_,_,rb.trans (by assumption),by k_asm,by k_asm,fun h₂ r F N=>ret _ (retLP (Z:=_++(add++rest)) r F N n (by k_mem) (by k_mem) (by k_mem) (by intro p h;k_mem) (by intro p h;repeat (first | exact memT p h | refine List.Mem.tail _ ?_)) (by assumption) (by assumption) (by assumption))⟩
      · have C1:Callee w p loose mean mg mb 1019 ip wl de gl kt vs v b rest (RV (MedV w (kept b xs))) (fun _=>False):=cMed hv h5 h3
        have f1:keepIn (Mine.hd.heap_1 (World.params w)) (.ref 1019) = true:=rfl
        have O0:=okMed K
        have hs6:(sortI zs).length≤6:=by rw [sortI_len];exact hz6
        cases lk with
        | true =>
          have O1:ToldOk w (RV (MedV w (kept b xs))) (OneP .none):=O0
          clear O0
          k_steps
          exact midB (Z:=_++(add++rest)) (rb.trans (by assumption)) (by k_asm) (by k_asm) n (by k_mem) (by k_mem) (by k_mem) (by intro p h;k_mem) (by intro p h;repeat (first | exact memT p h | refine List.Mem.tail _ ?_)) (by assumption) (by assumption) (by assumption) (List.mem_append_right _ hpl) hpv (by first | rfl | assumption) (by first | rfl | assumption) (by first | rfl | assumption) (by first | rfl | assumption) (by first | rfl | assumption) (by first | rfl | assumption) (risX rfl (by k_mem) (by assumption) (by k_mem) (by k_mem) (by k_mem) (by assumption))
        | false =>
          cases zs with
          | nil =>
            have O1:ToldOk w (RV (MedV w (kept b xs))) (OneP .none):=O0
            clear O0
            k_steps
            exact midB (Z:=_++(add++rest)) (rb.trans (by assumption)) (by k_asm) (by k_asm) n (by k_mem) (by k_mem) (by k_mem) (by intro p h;k_mem) (by intro p h;repeat (first | exact memT p h | refine List.Mem.tail _ ?_)) (by assumption) (by assumption) (by assumption) (List.mem_append_right _ hpl) hpv (by first | rfl | assumption) (by first | rfl | assumption) (by first | rfl | assumption) (by first | rfl | assumption) (by first | rfl | assumption) (by first | rfl | assumption) (risX rfl (by k_mem) (by assumption) (by k_mem) (by k_mem) (by k_mem) (by assumption))
          | cons z zs =>
            have hne:z::zs≠[]:=List.cons_ne_nil _ _
            have hne2:sortI (z::zs)≠[]:=fun e=>by have:=sortI_len (z::zs);rw [e] at this;cases this
            obtain ⟨q1,q2,q3,q4⟩:=half_facts hne hz3
            by_cases ho:Int.fmod ((sortI (z::zs)).length:Nat) 2 = 1
            · rw [medD_odd hne ho] at O0
              k_steps
              exact midB (zs:=z::zs) (Z:=_++(add++rest)) (rb.trans (by assumption)) (by k_asm) (by k_asm) n (by k_mem) (by k_mem) (by k_mem) (by intro p h;k_mem) (by intro p h;repeat (first | exact memT p h | refine List.Mem.tail _ ?_)) (by assumption) (by assumption) (by assumption) (List.mem_append_right _ hpl) hpv (by first | rfl | assumption) (by first | rfl | assumption) (by first | rfl | assumption) (by first | rfl | assumption) (by first | rfl | assumption) (by first | rfl | assumption) (risX rfl (by k_mem) (by assumption) (by k_mem) (by k_mem) (by k_mem) (by assumption))
            · rw [medD_even hne ho] at O0
              obtain ⟨q5,q6⟩:=q3 ho
              have s3:=Int.add_nonneg (q4 (Int.fdiv ((sortI (z::zs)).length:Nat) 2 - 1).toNat).1 (q4 (Int.fdiv ((sortI (z::zs)).length:Nat) 2).toNat).1
              have s4:(sortI (z::zs)).getD (Int.fdiv ((sortI (z::zs)).length:Nat) 2 - 1).toNat 0 + (sortI (z::zs)).getD (Int.fdiv ((sortI (z::zs)).length:Nat) 2).toNat 0 < 1000:=by
                exact lt3_add (q4 _).2 (q4 _).2
              k_steps
              exact midB (zs:=z::zs) (Z:=_++(add++rest)) (rb.trans (by assumption)) (by k_asm) (by k_asm) n (by k_mem) (by k_mem) (by k_mem) (by intro p h;k_mem) (by intro p h;repeat (first | exact memT p h | refine List.Mem.tail _ ?_)) (by assumption) (by assumption) (by assumption) (List.mem_append_right _ hpl) hpv (by first | rfl | assumption) (by first | rfl | assumption) (by first | rfl | assumption) (by first | rfl | assumption) (by first | rfl | assumption) (by first | rfl | assumption) (risX rfl (by k_mem) (by assumption) (by k_mem) (by k_mem) (by k_mem) (by assumption))
    · have C1:Callee w p loose mean mg mb 1012 ip wl de gl kt vs v b rest (RV (ResV w "double" fun led v=>meanV led v (kept b xs))) (fun _=>False):=cMean hv h5 hs3
      have f1:keepIn (Mine.hd.heap_1 (World.params w)) (.ref 1012) = true:=rfl
      have O0:=okMean K
      cases lk with
      | true =>
        have O1:ToldOk w (RV (ResV w "double" fun led v=>meanV led v (kept b xs))) (OneP .none):=O0
        clear O0
        k_steps
        exact midB (Z:=_++(add++rest)) (rb.trans (by assumption)) (by k_asm) (by k_asm) n (by k_mem) (by k_mem) (by k_mem) (by intro p h;k_mem) (by intro p h;repeat (first | exact memT p h | refine List.Mem.tail _ ?_)) (by assumption) (by assumption) (by assumption) (List.mem_append_right _ hpl) hpv (by first | rfl | assumption) (by first | rfl | assumption) (by first | rfl | assumption) (by first | rfl | assumption) (by first | rfl | assumption) (by first | rfl | assumption) (X:=noX) (fun _ _=>trivial)
      | false =>
        cases zs with
        | nil =>
          have O1:ToldOk w (RV (ResV w "double" fun led v=>meanV led v (kept b xs))) (OneP (.tuple [.int 0,.int 0])):=O0
          clear O0
          k_steps
          exact midB (Z:=_++(add++rest)) (rb.trans (by assumption)) (by k_asm) (by k_asm) n (by k_mem) (by k_mem) (by k_mem) (by intro p h;k_mem) (by intro p h;repeat (first | exact memT p h | refine List.Mem.tail _ ?_)) (by assumption) (by assumption) (by assumption) (List.mem_append_right _ hpl) hpv (by first | rfl | assumption) (by first | rfl | assumption) (by first | rfl | assumption) (by first | rfl | assumption) (by first | rfl | assumption) (by first | rfl | assumption) (X:=noX) (fun _ _=>trivial)
        | cons z zs =>
          have O1:ToldOk w (RV (ResV w "double" fun led v=>meanV led v (kept b xs))) (OneP (frac (z::zs).sum ((z::zs).length:Nat))):=O0
          clear O0
          have hne:z::zs≠[]:=List.cons_ne_nil _ _
          have s1:=sum_le hz3
          have s2:(z::zs).sum < 1000:=by (first | lia | omega)
          have s3:=s1.1
          have s4:(0:Int) < ((z::zs).length:Nat):=by rw [List.length_cons];(first | lia | omega)
          have s5:(((z::zs).length:Nat):Int) < 1000:=by (first | lia | omega)
          k_steps
          exact midB (zs:=z::zs) (Z:=_++(add++rest)) (rb.trans (by assumption)) (by k_asm) (by k_asm) n (by k_mem) (by k_mem) (by k_mem) (by intro p h;k_mem) (by intro p h;repeat (first | exact memT p h | refine List.Mem.tail _ ?_)) (by assumption) (by assumption) (by assumption) (List.mem_append_right _ hpl) hpv (by first | rfl | assumption) (by first | rfl | assumption) (by first | rfl | assumption) (by first | rfl | assumption) (by first | rfl | assumption) (by first | rfl | assumption) (X:=noX) (fun _ _=>trivial)
  · k_steps
    · constructor
      intro v y I oI C oC D ys m₂ s' E' hv hC hx F1 N1 hst
      obtain ⟨g,tk,rfl⟩:=hst
      cases hv
      · k_steps
        all_goals exact ⟨_,_,rfl,by k_asm,news_sub (by k_asm) (by intro p h;k_mem)⟩
      · k_steps
        all_goals exact ⟨_,_,rfl,by k_asm,news_sub (by k_asm) (by intro p h;k_mem)⟩
    · constructor
      intro v y I oI C oC D ys m₂ s' E' hv hp hC hx F1 N1 hst
      obtain ⟨g,tk,rfl⟩:=hst
      k_steps
      all_goals exact ⟨_,_,rfl,by k_asm,news_sub (by k_asm) (by intro p h;k_mem)⟩
    · constructor
      intro g ys hy
      have hy2:All2 OptI ys (zs.map some):=hz▸hy
      have hz6:(zs.map some).length≤6:=hz▸Nat.le_trans (List.length_filter_le _ _) h5
      clear hy
      cases b
      · k_steps
        · exact midA (by assumption) (by k_asm) (by k_asm) n hT h6 (by assumption) hy2 rfl rfl rfl rfl rfl rfl (by
            have q:=(by assumption:(_:Int) < _)
            try simp only [List.length_map] at q
            have q2:zs.length < xs.length:=by (first | lia | omega)
            rw [hlk];simp [q2])
        · exact midA (by assumption) (by k_asm) (by k_asm) n hT h6 (by assumption) hy2 rfl rfl rfl rfl rfl rfl (by rw [hlk];simp)
      · k_steps
        · exact midA (by assumption) (by k_asm) (by k_asm) n hT h6 (by assumption) hy2 rfl rfl rfl rfl rfl rfl (by rw [hlk];simp)
        · exact midA (by assumption) (by k_asm) (by k_asm) n hT h6 (by assumption) hy2 rfl rfl rfl rfl rfl rfl (by
            have q:=(by assumption:¬ (_:Int) < _)
            try simp only [List.length_map] at q
            have q2:¬ zs.length < xs.length:=by (first | lia | omega)
            rw [hlk];simp [q2])
end
end

theorem retE {h₀ h:Heap} {L:Addr} {m:Str→Option Value} {news led:Led} {tk:Nat} {u:Value} {R:Led→Value→Prop} (F:Fr h₀ L h m) (N:News h₀ L h led) (hs:∀ p∈news,p∈led) (r:∀ add:Led,(∀ p∈led,(∀ q∈news,q.1≠p.1)→p∈add)→R add u):Ret h₀ L m news R u ⟨h,GC,DC,tk,OC⟩:=by
  have hd:∀ p:Addr×Obj,Decidable (∀ q∈news,q.1≠p.1):=fun p=>Classical.propDecidable _
  refine ⟨h,tk,led.filter fun p=>decide (∀ q∈news,q.1≠p.1),rfl,F,fun p hp=>?_,fun p hp=>of_decide_eq_true (List.mem_filter.mp hp).2,r _ fun p hp q=>List.mem_filter.mpr ⟨hp,decide_eq_true q⟩⟩
  rcases List.mem_append.mp hp with hp | hp
  · exact N p (List.mem_filter.mp hp).1
  · exact N p (hs p hp)
noncomputable def fresh (nm:Str) (es:List DictEntry):Bool:=es.all fun e=>!e.key.isStr nm && !e.refKey
noncomputable def okN (K:Frag) (C:Addr) (nm:Str) (es:List DictEntry):Bool:=fresh nm es && Nat.ble es.length 900 && (takerIn K C nm).any Option.isNone
noncomputable def strE (v:Value) (f:Str→Bool):Bool:=if h:v.ctorIdx = 6 then Value.str.elim v h fun s _=>f s else false
noncomputable def stC (K:Frag) (C:Addr):List DictEntry→List DictEntry→Bool
  | _,[]=>true
  | es,e::l=>strE e.key (fun nm=>okN K C nm es) && stC K C (es++[e]) l
noncomputable def asgE {α:Type} (s:Stmt) (f:List PySem.Expr→PySem.Expr→Pos→Option α):Option α:=if h:s.ctorIdx = 5 then Stmt.Assign.elim s h f else none
noncomputable def attE {α:Type} (e:PySem.Expr) (f:PySem.Expr→Str→Pos→Option α):Option α:=if h:e.ctorIdx = 20 then PySem.Expr.Attribute.elim e h f else none
theorem asgE_inv {α:Type} {s:Stmt} {f:List PySem.Expr→PySem.Expr→Pos→Option α} {r:α} (h:asgE s f = some r):∃ ts e p,s = .Assign ts e p∧f ts e p = some r :=
  (Nat.decEq s.ctorIdx 5).byCases
    (fun q=>(Stmt.Assign.elim (motive_2:=fun s=>asgE s f = some r→∃ ts e p,s = .Assign ts e p∧f ts e p = some r) s q fun ts e p h=>⟨ts,e,p,rfl,h⟩) h)
    fun q=>by have h:=(dif_neg q).symm.trans h;cases h
theorem attE_inv {α:Type} {e:PySem.Expr} {f:PySem.Expr→Str→Pos→Option α} {r:α} (h:attE e f = some r):∃ o nm p,e = .Attribute o nm p∧f o nm p = some r :=
  (Nat.decEq e.ctorIdx 20).byCases
    (fun q=>(PySem.Expr.Attribute.elim (motive_1:=fun e=>attE e f = some r→∃ o nm p,e = .Attribute o nm p∧f o nm p = some r) e q fun o nm p h=>⟨o,nm,p,rfl,h⟩) h)
    fun q=>by have h:=(dif_neg q).symm.trans h;cases h
noncomputable def stS (cs:Scope) (m:Str→Option Value) (self:Str) (st:Stmt) (tk:Nat):Option (Str×Value×Nat) :=
  asgE st fun ts e _=>ts.head?.bind fun t=>bif ts.tail.isEmpty then attE t (fun o nm _=>nameE o (fun x _=>bif x == self then (sev cs m e tk).map fun q=>(nm,q) else none) none) else none
theorem stS_inv {cs:Scope} {m:Str→Option Value} {self:Str} {st:Stmt} {tk:Nat} {r:Str×Value×Nat} (h:stS cs m self st tk = some r):∃ p1 p2 e p3,st = .Assign [.Attribute (.Name self p1) r.1 p2] e p3∧sev cs m e tk = some r.2:=by
  obtain ⟨ts,e,p3,e0,h⟩:=asgE_inv h
  cases ts with
  | nil=>cases h
  | cons t ts=>cases ts with
    | cons a b=>cases h
    | nil =>
      obtain ⟨o,nm,p2,e1,h⟩:=attE_inv h
      rcases nameE_inv h with ⟨x,p1,e2,h⟩ | h
      · cases hx:(x == self) with
        | false=>rw [hx] at h;cases h
        | true =>
          rw [hx] at h
          obtain ⟨q,hq,e3⟩:=map_inv h
          exact ⟨p1,p2,e,p3,by rw [e0,e1,e2,eq_of_beq hx,← e3],by rw [hq,← e3]⟩
      · cases h
noncomputable def stA (cs:Scope) (m:Str→Option Value) (hs:Str→Int) (self:Str):List Stmt→Nat→List Stmt×List DictEntry×Nat
  | [],tk=>([],[],tk)
  | st::ss,tk=>match stS cs m self st tk with
    | some q=>match stA cs m hs self ss (q.2.2 + 2) with
      | (r,l,t2)=>(r,⟨hs q.1,.str q.1 (q.2.2 + 1),q.2.1⟩::l,t2)
    | none=>(st::ss,[],tk)
theorem and_two {a b:Bool} (h:(a && b) = true):a = true∧b = true:=by cases a with | true=>exact ⟨rfl,h⟩ | false=>cases h
theorem not_tt {a:Bool} (h:(!a) = true):a = false:=by cases a with | false=>rfl | true=>cases h
theorem fresh_get {nm:Str} {es:List DictEntry}:fresh nm es = true→getL nm es = some none∧(∀ hs k v,putL nm hs k v es = es++[⟨hs,k,v⟩])∧es.any (·.key.isStr nm) = false∧es.any (·.refKey) = false∧es.find? (·.key.isStr nm) = none:=by
  induction es with
  | nil=>exact fun _=>⟨rfl,fun _ _ _=>rfl,rfl,rfl,rfl⟩
  | cons e es ih =>
    intro h
    obtain ⟨h0,h3⟩:=and_two (h:((!e.key.isStr nm && !e.refKey) && fresh nm es) = true)
    obtain ⟨h1,h2⟩:=and_two h0
    have h1:=not_tt h1
    have h2:=not_tt h2
    obtain ⟨a,b,c,d,f⟩:=ih h3
    have f':(e::es).find? (·.key.isStr nm) = none:=by rw [List.find?_cons,h1];exact f
    have d':(e::es).any (·.refKey) = false:=by rw [List.any_cons,h2,d];rfl
    refine ⟨?_,fun hs k v=>?_,by rw [List.any_cons,h1,c];rfl,d',f'⟩
    · unfold getL;rw [f'];simp only [d'];rfl
    · unfold putL;rw [h1,b];rfl
structure SelfL (news:Led) (x d C:Addr) (g:Obj→Led):Prop where
  up:∀ o,UpdF d o (g o) g
  ins:∀ o,(x,instObj C d)∈g o
  old:∀ o,∀ p∈news,p∈g o
theorem updF_mem {d:Addr} {o:Obj} {l:Led} {g:Obj→Led} (U:UpdF d o l g) (o':Obj):(d,o')∈g o':=by
  obtain ⟨pre,post,_,e,_,_⟩:=U.split
  rw [e];exact List.mem_append.mpr (.inr (.head _))
theorem updF_upd {d:Addr} {o o':Obj} {g:Obj→Led} (U:UpdF d o (g o) g):Upd d o o' (g o) (g o'):=by
  obtain ⟨pre,post,e0,e,a,b⟩:=U.split
  rw [e,e]
  clear e e0 U
  induction pre with
  | nil=>exact Upd.head b
  | cons p pre ih=>exact Upd.tail (a p (.head _)) (ih fun q hq=>a q (.tail _ hq))
theorem SelfL.mem {news:Led} {x d C:Addr} {g:Obj→Led} (S:SelfL news x d C g) (o:Obj):(d,o)∈g o:=updF_mem (S.up o) o
theorem SelfL.lt {news:Led} {x d C a:Addr} {g:Obj→Led} (S:SelfL news x d C g) {o:Obj} (l:∀ p∈g o,@LT.lt Nat _ p.1 a):a≠d:=Nat.ne_of_gt (l _ (S.mem o))
theorem SelfL.push {news:Led} {x d C a:Addr} {g:Obj→Led} {oa:Obj} (S:SelfL news x d C g) (l:a≠d):SelfL news x d C (fun o=>(a,oa)::g o) :=
  ⟨fun o=>.tail l (S.up o),fun o=>.tail _ (S.ins o),fun o p hp=>.tail _ (S.old o p hp)⟩
theorem putL_len {nm:Str} {hs:Int} {k v:Value} {es:List DictEntry}:(putL nm hs k v es).length≤es.length + 1:=by
  induction es with
  | nil=>exact Nat.le_refl _
  | cons e0 r ih=>unfold putL;split<;>simp only [List.length_cons]<;>(first | lia | omega)
theorem putL_fit {nm:Str} {hs:Int} {k v:Value} {es:List DictEntry} (h:Nat.ble es.length 900 = true):(putL nm hs k v es).length≤1000 :=
  Nat.le_trans putL_len (Nat.le_trans (Nat.add_le_add_right (Nat.le_of_ble_eq_true h) 1) (by decide))
theorem selfU_app {d:Addr} {o:Obj} {r:Led} {g:Obj→Led}:∀ {add:Led},(∀ p∈add,p.1≠d)→UpdF d o r g→UpdF d o (add++r) (fun o'=>add++g o')
  | [],_,U=>U
  | p::_,a,U=>.tail (a p (.head _)) (selfU_app (fun q hq=>a q (.tail _ hq)) U)
theorem SelfL.app {news:Led} {x d C:Addr} {g:Obj→Led} {add:Led} (S:SelfL news x d C g) (l:∀ p∈add,p.1≠d):SelfL news x d C (fun o=>add++g o) :=
  ⟨fun o=>selfU_app l (S.up o),fun o=>List.mem_append.mpr (.inr (S.ins o)),fun o p hp=>List.mem_append.mpr (.inr (S.old o p hp))⟩
theorem SelfL.first {news:Led} {x d C:Addr} (l1:∀ p∈news,@LT.lt Nat _ p.1 d) (l2:@LT.lt Nat _ d x):SelfL news x d C (fun o=>(x,instObj C d)::(d,o)::news) :=
  ⟨fun _=>.tail (Nat.ne_of_gt l2) (.head fun p hp=>Nat.ne_of_lt (l1 p hp)),fun _=>.head _,fun _ _ hp=>.tail _ (.tail _ hp)⟩
section
variable {A:Around} {E:Value→Shared→Prop} {K:Frag} {g h:Heap} {L a C x d:Addr} {m:Str→Option Value} {tk t':Nat} {cn:Str} {cs:Scope} {ccd:Value} {cl:List (Str×Addr)} {news:Led} {gN:Obj→Led} {es es':List DictEntry} {n n':Nat} {self:Str} {rest:List Stmt} {Q:Flow→Shared→Prop}
theorem setA {hpS:Heap} {tkS:Nat} {nm:Str} {v:Value} {Q:Unit→Shared→Prop} (F:Fr g L hpS m) (X:K.In g) (N:News g L hpS (gN (dictOf es n))) (S:SelfL news x d C gN)
    (hs:findIn K (.ref C) "__setattr__" = some (some (.builtin "object.__setattr__"))) (hp:plainOver K C = true) (hh:hasDictIn K C = true) (hO:okN K C nm es = true)
    (hq:∀ h',Fr g L h' m→News g L h' (gN (dictOf (es++[⟨PyData.keyHash w.params nm,.str nm (tkS + 1),v⟩]) (n + 1)))→Q () ⟨h',GC,DC,tkS + 2,OC⟩) :
    wpAny (model prog w) A (setAttr (.ref x) nm v) Q E ⟨hpS,GC,DC,tkS,OC⟩:=by
  unfold okN at hO
  simp only [Bool.and_eq_true] at hO
  obtain ⟨⟨h1,h2⟩,h3⟩:=hO
  obtain ⟨a,b,c,_,_⟩:=fresh_get h1
  have hT:takerIn K C nm = some none:=by
    cases q:takerIn K C nm with
    | none=>rw [q] at h3;cases h3
    | some y=>cases y with
      | none=>rfl
      | some z=>rw [q] at h3;cases h3
  exact set_dict F X N (InstAt.of_news N (S.ins _) (S.mem _)) rfl hs hp hT hh (by rw [a];rfl) (by rw [b];unfold putN;rw [c];rfl) (updF_upd (S.up _)) (by rw [List.length_append];exact Nat.le_trans (Nat.add_le_add_right (Nat.le_of_ble_eq_true h2) 1) (by decide)) hq
theorem stores_go (X:K.In g) (hk:cs.kind = .function) (hl:cs.names.lookup self = some .local) (hd:(self == ("__debug__" : Str)) = false) (hm:m self = some (.ref x)) (S:SelfL news x d C gN)
    (hs:findIn K (.ref C) "__setattr__" = some (some (.builtin "object.__setattr__"))) (hp:plainOver K C = true) (hh:hasDictIn K C = true) :
    ∀ (ss:List Stmt) (es l:List DictEntry) (n tk t':Nat) (h:Heap),Fr g L h m→News g L h (gN (dictOf es n))→stA cs m (PyData.keyHash w.params) self ss tk = (rest,l,t')→stC K C es l = true →
    (∀ h',Fr g L h' m→News g L h' (gN (dictOf (es++l) (n + l.length)))→wpAny (model prog w) A (execs rest (envX cn cs L a ccd cl)) Q E ⟨h',GC,DC,t',OC⟩)→wpAny (model prog w) A (execs ss (envX cn cs L a ccd cl)) Q E ⟨h,GC,DC,tk,OC⟩:=by
  intro ss
  induction ss with
  | nil=>intro es l n tk t' h F N hr _ hq;cases hr;rw [List.append_nil] at hq;exact hq h F N
  | cons st ss ih =>
    intro es l n tk t' h F N hr hC hq
    unfold stA at hr
    cases hS:stS cs m self st tk with
    | none=>rw [hS] at hr;cases hr;rw [List.append_nil] at hq;exact hq h F N
    | some q0 =>
      obtain ⟨p1,p2,e,p3,e0,h2⟩:=stS_inv hS
      rw [hS] at hr
      cases hA:stA cs m (PyData.keyHash w.params) self ss (q0.2.2 + 2) with
      | mk r q =>
        dsimp only at hr
        rw [hA] at hr
        cases hr
        have hC:(okN K C q0.1 es && stC K C (es++[_]) q.1) = true:=hC
        simp only [Bool.and_eq_true] at hC
        have hsw:swapsWith e (some (.Attribute (.Name self p1) q0.1 p2)) p3.line (envX cn cs L a ccd cl) = pure false:=by
          rcases sev_inv h2 with ⟨_,_,e1,_⟩ | ⟨_,_,_,e1,_⟩<;>(rw [e1];rfl)
        rw [e0]
        refine wpAny_execs_cons (plainObj_wpAny_Assign_Attribute (sev_ok F hk h2 (nameX_L F hm ?_ hk hl hd)) hsw)
        refine setA (hpS:=h) (tkS:=q0.2.2) F X N S hs hp hh hC.1 fun h' F' N'=>ih _ _ _ _ _ _ F' N' hA hC.2 fun h' F' N'=>hq h' F' ?_
        rw [List.append_assoc,Nat.add_assoc,Nat.add_comm 1] at N'
        exact N'
theorem stores_ok {s1:Stmt} {ss:List Stmt} {e1:DictEntry} {l:List DictEntry} (F:Fr g L h m) (X:K.In g) (N:News g L h (gN (dictOf es n))) (S:SelfL news x d C gN) (hk:cs.kind = .function) (hl:cs.names.lookup self = some .local) (hd:(self == ("__debug__" : Str)) = false) (hm:m self = some (.ref x))
    (hs:findIn K (.ref C) "__setattr__" = some (some (.builtin "object.__setattr__"))) (hp:plainOver K C = true) (hh:hasDictIn K C = true) (hr:stA cs m (PyData.keyHash w.params) self (s1::ss) tk = (rest,e1::l,t')) (hC:stC K C es (e1::l) = true)
    (hq:∀ h',Fr g L h' m→News g L h' (gN (dictOf (es++e1::l) (n + (l.length + 1))))→wpAny (model prog w) A (execs rest (envX cn cs L a ccd cl)) Q E ⟨h',GC,DC,t',OC⟩) :
    wpAny (model prog w) A (execs (s1::ss) (envX cn cs L a ccd cl)) Q E ⟨h,GC,DC,tk,OC⟩:=stores_go X hk hl hd hm S hs hp hh _ _ _ _ _ _ _ F N hr hC hq
theorem store_val {hpS:Heap} {tkS:Nat} {nm:Str} {v:Value} {Q:Unit→Shared→Prop} (F:Fr g L hpS m) (X:K.In g) (N:News g L hpS (gN (dictOf es n))) (S:SelfL news x d C gN)
    (hs:findIn K (.ref C) "__setattr__" = some (some (.builtin "object.__setattr__"))) (hp:plainOver K C = true) (hh:hasDictIn K C = true) (hT:takerIn K C nm = some none) (h4:(getL nm es).isSome = true) (hz:Nat.ble es.length 900 = true)
    (hq:∀ h',Fr g L h' m→News g L h' (gN (dictOf (putL nm (PyData.keyHash w.params nm) (.str nm (tkS + 1)) v es) (putN nm es n)))→Q () ⟨h',GC,DC,tkS + 2,OC⟩) :
    wpAny (model prog w) A (setAttr (.ref x) nm v) Q E ⟨hpS,GC,DC,tkS,OC⟩ :=
  set_dict F X N (InstAt.of_news N (S.ins _) (S.mem _)) rfl hs hp hT hh h4 rfl (updF_upd (S.up _)) (putL_fit hz) hq
theorem attr_self {hpS:Heap} {tkS:Nat} {nm:Str} {v:Value} {expr:Bool} {at':Option Value} {Q:Value→Shared→Prop} (F:Fr g L hpS m) (X:K.In g) (N:News g L hpS (gN (dictOf es n))) (S:SelfL news x d C gN) (hg:plainGet K C nm = true) (hh:hasDictIn K C = true)
    (ha:findIn K (.ref C) nm = some at') (hn:noGet K at' = true) (hl:getL nm es = some (some v)) (hv:handedIn v = true) (hq:Q v ⟨hpS,GC,DC,tkS + 1,OC⟩):wpAny (model prog w) A (getAttr (.ref x) nm expr) Q E ⟨hpS,GC,DC,tkS,OC⟩ :=
  get_own F X (InstAt.of_news N (S.ins _) (S.mem _)) hg hh ha hn hl hv hq
theorem meth_self {hpS:Heap} {tkS:Nat} {nm:Str} {f:Addr} {pl:Sem Bool} {Q:Value×List Value→Shared→Prop} (F:Fr g L hpS m) (X:K.In g) (N:News g L hpS (gN (dictOf es n))) (S:SelfL news x d C gN) (hg:plainGet K C nm = true)
    (hf:findIn K (.ref C) nm = some (some (.ref f))) (ht:isFn K (.ref f) = true) (hl:getL nm es = some none) (hq:Q (.ref f,[.ref x]) ⟨hpS,GC,DC,tkS,OC⟩):wpAny (model prog w) A (getMethod (.ref x) nm pl) Q E ⟨hpS,GC,DC,tkS,OC⟩ :=
  method_inst F X (InstAt.of_news N (S.ins _) (S.mem _)) hg hf ht hl hq
theorem store_nil {o nm:Str} {p1 p2 p3 p4:Pos} {ss:List Stmt} (F:Fr g L h m) (X:K.In g) (N:News g L h (gN (dictOf es n))) (S:SelfL news x d C gN) (hk:cs.kind = .function) (hl:sev cs m (.Name o p1) tk = some (.ref x,tk))
    (hs:findIn K (.ref C) "__setattr__" = some (some (.builtin "object.__setattr__"))) (hp:plainOver K C = true) (hh:hasDictIn K C = true) (hO:okN K C nm es = true)
    (hq:∀ l h' (g':Obj→Led),SelfL news x d C g'→(∀ o,(l,listOf #[] 0)∈g' o)→(∀ o,∀ p∈gN o,p∈g' o)→(∀ p∈news,@Ne Nat p.1 l)→Fr g L h' m→News g L h' (g' (dictOf (es++[⟨PyData.keyHash w.params nm,.str nm (tk + 1),.ref l⟩]) (n + 1)))→wpAny (model prog w) A (execs ss (envX cn cs L a ccd cl)) Q E ⟨h',GC,DC,tk + 2,OC⟩) :
    wpAny (model prog w) A (execs (.Assign [.Attribute (.Name o p1) nm p2] (.List [] p3) p4::ss) (envX cn cs L a ccd cl)) Q E ⟨h,GC,DC,tk,OC⟩:=by
  refine wpAny_execs_cons (plainObj_wpAny_Assign_Attribute (List_ (args_nil (newList_N F N fun h1 F1 N1=>?_))) rfl)
  have l1:∀ p∈gN (dictOf es n),@LT.lt Nat _ p.1 h.objs.size:=fun p hp=>Heap.lt_size (N p hp).1
  have S1:SelfL news x d C fun o=>(h.objs.size,listOf #[] 0)::gN o:=S.push (S.lt l1)
  exact sev_ok F1 hk hl (setA (hpS:=h1) (tkS:=tk) (gN:=fun o=>(h.objs.size,listOf #[] 0)::gN o) F1 X N1 S1 hs hp hh hO fun h' F' N'=>hq _ _ _ S1 (fun _=>.head _) (fun _ _ hp=>.tail _ hp) (fun p hp=>Nat.ne_of_lt (l1 p (S.old _ p hp))) F' N')
theorem store_dict {o nm:Str} {p1 p2 p3 p4:Pos} {ss:List Stmt} (F:Fr g L h m) (X:K.In g) (T:Top p loose mean mg mb g) (N:News g L h (gN (dictOf es n))) (S:SelfL news x d C gN) (hk:cs.kind = .function) (hl:sev cs m (.Name o p1) tk = some (.ref x,tk))
    (hs:findIn K (.ref C) "__setattr__" = some (some (.builtin "object.__setattr__"))) (hp:plainOver K C = true) (hh:hasDictIn K C = true) (hO:okN K C nm es = true)
    (hq:∀ l h' (g':Obj→Led),SelfL news x d C g'→(∀ o,∀ p∈gN o,p∈g' o)→(∀ p∈news,@Ne Nat p.1 l)→Fr g L h' m→News g L h' (g' (dictOf (es++[⟨PyData.keyHash w.params nm,.str nm (tk + 1),.ref l⟩]) (n + 1)))→wpAny (model prog w) A (execs ss (envX cn cs L a ccd cl)) Q E ⟨h',GC,DC,tk + 2,OC⟩) :
    wpAny (model prog w) A (execs (.Assign [.Attribute (.Name o p1) nm p2] (.Dict [] [] p3) p4::ss) (envX cn cs L a ccd cl)) Q E ⟨h,GC,DC,tk,OC⟩:=by
  refine wpAny_execs_cons (plainObj_wpAny_Assign_Attribute (newDict_K F N T.nolimit fun d1 h1 o1 F1 N1 l1 _ _ _ _ _=>?_) rfl)
  have S1:SelfL news x d C fun o=>(d1,o1)::gN o:=S.push (S.lt l1)
  exact sev_ok F1 hk hl (setA (hpS:=h1) (tkS:=tk) (gN:=fun o=>(d1,o1)::gN o) F1 X N1 S1 hs hp hh hO fun h' F' N'=>hq _ _ _ S1 (fun _ _ hp=>.tail _ hp) (fun p hp=>Nat.ne_of_lt (l1 p (S.old _ p hp))) F' N')
end
theorem self_open {news:Led} {g h:Heap} {L x d C:Addr} {P:Prop} (N:News g L h ((x,instObj C d)::(d,dictOf [] 0)::news)) (l1:∀ p∈news,@LT.lt Nat _ p.1 d) (l2:@LT.lt Nat _ d x) (k:∀ gN:Obj→Led,SelfL news x d C gN→News g L h (gN (dictOf [] 0))→P):P :=
  k (fun o=>(x,instObj C d)::(d,o)::news) (SelfL.first l1 l2) N
theorem let_bodyT {M:Model} {A:Around} {env:Env} {E:Value→Shared→Prop} {g h:Heap} {L:Addr} {m:Str→Option Value} {tk:Nat} {b:List Stmt} {Q:Flow→Shared→Prop} (F:Fr g L h m) (k:let m':=m;let e':=env;let A':=A.deeper e';let Q':=Q;let E':=E;∀ tk,Fr g L h m'→wpAny M A' (execs b e') Q' E' ⟨h,GC,DC,tk,OC⟩):wpAny M (A.deeper env) (execs b env) Q E ⟨h,GC,DC,tk,OC⟩:=k tk F
example:True:=by
  k_with "ds execs cons" => ((k_here;(with_reducible refine (?_:wpAny _ _ (execs (Stmt.Assign [Expr.Attribute (Expr.Name _ _) _ _] _ _::_) _) _ _ _));k_dflt first | ((with_reducible refine (?_:wpAny _ _ (execs (Stmt.Assign [Expr.Attribute (Expr.Name _ _) _ _] (Expr.List [] _) _::_) _) _ _ _));refine' store_nil ?F__ ?X__ ?N__ ?S__ ?k__ ?l__ ?h1__ ?h2__ ?h3__ ?h4__ ?_;(case F__=>k_asm);(case X__=>k_asm);(case l__=>eq_refl);(case S__=>first | with_reducible assumption | assumption);(case N__=>k_asm);(case k__=>first | eq_refl | assumption);(case h1__=>k_is);(case h2__=>k_is);(case h3__=>k_is);(case h4__=>kernel_rfl);k_whole;clear N'_;intro wL_ h'_ gN_ S_ m1_ m2_ ne_ F'_ N'_) | ((with_reducible refine (?_:wpAny _ _ (execs (Stmt.Assign [Expr.Attribute (Expr.Name _ _) _ _] (Expr.Dict [] [] _) _::_) _) _ _ _));refine' store_dict ?F__ ?X__ ?T__ ?N__ ?S__ ?k__ ?l__ ?h1__ ?h2__ ?h3__ ?h4__ ?_;(case F__=>k_asm);(case X__=>k_asm);(case T__=>k_asm);(case l__=>eq_refl);(case S__=>first | with_reducible assumption | assumption);(case N__=>k_asm);(case k__=>first | eq_refl | assumption);(case h1__=>k_is);(case h2__=>k_is);(case h3__=>k_is);(case h4__=>kernel_rfl);k_whole;intro wL_ h'_ gN_ S_ m2_ ne_ F'_ N'_) | (refine' stores_ok (self:=Str.ofString "self") ?F__ ?X__ ?N__ ?S__ ?k__ ?l__ ?d__ ?m__ ?h1__ ?h2__ ?h3__ ?hr__ ?hC__ ?_;(case F__=>k_asm);(case X__=>k_asm);(case S__=>first | with_reducible assumption | assumption);(case N__=>k_asm);(case m__=>eq_refl);(case k__=>first | eq_refl | assumption);(case l__=>eq_refl);(case d__=>eq_refl);(case h1__=>k_is);(case h2__=>k_is);(case h3__=>k_is);(case hr__=>eq_refl);(case hC__=>kernel_rfl);k_whole;intro h'_ F'_ N'_)))
  trivial
section
local macro_rules (kind := PySem.W.tacticK_extra_) | s => mq "0 ds m l k u t j q h g f e d c o a" s

section
variable (B:Below A₀ base outer h₀) (F:Fr h₀ L hpS m) (X:(Mine.hd.heap_1 (World.params w)).In h₀) (N:News h₀ L hpS news) (T:Top p loose mean mg mb h₀) (hk:cs.kind = .function)
include B F X N T hk
theorem env_ct {i:Int} {t:Tok} {v:Value} (hd:dp + 10 < recursionLimit)
  (ret:∀ u s',Ret h₀ L m news (fun _ u=>∃ x,u = .ref x) u s'→Q u s') :
  wpAny (model prog w) (ktrTop dp un gd cn cs L a ccd cl outer) (call (.ref 284) [.int i t,v]) Q E ⟨hpS,GC,DC,tkS,OC⟩:=by
  k_dflt (refine' call_cls ?k1 ?k2 ?k3 ?k4 ?k5 ?k6 ?_;(case k1=>k_asm);(case k2=>k_asm);(case k3=>k_asm);(case k4=>k_is);(case k5=>k_is);(case k6=>k_is);k_whole;intro x' d' h' F' N' l1 l2)
  k_dflt (refine' code_def ?k1 ?k2 ?k3 ?k4 ?k5 ?kA ?kF ?kK ?k6 ?k7 ?k8 ?k9 ?kB ?_ ?c2 ?c3 ?c4 ?c5;(case kA=>exact rfl);(case kF=>exact rfl);(case kK=>assumption);(case k1=>k_asm);(case k2=>k_asm);(case k3=>k_asm);(case k4=>k_asm);(case k5=>k_asm);(case k6=>k_is);(case k7=>k_is);(case k8=>k_room);(case k9=>first | exact BindsTo.of_eq rfl | exact binds_K (by k_in) rfl (by k_is) rfl rfl rfl);(case c5=>decide);(case kB=>exact locs rfl);(case c2=>exact rfl);(case c3=>exact rfl);(case c4=>exact rfl);k_whole;intro g' L' h' FG' F' N' B' X' T';(try dsimp only);(try k_fold);refine let_bodyT F' ?_;clear F';intro mL eL AL QL EL tk9 F9)
  refine self_open N' l1 l2 ?_
  clear N'
  intro gN S N'
  k_steps
  exact ret _ _ (retE (by k_asm) (by k_asm) (SelfL.old (by assumption) _) fun add key=>⟨_,rfl⟩)
theorem env_go {i:Int} {t:Tok} {v:Value} {C ip de:Addr} {gN:Obj→Led} {news0:Led} {es:List DictEntry} {n:Nat} (S:SelfL news0 ip de C gN) (hn:news = gN (dictOf es n)) (hd:dp + 10 < recursionLimit)
  (ret:∀ x tk g' h',SelfL news0 ip de C g'→(∀ o,∀ p∈gN o,p∈g' o)→Fr h₀ L h' m→News h₀ L h' (g' (dictOf es n))→Q (.ref x) ⟨h',GC,DC,tk,OC⟩) :
  wpAny (model prog w) (ktrTop dp un gd cn cs L a ccd cl outer) (call (.ref 284) [.int i t,v]) Q E ⟨hpS,GC,DC,tkS,OC⟩:=by
  subst hn
  refine env_ct B F X N T hk hd fun u s' r=>?_
  obtain ⟨h',tk,add,e,F',N',ap,x,eu⟩:=r
  subst e eu
  exact ret x tk (fun o=>add++gN o) h' (S.app fun p hp=>Ne.symm (ap p hp _ (S.mem _))) (fun o p hp=>List.mem_append.mpr (.inr hp)) F' N'
end
end
example:True:=by
  k_with "dt getAttr ref" => ((k_here;k_dflt (refine' attr_self ?F__ ?X__ ?N__ ?S__ ?h1__ ?h2__ ?h3__ ?h4__ ?h5__ ?h6__ ?_;(case F__=>k_asm);(case X__=>k_asm);(case S__=>first | with_reducible assumption | assumption);(case N__=>k_asm);(case h1__=>k_is);(case h2__=>k_is);(case h3__=>k_is);(case h4__=>k_is);(case h5__=>first | assumption | exact rfl);(case h6__=>k_handed);k_whole)))
  k_with "dt setAttr ref" => ((k_here;k_dflt (refine' store_val ?F__ ?X__ ?N__ ?S__ ?h1__ ?h2__ ?h3__ ?h4__ ?h5__ ?h6__ ?_;(case F__=>k_asm);(case X__=>k_asm);(case S__=>first | with_reducible assumption | assumption);(case N__=>k_asm);(case h1__=>k_is);(case h2__=>k_is);(case h3__=>k_is);(case h4__=>k_is);(case h5__=>first | assumption | exact rfl);(case h6__=>first | assumption | exact rfl);k_whole;intro h'_ F'_ N'_)))
  k_with "dt call ref" => ((k_here;(with_reducible refine (?_:wpAny _ _ (PySem.call (Value.ref 284) _ _) _ _ _));k_dflt (refine' env_go ?B__ ?F__ ?X__ ?N__ ?T__ ?k__ ?S__ ?e__ ?d__ ?_;(case B__=>k_asm);(case F__=>k_asm);(case X__=>k_asm);(case T__=>k_asm);(case k__=>first | eq_refl | assumption);(case S__=>first | with_reducible assumption | assumption);(case N__=>k_asm);(case e__=>eq_refl);(case d__=>k_room);k_whole;intro x9_ tk9_ gN_ S_ m2_ h'_ F'_ N'_)))
  trivial
section
local macro_rules (kind := PySem.W.tacticK_extra_) | s => mq "0 dt ds u m l k t j q h g f e d c o a" s

section
variable (B:Below A₀ base outer h₀) (F:Fr h₀ L hpS m) (X:(Mine.hd.heap_1 (World.params w)).In h₀) (N:News h₀ L hpS news) (T:Top p loose mean mg mb h₀) (hk:cs.kind = .function)
include B F X N T hk
theorem newenv_ct {ip de:Addr} {gN:Obj→Led} {news0:Led} {es:List DictEntry} {n:Nat} {i:Int} {t:Tok} {v:Value} (S:SelfL news0 ip de 1355 gN) (hn:news = gN (dictOf es n)) (hg:getL (Str.ofString "next_number") es = some (some (.int i t))) (hz:Nat.ble es.length 900 = true) (hd:dp + 16 < recursionLimit)
  (ret:∀ x tk g' h' kt vt,SelfL news0 ip de 1355 g'→(∀ o,∀ p∈gN o,p∈g' o)→Fr h₀ L h' m→News h₀ L h' (g' (dictOf (putL (Str.ofString "next_number") (PyData.keyHash w.params (Str.ofString "next_number")) (.str (Str.ofString "next_number") kt) (.int (i + 1) vt) es) (putN (Str.ofString "next_number") es n)))→Q (.ref x) ⟨h',GC,DC,tk,OC⟩) :
  wpAny (model prog w) (ktrTop dp un gd cn cs L a ccd cl outer) (call (.ref 1171) [.ref ip,v]) Q E ⟨hpS,GC,DC,tkS,OC⟩:=by
  subst hn
  have hi:(getL (Str.ofString "next_number") es).isSome = true:=by rw [hg];rfl
  k_extra "@ENTER"
  k_steps
  exact ret _ _ _ _ _ _ (by assumption) (by assumption) (by k_asm) (by k_asm)
end
end
example:True:=by
  k_with "du call ref" => ((k_here;(with_reducible refine (?_:wpAny _ _ (PySem.call (Value.ref 1171) _ _) _ _ _));k_dflt (refine' newenv_ct ?B__ ?F__ ?X__ ?N__ ?T__ ?k__ ?S__ ?e__ ?g__ ?z__ ?d__ ?_;(case B__=>k_asm);(case F__=>k_asm);(case X__=>k_asm);(case T__=>k_asm);(case k__=>first | eq_refl | assumption);(case S__=>first | with_reducible assumption | assumption);(case N__=>k_asm);(case e__=>eq_refl);(case g__=>eq_refl);(case z__=>eq_refl);(case d__=>k_room);k_whole;intro x9_ tk9_ gN_ h'_ kt9_ vt9_ S_ m2_ F'_ N'_);(try dsimp only)))
  k_with "du getMethod ref" => ((k_here;k_dflt (refine' meth_self ?F__ ?X__ ?N__ ?S__ ?h1__ ?h2__ ?h3__ ?h4__ ?_;(case F__=>k_asm);(case X__=>k_asm);(case S__=>first | with_reducible assumption | assumption);(case N__=>k_asm);(case h1__=>k_is);(case h2__=>k_is);(case h3__=>k_is);(case h4__=>eq_refl);k_whole)))
  k_with "du setAttr ref" => ((k_here;k_dflt (refine' setA ?F__ ?X__ ?N__ ?S__ ?h1__ ?h2__ ?h3__ ?h4__ ?_;(case F__=>k_asm);(case X__=>k_asm);(case S__=>first | with_reducible assumption | assumption);(case N__=>k_asm);(case h1__=>k_is);(case h2__=>k_is);(case h3__=>k_is);(case h4__=>kernel_rfl);k_whole;intro h'_ F'_ N'_)))
  trivial
section
local macro_rules (kind := PySem.W.tacticK_extra_) | s => mq "0 du dt ds u m l k t j q h g f e d c o a" s
theorem evR {ip de wl:Addr} {k n:Nat} {es:List DictEntry} {h₀ h:Heap} {L:Addr} {led add news:Led} (key:∀ p∈led,(∀ q∈news,q.1≠p.1)→p∈add) (N:News h₀ L h led) (h1:(ip,instObj 1355 de)∈led) (h2:(de,dictOf es n)∈led) (h3:(wl,listOf #[] k)∈led)
    (e:dictOf es n = evO w (fun i=>match (es.getD i ⟨0,.none,.none⟩).key with | .str _ t=>t | _=>0) (fun i=>(es.getD i ⟨0,.none,.none⟩).val) (match (es.getD 5 ⟨0,.none,.none⟩).val with | .ref a=>a | _=>0) wl)
    (a1:∀ q∈news,q.1≠ip) (a2:∀ q∈news,q.1≠de) (a3:∀ q∈news,q.1≠wl):∃ ip' de wl gl kt vs k,Value.ref ip = .ref ip'∧(ip',instObj 1355 de)∈add∧(de,evO w kt vs gl wl)∈add∧(wl,listOf #[] k)∈add∧de≠wl :=
  ⟨ip,de,wl,_,_,_,k,rfl,key _ h1 a1,e▸key _ h2 a2,key _ h3 a3,ne_cls N h2 h3 (fun q=>by simp at q)⟩
section
variable (B:Below A₀ base outer h₀) (F:Fr h₀ L hpS m) (X:(Mine.hd.heap_1 (World.params w)).In h₀) (N:News h₀ L hpS news) (T:Top p loose mean mg mb h₀) (hk:cs.kind = .function)
include B F X N T hk
theorem eval_ct {tl:Tok} (hd:dp + 20 < recursionLimit)
  (ret:∀ u s',Ret h₀ L m news (fun add u=>∃ ip de wl gl kt vs k,u = .ref ip∧(ip,instObj 1355 de)∈add∧(de,evO w kt vs gl wl)∈add∧(wl,listOf #[] k)∈add∧de≠wl) u s'→Q u s') :
  wpAny (model prog w) (ktrTop dp un gd cn cs L a ccd cl outer) (call (.ref 1355) [.int 50 tl]) Q E ⟨hpS,GC,DC,tkS,OC⟩:=by
  k_dflt (refine' call_cls ?k1 ?k2 ?k3 ?k4 ?k5 ?k6 ?_;(case k1=>k_asm);(case k2=>k_asm);(case k3=>k_asm);(case k4=>k_is);(case k5=>k_is);(case k6=>k_is);k_whole;intro x' d' h' F' N' l1 l2)
  k_dflt (refine' code_def ?k1 ?k2 ?k3 ?k4 ?k5 ?kA ?kF ?kK ?k6 ?k7 ?k8 ?k9 ?kB ?_ ?c2 ?c3 ?c4 ?c5;(case kA=>exact rfl);(case kF=>exact rfl);(case kK=>assumption);(case k1=>k_asm);(case k2=>k_asm);(case k3=>k_asm);(case k4=>k_asm);(case k5=>k_asm);(case k6=>k_is);(case k7=>k_is);(case k8=>k_room);(case k9=>first | exact BindsTo.of_eq rfl | exact binds_K (by k_in) rfl (by k_is) rfl rfl rfl);(case c5=>decide);(case kB=>exact locs rfl);(case c2=>exact rfl);(case c3=>exact rfl);(case c4=>exact rfl);k_whole;intro g' L' h' FG' F' N' B' X' T';(try dsimp only);(try k_fold);refine let_bodyT F' ?_;clear F';intro mL eL AL QL EL tk9 F9)
  refine self_open N' l1 l2 ?_
  clear N'
  intro gN S N'
  k_steps
  rename_i w3 h3 g3 S3 m3 s3 n3 F3 w4 h4 g4 S4 m4 s4 n4 F4 h6 F6 N6 kF kN Tc kX
  exact ret _ _ (retE kF kN (S_.old _) fun add key=>evR (wl:=w3) key kN (S_.ins _) (S_.mem _) (m2_ _ _ (s4 _ _ (m3 _))) (by kernel_rfl) (fun q hq=>Nat.ne_of_lt (Nat.lt_trans (l1 q hq) l2)) (fun q hq=>Nat.ne_of_lt (l1 q hq)) n3)
end
end
section
variable (B:Below A₀ base outer h₀) (F:Fr h₀ L hpS m) (X:(Mine.hd.heap_1 (World.params w)).In h₀) (N:News h₀ L hpS news) (T:Top p loose mean mg mb h₀) (hk:cs.kind = .function)
include B F X N T hk
theorem coinD_ct {c:Addr} {us:List Value} {l:List Int} {k:Nat} {mn:Int} {tm:Tok} {rest:Led} (D:Del c (listOf us.toArray k) news rest) (ap:∀ p∈rest,p.1≠c) (hi:IntsAre us l) (hl:us.length≤60) (hm:0 < mn) (hd:dp + 2 < recursionLimit) (hu:un + 100 < cLine)
  (ret:∀ i t h' tk' us' l' k',0≤i→i < mn→IntsAre us' l'→us'.length≤60→Fr h₀ L h' m→News h₀ L h' ((c,listOf us'.toArray k')::rest)→Q (.int i t) ⟨h',GC,DC,tk',OC⟩) :
  wpAny (model prog w) (ktrTop dp un gd cn cs L a ccd cl outer) (call (.ref 1380) [.ref c,.int mn tm]) Q E ⟨hpS,GC,DC,tkS,OC⟩ :=
  coin_ct B F X (D.nws N) T hk rfl ap hi hl hm hd hu ret
end
theorem apC {c:Addr} {o:Obj} {A R:Led} (h:∀ p∈A,∀ q∈(c,o)::R,q.1≠p.1) (a:∀ q∈R,q.1≠c):∀ p∈A++R,p.1≠c:=fun p hp=>(List.mem_append.mp hp).elim (fun hp=>Ne.symm (h p hp _ (.head _))) (a p)
theorem execs_split {M:Model} {A:Around} {env:Env} {E:Value→Shared→Prop} {Q:Flow→Shared→Prop} (P:Shared→Prop) {xs ys:List Stmt} {s:Shared} (h2:wpAny M A (execs xs env) (fun f s'=>match f with | .next=>P s' | f=>Q f s') E s) (h1:∀ s',P s'→wpAny M A (execs ys env) Q E s'):wpAny M A (execs (xs++ys) env) Q E s:=by
  intro Γ p hΓ
  replace h2:=h2 Γ p hΓ
  induction xs generalizing s p with
  | nil=>exact h1 s h2 Γ p hΓ
  | cons x xs ih =>
    rw [execs_cons,Sem.wp_bind'] at h2
    rw [List.cons_append,execs_cons,Sem.wp_bind']
    refine Sem.wp_mono M Γ _ (fun f p' s' h'=>?_) (fun _ _ _ h'=>h') _ _ h2
    cases f with
    | next=>exact ih p' h'
    | _=>exact h'
theorem let_top {M:Model} {A:Around} {env:Env} {E:Value→Shared→Prop} {g h:Heap} {L:Addr} {m:Str→Option Value} {tk:Nat} {b:List Stmt} {Q:Flow→Shared→Prop} (F:Fr g L h m) (k:let m':=m;let e':=env;let A':=A;let Q':=Q;let E':=E;Fr g L h m'→wpAny M A' (execs b e') Q' E' ⟨h,GC,DC,tk,OC⟩):wpAny M A (execs b env) Q E ⟨h,GC,DC,tk,OC⟩:=k F
theorem small7 {i:Int} (h0:0≤i) (h1:i < 7):Builtin.Range.small 0 i 1 = true∧Builtin.Range.rangeSize 0 i 1 = (i.toNat:Int)∧i.toNat≤6:=by
  have:=in7 h0 h1
  rcases this with rfl | rfl | rfl | rfl | rfl | rfl | rfl<;>exact ⟨by rfl,by rfl,by decide⟩
inductive LA (w:World) (g:Heap) (L:Addr) (G:Array GenState) (D:Drawn) (O:OsState):Shared→Prop
  | mk (h:Heap) (tk:Nat) (m:Str→Option Value) (rest:Led) (ps:Array Value) (k:Nat) (ip wl de gl:Addr) (kt:Nat→Tok) (vs:Nat→Value) (el:Addr) (ke:Nat) (evs:List Value) (xs:List (Option Int)) (mn:Int) (b ob:Bool) (t1:Tok):Fr g L h m→News g L h ((936,tabObj ps)::(wl,listOf #[] k)::(de,evO w kt vs gl wl)::rest)→TabSt rest ps→Apart3 wl de rest→(ip,instObj 1355 de)∈rest →
    (el,listOf (List.toArray evs) ke)∈rest→All2 OptI evs xs→xs.length≤6→(∀ z,some z∈xs→1≤z∧z≤3)→0≤mn→mn < 4 →
    m (Str.ofString "interp") = some (.ref ip)→m (Str.ofString "entries") = some (.ref el)→m (Str.ofString "many") = some (.int mn t1)→m (Str.ofString "ordered_one") = some (.bool ob)→m (Str.ofString "skip") = some (.bool b)→LA w g L G D O ⟨h,G,D,tk,O⟩
noncomputable def loopB (l:List Stmt):List Stmt:=match l with
  | []=>[]
  | s::_=>if h:s.ctorIdx = 9 then Stmt.For.elim s h fun _ _ b _ _=>b else []
theorem draw_ok {i mn:Int} (h0:0≤mn) (h4:mn < 4) (hz:¬ mn = 0):1≤1 + Int.fmod i mn∧1 + Int.fmod i mn≤3 :=
  have h:=Int.lt_iff_le_and_ne.mpr ⟨h0,Ne.symm hz⟩
  have g:Int.fmod i mn≤2:=Int.le_of_lt_add_one (Int.lt_of_lt_of_le (fm_hi h) (Int.le_of_lt_add_one h4))
  ⟨Int.le_add_of_nonneg_right (fm_lo h),Int.add_le_add_left g 1⟩
theorem some_snoc {xs:List (Option Int)} {y:Option Int} (h:∀ z,some z∈xs→1≤z∧z≤3) (hy:∀ z,y = some z→1≤z∧z≤3):∀ z,some z∈xs++[y]→1≤z∧z≤3:=fun z hz=>by
  rcases List.mem_append.mp hz with hz | hz
  · exact h z hz
  · exact hy z (List.mem_singleton.mp hz).symm
theorem endA {g h:Heap} {L:Addr} {tk:Nat} {m:Str→Option Value} {c el ip wl de gl:Addr} {co:Obj} {us evs:List Value} {k k0 ke:Nat} {kt:Nat→Tok} {vs:Nat→Value} {add rest:Led} {ps:Array Value} {xs:List (Option Int)} {mn:Int} {t1:Tok} {b ob:Bool} (F:Fr g L h m) (N:News g L h ((c,co)::(el,listOf evs.toArray ke)::(add++(936,tabObj ps)::rest)))
    (m1:(ip,instObj 1355 de)∈add) (m2:(de,evO w kt vs gl wl)∈add) (m3:(wl,listOf #[] k)∈add) (ne:de≠wl) (ap:∀ p∈add,∀ q∈(c,listOf us.toArray k0)::(936,tabObj ps)::rest,q.1≠p.1) (h9:∀ p∈rest,p.1≠936) (hT:TabSt rest ps) (l1:AllLt el (add++(936,tabObj ps)::rest))
    (a1:All2 OptI evs xs) (a2:xs.length≤6) (a3:∀ z,some z∈xs→1≤z∧z≤3) (a4:0≤mn) (a5:mn < 4) (e1:m (Str.ofString "interp") = some (.ref ip)) (e2:m (Str.ofString "entries") = some (.ref el)) (e3:m (Str.ofString "many") = some (.int mn t1)) (e4:m (Str.ofString "ordered_one") = some (.bool ob)) (e5:m (Str.ofString "skip") = some (.bool b)):LA w g L GC DC OC ⟨h,GC,DC,tk,OC⟩:=by
  have hd:∀ p:Addr×Obj,Decidable (p.1≠936∧p.1≠wl∧p.1≠de):=fun p=>Classical.propDecidable _
  have q1:∀ p∈add,p∈(c,co)::(el,listOf evs.toArray ke)::(add++(936,tabObj ps)::rest):=fun p hp=>.tail _ (.tail _ (List.mem_append_left _ hp))
  have q2:∀ p∈rest,p∈(el,listOf evs.toArray ke)::(add++(936,tabObj ps)::rest):=fun p hp=>.tail _ (List.mem_append_right _ (.tail _ hp))
  have lt:∀ p∈add++(936,tabObj ps)::rest,p.1≠el:=fun p hp=>Nat.ne_of_lt (kst_ltOf l1 p hp)
  have key:∀ p∈(el,listOf evs.toArray ke)::(add++(936,tabObj ps)::rest),p.1≠936→p.1≠wl→p.1≠de→p∈((el,listOf evs.toArray ke)::(add++(936,tabObj ps)::rest)).filter (fun p=>decide (p.1≠936∧p.1≠wl∧p.1≠de)):=fun p hp x y z=>List.mem_filter.mpr ⟨hp,decide_eq_true ⟨x,y,z⟩⟩
  refine ⟨h,tk,m,_,ps,k,ip,wl,de,gl,kt,vs,el,ke,evs,xs,mn,b,ob,t1,F,fun p hp=>?_,hT.mono fun p hp=>key p (q2 p hp) (h9 p hp) (ap _ m3 p (.tail _ (.tail _ hp))) (ap _ m2 p (.tail _ (.tail _ hp))),⟨ne,Ne.symm (ap _ m3 _ (.tail _ (.head _))),Ne.symm (ap _ m2 _ (.tail _ (.head _))),fun p hp=>of_decide_eq_true (List.mem_filter.mp hp).2⟩,key _ (.tail _ (List.mem_append_left _ m1)) (Ne.symm (ap _ m1 _ (.tail _ (.head _)))) (ne_cls N (q1 _ m1) (q1 _ m3) (fun q=>by simp at q)) (ne_cls N (q1 _ m1) (q1 _ m2) (fun q=>by simp at q)),key _ (.head _) (Ne.symm (lt (936,tabObj ps) (List.mem_append_right _ (.head _)))) (Ne.symm (lt _ (List.mem_append_left _ m3))) (Ne.symm (lt _ (List.mem_append_left _ m2))),a1,a2,a3,a4,a5,e1,e2,e3,e4,e5⟩
  rcases List.mem_cons.mp hp with e | hp
  · exact e▸N _ (.tail _ (.tail _ (List.mem_append_right _ (.head _))))
  rcases List.mem_cons.mp hp with e | hp
  · exact e▸N _ (q1 _ m3)
  rcases List.mem_cons.mp hp with e | hp
  · exact e▸N _ (q1 _ m2)
  · exact N p (.tail _ (List.mem_filter.mp hp).1)
example:True:=by
  k_with "dv eval Name" => ((k_here;(with_reducible refine (?_:wpAny _ _ (eval (Expr.Name _ _) (envOf _ _ _ _ _)) _ _ _));k_dflt (refine' nameX_L ?F__ ?v__ ?_ ?a__ ?b__;(case F__=>k_asm);(case a__=>eq_refl);(case b__=>eq_refl);(case v__=>first | rfl | assumption);k_whole)))
  k_with "dw call ref" => ((k_here;(with_reducible refine (?_:wpAny _ _ (PySem.call (Value.ref 1373) [Value.ref _] _) _ _ _));k_dflt (apply coins2_ct;k_extra "@HK1"; (is_list);(assumption);(assumption);k_extra "@HK2"; (intro c9_ us9_ l9_ k9_ h9_ tk9_ i9_ n9_ F9_ N9_ a9_);k_extra "@HK3")))
  k_with "dw call ref" => ((k_here;(with_reducible refine (?_:wpAny _ _ (PySem.call (Value.ref 1355) [Value.int 50 _] _) _ _ _));k_dflt (apply eval_ct;k_extra "@HK1"; ktr_room;(intro u9_ s9_ hr9_;obtain ⟨h9_,tk9_,add9_,e9_,F9_,N9_,ap9_,r9_⟩:=hr9_;subst e9_;obtain ⟨ip9_,de9_,wl9_,gl9_,kt9_,vs9_,k9_,eu9_,m91_,m92_,m93_,ne9_⟩:=r9_;subst eu9_;have apc9_:=apC ap9_ (by assumption));k_extra "@HK3")))
  k_with "dw DEL" => (first | assumption | exact Del.head | (refine' Del.tail ?dl__;(case dl__=>k_extra "@DEL")) | (refine' Del.app ?dl__;(case dl__=>k_extra "@DEL")))
  k_with "dw NEC" => (first | assumption | (refine' List.forall_mem_cons.mpr ⟨?na__,?nb__⟩;(case na__=>first | exact Nat.ne_of_gt (And.left (by assumption)) | k_ne);(case nb__=>k_extra "@NEC")))
  k_with "dw call ref" => ((k_here;(with_reducible refine (?_:wpAny _ _ (PySem.call (Value.ref 1380) [Value.ref _,Value.int _ _] _) _ _ _));k_dflt (apply coinD_ct;k_extra "@HK1"; (k_extra "@DEL");(k_extra "@NEC");(assumption);(assumption);(decide);k_extra "@HK2"; (intro i9_ t9_ h9_ tk9_ us9_ l9_ k9_ i09_ i19_ ii9_ un9_ F9_ N9_);k_extra "@HK3")))
  k_with "dw call type:range" => ((k_here;k_dflt (refine range1_rows (by k_asm) (by k_asm) ?_;intro h9_ tk9_ t19_ u19_ v19_ R9_ F9_ N9_ K9_)))
  k_with "dw pyIter ref" => ((k_here;(have s79_:=small7 (by assumption) (by assumption:_ < (7:Int)));k_dflt (refine lawFor (by k_asm) (by k_asm) (by k_asm) (by k_asm) (by k_asm) (by assumption) rfl (Nat.ne_of_gt (And.left (by assumption:_∧AllLt _ (_++_)))) (by assumption) (fun p hp=>Nat.ne_of_lt (kst_ltOf (And.right (by assumption:_∧AllLt _ (_++_))) p hp)) (by assumption) (by assumption) rfl rfl rfl (by assumption) (by assumption) (by assumption) (And.left s79_) (And.left (And.right s79_)) (And.right (And.right s79_)) (by assumption) (by assumption) ?_;intro us9_ l9_ k9_ ev9_ xs9_ ke9_ m9_ h9_ tk9_ iu9_ ul9_ ev19_ xl9_ x39_ me9_ F9_ N9_;have mc9:m9_ (Str.ofString "coins") = some (.ref _):=me9_ _ (by decide) (by decide);have mn9:m9_ (Str.ofString "entries") = some (.ref _):=me9_ _ (by decide) (by decide);have mm9:m9_ (Str.ofString "many") = some (.int _ _):=me9_ _ (by decide) (by decide);have mi9:m9_ (Str.ofString "interp") = some (.ref _):=me9_ _ (by decide) (by decide))))
  trivial
section
local macro_rules (kind := PySem.W.tacticK_extra_) | s => mq "dw di dv cv cu ba v m l k t j q h g f e c p o a" s

section
variable (B:Below A₀ base outer h₀) (F:Fr h₀ L hpS m) (X:(Mine.hd.heap_1 (World.params w)).In h₀) (N:News h₀ L hpS news) (T:Top p loose mean mg mb h₀) (hk:cs.kind = .function)
include B F X N T hk
theorem lawFor {c el r:Addr} {us:List Value} {l:List Int} {k n:Nat} {Z:Led} {b₀:Int} {t₀ u₀ v₀:Tok} {mn:Int} {tm:Tok} {Q:Flow→Shared→Prop} (hr:news = (c,listOf us.toArray k)::(el,listOf #[] 0)::Z) (nc:el≠c) (zc:∀ p∈Z,p.1≠c) (ze:∀ p∈Z,p.1≠el) (hi:IntsAre us l) (hl:us.length≤60)
  (ec:m (Str.ofString "coins") = some (.ref c)) (ee:m (Str.ofString "entries") = some (.ref el)) (em:m (Str.ofString "many") = some (.int mn tm)) (h0:0≤mn) (h4:mn < 4) (hR:IsRange hpS r 0 b₀ 1 t₀ u₀ v₀) (hsm:Builtin.Range.small 0 b₀ 1 = true) (hsz:Builtin.Range.rangeSize 0 b₀ 1 = (n:Int)) (hn:n≤6)
  (hd:dp + 60 < recursionLimit) (hu:un + 700 < cLine)
  (ret:∀ us' l' k' evs xs ke m' h' tk',IntsAre us' l'→us'.length≤60→All2 OptI evs xs→xs.length≤6→(∀ z,some z∈xs→1≤z∧z≤3)→(∀ z,z≠Str.ofString "lap" → z≠Str.ofString "draw" → m' z = m z)→Fr h₀ L h' m'→News h₀ L h' ((c,listOf us'.toArray k')::(el,listOf (List.toArray evs) ke)::Z)→Q .next ⟨h',GC,DC,tk',OC⟩) :
  wpAny (model prog w) (ktrTop dp un gd H.dLaw.name H.dLaw.scope L a ccd [] outer) (pyIter (.ref r)) (fun it s₂=>LoopAtV prog w (ktrTop dp un gd H.dLaw.name H.dLaw.scope L a ccd [] outer) h₀ (envOf H.dLaw.name H.dLaw.scope L a ccd) (Str.ofString "lap") (loopB (H.dLaw.body.drop 4)) Q (fun _ _=>False) it s₂) (fun _ _=>False) ⟨hpS,GC,DC,tkS,OC⟩:=by
  subst hr
  k_dflt (refine forRT (env:=envOf H.dLaw.name H.dLaw.scope L a ccd) (γ:=(List Value×List Int×Nat)×(List Value×List (Option Int)×Nat)) n [Str.ofString "draw"] (fun _=>[]) (fun g=>(c,listOf g.1.1.toArray g.1.2.2)::(el,listOf g.2.1.toArray g.2.2.2)::Z) (fun i g=>IntsAre g.1.1 g.1.2.1∧g.1.1.length≤60∧All2 OptI g.2.1 g.2.2.1∧g.2.2.1.length≤i∧∀ z,some z∈g.2.2.1→1≤z∧z≤3) (by rfl) hR hsm hsz F ((us,l,k),([],[],0)) N (fun q h=>nomatch h) ⟨hi,hl,.nil,Nat.le_refl _,fun _ h=>nomatch h⟩ ?_ ?_)
  · constructor
    intro i t h tk own g u hi2 hst hoff F1 N1
    obtain ⟨⟨us,l,k⟩,evs,xs,ke⟩:=g
    obtain ⟨a1,a2,a3,a4,a5⟩:=hst
    dsimp only at a1 a2 a3 a4 a5 N1 F1 hoff
    simp only [List.cons_append] at N1
    have hle:=a3.length
    have hle2:evs.length≤6:=by (first | lia | omega)
    have o1:=hoff.ne (.head _)
    have o2:=hoff.ne (.tail _ (.head _))
    have y1:∀ p∈Z++own,p.1≠c:=fun p hp=>(List.mem_append.mp hp).elim (zc p) (o1 p)
    have y2:∀ p∈Z++own,p.1≠el:=fun p hp=>(List.mem_append.mp hp).elim (ze p) (o2 p)
    obtain ⟨m9,hm9⟩:∃ m9:Str→Option Value,m9 = fun z=>if z = Str.ofString "lap" then some (.int (0 + (i:Int)) t) else lsM m [Str.ofString "draw"] [] u z:=⟨_,rfl⟩
    have ec9:m9 (Str.ofString "coins") = some (.ref c):=by rw [hm9];exact ec
    have ee9:m9 (Str.ofString "entries") = some (.ref el):=by rw [hm9];exact ee
    have em9:m9 (Str.ofString "many") = some (.int mn tm):=by rw [hm9];exact em
    rw [← hm9] at F1
    k_steps
    all_goals
      rename News _ _ _ _=>NN
      simp only [List.push_toArray] at NN
      k_dflt (refine TEnd.mk (γ:=(List Value×List Int×Nat)×(List Value×List (Option Int)×Nat)) ((_,_,_),(evs++[_],xs++[_],_)) (by k_asm) NN (fun p h=>h) hoff ?_ (fun q h=>nomatch h) ⟨by assumption,by assumption,a3.snoc (by first | exact .none | exact .int _ _),?_,?_⟩)
      · intro z z1 z2 z3
        have z4:=ne_of_out z3 (a:=Str.ofString "draw") (by decide)
        show (if z = Str.ofString "draw" then _ else m9 z) = m z
        rw [if_neg z4,hm9]
        show (if z = Str.ofString "lap" then _ else lsM m _ _ u z) = m z
        rw [if_neg z1]
        exact lsM_out rfl z3
      · show (xs++[_]).length≤i + 1
        rw [List.length_append,List.length_singleton]
        (first | lia | omega)
      · refine some_snoc a5 ?_
        intro z hz
        first
          | (obtain rfl:=Option.some.inj hz;exact draw_ok h0 h4 (by assumption))
          | (cases hz;done)
  · constructor
    intro g u v h tk hst F1 N1
    obtain ⟨⟨us,l,k⟩,evs,xs,ke⟩:=g
    obtain ⟨a1,a2,a3,a4,a5⟩:=hst
    refine ret us l k evs xs ke _ h tk a1 a2 a3 (Nat.le_trans a4 hn) a5 (fun z z1 z2=>?_) F1 N1
    simp only [if_neg z1]
    exact lsM_out rfl (by show (z == Str.ofString "draw" || false) = false;rw [beq_false_of_ne z2];rfl)
end
end
section
local macro_rules (kind := PySem.W.tacticK_extra_) | s => mq "dw di dv cu ba v m l k t j q h g f e d c p o a" s

section
variable (B:Below A₀ base outer h₀) (F:Fr h₀ L hpS m) (X:(Mine.hd.heap_1 (World.params w)).In h₀) (N:News h₀ L hpS news) (T:Top p loose mean mg mb h₀) (hk:cs.kind = .function)
include B F X N T hk
theorem lawA {sl:Addr} {us:List Value} {l:List Int} {ps:Array Value} {rest:Led} {Q:Flow→Shared→Prop} (em:m = fun y=>List.lookup y [(Str.ofString "script", Value.ref sl)]) (hr:news = (936,tabObj ps)::rest) (hT:TabSt rest ps) (h9:∀ p∈rest,p.1≠936) (h1:h₀.IsList sl us.toArray) (hi:IntsAre us l) (h2:l.length≤63)
  (hd:dp + 60 < recursionLimit) (hu:un + 700 < cLine) :
  wpAny (model prog w) (ktrTop dp un gd H.dLaw.name H.dLaw.scope L a ccd [] outer) (execs (H.dLaw.body.take 7) (envOf H.dLaw.name H.dLaw.scope L a ccd)) (fun f s'=>match f with | .next=>LA w h₀ L GC DC OC s' | f=>Q f s') (fun _ _=>False) ⟨hpS,GC,DC,tkS,OC⟩:=by
  subst hr em
  refine let_top F ?_
  clear F
  intro mL eL AL QL EL F9
  k_steps
  refine wpAny_execs_nil ?_
  have hm4:=(by assumption:_ < (4:Int))
  k_dflt (exact endA (by k_asm) (by k_asm) (by assumption) (by assumption) (by assumption) (by assumption) (by assumption) (by assumption) hT (And.right (by assumption:_∧AllLt _ (_++_))) (by assumption) (by assumption) (by assumption) (by assumption) hm4 (by assumption) (by assumption) (by assumption) rfl rfl)
end
end

inductive LM (w:World) (base g:Heap) (L:Addr) (G:Array GenState) (D:Drawn) (O:OsState) (wl de gl:Addr) (kt:Nat→Tok) (vs:Nat→Value) (rest:Led) (Y:(Str→Option Value)→Prop):Shared→Prop
  | mk (g2 h:Heap) (tk:Nat) (m:Str→Option Value) (add:Led) (ps:Array Value) (ws:List Value) (k:Nat):Reb base g g2→Fr g2 L h m→News g2 L h (add++(936,tabObj ps)::(wl,listOf (List.toArray ws) k)::(de,evO w kt vs gl wl)::rest)→(∀ p∈add++rest,p.1≠936∧p.1≠wl∧p.1≠de)→TabSt (add++rest) ps→ws.length≤6→Y m→LM w base g L G D O wl de gl kt vs rest Y ⟨h,G,D,tk,O⟩
theorem midY {base g g3 h:Heap} {L:Addr} {m:Str→Option Value} {tk:Nat} {wl de gl:Addr} {kt:Nat→Tok} {vs:Nat→Value} {rest led Z:Led} {ps:Array Value} {k:Nat} {ws:List Value} {Y:(Str→Option Value)→Prop} (rb:Reb base g g3) (F:Fr g3 L h m) (N:News g3 L h led) (n:Apart3 wl de rest) (hm:(936,tabObj ps)∈led) (hw:(wl,listOf (List.toArray ws) k)∈led) (he:(de,evO w kt vs gl wl)∈led) (hr:∀ p∈rest,p∈led)
    (hZ:∀ p∈Z,p∈led) (aZ:∀ p∈Z,p.1≠936∧p.1≠wl∧p.1≠de) (hT:TabSt Z ps) (h6:ws.length≤6) (y:Y m):LM w base g L GC DC OC wl de gl kt vs rest Y ⟨h,GC,DC,tk,OC⟩:=by
  have hd:∀ p:Addr×Obj,Decidable (p.1≠936∧p.1≠wl∧p.1≠de):=fun p=>Classical.propDecidable _
  have sub:∀ p∈Z,p∈(led.filter fun p=>decide (p.1≠936∧p.1≠wl∧p.1≠de))++rest:=fun p hp=>List.mem_append_left _ (List.mem_filter.mpr ⟨hZ p hp,decide_eq_true (aZ p hp)⟩)
  refine ⟨g3,h,tk,m,led.filter fun p=>decide (p.1≠936∧p.1≠wl∧p.1≠de),ps,ws,k,rb,F,fun p hp=>?_,fun p hp=>(List.mem_append.mp hp).elim (fun h=>of_decide_eq_true (List.mem_filter.mp h).2) (n.ap p),hT.mono sub,h6,y⟩
  rcases List.mem_append.mp hp with hp | hp
  · exact N p (List.mem_filter.mp hp).1
  rcases List.mem_cons.mp hp with e | hp
  · exact e▸N _ hm
  rcases List.mem_cons.mp hp with e | hp
  · exact e▸N _ hw
  rcases List.mem_cons.mp hp with e | hp
  · exact e▸N _ he
  · exact N p (hr p hp)
structure YB (ip el:Addr) (mn:Int) (t1:Tok) (ob b:Bool) (m:Str→Option Value):Prop where
  e1:m (Str.ofString "interp") = some (.ref ip)
  e2:m (Str.ofString "entries") = some (.ref el)
  e3:m (Str.ofString "many") = some (.int mn t1)
  e4:m (Str.ofString "ordered_one") = some (.bool ob)
  e5:m (Str.ofString "skip") = some (.bool b)
noncomputable def pyO:Option Int→PyData
  | none=>.none
  | some i=>.int i
theorem readsOpt {h:Heap} {xs:List (Option Int)} {vs:List Value} (r:All2 OptI vs xs):ReadsAll h vs (xs.map pyO) []:=by
  induction r with
  | nil=>exact .nil
  | cons a r ih =>
    cases a with
    | none=>exact .cons (as:=[]) (bs:=[]) .none ih
    | int=>exact .cons (as:=[]) (bs:=[]) (.int _ _) ih
theorem canOpt:∀ xs:List (Option Int),PyData.canLayAll0 (xs.map pyO) = true
  | []=>rfl
  | none::r=>by rw [List.map_cons];unfold PyData.canLayAll0;rw [canOpt r];rfl
  | some i::r=>by rw [List.map_cons];unfold PyData.canLayAll0;rw [canOpt r];rfl
theorem eqvOpt:∀ xs:List (Option Int),PyData.eqvAll (xs.map pyO) (xs.map pyO) = true
  | []=>rfl
  | none::r=>by simp only [List.map_cons,pyO,PyData.eqvAll,PyData.eqv,eqvOpt r,Bool.and_self]
  | some i::r=>by simp only [List.map_cons,pyO,PyData.eqvAll,PyData.eqv,eqvOpt r,beq_self_eq_true,Bool.and_self]
theorem depthOpt:∀ xs:List (Option Int),PyData.depthAll (xs.map pyO)≤1
  | []=>Nat.zero_le _
  | none::r=>by rw [List.map_cons,PyData.depthAll];exact Nat.max_le.mpr ⟨by simp [pyO,PyData.depth],depthOpt r⟩
  | some i::r=>by rw [List.map_cons,PyData.depthAll];exact Nat.max_le.mpr ⟨by simp [pyO,PyData.depth],depthOpt r⟩
section
variable {A:Around} {E:Value→Shared→Prop} {hpS:Heap} {tkS:Nat} {g:Heap} {L:Addr} {led:Led} {Q:Value→Shared→Prop}
theorem shapedOpt (xs:List (Option Int)):PySem.SeqAt.shaped (.list (xs.map pyO)) = true:=by
  unfold PySem.SeqAt.shaped
  rw [PyData.canLay0,PyData.depth,canOpt xs]
  have:=depthOpt xs
  simp only [Bool.true_and]
  exact decide_eq_true (by (first | lia | omega))
theorem neOpt {l l2:Addr} {vs vs2:List Value} {xs:List (Option Int)} {k k2:Nat} (N:News g L hpS led) (h1:(l,listOf (List.toArray vs) k)∈led) (h2:(l2,listOf (List.toArray vs2) k2)∈led) (r1:All2 OptI vs xs) (r2:All2 OptI vs2 xs) (hu:A.units + 64 < cLine)
    (h:Q (.bool false) ⟨hpS,GC,DC,tkS,OC⟩):wpAny (model prog w) A (compareOp .NotEq (.ref l) (.ref l2)) Q E ⟨hpS,GC,DC,tkS,OC⟩:=by
  refine ne_dataH (.list (N _ h1).1 rfl rfl (readsOpt r1)) (.list (N _ h2).1 rfl rfl (readsOpt r2)) (shapedOpt xs) (shapedOpt xs) hu ?_
  rw [show PyData.eqv (.list (xs.map pyO)) (.list (xs.map pyO)) = true from by rw [PyData.eqv];exact eqvOpt xs];exact h
theorem eqOpt {l l2:Addr} {vs vs2:List Value} {xs:List (Option Int)} {k k2:Nat} (N:News g L hpS led) (h1:(l,listOf (List.toArray vs) k)∈led) (h2:(l2,listOf (List.toArray vs2) k2)∈led) (r1:All2 OptI vs xs) (r2:All2 OptI vs2 xs) (hu:A.units + 64 < cLine)
    (h:Q (.bool true) ⟨hpS,GC,DC,tkS,OC⟩):wpAny (model prog w) A (compareOp .Eq (.ref l) (.ref l2)) Q E ⟨hpS,GC,DC,tkS,OC⟩:=by
  refine eq_dataH (.list (N _ h1).1 rfl rfl (readsOpt r1)) (.list (N _ h2).1 rfl rfl (readsOpt r2)) (shapedOpt xs) (shapedOpt xs) hu ?_
  rw [show PyData.eqv (.list (xs.map pyO)) (.list (xs.map pyO)) = true from by rw [PyData.eqv];exact eqvOpt xs];exact h
end
theorem zsOf (xs:List (Option Int)):∃ zs:List Int,pres xs = zs.map some∧zs.length≤xs.length∧(∀ z∈zs,some z∈xs)∧(zs.length < xs.length→xs.any (·.isNone) = true)∧(¬ zs.length < xs.length→xs = zs.map some):=by
  induction xs with
  | nil=>exact ⟨[],rfl,Nat.le_refl _,fun _ h=>(nomatch h),fun h=>absurd h (Nat.lt_irrefl _),fun _=>rfl⟩
  | cons y r ih =>
    obtain ⟨zs,e,l,m,a,b⟩:=ih
    cases y with
    | none=>exact ⟨zs,e,Nat.le_succ_of_le l,fun z hz=>.tail _ (m z hz),fun _=>rfl,fun h=>absurd (Nat.lt_succ_of_le l) h⟩
    | some i =>
    refine ⟨i::zs,?_,Nat.succ_le_succ l,fun z hz=>?_,fun h=>?_,fun h=>?_⟩
    · show some i::pres r = _
      rw [e];rfl
    · rcases List.mem_cons.mp hz with rfl | hz
      · exact .head _
      · exact .tail _ (m z hz)
    · rw [List.any_cons,a (Nat.lt_of_succ_lt_succ h)];rfl
    · rw [b fun q=>h (Nat.succ_lt_succ q)];rfl
theorem lkOf {xs:List (Option Int)} {zs:List Int} {b:Bool} (e:pres xs = zs.map some) (a:zs.length < xs.length→xs.any (·.isNone) = true) (c:¬ zs.length < xs.length→xs = zs.map some):LK xs zs b (decide (zs.length < xs.length) && !b) where
  yes h:=by
    rw [Bool.and_eq_true,decide_eq_true_eq,Bool.not_eq_true'] at h
    obtain ⟨h1,rfl⟩:=h
    exact ⟨rfl,a h1⟩
  no h:=by
    cases b with
    | true=>exact e
    | false =>
      refine c fun q=>?_
      rw [decide_eq_true q] at h
      cases h
section
variable {dp un:Nat} {gd:Option (List Code)} {cn:Str} {cs:Scope} {a:Addr} {ccd:Value} {cl:List (Str×Addr)} {outer:List Env} {A₀:Around} {base h₀:Heap} {L:Addr} {m:Str→Option Value} {hpS:Heap} {tkS:Nat} {Q E:Value→Shared→Prop}
theorem lplain_go {ip wl de gl el x d D:Addr} {kt:Nat→Tok} {vs:Nat→Value} {b:Bool} {ps:Array Value} {k ke c:Nat} {ws evs:List Value} {xs:List (Option Int)} {rest:Led} {t1 t2 t3 t4 t5 tk:Tok}
  (B:Below A₀ base outer h₀) (F:Fr h₀ L hpS m) (X:(Mine.hd.heap_1 (World.params w)).In h₀) (N:News h₀ L hpS ((x,instObj 262 d)::(d,vecO w t1 t2 t3 t4 t5 (Str.ofString "integer") tk (.ref D) .none)::(D,listOf (List.toArray evs) c)::(936,tabObj ps)::(wl,listOf (List.toArray ws) k)::(de,evO w kt vs gl wl)::rest)) (T:Top p loose mean mg mb h₀) (hk:cs.kind = .function)
  (l0:∀ q∈(936,tabObj ps)::(wl,listOf (List.toArray ws) k)::(de,evO w kt vs gl wl)::rest,@LT.lt Nat _ q.1 D) (l1:∀ q∈(D,listOf (List.toArray evs) c)::(936,tabObj ps)::(wl,listOf (List.toArray ws) k)::(de,evO w kt vs gl wl)::rest,@LT.lt Nat _ q.1 d) (l2:@LT.lt Nat _ d x)
  (hT:TabSt rest ps) (n:Apart3 wl de rest) (hi:(ip,instObj 1355 de)∈rest) (he:(el,listOf (List.toArray evs) ke)∈rest) (hE:All2 OptI evs xs) (h5:xs.length≤6) (h3:∀ z,some z∈xs→1≤z∧z≤3) (h6:ws.length≤6)
  (XB:(Mine.hd.heap_1 (World.params w)).In base) (TB:Top p loose mean mg mb base) (hd:dp + 40 < recursionLimit) (hu:un + 500 < cLine)
  (ret:∀ g2 h' tk' add ps' ws' k',Reb base h₀ g2→Fr g2 L h' m→News g2 L h' (add++(936,tabObj ps')::(wl,listOf (List.toArray ws') k')::(de,evO w kt vs gl wl)::(x,instObj 262 d)::(d,vecO w t1 t2 t3 t4 t5 (Str.ofString "integer") tk (.ref D) .none)::(D,listOf (List.toArray evs) c)::rest) →
    (∀ p∈add++(x,instObj 262 d)::(d,vecO w t1 t2 t3 t4 t5 (Str.ofString "integer") tk (.ref D) .none)::(D,listOf (List.toArray evs) c)::rest,p.1≠936∧p.1≠wl∧p.1≠de)→TabSt (add++(x,instObj 262 d)::(d,vecO w t1 t2 t3 t4 t5 (Str.ofString "integer") tk (.ref D) .none)::(D,listOf (List.toArray evs) c)::rest) ps'→ws'.length≤6→Q (.bool true) ⟨h',GC,DC,tk',OC⟩) :
  wpAny (model prog w) (ktrTop dp un gd cn cs L a ccd cl outer) (call (.ref 1397) [.ref ip,.ref x,.ref el,.bool b]) Q E ⟨hpS,GC,DC,tkS,OC⟩:=by
  obtain ⟨zs,z1,z2,z3,z4,z5⟩:=zsOf xs
  have i0:∀ q∈(936,tabObj ps)::(wl,listOf (List.toArray ws) k)::(de,evO w kt vs gl wl)::rest,q.1≠D∧q.1≠d∧q.1≠x:=fun q hq=>⟨Nat.ne_of_lt (l0 q hq),Nat.ne_of_lt (l1 q (.tail _ hq)),Nat.ne_of_lt (Nat.lt_trans (l1 q (.tail _ hq)) l2)⟩
  have a1:=i0 _ (.head _)
  have a2:=i0 _ (.tail _ (.head _))
  have a3:=i0 _ (.tail _ (.tail _ (.head _)))
  have up:∀ p∈rest,p∈(x,instObj 262 d)::(d,vecO w t1 t2 t3 t4 t5 (Str.ofString "integer") tk (.ref D) .none)::(D,listOf (List.toArray evs) c)::rest:=fun p hp=>.tail _ (.tail _ (.tail _ hp))
  have n3:Apart3 wl de ((x,instObj 262 d)::(d,vecO w t1 t2 t3 t4 t5 (Str.ofString "integer") tk (.ref D) .none)::(D,listOf (List.toArray evs) c)::rest):=⟨n.n1,n.n2,n.n3,List.forall_mem_cons.mpr ⟨⟨Ne.symm a1.2.2,Ne.symm a2.2.2,Ne.symm a3.2.2⟩,List.forall_mem_cons.mpr ⟨⟨Ne.symm a1.2.1,Ne.symm a2.2.1,Ne.symm a3.2.1⟩,List.forall_mem_cons.mpr ⟨⟨Ne.symm a1.1,Ne.symm a2.1,Ne.symm a3.1⟩,n.ap⟩⟩⟩⟩
  refine lplain_ct (ps:=ps) (ws:=List.toArray ws) (k:=k) (kt:=kt) (vs:=vs) (gl:=gl) (xs:=xs) (zs:=zs) (lk:=decide (zs.length < xs.length) && !b) B F X (fun p hp=>N p ?_) T hk rfl (hT.mono up) n3 (up _ hi) (.mk (.head _) (.tail _ (.head _)) (.tail _ (.tail _ (.head _))) hE) (up _ he) hE h5 h3 z1 rfl (lkOf z1 z4 z5) (fun z hz=>⟨Int.le_trans (by decide) (h3 z hz).1,(h3 z hz).2⟩) (Nat.le_trans z2 h5) (fun z hz=>h3 z (z3 z hz)) (by simpa using h6) XB TB hd hu ?_
  · simp only [List.mem_cons] at hp ⊢
    rcases hp with h | h | h | h | h | h | h<;>simp [h]
  · rintro s' ⟨g2,rb,h',tk',add,ps',ws',k',e,F',N',ap,t,l6⟩
    subst e
    exact ret _ _ _ _ _ _ _ rb F' N' (fun p hp=>(List.mem_append.mp hp).elim (ap p) (n3.ap p)) t l6
end
example:True:=by
  k_with "dx call type:list" => ((k_here;(with_reducible refine (?_:wpAny _ _ (call (Value.type "list") [Value.ref _]) _ _ _));k_dflt (refine list_copyK (by k_asm) (by k_asm) (News.isList (by k_asm) (by k_mem)) ?_ (Nat.le_trans (m:=6) (by assumption) (by rw [PySem.sizeLine_eq];decide));intro D9_ c9_ h9_ F9_ N9_ l9_)))
  k_with "dy call ref" => ((k_here;(with_reducible refine (?_:wpAny _ _ (PySem.call (Value.ref 262) [Value.str _ _,_] _) _ _ _));k_dflt (apply vec_ct;k_extra "@HK1"; k_extra "@HK2"; (intro x9_ d9_ t19_ t29_ t39_ t49_ t59_ h9_ tk9_ F9_ N9_ l19_ l29_);k_extra "@HK3")))
  k_with "dz call ref" => ((k_here;(with_reducible refine (?_:wpAny _ _ (PySem.call (Value.ref 1397) [Value.ref _,Value.ref _,Value.ref _,Value.bool _] _) _ _ _));k_dflt (refine' lplain_go ?tB__ ?tF__ ?tX__ ?tN__ ?tT__ ?tk__ ?t0__ ?t1__ ?t2__ ?tT2__ ?tn__ ?ti__ ?te__ ?tE__ ?t5__ ?t3__ ?t6__ ?tXB__ ?tTB__ ?td__ ?tu__ ?_;(case tB__=>k_asm);(case tF__=>k_asm);(case tX__=>k_asm);(case tN__=>k_asm);(case tT__=>k_asm);(case tk__=>first | eq_refl | assumption);(case t0__=>first | with_reducible assumption | assumption);(case t1__=>first | with_reducible assumption | assumption);(case t2__=>first | with_reducible assumption | assumption);(case tT2__=>first | with_reducible assumption | assumption);(case tn__=>first | with_reducible assumption | assumption);(case ti__=>first | with_reducible assumption | assumption);(case te__=>first | with_reducible assumption | assumption);(case tE__=>first | with_reducible assumption | assumption);(case t5__=>first | with_reducible assumption | assumption);(case t3__=>first | with_reducible assumption | assumption);(case t6__=>first | assumption | exact Nat.zero_le _);(case tXB__=>first | with_reducible assumption | assumption);(case tTB__=>first | with_reducible assumption | assumption);(case td__=>ktr_room);(case tu__=>ktr_units);(intro g29_ h9_ tk9_ add9_ ps9_ ws9_ k9_ rb9_ F9_ N9_ ap9_ t9_ l69_;have x9_:=Frag.In.keeps (by assumption) (Reb.stays rb9_);have tt9_:=Top.keeps (by assumption) (Reb.stays rb9_);have b9_:=Reb.below rb9_ (by assumption));k_extra "@HK3")))
  k_with "dz compareOp NotEq ref ref" => ((k_here;k_dflt (refine' neOpt ?n1__ ?n2__ ?n3__ ?n4__ ?n5__ ?n6__ ?_;(case n1__=>k_asm);(case n2__=>k_extra "@MEM");(case n3__=>k_extra "@MEM");(case n4__=>first | with_reducible assumption | assumption);(case n5__=>first | with_reducible assumption | assumption);(case n6__=>ktr_units))))
  trivial
section
local macro_rules (kind := PySem.W.tacticK_extra_) | s => mq "dz dy dx di dv v m l k t j q h g f e c p o a" s

section
variable (B:Below A₀ base outer h₀) (F:Fr h₀ L hpS m) (X:(Mine.hd.heap_1 (World.params w)).In h₀) (N:News h₀ L hpS news) (T:Top p loose mean mg mb h₀) (hk:cs.kind = .function)
include B F X N T hk
theorem lawB {ip wl de gl el:Addr} {kt:Nat→Tok} {vs:Nat→Value} {b ob:Bool} {mn:Int} {t1:Tok} {ps:Array Value} {k ke:Nat} {evs:List Value} {xs:List (Option Int)} {rest:Led} {Q:Flow→Shared→Prop} (hr:news = (936,tabObj ps)::(wl,listOf #[] k)::(de,evO w kt vs gl wl)::rest) (hT:TabSt rest ps) (n:Apart3 wl de rest) (hi:(ip,instObj 1355 de)∈rest)
  (he:(el,listOf (List.toArray evs) ke)∈rest) (hE:All2 OptI evs xs) (h5:xs.length≤6) (h3:∀ z,some z∈xs→1≤z∧z≤3) (y:YB ip el mn t1 ob b m) (XB:(Mine.hd.heap_1 (World.params w)).In base) (TB:Top p loose mean mg mb base)
  (hd:dp + 60 < recursionLimit) (hu:un + 700 < cLine) :
  wpAny (model prog w) (ktrTop dp un gd H.dLaw.name H.dLaw.scope L a ccd [] outer) (execs ((H.dLaw.body.drop 7).take 2) (envOf H.dLaw.name H.dLaw.scope L a ccd)) (fun f s'=>match f with | .next=>LM w base h₀ L GC DC OC wl de gl kt vs rest (YB ip el mn t1 ob b) s' | f=>Q f s') (fun _ _=>False) ⟨hpS,GC,DC,tkS,OC⟩:=by
  subst hr
  obtain ⟨y1,y2,y3,y4,y5⟩:=y
  have hle:=hE.length
  have hle2:evs.length≤6:=by (first | lia | omega)
  refine let_top F ?_
  clear F
  intro mL eL AL QL EL F9
  k_steps
  refine wpAny_execs_nil ?_
  have rb:=(by assumption:Reb base h₀ _)
  have tq:=(by assumption:TabSt (_++_::_::_::rest) _)
  k_dflt (exact midY rb (by k_asm) (by k_asm) n (by k_mem) (by k_mem) (by k_mem) (by intro p h;k_mem) (by intro p h;exact memT p h) (by assumption) tq (by assumption) (by exact ⟨y1,y2,y3,y4,y5⟩))
end
end
structure YC (ip el wd:Addr) (mn:Int) (t1:Tok) (b:Bool) (m:Str→Option Value):Prop where
  e1:m (Str.ofString "interp") = some (.ref ip)
  e2:m (Str.ofString "entries") = some (.ref el)
  e3:m (Str.ofString "many") = some (.int mn t1)
  e4:m (Str.ofString "words") = some (.ref wd)
  e5:m (Str.ofString "skip") = some (.bool b)
inductive Words:List Value→List Str→Prop
  | one {t:Tok}:Words [.str (Str.ofString "factor") t] [Str.ofString "factor"]
  | two {t u:Tok}:Words [.str (Str.ofString "ordered") t,.str (Str.ofString "factor") u] [Str.ofString "ordered", Str.ofString "factor"]
theorem apart_cons {wl de D:Addr} {o:Obj} {rest led0:Led} {o1 o2 o3:Obj} (n:Apart3 wl de rest) (l:∀ q∈led0,@LT.lt Nat _ q.1 D) (b1:(936,o1)∈led0) (b2:(wl,o2)∈led0) (b3:(de,o3)∈led0):Apart3 wl de ((D,o)::rest) :=
  ⟨n.n1,n.n2,n.n3,List.forall_mem_cons.mpr ⟨⟨Nat.ne_of_gt (l _ b1),Nat.ne_of_gt (l _ b2),Nat.ne_of_gt (l _ b3)⟩,n.ap⟩⟩
inductive LC1 (w:World) (base g:Heap) (L:Addr) (G:Array GenState) (D:Drawn) (O:OsState) (ip el wl de gl:Addr) (kt:Nat→Tok) (vs:Nat→Value) (mn:Int) (t1:Tok) (b:Bool) (rest:Led) (s':Shared):Prop
  | mk (wd:Addr) (its:List Value) (ss:List Str) (kk:Nat):Words its ss→Apart3 wl de ((wd,listOf (List.toArray its) kk)::rest)→LM w base g L G D O wl de gl kt vs ((wd,listOf (List.toArray its) kk)::rest) (YC ip el wd mn t1 b) s'→LC1 w base g L G D O ip el wl de gl kt vs mn t1 b rest s'
theorem endC1 {base g g3 h:Heap} {L wd:Addr} {m:Str→Option Value} {tk:Nat} {ip el wl de gl:Addr} {kt:Nat→Tok} {vs:Nat→Value} {mn:Int} {t1:Tok} {b:Bool} {add rest:Led} {ps:Array Value} {k kk:Nat} {ws its:List Value} {ss:List Str} (rb:Reb base g g3) (F:Fr g3 L h m) (N:News g3 L h ((wd,listOf (List.toArray its) kk)::(add++(936,tabObj ps)::(wl,listOf (List.toArray ws) k)::(de,evO w kt vs gl wl)::rest)))
    (l:∀ q∈add++(936,tabObj ps)::(wl,listOf (List.toArray ws) k)::(de,evO w kt vs gl wl)::rest,@LT.lt Nat _ q.1 wd) (n:Apart3 wl de rest) (ap:∀ p∈add++rest,p.1≠936∧p.1≠wl∧p.1≠de) (hT:TabSt (add++rest) ps) (h6:ws.length≤6) (hw:Words its ss) (y:YC ip el wd mn t1 b m):LC1 w base g L GC DC OC ip el wl de gl kt vs mn t1 b rest ⟨h,GC,DC,tk,OC⟩:=by
  have n2:=apart_cons (o:=listOf (List.toArray its) kk) n l (List.mem_append_right _ (.head _)) (List.mem_append_right _ (.tail _ (.head _))) (List.mem_append_right _ (.tail _ (.tail _ (.head _))))
  refine ⟨wd,its,ss,kk,hw,n2,midY rb F N n2 (.tail _ (List.mem_append_right _ (.head _))) (.tail _ (List.mem_append_right _ (.tail _ (.head _)))) (.tail _ (List.mem_append_right _ (.tail _ (.tail _ (.head _))))) (fun p hp=>?_) (Z:=add++rest) (fun p hp=>.tail _ (memT p hp)) ap hT h6 y⟩
  rcases List.mem_cons.mp hp with e | hp
  · exact e▸.head _
  · exact .tail _ (memT p (List.mem_append_right _ hp))
section
local macro_rules (kind := PySem.W.tacticK_extra_) | s => mq "dy dx di dv v m l k t j q h g f e d c p o a" s

section
variable (B:Below A₀ base outer h₀) (F:Fr h₀ L hpS m) (X:(Mine.hd.heap_1 (World.params w)).In h₀) (N:News h₀ L hpS news) (T:Top p loose mean mg mb h₀) (hk:cs.kind = .function)
include B F X N T hk
theorem lawC1 {ip wl de gl el:Addr} {kt:Nat→Tok} {vs:Nat→Value} {b ob:Bool} {mn:Int} {t1:Tok} {ps:Array Value} {k:Nat} {ws:List Value} {add rest:Led} {Q:Flow→Shared→Prop} {g:Heap} (rb:Reb base g h₀) (hr:news = add++(936,tabObj ps)::(wl,listOf (List.toArray ws) k)::(de,evO w kt vs gl wl)::rest) (ap:∀ p∈add++rest,p.1≠936∧p.1≠wl∧p.1≠de) (hT:TabSt (add++rest) ps) (h6:ws.length≤6) (n:Apart3 wl de rest) (y:YB ip el mn t1 ob b m)
  (hd:dp + 60 < recursionLimit) (hu:un + 700 < cLine) :
  wpAny (model prog w) (ktrTop dp un gd H.dLaw.name H.dLaw.scope L a ccd [] outer) (execs ((H.dLaw.body.drop 9).take 1) (envOf H.dLaw.name H.dLaw.scope L a ccd)) (fun f s'=>match f with | .next=>LC1 w base g L GC DC OC ip el wl de gl kt vs mn t1 b rest s' | f=>Q f s') (fun _ _=>False) ⟨hpS,GC,DC,tkS,OC⟩:=by
  subst hr
  obtain ⟨y1,y2,y3,y4,y5⟩:=y
  refine let_top F ?_
  clear F
  intro mL eL AL QL EL F9
  cases ob
  · k_steps
    refine wpAny_execs_nil ?_
    k_dflt (exact endC1 (its:=[_]) rb (by k_asm) (by k_asm) (by assumption) n ap hT h6 .one (by exact ⟨y1,y2,y3,rfl,y5⟩))
  · k_steps
    refine wpAny_execs_nil ?_
    k_dflt (exact endC1 (its:=[_,_]) rb (by k_asm) (by k_asm) (by assumption) n ap hT h6 .two (by exact ⟨y1,y2,y3,rfl,y5⟩))
end
end
noncomputable abbrev StrV (v:Value) (S:Str):Prop:=∃ t,v = Value.str S t
theorem pick_abc {t1 t2 t3:Tok} {mn:Int} (h0:0≤mn) (h4:mn < 4):∃ us:List Value,slicePick #[.str (Str.ofString "a") t1,.str (Str.ofString "b") t2,.str (Str.ofString "c") t3] none (some mn) none = List.toArray us∧All2 StrV us ([Str.ofString "a", Str.ofString "b", Str.ofString "c"].take mn.toNat):=by
  have:=in4 h0 h4
  rcases this with rfl | rfl | rfl | rfl
  · exact ⟨[],by rw [kms_pick_eq];rfl,.nil⟩
  · exact ⟨[_],by rw [kms_pick_eq];rfl,.cons ⟨_,rfl⟩ .nil⟩
  · exact ⟨[_,_],by rw [kms_pick_eq];rfl,.cons ⟨_,rfl⟩ (.cons ⟨_,rfl⟩ .nil)⟩
  · exact ⟨[_,_,_],by rw [kms_pick_eq];rfl,.cons ⟨_,rfl⟩ (.cons ⟨_,rfl⟩ (.cons ⟨_,rfl⟩ .nil))⟩
inductive FA (w:World) (led:Led) (f:Addr) (evs its us:List Value):Prop
  | mk (fd fl ad lv lvd lvl cv cvd cvl:Addr) (ao:Obj) (t1 t2 t3 t4 t5 tk c1 c2 c3 c4 c5 ck d1 d2 d3 d4 d5 dk:Tok) (c k1 k2:Nat):(f,instObj 262 fd)∈led→(fd,vecO w t1 t2 t3 t4 t5 (Str.ofString "integer") tk (.ref fl) (.ref ad))∈led→(fl,listOf (List.toArray evs) c)∈led→(ad,ao)∈led→facD w ao lv cv→(lv,instObj 262 lvd)∈led→(lvd,vecO w c1 c2 c3 c4 c5 (Str.ofString "character") ck (.ref lvl) .none)∈led→(lvl,listOf (List.toArray us) k1)∈led→(cv,instObj 262 cvd)∈led→(cvd,vecO w d1 d2 d3 d4 d5 (Str.ofString "character") dk (.ref cvl) .none)∈led→(cvl,listOf (List.toArray its) k2)∈led→(ad == sysModules) = false→FA w led f evs its us
theorem FA.mono {led led':Led} {f:Addr} {evs its us:List Value} (h:FA w led f evs its us) (hs:∀ p∈led,p∈led'):FA w led' f evs its us:=by
  obtain ⟨fd,fl,ad,lv,lvd,lvl,cv,cvd,cvl,ao,t1,t2,t3,t4,t5,tk,c1,c2,c3,c4,c5,ck,d1,d2,d3,d4,d5,dk,c,k1,k2,q1,q2,q3,q4,q5,q6,q7,q8,q9,q10,q11,q12⟩:=h
  exact ⟨fd,fl,ad,lv,lvd,lvl,cv,cvd,cvl,ao,t1,t2,t3,t4,t5,tk,c1,c2,c3,c4,c5,ck,d1,d2,d3,d4,d5,dk,c,k1,k2,hs _ q1,hs _ q2,hs _ q3,hs _ q4,q5,hs _ q6,hs _ q7,hs _ q8,hs _ q9,hs _ q10,hs _ q11,q12⟩
theorem FA.fac {led:Led} {f:Addr} {evs its us:List Value} {ss:List Str} (h:FA w led f evs its us) (hw:Words its ss):∃ l,FacIn w led f l:=by
  obtain ⟨fd,fl,ad,lv,lvd,lvl,cv,cvd,cvl,ao,t1,t2,t3,t4,t5,tk,c1,c2,c3,c4,c5,ck,d1,d2,d3,d4,d5,dk,c,k1,k2,q1,q2,q3,q4,q5,q6,q7,q8,q9,q10,q11,q12⟩:=h
  cases hw with
  | one=>exact ⟨_,fd,ad,cv,cvd,cvl,lv,t1,t2,t3,t4,t5,tk,d1,d2,d3,d4,d5,dk,_,0,k2,ao,_,q1,q2,q4,q5,q9,q10,q11,.inl rfl,q12⟩
  | two=>exact ⟨_,fd,ad,cv,cvd,cvl,lv,t1,t2,t3,t4,t5,tk,d1,d2,d3,d4,d5,dk,_,_,k2,ao,_,q1,q2,q4,q5,q9,q10,q11,.inr rfl,q12⟩
structure YD (ip el wd f:Addr) (mn:Int) (t1 t2:Tok) (b:Bool) (m:Str→Option Value):Prop where
  e1:m (Str.ofString "interp") = some (.ref ip)
  e2:m (Str.ofString "entries") = some (.ref el)
  e3:m (Str.ofString "many") = some (.int mn t1)
  e4:m (Str.ofString "words") = some (.ref wd)
  e5:m (Str.ofString "skip") = some (.bool b)
  e6:m (Str.ofString "f") = some (.ref f)
  e7:m (Str.ofString "remark_due") = some (.str (Str.ofString "argument is not numeric or logical: returning NA") t2)
inductive LC2 (w:World) (base g:Heap) (L:Addr) (G:Array GenState) (D:Drawn) (O:OsState) (ip el wd wl de gl:Addr) (kt:Nat→Tok) (vs:Nat→Value) (mn:Int) (t1:Tok) (b:Bool) (evs its:List Value) (rest:Led) (s':Shared):Prop
  | mk (R:Led) (f:Addr) (us:List Value) (t2:Tok):(∀ p∈rest,p∈R)→Apart3 wl de R→FA w R f evs its us→All2 StrV us ([Str.ofString "a", Str.ofString "b", Str.ofString "c"].take mn.toNat)→LM w base g L G D O wl de gl kt vs R (YD ip el wd f mn t1 t2 b) s'→LC2 w base g L G D O ip el wd wl de gl kt vs mn t1 b evs its rest s'
theorem apart_app {wl de:Addr} {rest base nw:Led} {o1 o2 o3:Obj} (n:Apart3 wl de rest) (l:∀ p∈nw,AllLt p.1 base) (b1:(936,o1)∈base) (b2:(wl,o2)∈base) (b3:(de,o3)∈base):Apart3 wl de (nw++rest) :=
  ⟨n.n1,n.n2,n.n3,fun p hp=>(List.mem_append.mp hp).elim (fun hp=>⟨Nat.ne_of_gt (kst_ltOf (l p hp) _ b1),Nat.ne_of_gt (kst_ltOf (l p hp) _ b2),Nat.ne_of_gt (kst_ltOf (l p hp) _ b3)⟩) (n.ap p)⟩
theorem not_sys {d:Addr} {base:Led} {o:Obj} (l:AllLt d base) (b1:(936,o)∈base):(d == sysModules) = false :=
  beq_eq_false_iff_ne.mpr fun e=>absurd (show @LT.lt Nat _ 936 sysModules from e▸kst_ltOf l _ b1) (by decide)
theorem endC2 {base g g3 h:Heap} {L:Addr} {m:Str→Option Value} {tk:Nat} {ip el wd wl de gl:Addr} {kt:Nat→Tok} {vs:Nat→Value} {mn:Int} {t1 t2:Tok} {b:Bool} {add rest led nw:Led} {ps:Array Value} {k:Nat} {ws evs its us:List Value} {f:Addr} (rb:Reb base g g3) (F:Fr g3 L h m) (N:News g3 L h led)
    (n:Apart3 wl de rest) (ap:∀ p∈add++rest,p.1≠936∧p.1≠wl∧p.1≠de) (hT:TabSt (add++rest) ps) (h6:ws.length≤6) (hb:∀ p∈add++(936,tabObj ps)::(wl,listOf (List.toArray ws) k)::(de,evO w kt vs gl wl)::rest,p∈led) (hn:∀ p∈nw,p∈led) (l:∀ p∈nw,AllLt p.1 (add++(936,tabObj ps)::(wl,listOf (List.toArray ws) k)::(de,evO w kt vs gl wl)::rest))
    (fa:FA w nw f evs its us) (hu:All2 StrV us ([Str.ofString "a", Str.ofString "b", Str.ofString "c"].take mn.toNat)) (y:YD ip el wd f mn t1 t2 b m):LC2 w base g L GC DC OC ip el wd wl de gl kt vs mn t1 b evs its rest ⟨h,GC,DC,tk,OC⟩:=by
  have i1:(936,tabObj ps)∈add++(936,tabObj ps)::(wl,listOf (List.toArray ws) k)::(de,evO w kt vs gl wl)::rest:=List.mem_append_right _ (.head _)
  have i2:(wl,listOf (List.toArray ws) k)∈add++(936,tabObj ps)::(wl,listOf (List.toArray ws) k)::(de,evO w kt vs gl wl)::rest:=List.mem_append_right _ (.tail _ (.head _))
  have i3:(de,evO w kt vs gl wl)∈add++(936,tabObj ps)::(wl,listOf (List.toArray ws) k)::(de,evO w kt vs gl wl)::rest:=List.mem_append_right _ (.tail _ (.tail _ (.head _)))
  have n2:=apart_app n l i1 i2 i3
  exact ⟨nw++rest,f,us,t2,fun p hp=>List.mem_append_right _ hp,n2,fa.mono fun p hp=>List.mem_append_left _ hp,hu,midY (Z:=add++rest) rb F N n2 (hb _ i1) (hb _ i2) (hb _ i3) (fun p hp=>(List.mem_append.mp hp).elim (hn p) fun hp=>hb _ (memT p (List.mem_append_right _ hp))) (fun p hp=>hb _ (memT p hp)) ap hT h6 y⟩
theorem endC2n {base g g3 h:Heap} {L:Addr} {m:Str→Option Value} {tk:Nat} {ip el wd wl de gl:Addr} {kt:Nat→Tok} {vs:Nat→Value} {mn:Int} {t1 t2:Tok} {b:Bool} {add rest:Led} {ps:Array Value} {k:Nat} {ws evs its us:List Value} {f:Addr} {a1 a2 a3 a4 a5 a6 a7 a8 a9 a10 a11:Addr×Obj} (rb:Reb base g g3) (F:Fr g3 L h m) (N:News g3 L h (a1::a2::a3::a4::a5::a6::a7::a8::a9::a10::a11::(add++(936,tabObj ps)::(wl,listOf (List.toArray ws) k)::(de,evO w kt vs gl wl)::rest)))
    (n:Apart3 wl de rest) (ap:∀ p∈add++rest,p.1≠936∧p.1≠wl∧p.1≠de) (hT:TabSt (add++rest) ps) (h6:ws.length≤6) (l:∀ p∈[a1,a2,a3,a4,a5,a6,a7,a8,a9,a10,a11],AllLt p.1 (add++(936,tabObj ps)::(wl,listOf (List.toArray ws) k)::(de,evO w kt vs gl wl)::rest))
    (fa:FA w [a1,a2,a3,a4,a5,a6,a7,a8,a9,a10,a11] f evs its us) (hu:All2 StrV us ([Str.ofString "a", Str.ofString "b", Str.ofString "c"].take mn.toNat)) (y:YD ip el wd f mn t1 t2 b m):LC2 w base g L GC DC OC ip el wd wl de gl kt vs mn t1 b evs its rest ⟨h,GC,DC,tk,OC⟩ :=
  endC2 (led:=[a1,a2,a3,a4,a5,a6,a7,a8,a9,a10,a11]++(add++(936,tabObj ps)::(wl,listOf (List.toArray ws) k)::(de,evO w kt vs gl wl)::rest)) rb F N n ap hT h6 (fun p hp=>List.mem_append_right _ hp) (fun p hp=>List.mem_append_left _ hp) l fa hu y
theorem allLt_of {x:Addr}:∀ {b:Led},(∀ q∈b,@LT.lt Nat _ q.1 x)→AllLt x b
  | [],_=>trivial
  | _::_,h=>⟨h _ (.head _),allLt_of fun q hq=>h q (.tail _ hq)⟩
example:True:=by
  k_with "d0 call type:list" => ((k_here;(with_reducible refine (?_:wpAny _ _ (call (Value.type "list") [Value.ref _]) _ _ _));k_dflt (refine list_copyK (by k_asm) (by k_asm) (News.isList (by k_asm) (by k_mem)) ?_ (Nat.le_trans (m:=6) (by assumption) (by rw [PySem.sizeLine_eq];decide));intro D9_ c9_ h9_ F9_ N9_ l9_;(try k_lt l9_))))
  k_with "d1 subscriptTail Name Slice ref ref" => ((k_here;(with_reducible refine (?_:wpAny _ _ (subscriptTail _ (PySem.Expr.Slice _ _ none _) (Value.ref _) (Value.ref _)) _ _ _));k_dflt (refine' kmk_slice ?F__ ?N__ ?l__ ?p__ ?q__ ?_ ?s__ ?t__ ?z__;(case F__=>k_asm);(case N__=>k_asm);(case l__=>kmk_list);(case p__=>kmk_part);(case q__=>kmk_part);(case s__=>with_unfolding_all rfl);(case t__=>kmk_pure);(case z__=>kmk_size));intro D9_ h9_ F9_ N9_ l9_;obtain ⟨us9_,e9_,r9_⟩:=pick_abc (by assumption) (by assumption);rw [e9_] at N9_;(try k_lt l9_)))
  k_with "d2 LT9" => (first | assumption | exact And.right (by assumption) | exact And.right (And.right (by assumption)) | exact And.right (And.right (And.right (by assumption))) | exact And.right (And.right (And.right (And.right (by assumption)))) | exact And.right (And.right (And.right (And.right (And.right (by assumption))))) | exact And.right (And.right (And.right (And.right (And.right (And.right (by assumption)))))) | exact And.right (And.right (And.right (And.right (And.right (And.right (And.right (by assumption))))))) | exact And.right (And.right (And.right (And.right (And.right (And.right (And.right (And.right (by assumption)))))))) | exact And.right (And.right (And.right (And.right (And.right (And.right (And.right (And.right (And.right (by assumption))))))))) | exact And.right (And.right (And.right (And.right (And.right (And.right (And.right (And.right (And.right (And.right (by assumption)))))))))) | exact And.right (And.right (And.right (And.right (And.right (And.right (And.right (And.right (And.right (And.right (And.right (by assumption))))))))))) | exact allLt_of (by assumption))
  k_with "d2 LT8" => (first | k_extra "@LT9" | exact allLt_up (by assumption) (by k_extra "@LT9"))
  trivial
section
local macro_rules (kind := PySem.W.tacticK_extra_) | s => mq "d2 d1 0 d0 di dv v m l k t j q h g f e c p o a" s

section
variable (B:Below A₀ base outer h₀) (F:Fr h₀ L hpS m) (X:(Mine.hd.heap_1 (World.params w)).In h₀) (N:News h₀ L hpS news) (T:Top p loose mean mg mb h₀) (hk:cs.kind = .function)
include B F X N T hk
theorem lawC2 {ip wl de gl el wd:Addr} {kt:Nat→Tok} {vs:Nat→Value} {b:Bool} {mn:Int} {t1:Tok} {ps:Array Value} {k ke kk:Nat} {ws evs its:List Value} {add rest:Led} {Q:Flow→Shared→Prop} {g:Heap} (rb:Reb base g h₀) (hr:news = add++(936,tabObj ps)::(wl,listOf (List.toArray ws) k)::(de,evO w kt vs gl wl)::rest) (ap:∀ p∈add++rest,p.1≠936∧p.1≠wl∧p.1≠de) (hT:TabSt (add++rest) ps) (h6:ws.length≤6) (n:Apart3 wl de rest)
  (he:(el,listOf (List.toArray evs) ke)∈rest) (hle:evs.length≤6) (hwd:(wd,listOf (List.toArray its) kk)∈rest) (hli:its.length≤6) (h0:0≤mn) (h4:mn < 4) (y:YC ip el wd mn t1 b m)
  (hd:dp + 60 < recursionLimit) (hu:un + 700 < cLine) :
  wpAny (model prog w) (ktrTop dp un gd H.dLaw.name H.dLaw.scope L a ccd [] outer) (execs ((H.dLaw.body.drop 10).take 3) (envOf H.dLaw.name H.dLaw.scope L a ccd)) (fun f s'=>match f with | .next=>LC2 w base g L GC DC OC ip el wd wl de gl kt vs mn t1 b evs its rest s' | f=>Q f s') (fun _ _=>False) ⟨hpS,GC,DC,tkS,OC⟩:=by
  subst hr
  have he2:=memT (a:=(936,tabObj ps)) (b:=(wl,listOf (List.toArray ws) k)) (c:=(de,evO w kt vs gl wl)) _ (List.mem_append_right add he)
  have hwd2:=memT (a:=(936,tabObj ps)) (b:=(wl,listOf (List.toArray ws) k)) (c:=(de,evO w kt vs gl wl)) _ (List.mem_append_right add hwd)
  obtain ⟨y1,y2,y3,y4,y5⟩:=y
  refine let_top F ?_
  clear F
  intro mL eL AL QL EL F9
  k_steps
  refine wpAny_execs_nil ?_
  k_dflt (refine endC2n rb (by k_asm) (by k_asm) n ap hT h6 ?ll ?fa (by assumption) (by exact ⟨y1,y2,y3,y4,y5,rfl,rfl⟩))
  case ll =>
    repeat' (first | exact List.forall_mem_nil _ | refine List.forall_mem_cons.mpr ⟨?_,?_⟩)
    all_goals (dsimp only;k_extra "@LT8")
  case fa =>
    exact ⟨_,_,_,_,_,_,_,_,_,_,_,_,_,_,_,_,_,_,_,_,_,_,_,_,_,_,_,_,_,_,_,by k_mem,by k_mem,by k_mem,by k_mem,by assumption,by k_mem,by k_mem,by k_mem,by k_mem,by k_mem,by k_mem,not_sys (o:=tabObj ps) (base:=add++(936,tabObj ps)::(wl,listOf (List.toArray ws) k)::(de,evO w kt vs gl wl)::rest) (by k_extra "@LT9") (List.mem_append_right _ (.head _))⟩
end
end
theorem resetF {g g' h₂ h:Heap} {L:Addr} {m:Str→Option Value} (rb:Reb g g' h₂) (a:g.objs.size≤L) (F:Fr h₂ L h m):Fr g L h m:=⟨F.ns,fun b o e=>F.keep b o (rb.stays b o e),a⟩
theorem resetN {g g' h₂ h:Heap} {L:Addr} {led:Led} (rb:Reb g g' h₂) (N:News h₂ L h led):News g L h led:=fun p hp=>⟨(N p hp).1,(N p hp).2.1,by
  cases e:g.get? p.1 with
  | none=>rfl
  | some o =>
    have:=rb.stays _ _ e
    rw [(N p hp).2.2] at this
    cases this⟩
inductive LM0 (w:World) (g:Heap) (L:Addr) (G:Array GenState) (D:Drawn) (O:OsState) (wl de gl:Addr) (kt:Nat→Tok) (vs:Nat→Value) (rest:Led) (Y:(Str→Option Value)→Prop):Shared→Prop
  | mk (h:Heap) (tk:Nat) (m:Str→Option Value) (add:Led) (ps:Array Value) (ws:List Value) (k:Nat):Fr g L h m→News g L h (add++(936,tabObj ps)::(wl,listOf (List.toArray ws) k)::(de,evO w kt vs gl wl)::rest)→(∀ p∈add++rest,p.1≠936∧p.1≠wl∧p.1≠de)→TabSt (add++rest) ps→ws.length≤6→Y m→LM0 w g L G D O wl de gl kt vs rest Y ⟨h,G,D,tk,O⟩
theorem LM.to0 {g g1:Heap} {L:Addr} {wl de gl:Addr} {kt:Nat→Tok} {vs:Nat→Value} {rest:Led} {Y:(Str→Option Value)→Prop} {s':Shared} (a:g.objs.size≤L) (h:LM w g g1 L GC DC OC wl de gl kt vs rest Y s'):LM0 w g L GC DC OC wl de gl kt vs rest Y s':=by
  cases h with
  | mk g2 h tk m add ps ws k rb F N q1 q2 q3 q4=>exact ⟨h,tk,m,add,ps,ws,k,resetF rb a F,resetN rb N,q1,q2,q3,q4⟩
theorem mid0 {g h:Heap} {L:Addr} {m:Str→Option Value} {tk:Nat} {wl de gl:Addr} {kt:Nat→Tok} {vs:Nat→Value} {rest led Z:Led} {ps:Array Value} {k:Nat} {ws:List Value} {Y:(Str→Option Value)→Prop} (F:Fr g L h m) (N:News g L h led) (n:Apart3 wl de rest) (hm:(936,tabObj ps)∈led) (hw:(wl,listOf (List.toArray ws) k)∈led) (he:(de,evO w kt vs gl wl)∈led) (hr:∀ p∈rest,p∈led)
    (hZ:∀ p∈Z,p∈led) (aZ:∀ p∈Z,p.1≠936∧p.1≠wl∧p.1≠de) (hT:TabSt Z ps) (h6:ws.length≤6) (y:Y m):LM0 w g L GC DC OC wl de gl kt vs rest Y ⟨h,GC,DC,tk,OC⟩ :=
  (midY (Reb.refl (below_caller g)) F N n hm hw he hr hZ aZ hT h6 y).to0 F.above
noncomputable abbrev LED (w:World) (wl de gl:Addr) (kt:Nat→Tok) (vs:Nat→Value) (add:Led) (ps:Array Value) (ws:List Value) (k:Nat) (rest:Led):Led:=add++(936,tabObj ps)::(wl,listOf (List.toArray ws) k)::(de,evO w kt vs gl wl)::rest
section
variable {dp un:Nat} {gd:Option (List Code)} {cn:Str} {cs:Scope} {a:Addr} {ccd:Value} {cl:List (Str×Addr)} {A₀:Around} {h₀:Heap} {L:Addr} {m:Str→Option Value} {hpS:Heap} {tkS:Nat} {Q E:Value→Shared→Prop}
  {fn ip wl de gl:Addr} {kt:Nat→Tok} {vs:Nat→Value} {v:Value} {b:Bool} {ps:Array Value} {ws:List Value} {k:Nat} {add rest rest0:Led}
theorem told0_note (C:Callee w p loose mean mg mb fn ip wl de gl kt vs v b rest0 (NaNote w) (fun _=>False)) (hfn:keepIn (Mine.hd.heap_1 (World.params w)) (.ref fn) = true)
  (B:Below A₀ h₀ [] h₀) (F:Fr h₀ L hpS m) (X:(Mine.hd.heap_1 (World.params w)).In h₀) (N:News h₀ L hpS (LED w wl de gl kt vs add ps ws k rest)) (T:Top p loose mean mg mb h₀) (hk:cs.kind = .function)
  (hT:TabSt (add++rest) ps) (n2:Apart3 wl de (add++rest)) (hi:(ip,instObj 1355 de)∈add++rest) (h02:∀ p∈rest0,p∈add++rest) (h6:ws.length≤6) (hd:dp + 32 < recursionLimit) (hu:un + 440 < cLine)
  (ret:∀ D l nl t k1 k2 k3 h' tk' add' ps' ws' k',Fr h₀ L h' m→News h₀ L h' (LED w wl de gl kt vs add' ps' ws' k' (add++rest))→(∀ p∈add'++(add++rest),p.1≠936∧p.1≠wl∧p.1≠de)→TabSt (add'++(add++rest)) ps'→ws'.length≤6 →
    (D,({ cls:=.type "tuple", data:=.seq #[.ref l,.ref nl] k1 }:Obj))∈LED w wl de gl kt vs add' ps' ws' k' (add++rest)→(l,listOf #[.none] k2)∈LED w wl de gl kt vs add' ps' ws' k' (add++rest)→(nl,listOf #[.str (Str.ofString "argument is not numeric or logical: returning NA") t] k3)∈LED w wl de gl kt vs add' ps' ws' k' (add++rest)→Q (.ref D) ⟨h',GC,DC,tk',OC⟩) :
  wpAny (model prog w) (ktrTop dp un gd cn cs L a ccd cl []) (call (.ref 1385) [.ref fn,.ref ip,v,.bool b]) Q E ⟨hpS,GC,DC,tkS,OC⟩ :=
  told_go C okNote hfn B F X N T hk X T hT n2 hi h02 h6 hd hu fun u h₂ h' tk' add' ps' ws' k' r F' N' ap t l6 tq=>by
    cases tq with
    | ret m1 m2 m3 hn hp =>
      obtain ⟨rfl,rfl⟩:=hp
      cases hn with
      | cons e hn =>
        obtain ⟨t0,rfl⟩:=e
        cases hn
        exact ret _ _ _ _ _ _ _ _ _ _ _ _ _ (resetF r F.above F') (resetN r N') ap t l6 (memT _ m1) (memT _ m2) (memT _ m3)
    | exc _ _ re=>exact re.elim
theorem told0_exc {S:Str} (C:Callee w p loose mean mg mb fn ip wl de gl kt vs v b rest0 noR (fun S'=>S' = S)) (hfn:keepIn (Mine.hd.heap_1 (World.params w)) (.ref fn) = true)
  (B:Below A₀ h₀ [] h₀) (F:Fr h₀ L hpS m) (X:(Mine.hd.heap_1 (World.params w)).In h₀) (N:News h₀ L hpS (LED w wl de gl kt vs add ps ws k rest)) (T:Top p loose mean mg mb h₀) (hk:cs.kind = .function)
  (hT:TabSt (add++rest) ps) (n2:Apart3 wl de (add++rest)) (hi:(ip,instObj 1355 de)∈add++rest) (h02:∀ p∈rest0,p∈add++rest) (h6:ws.length≤6) (hd:dp + 32 < recursionLimit) (hu:un + 440 < cLine)
  (ret:∀ D nl t k1 k2 h' tk' add' ps' ws' k',Fr h₀ L h' m→News h₀ L h' (LED w wl de gl kt vs add' ps' ws' k' (add++rest))→(∀ p∈add'++(add++rest),p.1≠936∧p.1≠wl∧p.1≠de)→TabSt (add'++(add++rest)) ps'→ws'.length≤6 →
    (D,({ cls:=.type "tuple", data:=.seq #[.str S t,.ref nl] k1 }:Obj))∈LED w wl de gl kt vs add' ps' ws' k' (add++rest)→(nl,listOf #[] k2)∈LED w wl de gl kt vs add' ps' ws' k' (add++rest)→Q (.ref D) ⟨h',GC,DC,tk',OC⟩) :
  wpAny (model prog w) (ktrTop dp un gd cn cs L a ccd cl []) (call (.ref 1385) [.ref fn,.ref ip,v,.bool b]) Q E ⟨hpS,GC,DC,tkS,OC⟩ :=
  told_exc C hfn B F X N T hk X T hT n2 hi h02 h6 hd hu fun D nl t k1 k2 h₂ h' tk' add' ps' ws' k' r F' N' ap t' l6 m1 m2=>ret _ _ _ _ _ _ _ _ _ _ _ (resetF r F.above F') (resetN r N') ap t' l6 m1 m2
end
example:True:=by
  k_with "d3 call ref" => ((k_here;(with_reducible refine (?_:wpAny _ _ (PySem.call (Value.ref 1385) [Value.ref _,Value.ref _,_,Value.bool _] _) _ _ _));k_dflt (refine' told0_note ?tC__ ?tf__ ?tB__ ?tF__ ?tX__ ?tN__ ?tT__ ?tk__ ?tT2__ ?tn__ ?ti__ ?t0__ ?t6__ ?td__ ?tu__ ?_;(case tC__=>first | with_reducible assumption | assumption);(case tf__=>first | with_reducible assumption | assumption);(case tB__=>k_asm);(case tF__=>k_asm);(case tX__=>k_asm);(case tN__=>k_asm);(case tT__=>k_asm);(case tk__=>first | eq_refl | assumption);(case tT2__=>first | with_reducible assumption | assumption);(case tn__=>first | with_reducible assumption | assumption);(case ti__=>first | with_reducible assumption | assumption);(case t0__=>first | with_reducible assumption | assumption);(case t6__=>first | with_reducible assumption | assumption);(case td__=>ktr_room);(case tu__=>ktr_units);(intro D9_ l9_ nl9_ t9_ k91_ k92_ k93_ h9_ tk9_ add9_ ps9_ ws9_ k9_ F9_ N9_ ap9_ tt9_ l69_ m91_ m92_ m93_;dsimp only [LED] at N9_ m91_ m92_ m93_);k_extra "@HK3")))
  k_with "d3 compareOp NotEq ref ref" => ((k_here;k_dflt (refine' neTold ?n1__ ?n2__ ?n3__ ?n4__ ?n5__ ?n6__ ?n7__ ?n8__ ?n9__ ?_;(case n1__=>k_asm);(case n2__=>k_extra "@MEM");(case n3__=>k_extra "@MEM");(case n4__=>k_extra "@MEM");(case n5__=>k_extra "@MEM");(case n6__=>k_extra "@MEM");(case n7__=>k_extra "@MEM");(case n8__=>kernel_rfl);(case n9__=>ktr_units))))
  trivial
section
local macro_rules (kind := PySem.W.tacticK_extra_) | s => mq "d3 di dv v m l k t j q h g f e d c p o a" s

section
variable {dp un:Nat} {gd:Option (List Code)} {cs:Scope} {a:Addr} {ccd:Value} {A₀:Around} {h₀:Heap} {L:Addr} {m:Str→Option Value} {news:List (Addr×Obj)} {hpS:Heap} {tkS:Nat} {E:Value→Shared→Prop}
  (B:Below A₀ h₀ [] h₀) (F:Fr h₀ L hpS m) (X:(Mine.hd.heap_1 (World.params w)).In h₀) (N:News h₀ L hpS news) (T:Top p loose mean mg mb h₀)
include B F X N T
theorem lawD1 {ip wl de gl el wd f:Addr} {kt:Nat→Tok} {vs:Nat→Value} {b:Bool} {mn:Int} {t1 t2:Tok} {ps:Array Value} {k:Nat} {ws:List Value} {l:Value} {add rest:Led} {Q:Flow→Shared→Prop} (hr:news = LED w wl de gl kt vs add ps ws k rest) (ap:∀ p∈add++rest,p.1≠936∧p.1≠wl∧p.1≠de) (hT:TabSt (add++rest) ps) (h6:ws.length≤6) (n:Apart3 wl de rest) (hi:(ip,instObj 1355 de)∈rest) (hF:FacIn w rest f l) (y:YD ip el wd f mn t1 t2 b m)
  (hd:dp + 60 < recursionLimit) (hu:un + 700 < cLine) :
  wpAny (model prog w) (ktrTop dp un gd H.dLaw.name H.dLaw.scope L a ccd [] []) (execs ((H.dLaw.body.drop 13).take 1) (envOf H.dLaw.name H.dLaw.scope L a ccd)) (fun f9 s'=>match f9 with | .next=>LM0 w h₀ L GC DC OC wl de gl kt vs rest (YD ip el wd f mn t1 t2 b) s' | f9=>Q f9 s') (fun _ _=>False) ⟨hpS,GC,DC,tkS,OC⟩:=by
  subst hr
  obtain ⟨y1,y2,y3,y4,y5,y6,y7⟩:=y
  have n2:Apart3 wl de (add++rest):=⟨n.n1,n.n2,n.n3,ap⟩
  have hi2:(ip,instObj 1355 de)∈add++rest:=List.mem_append_right _ hi
  have h02:∀ p∈rest,p∈add++rest:=fun p hp=>List.mem_append_right _ hp
  have C1:Callee w p loose mean mg mb 1012 ip wl de gl kt vs (.ref f) b rest (NaNote w) (fun _=>False):=cMeanF hF
  have f1:keepIn (Mine.hd.heap_1 (World.params w)) (.ref 1012) = true:=rfl
  refine let_top F ?_
  clear F
  intro mL eL AL QL EL F9
  k_steps
  refine wpAny_execs_nil ?_
  k_dflt (exact mid0 (Z:=_++(add++rest)) (by k_asm) (by k_asm) n (by k_mem) (by k_mem) (by k_mem) (by intro p h;k_mem) (by intro p h;repeat (first | exact memT p h | refine List.Mem.tail _ ?_)) (by assumption) (by assumption) (by assumption) (by exact ⟨y1,y2,y3,y4,y5,y6,y7⟩))
end
end
section
variable {dp un:Nat} {gd:Option (List Code)} {cn:Str} {cs:Scope} {a:Addr} {ccd:Value} {cl:List (Str×Addr)} {A₀:Around} {h₀:Heap} {L:Addr} {m:Str→Option Value} {hpS:Heap} {tkS:Nat} {Q E:Value→Shared→Prop}
  {ip wl de gl:Addr} {kt:Nat→Tok} {vs:Nat→Value} {b:Bool} {ps:Array Value} {ws:List Value} {k:Nat} {add rest:Led}
theorem told0_text {x d D:Addr} {u1 u2 u3 u4 u5 uk:Tok} {its:Array Value} {c:Nat}
  (B:Below A₀ h₀ [] h₀) (F:Fr h₀ L hpS m) (X:(Mine.hd.heap_1 (World.params w)).In h₀) (N:News h₀ L hpS ((x,instObj 262 d)::(d,vecO w u1 u2 u3 u4 u5 (Str.ofString "character") uk (.ref D) .none)::(D,listOf its c)::LED w wl de gl kt vs add ps ws k rest)) (T:Top p loose mean mg mb h₀) (hk:cs.kind = .function)
  (l0:∀ q∈LED w wl de gl kt vs add ps ws k rest,@LT.lt Nat _ q.1 D) (l1:∀ q∈(D,listOf its c)::LED w wl de gl kt vs add ps ws k rest,@LT.lt Nat _ q.1 d) (l2:@LT.lt Nat _ d x)
  (hT:TabSt (add++rest) ps) (n2:Apart3 wl de (add++rest)) (hi:(ip,instObj 1355 de)∈add++rest) (h6:ws.length≤6) (hd:dp + 32 < recursionLimit) (hu:un + 440 < cLine)
  (ret:∀ D' l nl t k1 k2 k3 h' tk' add' ps' ws' k' zz,Fr h₀ L h' m→News h₀ L h' (LED w wl de gl kt vs add' ps' ws' k' (zz++(add++rest)))→(∀ p∈add'++(zz++(add++rest)),p.1≠936∧p.1≠wl∧p.1≠de)→TabSt (add'++(zz++(add++rest))) ps'→ws'.length≤6 →
    (D',({ cls:=.type "tuple", data:=.seq #[.ref l,.ref nl] k1 }:Obj))∈LED w wl de gl kt vs add' ps' ws' k' (zz++(add++rest))→(l,listOf #[.none] k2)∈LED w wl de gl kt vs add' ps' ws' k' (zz++(add++rest))→(nl,listOf #[.str (Str.ofString "argument is not numeric or logical: returning NA") t] k3)∈LED w wl de gl kt vs add' ps' ws' k' (zz++(add++rest))→Q (.ref D') ⟨h',GC,DC,tk',OC⟩) :
  wpAny (model prog w) (ktrTop dp un gd cn cs L a ccd cl []) (call (.ref 1385) [.ref 1012,.ref ip,.ref x,.bool b]) Q E ⟨hpS,GC,DC,tkS,OC⟩:=by
  have i1:(936,tabObj ps)∈LED w wl de gl kt vs add ps ws k rest:=List.mem_append_right _ (.head _)
  have i2:(wl,listOf (List.toArray ws) k)∈LED w wl de gl kt vs add ps ws k rest:=List.mem_append_right _ (.tail _ (.head _))
  have i3:(de,evO w kt vs gl wl)∈LED w wl de gl kt vs add ps ws k rest:=List.mem_append_right _ (.tail _ (.tail _ (.head _)))
  have j1:=allLt_of l0
  have j2:=(allLt_of l1).2
  have n3:Apart3 wl de ([(x,instObj 262 d),(d,vecO w u1 u2 u3 u4 u5 (Str.ofString "character") uk (.ref D) .none),(D,listOf its c)]++(add++rest)):=apart_app n2 (List.forall_mem_cons.mpr ⟨allLt_up l2 j2,List.forall_mem_cons.mpr ⟨j2,List.forall_mem_cons.mpr ⟨j1,List.forall_mem_nil _⟩⟩⟩) i1 i2 i3
  exact told0_note (add:=(x,instObj 262 d)::(d,vecO w u1 u2 u3 u4 u5 (Str.ofString "character") uk (.ref D) .none)::(D,listOf its c)::add) (rest0:=(x,instObj 262 d)::(d,vecO w u1 u2 u3 u4 u5 (Str.ofString "character") uk (.ref D) .none)::(D,listOf its c)::(add++rest)) (cMeanT ⟨d,D,u1,u2,u3,u4,u5,uk,its,c,.head _,.tail _ (.head _),.tail _ (.tail _ (.head _))⟩) rfl B F X N T hk (hT.mono fun p hp=>.tail _ (.tail _ (.tail _ hp))) n3 (.tail _ (.tail _ (.tail _ hi))) (fun p hp=>hp) h6 hd hu
    fun D' l nl t k1 k2 k3 h' tk' add' ps' ws' k' F' N' ap' t' l6 m1 m2 m3=>ret D' l nl t k1 k2 k3 h' tk' add' ps' ws' k' [(x,instObj 262 d),(d,vecO w u1 u2 u3 u4 u5 (Str.ofString "character") uk (.ref D) .none),(D,listOf its c)] F' N' ap' t' l6 m1 m2 m3
end
example:True:=by
  k_with "d4 call ref" => ((k_here;(with_reducible refine (?_:wpAny _ _ (PySem.call (Value.ref 1385) [Value.ref _,Value.ref _,_,Value.bool _] _) _ _ _));k_dflt (refine' told0_text ?tB__ ?tF__ ?tX__ ?tN__ ?tT__ ?tk__ ?a0__ ?a1__ ?a2__ ?tT2__ ?tn__ ?ti__ ?t6__ ?td__ ?tu__ ?_;(case tB__=>k_asm);(case tF__=>k_asm);(case tX__=>k_asm);(case tN__=>k_asm);(case tT__=>k_asm);(case tk__=>first | eq_refl | assumption);(case a0__=>first | with_reducible assumption | assumption);(case a1__=>first | with_reducible assumption | assumption);(case a2__=>first | with_reducible assumption | assumption);(case tT2__=>first | with_reducible assumption | assumption);(case tn__=>first | with_reducible assumption | assumption);(case ti__=>first | with_reducible assumption | assumption);(case t6__=>first | with_reducible assumption | assumption);(case td__=>ktr_room);(case tu__=>ktr_units);(intro D9_ l9_ nl9_ t9_ k91_ k92_ k93_ h9_ tk9_ add9_ ps9_ ws9_ k9_ zz9_ F9_ N9_ ap9_ tt9_ l69_ m91_ m92_ m93_;dsimp only [LED] at N9_ m91_ m92_ m93_);k_extra "@HK3")))
  k_with "d4 compareOp NotEq ref ref" => ((k_here;k_dflt (refine' neTold ?n1__ ?n2__ ?n3__ ?n4__ ?n5__ ?n6__ ?n7__ ?n8__ ?n9__ ?_;(case n1__=>k_asm);(case n2__=>k_extra "@MEM");(case n3__=>k_extra "@MEM");(case n4__=>k_extra "@MEM");(case n5__=>k_extra "@MEM");(case n6__=>k_extra "@MEM");(case n7__=>k_extra "@MEM");(case n8__=>kernel_rfl);(case n9__=>ktr_units))))
  trivial
section
local macro_rules (kind := PySem.W.tacticK_extra_) | s => mq "d4 dy di dv v m l k t j q h g f e d c p o a" s

section
variable {dp un:Nat} {gd:Option (List Code)} {cs:Scope} {a:Addr} {ccd:Value} {A₀:Around} {h₀:Heap} {L:Addr} {m:Str→Option Value} {news:List (Addr×Obj)} {hpS:Heap} {tkS:Nat} {E:Value→Shared→Prop}
  (B:Below A₀ h₀ [] h₀) (F:Fr h₀ L hpS m) (X:(Mine.hd.heap_1 (World.params w)).In h₀) (N:News h₀ L hpS news) (T:Top p loose mean mg mb h₀)
include B F X N T
theorem lawD2 {ip wl de gl el wd f:Addr} {kt:Nat→Tok} {vs:Nat→Value} {b:Bool} {mn:Int} {t1 t2:Tok} {ps:Array Value} {k:Nat} {ws:List Value} {add rest:Led} {Q:Flow→Shared→Prop} (hr:news = LED w wl de gl kt vs add ps ws k rest) (ap:∀ p∈add++rest,p.1≠936∧p.1≠wl∧p.1≠de) (hT:TabSt (add++rest) ps) (h6:ws.length≤6) (n:Apart3 wl de rest) (hi:(ip,instObj 1355 de)∈rest) (y:YD ip el wd f mn t1 t2 b m)
  (hd:dp + 60 < recursionLimit) (hu:un + 700 < cLine) :
  wpAny (model prog w) (ktrTop dp un gd H.dLaw.name H.dLaw.scope L a ccd [] []) (execs ((H.dLaw.body.drop 14).take 1) (envOf H.dLaw.name H.dLaw.scope L a ccd)) (fun f9 s'=>match f9 with | .next=>LM0 w h₀ L GC DC OC wl de gl kt vs rest (YD ip el wd f mn t1 t2 b) s' | f9=>Q f9 s') (fun _ _=>False) ⟨hpS,GC,DC,tkS,OC⟩:=by
  subst hr
  obtain ⟨y1,y2,y3,y4,y5,y6,y7⟩:=y
  have n2:Apart3 wl de (add++rest):=⟨n.n1,n.n2,n.n3,ap⟩
  have hi2:(ip,instObj 1355 de)∈add++rest:=List.mem_append_right _ hi
  have h02:∀ p∈rest,p∈add++rest:=fun p hp=>List.mem_append_right _ hp
  refine let_top F ?_
  clear F
  intro mL eL AL QL EL F9
  k_steps
  refine wpAny_execs_nil ?_
  k_dflt (exact mid0 (Z:=_++(_++(add++rest))) (by k_asm) (by k_asm) n (by k_mem) (by k_mem) (by k_mem) (by intro p h;k_mem) (by intro p h;repeat (first | exact memT p h | refine List.Mem.tail _ ?_)) (by assumption) (by assumption) (by assumption) (by exact ⟨y1,y2,y3,y4,y5,y6,y7⟩))
end
end
example:True:=by
  k_with "d5 call ref" => ((k_here;(with_reducible refine (?_:wpAny _ _ (PySem.call (Value.ref 1385) [Value.ref _,Value.ref _,_,Value.bool _] _) _ _ _));k_dflt (refine' told0_exc ?tC__ ?tf__ ?tB__ ?tF__ ?tX__ ?tN__ ?tT__ ?tk__ ?tT2__ ?tn__ ?ti__ ?t0__ ?t6__ ?td__ ?tu__ ?_;(case tC__=>first | with_reducible assumption | assumption);(case tf__=>first | with_reducible assumption | assumption);(case tB__=>k_asm);(case tF__=>k_asm);(case tX__=>k_asm);(case tN__=>k_asm);(case tT__=>k_asm);(case tk__=>first | eq_refl | assumption);(case tT2__=>first | with_reducible assumption | assumption);(case tn__=>first | with_reducible assumption | assumption);(case ti__=>first | with_reducible assumption | assumption);(case t0__=>first | with_reducible assumption | assumption);(case t6__=>first | with_reducible assumption | assumption);(case td__=>ktr_room);(case tu__=>ktr_units);(intro D9_ nl9_ t9_ k91_ k92_ h9_ tk9_ add9_ ps9_ ws9_ k9_ F9_ N9_ ap9_ tt9_ l69_ m91_ m92_;dsimp only [LED] at N9_ m91_ m92_);k_extra "@HK3")))
  k_with "d5 compareOp NotEq ref ref" => ((k_here;k_dflt (refine' neMsg ?n1__ ?n2__ ?n3__ ?n4__ ?n5__ ?n6__ ?n7__ ?_;(case n1__=>k_asm);(case n2__=>k_extra "@MEM");(case n3__=>k_extra "@MEM");(case n4__=>k_extra "@MEM");(case n5__=>k_extra "@MEM");(case n6__=>kernel_rfl);(case n7__=>ktr_units))))
  trivial
section
local macro_rules (kind := PySem.W.tacticK_extra_) | s => mq "d5 di dv v m l k t j q h g f e d c p o a" s

section
variable {dp un:Nat} {gd:Option (List Code)} {cs:Scope} {a:Addr} {ccd:Value} {A₀:Around} {h₀:Heap} {L:Addr} {m:Str→Option Value} {news:List (Addr×Obj)} {hpS:Heap} {tkS:Nat} {E:Value→Shared→Prop}
  (B:Below A₀ h₀ [] h₀) (F:Fr h₀ L hpS m) (X:(Mine.hd.heap_1 (World.params w)).In h₀) (N:News h₀ L hpS news) (T:Top p loose mean mg mb h₀)
include B F X N T
theorem lawD4 {ip wl de gl el wd f:Addr} {kt:Nat→Tok} {vs:Nat→Value} {b:Bool} {mn:Int} {t1 t2:Tok} {ps:Array Value} {k:Nat} {ws:List Value} {l:Value} {add rest:Led} {Q:Flow→Shared→Prop} (hr:news = LED w wl de gl kt vs add ps ws k rest) (ap:∀ p∈add++rest,p.1≠936∧p.1≠wl∧p.1≠de) (hT:TabSt (add++rest) ps) (h6:ws.length≤6) (n:Apart3 wl de rest) (hi:(ip,instObj 1355 de)∈rest) (hF:FacIn w rest f l) (y:YD ip el wd f mn t1 t2 b m)
  (hd:dp + 60 < recursionLimit) (hu:un + 700 < cLine) :
  wpAny (model prog w) (ktrTop dp un gd H.dLaw.name H.dLaw.scope L a ccd [] []) (execs ((H.dLaw.body.drop 16).take 1) (envOf H.dLaw.name H.dLaw.scope L a ccd)) (fun f9 s'=>match f9 with | .next=>LM0 w h₀ L GC DC OC wl de gl kt vs rest (YD ip el wd f mn t1 t2 b) s' | f9=>Q f9 s') (fun _ _=>False) ⟨hpS,GC,DC,tkS,OC⟩:=by
  subst hr
  obtain ⟨y1,y2,y3,y4,y5,y6,y7⟩:=y
  have n2:Apart3 wl de (add++rest):=⟨n.n1,n.n2,n.n3,ap⟩
  have hi2:(ip,instObj 1355 de)∈add++rest:=List.mem_append_right _ hi
  have h02:∀ p∈rest,p∈add++rest:=fun p hp=>List.mem_append_right _ hp
  have C1:Callee w p loose mean mg mb 1019 ip wl de gl kt vs (.ref f) b rest noR (fun S=>S = Str.ofString "need numeric data"):=cMedF hF
  have f1:keepIn (Mine.hd.heap_1 (World.params w)) (.ref 1019) = true:=rfl
  refine let_top F ?_
  clear F
  intro mL eL AL QL EL F9
  k_steps
  refine wpAny_execs_nil ?_
  k_dflt (exact mid0 (Z:=_++(add++rest)) (by k_asm) (by k_asm) n (by k_mem) (by k_mem) (by k_mem) (by intro p h;k_mem) (by intro p h;repeat (first | exact memT p h | refine List.Mem.tail _ ?_)) (by assumption) (by assumption) (by assumption) (by exact ⟨y1,y2,y3,y4,y5,y6,y7⟩))
theorem lawD5 {ip wl de gl el wd f:Addr} {kt:Nat→Tok} {vs:Nat→Value} {b:Bool} {mn:Int} {t1 t2:Tok} {ps:Array Value} {k:Nat} {ws:List Value} {l:Value} {add rest:Led} {Q:Flow→Shared→Prop} (hr:news = LED w wl de gl kt vs add ps ws k rest) (ap:∀ p∈add++rest,p.1≠936∧p.1≠wl∧p.1≠de) (hT:TabSt (add++rest) ps) (h6:ws.length≤6) (n:Apart3 wl de rest) (hi:(ip,instObj 1355 de)∈rest) (hF:FacIn w rest f l) (y:YD ip el wd f mn t1 t2 b m)
  (hd:dp + 60 < recursionLimit) (hu:un + 700 < cLine) :
  wpAny (model prog w) (ktrTop dp un gd H.dLaw.name H.dLaw.scope L a ccd [] []) (execs ((H.dLaw.body.drop 17).take 1) (envOf H.dLaw.name H.dLaw.scope L a ccd)) (fun f9 s'=>match f9 with | .next=>LM0 w h₀ L GC DC OC wl de gl kt vs rest (YD ip el wd f mn t1 t2 b) s' | f9=>Q f9 s') (fun _ _=>False) ⟨hpS,GC,DC,tkS,OC⟩:=by
  subst hr
  obtain ⟨y1,y2,y3,y4,y5,y6,y7⟩:=y
  have n2:Apart3 wl de (add++rest):=⟨n.n1,n.n2,n.n3,ap⟩
  have hi2:(ip,instObj 1355 de)∈add++rest:=List.mem_append_right _ hi
  have h02:∀ p∈rest,p∈add++rest:=fun p hp=>List.mem_append_right _ hp
  have C1:Callee w p loose mean mg mb 1045 ip wl de gl kt vs (.ref f) b rest noR (fun S=>S = Str.ofString "factors are not allowed"):=cQntF hF
  have f1:keepIn (Mine.hd.heap_1 (World.params w)) (.ref 1045) = true:=rfl
  refine let_top F ?_
  clear F
  intro mL eL AL QL EL F9
  k_steps
  refine wpAny_execs_nil ?_
  k_dflt (exact mid0 (Z:=_++(add++rest)) (by k_asm) (by k_asm) n (by k_mem) (by k_mem) (by k_mem) (by intro p h;k_mem) (by intro p h;repeat (first | exact memT p h | refine List.Mem.tail _ ?_)) (by assumption) (by assumption) (by assumption) (by exact ⟨y1,y2,y3,y4,y5,y6,y7⟩))
end
end
theorem mean12 {led:Led} {v:Value} (h:meanV led v (kept false [some 1,some 2])):VD led v (.tuple [.int 3,.int 2]) :=
  meanVD (xs:=[some 1,some 2]) (zs:=[1,2]) (b:=false) (lk:=false) ⟨fun h=>(nomatch h),fun _=>rfl⟩ h
theorem small12:Small [some 1,some 2]:=fun i hi=>by
  simp only [List.mem_cons,Option.some.injEq,List.mem_nil_iff,or_false] at hi
  rcases hi with rfl | rfl<;>decide
example:True:=by
  k_with "d6 call ref" => ((k_here;(with_reducible refine (?_:wpAny _ _ (PySem.call (Value.ref 1012) [Value.ref _,Value.ref _,Value.ref _] _) _ _ _));k_dflt (refine' mean_plain_ct (b:=false) (xs:=[some 1,some 2]) ?tB__ ?tF__ ?tX__ ?tN__ ?tT__ ?tk__ (.one ?o1__ ?o2__) .no (.mk (vs:=[_,_]) ?o3__ ?o4__ ?o5__ (.cons (.int _ _) (.cons (.int _ _) .nil))) ?o6__ small12 ?td__ ?tu__ ?_;(case tB__=>k_asm);(case tF__=>k_asm);(case tX__=>k_asm);(case tN__=>k_asm);(case tT__=>k_asm);(case tk__=>first | eq_refl | assumption);(case o1__=>k_mem);(case o2__=>k_mem);(case o3__=>k_mem);(case o4__=>k_mem);(case o5__=>k_mem);(case o6__=>decide);(case td__=>ktr_room);(case tu__=>ktr_units);(intro u9_ s9_ hr9_;obtain ⟨h9_,tk9_,add9_,e9_,F9_,N9_,ap9_,r9_⟩:=hr9_;subst e9_;obtain ⟨x9_,d9_,l9_,t19_,t29_,t39_,t49_,t59_,tk79_,v9_,k9_,eu9_,m91_,m92_,m93_,q9_⟩:=r9_;subst eu9_;have vd9_:=mean12 q9_);k_extra "@HK3")))
  k_with "d6 compareOp NotEq ref ref" => ((k_here;k_dflt (refine neVD (by k_asm) (by k_asm) (by k_asm) (by k_extra "@MEM") (by k_extra "@MEM") (VD.mono (by assumption) (by intro p_ h_;k_mem)) (VD.tup (by k_mem)) (by ktr_units) ?_)))
  trivial
section
local macro_rules (kind := PySem.W.tacticK_extra_) | s => mq "d6 dy di dv v m l k t j q h g f e d c p o a" s

section
variable {dp un:Nat} {gd:Option (List Code)} {cs:Scope} {a:Addr} {ccd:Value} {A₀:Around} {h₀:Heap} {L:Addr} {m:Str→Option Value} {news:List (Addr×Obj)} {hpS:Heap} {tkS:Nat} {E:Value→Shared→Prop}
  (B:Below A₀ h₀ [] h₀) (F:Fr h₀ L hpS m) (X:(Mine.hd.heap_1 (World.params w)).In h₀) (N:News h₀ L hpS news) (T:Top p loose mean mg mb h₀)
include B F X N T
theorem lawD3 {ip wl de gl el wd f:Addr} {kt:Nat→Tok} {vs:Nat→Value} {b:Bool} {mn:Int} {t1 t2:Tok} {ps:Array Value} {k:Nat} {ws:List Value} {add rest:Led} {Q:Flow→Shared→Prop} (hr:news = LED w wl de gl kt vs add ps ws k rest) (ap:∀ p∈add++rest,p.1≠936∧p.1≠wl∧p.1≠de) (hT:TabSt (add++rest) ps) (h6:ws.length≤6) (n:Apart3 wl de rest) (hi:(ip,instObj 1355 de)∈rest) (y:YD ip el wd f mn t1 t2 b m)
  (hd:dp + 60 < recursionLimit) (hu:un + 700 < cLine) :
  wpAny (model prog w) (ktrTop dp un gd H.dLaw.name H.dLaw.scope L a ccd [] []) (execs ((H.dLaw.body.drop 15).take 1) (envOf H.dLaw.name H.dLaw.scope L a ccd)) (fun f9 s'=>match f9 with | .next=>LM0 w h₀ L GC DC OC wl de gl kt vs rest (YD ip el wd f mn t1 t2 b) s' | f9=>Q f9 s') (fun _ _=>False) ⟨hpS,GC,DC,tkS,OC⟩:=by
  subst hr
  dsimp only [LED] at N
  obtain ⟨y1,y2,y3,y4,y5,y6,y7⟩:=y
  have n2:Apart3 wl de (add++rest):=⟨n.n1,n.n2,n.n3,ap⟩
  have hi2:(ip,instObj 1355 de)∈add++rest:=List.mem_append_right _ hi
  have h02:∀ p∈rest,p∈add++rest:=fun p hp=>List.mem_append_right _ hp
  refine let_top F ?_
  clear F
  intro mL eL AL QL EL F9
  k_steps
  refine wpAny_execs_nil ?_
  k_dflt (exact mid0 (Z:=add++rest) (by k_asm) (by k_asm) n (by k_mem) (by k_mem) (by k_mem) (by intro p h;k_mem) (by intro p h;repeat (first | exact memT p h | refine List.Mem.tail _ ?_ | refine List.mem_append_right _ ?_)) (by assumption) (by assumption) (by assumption) (by exact ⟨y1,y2,y3,y4,y5,y6,y7⟩))
end
end

noncomputable def FnEnd (h₀:Heap) (L I:Addr) (oI:Obj) (JJ:(Str→Option Value)→Led→Prop) (Q:Flow→Shared→Prop) (f:Flow) (s':Shared):Prop :=
  match f with
  | .ret v=>Q (.ret v) s'
  | .brk=>Q .next s'
  | _=>∃ h' tk' m' nx,s' = ⟨h',GC,DC,tk',OC⟩∧Fr h₀ L h' m'∧News h₀ L h' ((I,oI)::nx)∧(∀ p∈nx,p.1≠I)∧JJ m' nx
theorem fnLoop {A:Around} {E:Value→Shared→Prop} {hpS:Heap} {tkS:Nat} {env:Env} {h₀:Heap} {x:Str} {body:List Stmt} {Q:Flow→Shared→Prop} {m₀:Str→Option Value} {news:Led} {l:Addr} {its:List Value} {k0:Nat} (JJ:(Str→Option Value)→Led→Prop) (hh:A.handled = none) (F:Fr h₀ env.locals hpS m₀) (N:News h₀ env.locals hpS news) (hJ:JJ m₀ news) (hm:∀ m nx,JJ m nx→(l,listOf its.toArray k0)∈nx)
    (turn:∀ v m₁ nx h tk I oI,v∈its→(∃ i:Nat,oI.data = .fields #[.ref l,.int i 0])→JJ m₁ nx→(∀ p∈nx,p.1≠I)→Fr h₀ env.locals h (fun y=>if y = x then some v else m₁ y)→News h₀ env.locals h ((I,oI)::nx)→wpAny (model prog w) A (execs body env) (FnEnd h₀ env.locals I oI JJ Q) E ⟨h,GC,DC,tk,OC⟩)
    (done:∀ m₁ nx h tk,JJ m₁ nx→Fr h₀ env.locals h m₁→News h₀ env.locals h nx→Q .next ⟨h,GC,DC,tk,OC⟩) :
    wpAny (model prog w) A (pyIter (.ref l)) (fun it s₂=>LoopAtV prog w A h₀ env x body Q E it s₂) E ⟨hpS,GC,DC,tkS,OC⟩:=by
  have hol:=(N _ (hm _ _ hJ)).1
  have hls:hpS.IsList l its.toArray:=⟨_,hol,rfl,k0,rfl⟩
  have hne:l≠hpS.objs.size:=Nat.ne_of_lt (Heap.lt_size hol)
  have hI0:h₀.get? hpS.objs.size = none:=next_is_new F
  refine wpAny_pyIter_list hls ?_
  have W:=Walks.list (prog:=prog) (w:=w) hh hpS.objs.size l hne its.toArray
  refine ⟨_,_,_,_,_,_,m₀,news,fun _=>JJ,rfl,W,fun hq=>?_,fun b hb=>List.mem_singleton.mp hb▸hI0,fun p hp hI=>absurd (Heap.lt_size (N p hp).1) (List.mem_singleton.mp hI▸Nat.lt_irrefl _),⟨⟨_,Heap.get?_push_size _ rfl,rfl,rfl⟩,hls.at fun o e=>Heap.get?_push_of_some _ e⟩,F.push _,fun p hp=>⟨Heap.get?_push_of_some _ (N p hp).1,(N p hp).2⟩,hJ,?_,fun h' tk m' nx F' N' _ hJ'=>done m' nx h' tk hJ' F' N'⟩
  · rcases List.mem_cons.mp hq with e | hq
    · exact absurd F.ns.lt (e▸Nat.lt_irrefl _)
    · exact (N _ (hm _ _ hJ)).2.1 (List.mem_singleton.mp hq).symm
  · rintro i v m₁ nx _ own ⟨h1,tk1,rfl⟩ _ hv hj hoff hown hget hfp hst F1 N1
    obtain ⟨⟨oI,hoI,_,hcI⟩,_⟩:=id hst
    have hI:(hpS.objs.size,oI)∈own:=hfp _ (.head _) hI0 _ hoI
    have N2:News h₀ env.locals h1 ((hpS.objs.size,oI)::nx):=fun p hp=>N1 p ((List.mem_cons.mp hp).elim (fun e=>List.mem_append_left _ (e▸hI)) fun hp=>List.mem_append_right _ hp)
    have off:∀ p∈nx,p.1≠hpS.objs.size:=fun p hp e=>hoff p hp (List.mem_singleton.mpr e)
    have hv2:v∈its:=by
      have:its.toArray[i]? = some v:=hv
      rw [List.getElem?_toArray] at this
      exact List.mem_of_getElem? this
    refine wpAny_mono (turn v m₁ nx h1 tk1 _ oI hv2 ⟨_,hcI⟩ hj off F1 N2) (fun f s2 q=>?_) fun _ _ e=>e
    have fin:(∃ h' tk' m' nx,s2 = ⟨h',GC,DC,tk',OC⟩∧Fr h₀ env.locals h' m'∧News h₀ env.locals h' ((hpS.objs.size,oI)::nx)∧(∀ p∈nx,p.1≠hpS.objs.size)∧JJ m' nx)→LoopStepU h₀ env.locals [hpS.objs.size] own JJ ⟨h1,GC,DC,tk1,OC⟩ .next s2:=by
      rintro ⟨h',tk',m',nx',e,F',N',off',hj'⟩
      refine ⟨rfl,h',tk',m',nx',e,F',fun p hp=>?_,fun p hp hq=>off' p hp (List.mem_singleton.mp hq),hj'⟩
      rcases List.mem_append.mp hp with hp | hp
      · have hpo:=hget p hp
        rcases List.mem_cons.mp (hown p hp) with e1 | e1
        · rw [show p = (hpS.objs.size,oI) from Prod.ext e1 (Option.some.inj ((e1▸hpo).symm.trans hoI))]
          exact N' _ (.head _)
        · have e1:=List.mem_singleton.mp e1
          have hl:=(N1 _ (List.mem_append_right _ (hm _ _ hj))).1
          rw [show p = (l,listOf its.toArray k0) from Prod.ext e1 (Option.some.inj ((e1▸hpo).symm.trans hl))]
          exact N' _ (.tail _ (hm _ _ hj'))
      · exact N' p (.tail _ hp)
    cases f with
    | ret v=>exact .ret q
    | brk=>exact .brk q
    | next=>exact .next (fin q)
    | cont=>exact .cont (fin q)
noncomputable def JJfn (w:World) (l:Addr) (its:List Value) (k0:Nat) (wl de gl:Addr) (kt:Nat→Tok) (vs:Nat→Value) (rest:Led) (Y:(Str→Option Value)→Prop) (m:Str→Option Value) (nx:Led):Prop :=
  ∃ add ps ws k,nx = (l,listOf (List.toArray its) k0)::LED w wl de gl kt vs add ps ws k rest∧(∀ p∈add++rest,p.1≠936∧p.1≠wl∧p.1≠de)∧TabSt (add++rest) ps∧ws.length≤6∧Y m
theorem endFn {h₀ h:Heap} {L I l wl de gl:Addr} {oI:Obj} {its ws:List Value} {k0 k i9:Nat} {kt:Nat→Tok} {vs:Nat→Value} {ps:Array Value} {add rest led:Led} {Y:(Str→Option Value)→Prop} {m:Str→Option Value} {tk:Nat} {Q:Flow→Shared→Prop} (hd:oI.data = .fields #[.ref l,.int i9 0]) (F:Fr h₀ L h m) (N:News h₀ L h led) (n:Apart3 wl de rest) (hI:∀ p∈(l,listOf (List.toArray its) k0)::rest,p.1≠I)
    (hs:∀ p∈LED w wl de gl kt vs add ps ws k ((I,oI)::(l,listOf (List.toArray its) k0)::rest),p∈led) (ap:∀ p∈add++(I,oI)::(l,listOf (List.toArray its) k0)::rest,p.1≠936∧p.1≠wl∧p.1≠de) (hT:TabSt (add++(I,oI)::(l,listOf (List.toArray its) k0)::rest) ps) (h6:ws.length≤6) (y:Y m) :
    FnEnd h₀ L I oI (JJfn w l its k0 wl de gl kt vs rest Y) Q .next ⟨h,GC,DC,tk,OC⟩:=by
  have i0:=ap (I,oI) (List.mem_append_right _ (.head _))
  have hx:∀ p:Addr×Obj,Decidable (p.1≠I):=fun p=>Classical.propDecidable _
  have up:∀ p∈add++(I,oI)::(l,listOf (List.toArray its) k0)::rest,p∈LED w wl de gl kt vs add ps ws k ((I,oI)::(l,listOf (List.toArray its) k0)::rest):=fun p hp=>memT p hp
  have hIl:=hs _ (up (I,oI) (List.mem_append_right _ (.head _)))
  refine ⟨h,tk,m,(l,listOf (List.toArray its) k0)::LED w wl de gl kt vs (add.filter fun p=>decide (p.1≠I)) ps ws k rest,rfl,F,fun p hp=>?_,fun p hp=>?_,add.filter fun p=>decide (p.1≠I),ps,ws,k,rfl,fun p hp=>?_,?_,h6,y⟩
  · rcases List.mem_cons.mp hp with e | hp
    · exact e▸N _ hIl
    rcases List.mem_cons.mp hp with e | hp
    · exact e▸N _ (hs _ (up _ (List.mem_append_right _ (.tail _ (.head _)))))
    rcases List.mem_append.mp hp with hp | hp
    · exact N _ (hs _ (up _ (List.mem_append_left _ (List.mem_filter.mp hp).1)))
    · refine N _ (hs _ (List.mem_append_right _ ?_))
      rcases List.mem_cons.mp hp with e | hp
      · exact e▸.head _
      rcases List.mem_cons.mp hp with e | hp
      · exact e▸.tail _ (.head _)
      rcases List.mem_cons.mp hp with e | hp
      · exact e▸.tail _ (.tail _ (.head _))
      · exact .tail _ (.tail _ (.tail _ (.tail _ (.tail _ hp))))
  · rcases List.mem_cons.mp hp with e | hp
    · exact e▸hI _ (.head _)
    rcases List.mem_append.mp hp with hp | hp
    · exact of_decide_eq_true (List.mem_filter.mp hp).2
    rcases List.mem_cons.mp hp with e | hp
    · exact e▸Ne.symm i0.1
    rcases List.mem_cons.mp hp with e | hp
    · exact e▸Ne.symm i0.2.1
    rcases List.mem_cons.mp hp with e | hp
    · exact e▸Ne.symm i0.2.2
    · exact hI p (.tail _ hp)
  · rcases List.mem_append.mp hp with hp | hp
    · exact ap p (List.mem_append_left _ (List.mem_filter.mp hp).1)
    · exact n.ap p hp
  · rcases hT with e | ⟨c',oc,fs,t,e,hc,hf,hv⟩
    · exact .inl e
    · refine .inr ⟨c',oc,fs,t,e,?_,hf,hv⟩
      have cI:c'≠I:=fun q=>by
        have:=one_obj N (hs _ (up _ hc)) hIl q
        rw [this,hd] at hf
        cases hf
        simp at hv
      rcases List.mem_append.mp hc with hc | hc
      · exact List.mem_append_left _ (List.mem_filter.mpr ⟨hc,decide_eq_true cI⟩)
      rcases List.mem_cons.mp hc with e | hc
      · exact absurd (congrArg Prod.fst e) cI
      rcases List.mem_cons.mp hc with e | hc
      · cases e;cases hf
      · exact List.mem_append_right _ hc
theorem JJfn.mem {l wl de gl:Addr} {its:List Value} {k0:Nat} {kt:Nat→Tok} {vs:Nat→Value} {rest:Led} {Y:(Str→Option Value)→Prop} (m:Str→Option Value) (nx:Led) (h:JJfn w l its k0 wl de gl kt vs rest Y m nx):(l,listOf (List.toArray its) k0)∈nx:=by
  obtain ⟨_,_,_,_,e,_⟩:=h
  rw [e]
  exact .head _
theorem led_swap {wl de gl:Addr} {kt:Nat→Tok} {vs:Nat→Value} {A B R:Led} {ps:Array Value} {ws:List Value} {k:Nat}:∀ p∈LED w wl de gl kt vs (A++B) ps ws k R,p∈LED w wl de gl kt vs A ps ws k (B++R):=fun p hp=>by
  rcases List.mem_append.mp hp with hp | hp
  · rcases List.mem_append.mp hp with hp | hp
    · exact List.mem_append_left _ hp
    · exact List.mem_append_right _ (.tail _ (.tail _ (.tail _ (List.mem_append_left _ hp))))
  rcases List.mem_cons.mp hp with e | hp
  · exact List.mem_append_right _ (e▸.head _)
  rcases List.mem_cons.mp hp with e | hp
  · exact List.mem_append_right _ (e▸.tail _ (.head _))
  rcases List.mem_cons.mp hp with e | hp
  · exact List.mem_append_right _ (e▸.tail _ (.tail _ (.head _)))
  · exact List.mem_append_right _ (.tail _ (.tail _ (.tail _ (List.mem_append_right _ hp))))
theorem led_front {wl de gl:Addr} {kt:Nat→Tok} {vs:Nat→Value} {A R:Led} {x y:Addr×Obj} {ps:Array Value} {ws:List Value} {k:Nat}:∀ p∈LED w wl de gl kt vs A ps ws k (x::y::R),p∈x::y::LED w wl de gl kt vs A ps ws k R:=fun p hp=>by
  rcases List.mem_append.mp hp with hp | hp
  · exact .tail _ (.tail _ (List.mem_append_left _ hp))
  rcases List.mem_cons.mp hp with e | hp
  · exact .tail _ (.tail _ (List.mem_append_right _ (e▸.head _)))
  rcases List.mem_cons.mp hp with e | hp
  · exact .tail _ (.tail _ (List.mem_append_right _ (e▸.tail _ (.head _))))
  rcases List.mem_cons.mp hp with e | hp
  · exact .tail _ (.tail _ (List.mem_append_right _ (e▸.tail _ (.tail _ (.head _)))))
  rcases List.mem_cons.mp hp with e | hp
  · exact e▸.head _
  rcases List.mem_cons.mp hp with e | hp
  · exact e▸.tail _ (.head _)
  · exact .tail _ (.tail _ (List.mem_append_right _ (.tail _ (.tail _ (.tail _ hp)))))
example:True:=by
  k_with "d7 exec For Name List cons nil" => ((k_here;k_dflt (refine' For_invVF ?F__ ?k1__ ?k2__ ?_;(case F__=>k_asm);(case k1__=>eq_refl);(case k2__=>eq_refl))))
  trivial
section
local macro_rules (kind := PySem.W.tacticK_extra_) | s => mq "d5 cv d7 di dv v m l k t j q h g f e d c p o a" s

section
variable {dp un:Nat} {gd:Option (List Code)} {cs:Scope} {a:Addr} {ccd:Value} {A₀:Around} {h₀:Heap} {L:Addr} {m:Str→Option Value} {news:List (Addr×Obj)} {hpS:Heap} {tkS:Nat} {E:Value→Shared→Prop}
  (B:Below A₀ h₀ [] h₀) (F:Fr h₀ L hpS m) (X:(Mine.hd.heap_1 (World.params w)).In h₀) (N:News h₀ L hpS news) (T:Top p loose mean mg mb h₀)
include B F X N T
theorem lawD6 {ip wl de gl el wd f:Addr} {kt:Nat→Tok} {vs:Nat→Value} {b:Bool} {mn:Int} {t1 t2:Tok} {ps:Array Value} {k:Nat} {ws:List Value} {l:Value} {add rest:Led} {Q:Flow→Shared→Prop} (hr:news = LED w wl de gl kt vs add ps ws k rest) (ap:∀ p∈add++rest,p.1≠936∧p.1≠wl∧p.1≠de) (hT:TabSt (add++rest) ps) (h6:ws.length≤6) (n:Apart3 wl de rest) (hi:(ip,instObj 1355 de)∈rest) (hF:FacIn w rest f l) (y:YD ip el wd f mn t1 t2 b m)
  (hd:dp + 60 < recursionLimit) (hu:un + 700 < cLine) :
  wpAny (model prog w) (ktrTop dp un gd H.dLaw.name H.dLaw.scope L a ccd [] []) (execs ((H.dLaw.body.drop 18).take 1) (envOf H.dLaw.name H.dLaw.scope L a ccd)) (fun f9 s'=>match f9 with | .next=>LM0 w h₀ L GC DC OC wl de gl kt vs rest (YD ip el wd f mn t1 t2 b) s' | f9=>Q f9 s') (fun _ _=>False) ⟨hpS,GC,DC,tkS,OC⟩:=by
  subst hr
  have C1:Callee w p loose mean mg mb 1031 ip wl de gl kt vs (.ref f) b rest noR (fun S=>S = Str.ofString "Calling var(x) on a factor x is defunct."):=cVarF hF
  have C2:Callee w p loose mean mg mb 1038 ip wl de gl kt vs (.ref f) b rest noR (fun S=>S = Str.ofString "Calling var(x) on a factor x is defunct."):=cSdF hF
  k_steps
  constructor
  rename ∀ q∈LED w wl de gl kt vs add ps ws k rest,_=>l9
  rename News _ _ _ _=>N9
  have i1:=l9 (936,tabObj ps) (List.mem_append_right _ (.head _))
  have i2:=l9 (wl,listOf (List.toArray ws) k) (List.mem_append_right _ (.tail _ (.head _)))
  have i3:=l9 (de,evO w kt vs gl wl) (List.mem_append_right _ (.tail _ (.tail _ (.head _))))
  k_dflt (refine fnLoop (its:=[_,_]) (JJfn w _ [_,_] 0 wl de gl kt vs rest (YD ip el wd f mn t1 t2 b)) (by rfl) (by k_asm) N9 ⟨add,ps,ws,k,rfl,ap,hT,h6,y⟩ JJfn.mem ?_ ?_)
  · rename Addr=>l0
    clear y
    rintro v m₁ _ h9 tk9 I oI hv ⟨i9,hd9⟩ ⟨add,ps,ws,k,rfl,ap,hT,h6,y⟩ off F1 N1
    obtain ⟨fn,rfl,C,f1⟩:∃ fn,v = .ref fn∧Callee w p loose mean mg mb fn ip wl de gl kt vs (.ref f) b rest noR (fun S=>S = Str.ofString "Calling var(x) on a factor x is defunct.")∧keepIn (Mine.hd.heap_1 (World.params w)) (.ref fn) = true:=by
      rcases List.mem_cons.mp hv with e | hv
      · exact ⟨_,e,C1,rfl⟩
      · exact ⟨_,List.mem_singleton.mp hv,C2,rfl⟩
    obtain ⟨m9,hm9⟩:∃ m9:Str→Option Value,m9 = fun z=>if z = Str.ofString "fn" then some (.ref fn) else m₁ z:=⟨_,rfl⟩
    have y0:m9 (Str.ofString "fn") = some (.ref fn):=by rw [hm9];rfl
    have yy:YD ip el wd f mn t1 t2 b m9:=by rw [hm9];exact ⟨y.e1,y.e2,y.e3,y.e4,y.e5,y.e6,y.e7⟩
    obtain ⟨y1,y2,y3,y4,y5,y6,y7⟩:=yy
    rw [← hm9] at F1
    clear C1 C2
    have N2:News h₀ L h9 (LED w wl de gl kt vs add ps ws k ((I,oI)::(l0,listOf (List.toArray [.ref 1031,.ref 1038]) 0)::rest)):=fun p hp=>N1 p (led_front p hp)
    have o0:=off (l0,listOf (List.toArray [.ref 1031,.ref 1038]) 0) (.head _)
    have o1:=off (936,tabObj ps) (.tail _ (List.mem_append_right _ (.head _)))
    have o2:=off (wl,listOf (List.toArray ws) k) (.tail _ (List.mem_append_right _ (.tail _ (.head _))))
    have o3:=off (de,evO w kt vs gl wl) (.tail _ (List.mem_append_right _ (.tail _ (.tail _ (.head _)))))
    have n2:Apart3 wl de (add++(I,oI)::(l0,listOf (List.toArray [.ref 1031,.ref 1038]) 0)::rest):=⟨n.n1,n.n2,n.n3,fun p hp=>by
      rcases List.mem_append.mp hp with hp | hp
      · exact ap p (List.mem_append_left _ hp)
      rcases List.mem_cons.mp hp with e | hp
      · exact e▸⟨Ne.symm o1,Ne.symm o2,Ne.symm o3⟩
      rcases List.mem_cons.mp hp with e | hp
      · exact e▸⟨Nat.ne_of_gt i1,Nat.ne_of_gt i2,Nat.ne_of_gt i3⟩
      · exact n.ap p hp⟩
    have sub:∀ p∈rest,p∈add++(I,oI)::(l0,listOf (List.toArray [.ref 1031,.ref 1038]) 0)::rest:=fun p hp=>List.mem_append_right _ (.tail _ (.tail _ hp))
    have hT2:TabSt (add++(I,oI)::(l0,listOf (List.toArray [.ref 1031,.ref 1038]) 0)::rest) ps:=hT.mono fun p hp=>(List.mem_append.mp hp).elim (fun hp=>List.mem_append_left _ hp) (sub p)
    have hi2:=sub _ hi
    have hI:∀ p∈(l0,listOf (List.toArray [.ref 1031,.ref 1038]) 0)::rest,p.1≠I:=List.forall_mem_cons.mpr ⟨o0,fun p hp=>off p (.tail _ (List.mem_append_right _ (.tail _ (.tail _ (.tail _ hp)))))⟩
    clear N1 hT hi off
    k_steps
    have tq:=(by assumption:TabSt (_++(add++_)) _)
    have aq:=(by assumption:∀ p∈_++(add++(I,oI)::_::rest),_)
    rw [← List.append_assoc] at tq
    rw [← List.append_assoc] at aq
    k_dflt (exact endFn (add:=_++add) hd9 (by k_asm) (by k_asm) n hI (by intro p h;exact .tail _ (.tail _ (led_swap p h))) aq tq (by assumption) (by exact ⟨y1,y2,y3,y4,y5,y6,y7⟩))
  · rintro m₁ _ h9 tk9 ⟨add,ps,ws,k,rfl,ap,hT,h6,y⟩ F1 N1
    refine wpAny_execs_nil ?_
    exact ⟨h9,tk9,m₁,add,ps,ws,k,F1,fun p hp=>N1 p (.tail _ hp),ap,hT,h6,y⟩
end
end
theorem readsStr {h:Heap} {ss:List Str} {vs:List Value} (g:All2 StrV vs ss):ReadsAll h vs (ss.map PyData.str) []:=by
  induction g with
  | nil=>exact .nil
  | cons r _ ih=>exact Exists.elim r fun _ e=>e▸.cons (as:=[]) (bs:=[]) (.str _ _) ih
theorem eqvStr:∀ xs:List Str,PyData.eqvAll (xs.map PyData.str) (xs.map PyData.str) = true
  | []=>rfl
  | s::r=>by simp only [List.map_cons,PyData.eqvAll,PyData.eqv,eqvStr r,beq_self_eq_true,Bool.and_self]
theorem depthStr:∀ xs:List Str,PyData.depthAll (xs.map PyData.str)≤1
  | []=>Nat.zero_le _
  | s::r=>by rw [List.map_cons,PyData.depthAll];exact Nat.max_le.mpr ⟨by simp [PyData.depth],depthStr r⟩
theorem shapedStr {xs:List Str} (hc:PyData.canLayAll0 (xs.map PyData.str) = true):PySem.SeqAt.shaped (.list (xs.map PyData.str)) = true:=by
  unfold PySem.SeqAt.shaped
  rw [PyData.canLay0,PyData.depth,hc]
  have:=depthStr xs
  simp only [Bool.true_and]
  exact decide_eq_true (by (first | lia | omega))
theorem Words.strs {its:List Value} {ss:List Str} (h:Words its ss):All2 StrV its ss:=by
  cases h with
  | one=>exact .cons ⟨_,rfl⟩ .nil
  | two=>exact .cons ⟨_,rfl⟩ (.cons ⟨_,rfl⟩ .nil)
theorem Words.can {its:List Value} {ss:List Str} (h:Words its ss):PyData.canLayAll0 (ss.map PyData.str) = true:=by
  cases h<;>kernel_rfl
theorem can_abc {mn:Int} (h0:0≤mn) (h4:mn < 4):PyData.canLayAll0 (([Str.ofString "a", Str.ofString "b", Str.ofString "c"].take mn.toNat).map PyData.str) = true:=by
  have:=in4 h0 h4
  rcases this with rfl | rfl | rfl | rfl<;>kernel_rfl
section
variable {A:Around} {E:Value→Shared→Prop} {hpS:Heap} {tkS:Nat} {g:Heap} {L:Addr} {led:Led} {Q:Value→Shared→Prop}
theorem eqStrs {l l2:Addr} {vs vs2:List Value} {xs:List Str} {k k2:Nat} (N:News g L hpS led) (h1:(l,listOf (List.toArray vs) k)∈led) (h2:(l2,listOf (List.toArray vs2) k2)∈led) (r1:All2 StrV vs xs) (r2:All2 StrV vs2 xs) (hc:PyData.canLayAll0 (xs.map PyData.str) = true) (hu:A.units + 64 < cLine)
    (h:Q (.bool true) ⟨hpS,GC,DC,tkS,OC⟩):wpAny (model prog w) A (compareOp .Eq (.ref l) (.ref l2)) Q E ⟨hpS,GC,DC,tkS,OC⟩:=by
  refine eq_dataH (.list (N _ h1).1 rfl rfl (readsStr r1)) (.list (N _ h2).1 rfl rfl (readsStr r2)) (shapedStr hc) (shapedStr hc) hu ?_
  rw [show PyData.eqv (.list (xs.map PyData.str)) (.list (xs.map PyData.str)) = true from by rw [PyData.eqv];exact eqvStr xs];exact h
end
theorem endL {g h:Heap} {L:Addr} {m:Str→Option Value} {led:Led} {tk:Nat} {ps:Array Value} (F:Fr g L h m) (N:News g L h led) (hm:(936,tabObj ps)∈led):LawEnd g GC DC OC (.ret (.bool true)) ⟨h,GC,DC,tk,OC⟩ :=
  ⟨rfl,h,tk,ps,rfl,F.keep,(N _ hm).1⟩
example:True:=by
  k_with "d8 compareOp Eq ref ref" => ((k_here;k_dflt first | (refine' eqOpt ?n1__ ?n2__ ?n3__ ?n4__ ?n5__ ?n6__ ?_;(case n1__=>k_asm);(case n2__=>k_extra "@MEM");(case n3__=>k_extra "@MEM");(case n4__=>first | with_reducible assumption | assumption);(case n5__=>first | with_reducible assumption | assumption);(case n6__=>ktr_units)) | (refine' eqStrs ?n1__ ?n2__ ?n3__ ?n4__ ?n5__ ?n7__ ?n6__ ?_;(case n1__=>k_asm);(case n2__=>k_extra "@MEM");(case n3__=>k_extra "@MEM");(case n4__=>first | with_reducible assumption | assumption);(case n5__=>first | with_reducible assumption | assumption);(case n7__=>first | with_reducible assumption | assumption);(case n6__=>ktr_units))))
  k_with "d8 last subscriptTail" => ((k_here;k_dflt (refine kda_item (knd:=PySem.strKind _ _) (by k_asm) (by k_mem) (by assumption) (strKind_is _ _ _ _) (by rfl) ?_)))
  k_with "d8 subscriptTail" => ((k_here;(with_reducible refine (?_:wpAny _ _ (subscriptTail _ _ (Value.ref _) (Value.str _ _)) _ _ _));k_dflt (refine kda_item (knd:=PySem.strKind _ _) (by k_asm) (by k_mem) (by assumption) (strKind_is _ _ _ _) (by rfl) ?_)))
  k_with "d8 subscriptTail Name Constant str ref str" => ((k_here;(with_reducible refine (?_:wpAny _ _ (subscriptTail _ _ (Value.ref _) (Value.str _ _)) _ _ _));k_dflt (refine kda_item (knd:=PySem.strKind _ _) (by k_asm) (by k_mem) (by assumption) (strKind_is _ _ _ _) (by rfl) ?_)))
  trivial
section
local macro_rules (kind := PySem.W.tacticK_extra_) | s => mq "d8 d1 di dv v m l k t j q h g f e d c p o a" s

section
variable {dp un:Nat} {gd:Option (List Code)} {cs:Scope} {a:Addr} {ccd:Value} {A₀:Around} {h₀:Heap} {L:Addr} {m:Str→Option Value} {news:List (Addr×Obj)} {hpS:Heap} {tkS:Nat} {E:Value→Shared→Prop}
  (B:Below A₀ h₀ [] h₀) (F:Fr h₀ L hpS m) (X:(Mine.hd.heap_1 (World.params w)).In h₀) (N:News h₀ L hpS news) (T:Top p loose mean mg mb h₀)
include B F X N T
theorem lawE {ip wl de gl el wd f:Addr} {kt:Nat→Tok} {vs:Nat→Value} {b:Bool} {mn:Int} {t1 t2:Tok} {ps:Array Value} {k ke kk:Nat} {ws evs its us:List Value} {xs:List (Option Int)} {ss:List Str} {add rest:Led} (hr:news = LED w wl de gl kt vs add ps ws k rest) (hF:FA w rest f evs its us) (hus:All2 StrV us ([Str.ofString "a", Str.ofString "b", Str.ofString "c"].take mn.toNat)) (he:(el,listOf (List.toArray evs) ke)∈rest) (hE:All2 OptI evs xs) (hwd:(wd,listOf (List.toArray its) kk)∈rest) (hW:Words its ss) (h0:0≤mn) (h4:mn < 4) (y:YD ip el wd f mn t1 t2 b m)
  (hd:dp + 60 < recursionLimit) (hu:un + 700 < cLine) :
  wpAny (model prog w) (ktrTop dp un gd H.dLaw.name H.dLaw.scope L a ccd [] []) (execs (H.dLaw.body.drop 19) (envOf H.dLaw.name H.dLaw.scope L a ccd)) (LawEnd h₀ GC DC OC) (fun _ _=>False) ⟨hpS,GC,DC,tkS,OC⟩:=by
  subst hr
  dsimp only [LED] at N
  obtain ⟨y1,y2,y3,y4,y5,y6,y7⟩:=y
  have hws:=hW.strs
  have hcw:=hW.can
  have hcu:=can_abc h0 h4
  obtain ⟨fd,fl,ad,lv,lvd,lvl,cv,cvd,cvl,ao,t1,t2,t3,t4,t5,tk,c1,c2,c3,c4,c5,ck,d1,d2,d3,d4,d5,dk,c,k1,k2,q1,q2,q3,q4,q5,q6,q7,q8,q9,q10,q11,q12⟩:=hF
  unfold facD at q5
  refine let_top F ?_
  clear F
  intro mL eL AL QL EL F9
  k_steps
  k_dflt (exact endL (by k_asm) (by k_asm) (by k_mem))
end
end
section
variable {dp un:Nat} {gd:Option (List Code)} {a:Addr} {ccd:Value} {A₀:Around} {h₀:Heap} {L:Addr}
  (B:Below A₀ h₀ [] h₀) (X:(Mine.hd.heap_1 (World.params w)).In h₀) (T:Top p loose mean mg mb h₀) (hd:dp + 60 < recursionLimit) (hu:un + 700 < cLine)
noncomputable abbrev LawFrom (w:World) (dp un:Nat) (gd:Option (List Code)) (a:Addr) (ccd:Value) (h₀:Heap) (L:Addr) (G:Array GenState) (D:Drawn) (O:OsState) (k:Nat) (s:Shared):Prop :=
  wpAny (model prog w) (ktrTop dp un gd H.dLaw.name H.dLaw.scope L a ccd [] []) (execs (H.dLaw.body.drop k) (envOf H.dLaw.name H.dLaw.scope L a ccd)) (LawEnd h₀ GC DC OC) (fun _ _=>False) s
theorem from_split {k n:Nat} {P:Shared→Prop} {s:Shared} (h:wpAny (model prog w) (ktrTop dp un gd H.dLaw.name H.dLaw.scope L a ccd [] []) (execs ((H.dLaw.body.drop k).take n) (envOf H.dLaw.name H.dLaw.scope L a ccd)) (fun f s'=>match f with | .next=>P s' | f=>LawEnd h₀ GC DC OC f s') (fun _ _=>False) s) (r:∀ s',P s'→LawFrom w dp un gd a ccd h₀ L GC DC OC (k + n) s'):LawFrom w dp un gd a ccd h₀ L GC DC OC k s:=by
  unfold LawFrom
  rw [← List.take_append_drop n (H.dLaw.body.drop k),List.drop_drop]
  exact execs_split P h r
structure FacOk (w:World) (R:Led) (f el wd ip de:Addr) (evs its us:List Value) (xs:List (Option Int)) (ss:List Str) (mn:Int):Prop where
  hF:FA w R f evs its us
  hus:All2 StrV us ([Str.ofString "a", Str.ofString "b", Str.ofString "c"].take mn.toNat)
  he:∃ ke,(el,listOf (List.toArray evs) ke)∈R
  hE:All2 OptI evs xs
  hwd:∃ kk,(wd,listOf (List.toArray its) kk)∈R
  hW:Words its ss
  m0:0≤mn
  m4:mn < 4
  hip:(ip,instObj 1355 de)∈R
variable {ip wl de gl el wd f:Addr} {kt:Nat→Tok} {vs:Nat→Value} {b:Bool} {mn:Int} {t1 t2:Tok} {R:Led} {evs its us:List Value} {xs:List (Option Int)} {ss:List Str}
include B X T hd hu
theorem from19 (K:FacOk w R f el wd ip de evs its us xs ss mn) {s:Shared} (q:LM0 w h₀ L GC DC OC wl de gl kt vs R (YD ip el wd f mn t1 t2 b) s):LawFrom w dp un gd a ccd h₀ L GC DC OC 19 s:=by
  cases q with
  | mk h tk m add ps ws k F N ap hT h6 y =>
    obtain ⟨_,he⟩:=K.he
    obtain ⟨_,hwd⟩:=K.hwd
    exact lawE (hpS:=h) (tkS:=tk) B F X N T rfl K.hF K.hus he K.hE hwd K.hW K.m0 K.m4 y hd hu
theorem from18 (n:Apart3 wl de R) (K:FacOk w R f el wd ip de evs its us xs ss mn) {s:Shared} (q:LM0 w h₀ L GC DC OC wl de gl kt vs R (YD ip el wd f mn t1 t2 b) s):LawFrom w dp un gd a ccd h₀ L GC DC OC 18 s:=by
  cases q with
  | mk h tk m add ps ws k F N ap hT h6 y =>
    obtain ⟨l,hFI⟩:=K.hF.fac K.hW
    exact from_split (lawD6 (hpS:=h) (tkS:=tk) B F X N T rfl ap hT h6 n K.hip hFI y hd hu) fun s' q=>from19 B X T hd hu K q
theorem from17 (n:Apart3 wl de R) (K:FacOk w R f el wd ip de evs its us xs ss mn) {s:Shared} (q:LM0 w h₀ L GC DC OC wl de gl kt vs R (YD ip el wd f mn t1 t2 b) s):LawFrom w dp un gd a ccd h₀ L GC DC OC 17 s:=by
  cases q with
  | mk h tk m add ps ws k F N ap hT h6 y =>
    obtain ⟨l,hFI⟩:=K.hF.fac K.hW
    exact from_split (lawD5 (hpS:=h) (tkS:=tk) B F X N T rfl ap hT h6 n K.hip hFI y hd hu) fun s' q=>from18 B X T hd hu n K q
theorem from16 (n:Apart3 wl de R) (K:FacOk w R f el wd ip de evs its us xs ss mn) {s:Shared} (q:LM0 w h₀ L GC DC OC wl de gl kt vs R (YD ip el wd f mn t1 t2 b) s):LawFrom w dp un gd a ccd h₀ L GC DC OC 16 s:=by
  cases q with
  | mk h tk m add ps ws k F N ap hT h6 y =>
    obtain ⟨l,hFI⟩:=K.hF.fac K.hW
    exact from_split (lawD4 (hpS:=h) (tkS:=tk) B F X N T rfl ap hT h6 n K.hip hFI y hd hu) fun s' q=>from17 B X T hd hu n K q
theorem from15 (n:Apart3 wl de R) (K:FacOk w R f el wd ip de evs its us xs ss mn) {s:Shared} (q:LM0 w h₀ L GC DC OC wl de gl kt vs R (YD ip el wd f mn t1 t2 b) s):LawFrom w dp un gd a ccd h₀ L GC DC OC 15 s:=by
  cases q with
  | mk h tk m add ps ws k F N ap hT h6 y =>
    exact from_split (lawD3 (hpS:=h) (tkS:=tk) B F X N T rfl ap hT h6 n K.hip y hd hu) fun s' q=>from16 B X T hd hu n K q
theorem from14 (n:Apart3 wl de R) (K:FacOk w R f el wd ip de evs its us xs ss mn) {s:Shared} (q:LM0 w h₀ L GC DC OC wl de gl kt vs R (YD ip el wd f mn t1 t2 b) s):LawFrom w dp un gd a ccd h₀ L GC DC OC 14 s:=by
  cases q with
  | mk h tk m add ps ws k F N ap hT h6 y =>
    exact from_split (lawD2 (hpS:=h) (tkS:=tk) B F X N T rfl ap hT h6 n K.hip y hd hu) fun s' q=>from15 B X T hd hu n K q
theorem from13 (n:Apart3 wl de R) (K:FacOk w R f el wd ip de evs its us xs ss mn) {s:Shared} (q:LM0 w h₀ L GC DC OC wl de gl kt vs R (YD ip el wd f mn t1 t2 b) s):LawFrom w dp un gd a ccd h₀ L GC DC OC 13 s:=by
  cases q with
  | mk h tk m add ps ws k F N ap hT h6 y =>
    obtain ⟨l,hFI⟩:=K.hF.fac K.hW
    exact from_split (lawD1 (hpS:=h) (tkS:=tk) B F X N T rfl ap hT h6 n K.hip hFI y hd hu) fun s' q=>from14 B X T hd hu n K q
theorem from10 {rest:Led} {ke kk:Nat} (n:Apart3 wl de ((wd,listOf (List.toArray its) kk)::rest)) (hip:(ip,instObj 1355 de)∈rest) (he:(el,listOf (List.toArray evs) ke)∈rest) (hE:All2 OptI evs xs) (h5:xs.length≤6) (hW:Words its ss) (m0:0≤mn) (m4:mn < 4) {s:Shared} (q:LM w h₀ h₀ L GC DC OC wl de gl kt vs ((wd,listOf (List.toArray its) kk)::rest) (YC ip el wd mn t1 b) s) (a0:h₀.objs.size≤L):LawFrom w dp un gd a ccd h₀ L GC DC OC 10 s:=by
  cases q.to0 a0 with
  | mk h tk m add ps ws k F N ap hT h6 y =>
    refine from_split (lawC2 (hpS:=h) (tkS:=tk) (cs:=H.dLaw.scope) (outer:=[]) B F X N T rfl (Reb.refl (below_caller h₀)) rfl ap hT h6 n (.tail _ he) (hE.length▸h5) (.head _) (by cases hW<;>exact Nat.le_of_ble_eq_true rfl) m0 m4 y hd hu) fun s' q=>?_
    cases q with
    | mk R f us t2 sub n hF hus q=>exact from13 B X T hd hu n ⟨hF,hus,⟨_,sub _ (.tail _ he)⟩,hE,⟨_,sub _ (.head _)⟩,hW,m0,m4,sub _ (.tail _ hip)⟩ (q.to0 a0)
theorem from7 {h:Heap} {tk:Nat} {m:Str→Option Value} {rest:Led} {ps:Array Value} {k ke:Nat} {ob:Bool} (F:Fr h₀ L h m) (N:News h₀ L h ((936,tabObj ps)::(wl,listOf #[] k)::(de,evO w kt vs gl wl)::rest)) (hT:TabSt rest ps) (n:Apart3 wl de rest) (hip:(ip,instObj 1355 de)∈rest) (he:(el,listOf (List.toArray evs) ke)∈rest) (hE:All2 OptI evs xs) (h5:xs.length≤6) (h3:∀ z,some z∈xs→1≤z∧z≤3) (m0:0≤mn) (m4:mn < 4) (y:YB ip el mn t1 ob b m):LawFrom w dp un gd a ccd h₀ L GC DC OC 7 ⟨h,GC,DC,tk,OC⟩:=by
  refine from_split (lawB (hpS:=h) (tkS:=tk) (cs:=H.dLaw.scope) (outer:=[]) B F X N T rfl rfl hT n hip he hE h5 h3 y X T hd hu) fun s' q=>?_
  cases q.to0 F.above with
  | mk h tk m add ps ws k F N ap hT h6 y =>
    refine from_split (lawC1 (hpS:=h) (tkS:=tk) (cs:=H.dLaw.scope) (outer:=[]) B F X N T rfl (Reb.refl (below_caller h₀)) rfl ap hT h6 n y hd hu) fun s' q=>?_
    cases q with
    | mk wd its ss kk hW n q=>exact from10 B X T hd hu n hip he hE h5 hW m0 m4 q F.above
theorem law_body {m:Str→Option Value} {sl:Addr} {us:List Value} {l:List Int} {h:Heap} {tk:Nat} (F:Fr h₀ L h m) (N:News h₀ L h [(936,tabObj #[])]) (em:m = fun y=>List.lookup y [(Str.ofString "script", Value.ref sl)]) (h1:h₀.IsList sl us.toArray) (hi:IntsAre us l) (h2:l.length≤63):LawFrom w dp un gd a ccd h₀ L GC DC OC 0 ⟨h,GC,DC,tk,OC⟩:=by
  refine from_split (n:=7) (lawA (hpS:=h) (tkS:=tk) (cs:=H.dLaw.scope) (outer:=[]) B F X N T rfl em rfl (.inl rfl) (fun _ h=>nomatch h) h1 hi h2 hd hu) fun s' q=>?_
  cases q with
  | mk h tk m rest ps k ip wl de gl kt vs el ke evs xs mn b ob t1 F N hT n hip he hE h5 h3 m0 m4 e1 e2 e3 e4 e5=>exact from7 B X T hd hu F N hT n hip he hE h5 h3 m0 m4 ⟨e1,e2,e3,e4,e5⟩
end
end Mine
namespace Mine
open H
theorem law_all:∀ c,Claim c:=cfg_all (claim_cfg (fun {dp un gd a ccd A₀ h₀ L} B X T hd hu {m sl us l h tk} F N em h1 hi h2=>law_body B X T hd hu F N em h1 hi h2))
theorem call0:WalkO q H.loose (XL q []) hook.says row dLaw [] fun f vs=>PySem.call f vs:=by
  intro w s₀ s₁ mg mb G Y fa o pm cd doc dV kV ho hd hcd hD hmg hg args vals as hpre hlay hrd hwl hlo
  have KX:=km_in_of Y
  have hT8:=km_tabs_of Y
  have X:=(Ground.X G).1
  have V:=(Ground.X G).2
  refine Ground.open G ?_
  intro T B D TE TW
  try (refine guard_noD D (by decide +kernel) ?_;clear D)
  have hT9:TabsAt [(940,936)] _:=List.forall_mem_cons.mpr ⟨⟨codeHd_of_K (c:=940) (P:=936) KX (by kernel_rfl),hT8 936 (.head _)⟩,fun _ h=>nomatch h⟩
  clear hmg
  wrow_args hpre hlay hrd hwl hlo
  all_goals (
    first | refine callC_kw (enter_call ?_) | refine enter_call ?_)
  w_top on
  kn_posts
  w_call any ho hd hcd hD T F
  clear hd
  kn_ghosts F T
  k_drop
  rename Heap=>h1
  rename Fr _ _ h1 _=>F'
  rename News _ _ h1 _=>N'
  rename Frag.In _ _=>X'
  rename Top topProg _ _ _ _ _=>T'
  rename IntsAre _ _=>hI
  rename ¬ (_:Int) < _=>h63
  refine wpAny_mono (law_all ⟨w,ExcName.means s₀.heap,mg,mb,s₁.gens,s₁.drawn,s₁.os⟩ (A₀:=callerA) (dp:=callerA.depth + 1) (below_caller _) X' T' ?_ ?_ F' N' rfl lifted hI ?_) (fun fl s' q=>?_) fun _ _ x=>x.elim
  · decide
  · first | (rw [cLine_eq];decide) | decide +kernel
  · omega
  · obtain ⟨rfl,h,tk,ps,rfl,hk,hp⟩:=q
    have hpost:∀ l:List Int,row.claim.post [ofPy (PyData.list (List.map PyData.int l))] (WData.bool true) [ofPy (PyData.list (List.map PyData.int l))] = true:=by
      intro l
      kernel_rfl
    exact ⟨⟨.inl ⟨.bool true,_,[],rfl,fun _=>rfl,.bool _,hpost _,fun _=>⟨.nil,fun _ h=>nomatch h⟩⟩,hk,rfl,hg⟩,⟨ps,hp⟩,trivial⟩
end Mine
theorem PySem.Challenge.cw_pq1429_01_holds : PySem.Challenge.rw_pq1429_01.Holds :=
  Mine.H.top Mine.call0
