import PyProof.Rows.All
import Wide.All
import OpenK.AllK
import Wide.FinOn
import KE.KLam
import PyProof.WalksMore
import KE.KNest
import KE.KNestM
import Lean
import PySem.Challenge.RW_nz0542_01
open PySem PySem.W PyProof.Rows
set_option Elab.async false
set_option maxRecDepth 100000
set_option linter.unusedVariables false
set_option linter.unusedSimpArgs false
set_option tactic.hygienic false
set_option bootstrap.genMatcherCode false
set_option genSizeOf false
set_option genInjectivity false
namespace Mine.Internal
abbrev PX:=PySem.Expr
abbrev VS:=Value->Shared->Prop
section
set_option backward.match.sparseCases false
noncomputable abbrev qSegRunT:=@PySem.W.Fast.tw10110043849684766642
noncomputable abbrev qTable:=@PySem.W.Fast.tw14364793385576792824
noncomputable abbrev qExecs:=@PySem.W.Fast.tw12563942051412417395
noncomputable abbrev qTopGo:=@PySem.W.Fast.tw15667345088766844465
abbrev P0:Program:=PySem.Challenge.pw_nz0542_01
abbrev L0:OpenLaw:=PySem.Challenge.rw_nz0542_01
noncomputable def nost:Stmt:=.Pass ⟨0,0,0,0⟩
noncomputable def Qe (i:Nat):Stmt:=(P0.main.body[i]?).getD nost
noncomputable def methAt (i j:Nat):Stmt:=match Qe i with
 | .ClassDef _ _ _ b _ _ _ _ _ _ _=>(b[j]?).getD nost
 | _=>nost
noncomputable def sName:Stmt->Str
 | .FunctionDef n _ _ _ _ _ _ _ _ _=>n
 | _=>Str.ofString ""
noncomputable def sArgs:Stmt->Arguments
 | .FunctionDef _ a _ _ _ _ _ _ _ _=>a
 | _=>⟨[],[],none,[],[],none,[]⟩
noncomputable def sBody:Stmt->List Stmt
 | .FunctionDef _ _ b _ _ _ _ _ _ _=>b
 | _=>[]
noncomputable def sScope:Stmt->Scope
 | .FunctionDef _ _ _ _ _ _ sc _ _ _=>sc
 | _=>{kind:=.function,names:=[],isGenerator:=false,isCoroutine:=false,more:=[]}
noncomputable def sPos:Stmt->Pos
 | .FunctionDef _ _ _ _ _ _ _ _ _ p=>p
 | _=>⟨0,0,0,0⟩
noncomputable def Qd (st:Stmt)(qual:Str)(dV pm:Value)(c:Addr):Obj :=
 {cls:=.type "function",data:=.func {name:=sName st,qualname:=qual,params:=sArgs st,body:=.stmts (sBody st),scope:=sScope st,globals:=mainGlobals,closure:=[],defaults:=dV,kwdefaults:=.none,pyModule:=pm,code:=.ref c,builtins:=builtinsNs}}
noncomputable abbrev kv0:Value:=.str "vectorcove.matcalls" 1411
noncomputable abbrev kv1:Value:=.str "vectorcove.linear" 632
noncomputable abbrev kv2:Value:=.str "law_nz0542_01" 1604
noncomputable abbrev kv3:Value:=.str "vectorcove.matrix" 1129
noncomputable abbrev kv4:Value:=.str "vectorcove.rational" 370
noncomputable abbrev kv5:Value:=.str "vectorcove.callargs" 241
noncomputable abbrev kv6:Value:=.str "vectorcove.values" 494
noncomputable abbrev kv7:Value:=.str "vectorcove.coerce" 1002
noncomputable abbrev kv8:Value:=.str "vectorcove.matparts" 1343
noncomputable abbrev kv9:Value:=.str "vectorcove.lincalls" 1298
noncomputable abbrev kv10:Value:=.str "vectorcove.attrs" 778
noncomputable abbrev kv11:Value:=.str "vectorcove.matargs" 1267
noncomputable abbrev SP:=Str.ofString
noncomputable def co (n q:String)(i L k c r:Nat)(x y z:Value)(m:Nat):Obj:={cls:=Value.type "code",data:=Data.fields #[Value.str (Str.ofString n) i,Value.str (Str.ofString q) (i+1),Value.str (Str.ofString "/claim/cut.py") (i+2),Value.int L 0,Value.int k 0,Value.int 0 0,Value.int 0 0,Value.int c 0,Value.ref r,Value.bool true,Value.int 181 0,Value.ref (r+1),Value.none,x,y,z,Value.int m 0,Value.int L 0,Value.str (Str.ofString "/claim/cut.py") (m+1)]}
noncomputable def de (P:Params)(s:String)(n:Nat)(v:Value):DictEntry:={hash:=PyData.keyHash P (Str.ofString s),key:=Value.str (Str.ofString s) n,val:=v}
noncomputable def KX (P:Params):Frag:=[
 (3,{cls:=Value.type "dict",data:=Data.dict #[de P "__name__" 165 (.str (SP "law_nz0542_01") 1604),de P "__doc__" 166 .none,de P "__package__" 167 .none,de P "__loader__" 168 (.builtin "__main__.__loader__#opaque"),de P "__spec__" 169 .none,de P "__annotations__" 170 (.ref 6),de P "__builtins__" 171 (.ref 4),de P "__file__" 173 (.str (SP "/claim/cut.py") 172),de P "__cached__" 174 .none,de P "_wall" 193 (.ref 21),de P "CoveError" 215 (.ref 31),de P "Refusal" 240 (.ref 51),de P "Matching" 325 (.ref 110),de P "doubled_text" 332 (.ref 121),de P "argument_text" 343 (.ref 128),de P "unused_text" 349 (.ref 133),de P "match_names" 355 (.ref 139),de P "needed" 363 (.ref 146),de P "take" 369 (.ref 152),de P "NAN" 374 (.ref 153),de P "INF" 377 (.ref 154),de P "ZERO_rational" 380 (.ref 155),de P "gcd" 388 (.ref 162),de P "make" 397 (.ref 169),de P "from_int" 404 (.ref 176),de P "is_na" 411 (.ref 183),de P "is_finite" 418 (.ref 190),de P "marked" 426 (.ref 197),de P "neg" 433 (.ref 204),de P "add" 441 (.ref 211),de P "sub" 449 (.ref 218),de P "mul" 457 (.ref 225),de P "div" 465 (.ref 232),de P "to_whole" 473 (.ref 239),de P "nearest_whole" 483 (.ref 246),de P "exponent" 493 (.ref 253),de P "MOST_LENGTH" 497 (.int 1000000 496),de P "Null" 526 (.ref 270),de P "Vector" 568 (.ref 299),de P "room" 575 (.ref 310),de P "null" 581 (.ref 317),de P "integer" 588 (.ref 324),de P "character" 595 (.ref 331),de P "whole" 602 (.ref 338),de P "length" 610 (.ref 345),de P "is_vector" 617 (.ref 352),de P "is_atomic" 624 (.ref 359),de P "share" 631 (.ref 366),de P "ZERO_linear" 636 (.ref 367),de P "ONE" 639 (.ref 368),de P "identity_rows" 649 (.ref 375),de P "copied" 655 (.ref 380),de P "scaled" 661 (.ref 510),de P "scaled_linear" 662 (.ref 385),de P "less_multiple" 673 (.ref 392),de P "first_filled" 683 (.ref 399),de P "clear_column" 693 (.ref 406),de P "row_echelon" 706 (.ref 413),de P "check_square" 714 (.ref 420),de P "first_dependent" 723 (.ref 427),de P "solve_rows" 729 (.ref 432),de P "inverse" 736 (.ref 439),de P "greatest_divisor" 744 (.ref 446),de P "whole_row" 750 (.ref 451),de P "whole_determinant" 765 (.ref 458),de P "determinant" 777 (.ref 465),de P "get_attr" 787 (.ref 472),de P "names_of" 793 (.ref 477),de P "dim_of" 801 (.ref 484),de P "dimnames_of" 807 (.ref 489),de P "MOST_EXPONENT" 811 (.int 4096 810),de P "whole_text" 821 (.ref 496),de P "special_text" 828 (.ref 503),de P "scaled_numtext" 839 (.ref 510),de P "significant" 849 (.ref 517),de P "without_tail" 857 (.ref 524),de P "scientific_text" 869 (.ref 531),de P "fixed_text" 879 (.ref 538),de P "measures" 892 (.ref 545),de P "chosen_form" 909 (.ref 552),de P "formed" 918 (.ref 559),de P "common_texts" 924 (.ref 564),de P "number_text" 933 (.ref 572),de P "digits_value" 943 (.ref 579),de P "digit_run" 952 (.ref 586),de P "exponent_value" 961 (.ref 593),de P "powered" 970 (.ref 600),de P "unsigned_number" 989 (.ref 607),de P "parse_number" 1001 (.ref 614),de P "MOST_INTEGER" 1005 (.int 2147483647 1004),de P "note" 1013 (.ref 621),de P "as_logical_text" 1020 (.ref 628),de P "double_to_integer" 1029 (.ref 635),de P "text_to_double" 1039 (.ref 642),de P "to_logical" 1047 (.ref 649),de P "to_integer" 1056 (.ref 656),de P "to_double" 1065 (.ref 663),de P "to_text" 1073 (.ref 670),de P "item_as" 1083 (.ref 677),de P "is_atomic_kind" 1090 (.ref 684),de P "list_item_as" 1100 (.ref 691),de P "refuse_type" 1108 (.ref 698),de P "as_vector_kind" 1114 (.ref 703),de P "with_names" 1122 (.ref 710),de P "as_kind" 1128 (.ref 715),de P "ZERO_matrix" 1133 (.ref 716),de P "dims" 1140 (.ref 723),de P "is_matrix" 1148 (.ref 730),de P "shape_of" 1155 (.ref 737),de P "axis_names" 1164 (.ref 744),de P "plain_names" 1171 (.ref 751),de P "dimnames_list" 1177 (.ref 756),de P "new_array" 1189 (.ref 763),de P "new_matrix" 1200 (.ref 770),de P "transpose" 1213 (.ref 777),de P "numbers_of" 1220 (.ref 784),de P "product_shapes" 1232 (.ref 791),de P "mat_mul" 1251 (.ref 798),de P "as_column" 1258 (.ref 805),de P "cross" 1266 (.ref 812),de P "is_true" 1277 (.ref 819),de P "extent_of" 1287 (.ref 826),de P "matrix_argument" 1297 (.ref 833),de P "fraction_rows" 1305 (.ref 838),de P "rows_matrix" 1318 (.ref 845),de P "matrix_names" 1326 (.ref 852),de P "b_solve" 1332 (.ref 857),de P "b_det" 1342 (.ref 864),de P "ZERO_matparts" 1347 (.ref 865),de P "diag_of" 1353 (.ref 870),de P "diag_matrix" 1366 (.ref 877),de P "upper_tri" 1374 (.ref 884),de P "lower_tri" 1382 (.ref 891),de P "triangle" 1397 (.ref 898),de P "place_matrix" 1410 (.ref 905),de P "both_extents" 1421 (.ref 912),de P "one_extent" 1431 (.ref 919),de P "b_nrow" 1440 (.ref 926),de P "b_ncol" 1449 (.ref 933),de P "b_all_rows" 1458 (.ref 940),de P "b_all_columns" 1467 (.ref 947),de P "two_vectors" 1477 (.ref 954),de P "b_crossprod" 1488 (.ref 961),de P "b_tcrossprod" 1499 (.ref 968),de P "b_kronecker" 1520 (.ref 975),de P "diagonal_size" 1528 (.ref 982),de P "b_diag" 1546 (.ref 989),de P "triangle_arguments" 1555 (.ref 996),de P "b_upper" 1566 (.ref 1003),de P "b_lower" 1577 (.ref 1010),de P "place_argument" 1585 (.ref 1017),de P "b_row" 1594 (.ref 1024),de P "b_col" 1603 (.ref 1031),de P "_law_draw" 1614 (.ref 1038),de P "_law_rows" 1628 (.ref 1045),de P "_law_matrix" 1634 (.ref 1050),de P "_law_shown" 1640 (.ref 1055),de P "_law_ratio" 1650 (.ref 1062),de P "_law_sum" 1660 (.ref 1069),de P "_law_turned" 1666 (.ref 1074),de P "_law_product" 1672 (.ref 1079),de P "_law_signed" 1678 (.ref 1084),de P "_law_many" 1684 (.ref 1089),de P "_law_solves" 1700 (.ref 1096),de P "_law_products_hold" 1706 (.ref 1101),de P "_law_places_hold" 1712 (.ref 1106),de P "_law_equations_hold" 1718 (.ref 1111),de P "law" 1724 (.ref 1116)] 168}),
 (20,co "_wall" "_wall" 187 1 1 3 15 (.ref 17) (.ref 18) (.ref 19) 191),
 (21,Qd (Qe 0) "_wall" .none (.str "__main__" 164) 20),
 (30,{cls:=Value.type "dict",data:=Data.dict #[de P "__module__" 203 (.str (SP "vectorcove.errors") 194),de P "__firstlineno__" 207 (.int 5 206),de P "__static_attributes__" 208 (.ref 29),de P "__weakref__" 210 (.ref 32),de P "__doc__" 211 .none] 3}),
 (31,{cls:=Value.type "type",data:=Data.cls {name:=SP "CoveError",bases:=[.type "Exception"],mro:=[.ref 31,.type "Exception",.type "BaseException",.type "object"],ns:=30,qualname:=SP "CoveError",subclasses:=[.ref 51]},slots:=#[some (.ref 22),none,some (.str (SP "CoveError") 196),some (.str (SP "CoveError") 204),some (.builtin "Exception.__new__"),some (.bool true)]}),
 (32,{cls:=Value.type "getset_descriptor",data:=Data.fields #[.str (SP "__weakref__") 209,.ref 31,.builtin "ExceptionGroup.__weakref__",.none]}),
 (47,co "__init__" "Refusal.__init__" 228 9 2 3 42 (.ref 44) (.ref 45) (.ref 46) 233),
 (48,Qd (methAt 3 0) "Refusal.__init__" .none (.str "vectorcove.errors" 194) 47),
 (50,{cls:=Value.type "dict",data:=Data.dict #[de P "__module__" 223 (.str (SP "vectorcove.errors") 194),de P "__firstlineno__" 227 (.int 7 226),de P "__init__" 235 (.ref 48),de P "__static_attributes__" 237 (.ref 49),de P "__doc__" 238 .none] 2}),
 (51,{cls:=Value.type "type",data:=Data.cls {name:=SP "Refusal",bases:=[.ref 31],mro:=[.ref 51,.ref 31,.type "Exception",.type "BaseException",.type "object"],ns:=50,qualname:=SP "Refusal"},slots:=#[some (.ref 35),none,some (.str (SP "Refusal") 216),some (.str (SP "Refusal") 224),some (.builtin "Exception.__new__"),some (.bool true)]}),
 (66,co "__init__" "Matching.__init__" 255 14 3 3 61 (.ref 63) (.ref 64) (.ref 65) 261),
 (67,Qd (methAt 5 0) "Matching.__init__" .none kv5 66),
 (73,co "exact" "Matching.exact" 264 20 1 3 68 (.ref 70) (.ref 71) (.ref 72) 270),
 (74,Qd (methAt 5 1) "Matching.exact" .none kv5 73),
 (80,co "partial" "Matching.partial" 273 30 1 3 75 (.ref 77) (.ref 78) (.ref 79) 278),
 (81,Qd (methAt 5 2) "Matching.partial" .none kv5 80),
 (87,co "partial_of" "Matching.partial_of" 281 37 2 3 82 (.ref 84) (.ref 85) (.ref 86) 288),
 (88,Qd (methAt 5 3) "Matching.partial_of" .none kv5 87),
 (94,co "positional" "Matching.positional" 291 48 1 3 89 (.ref 91) (.ref 92) (.ref 93) 297),
 (95,Qd (methAt 5 4) "Matching.positional" .none kv5 94),
 (101,co "is_free" "Matching.is_free" 300 60 2 3 96 (.ref 98) (.ref 99) (.ref 100) 305),
 (102,Qd (methAt 5 5) "Matching.is_free" .none kv5 101),
 (106,co "rest" "Matching.rest" 308 63 1 3 103 .none .none (.ref 105) 311),
 (107,Qd (methAt 5 6) "Matching.rest" .none kv5 106),
 (109,{cls:=Value.type "dict",data:=Data.dict #[de P "__module__" 250 (.str (SP "vectorcove.callargs") 241),de P "__firstlineno__" 254 (.int 12 253),de P "__init__" 263 (.ref 67),de P "exact" 272 (.ref 74),de P "partial" 280 (.ref 81),de P "partial_of" 290 (.ref 88),de P "positional" 299 (.ref 95),de P "is_free" 307 (.ref 102),de P "rest" 313 (.ref 107),de P "__static_attributes__" 318 (.ref 108),de P "__dict__" 320 (.ref 111),de P "__weakref__" 322 (.ref 112),de P "__doc__" 323 .none] 4}),
 (110,{cls:=Value.type "type",data:=Data.cls {name:=SP "Matching",bases:=[.type "object"],mro:=[.ref 110,.type "object"],ns:=109,qualname:=SP "Matching"},slots:=#[none,none,some (.str (SP "Matching") 243),some (.str (SP "Matching") 251),some (.builtin "object.__new__"),some (.bool true)]}),
 (111,{cls:=Value.type "getset_descriptor",data:=Data.fields #[.str (SP "__dict__") 319,.ref 110,.builtin "function.__dict__",.builtin "function.__dict__#set"]}),
 (112,{cls:=Value.type "getset_descriptor",data:=Data.fields #[.str (SP "__weakref__") 321,.ref 110,.builtin "ExceptionGroup.__weakref__",.none]}),
 (134,{cls:=Value.type "tuple",data:=Data.seq #[.none]}),
 (138,co "match_names" "match_names" 350 82 3 3 135 .none .none (.ref 137) 353),
 (139,Qd (Qe 9) "match_names" (.ref 134) kv5 138),
 (145,co "needed" "needed" 356 91 2 3 140 (.ref 142) (.ref 143) (.ref 144) 361),
 (146,Qd (Qe 10) "needed" .none kv5 145),
 (147,{cls:=Value.type "tuple",data:=Data.seq #[.none]}),
 (151,co "take" "take" 364 95 3 3 148 .none .none (.ref 150) 367),
 (152,Qd (Qe 11) "take" (.ref 147) kv5 151),
 (153,{cls:=Value.type "tuple",data:=Data.seq #[.int 0 372,.int 0 373]}),
 (161,co "gcd" "gcd" 381 110 2 3 156 (.ref 158) (.ref 159) (.ref 160) 386),
 (162,Qd (Qe 16) "gcd" .none kv4 161),
 (168,co "make" "make" 389 114 2 3 163 (.ref 165) (.ref 166) (.ref 167) 395),
 (169,Qd (Qe 17) "make" .none kv4 168),
 (175,co "from_int" "from_int" 398 124 1 3 170 (.ref 172) (.ref 173) (.ref 174) 402),
 (176,Qd (Qe 18) "from_int" .none kv4 175),
 (182,co "is_na" "is_na" 405 128 1 3 177 (.ref 179) (.ref 180) (.ref 181) 409),
 (183,Qd (Qe 19) "is_na" .none kv4 182),
 (189,co "is_finite" "is_finite" 412 130 1 3 184 (.ref 186) (.ref 187) (.ref 188) 416),
 (190,Qd (Qe 20) "is_finite" .none kv4 189),
 (196,co "marked" "marked" 419 132 2 3 191 (.ref 193) (.ref 194) (.ref 195) 424),
 (197,Qd (Qe 21) "marked" .none kv4 196),
 (203,co "neg" "neg" 427 136 1 3 198 (.ref 200) (.ref 201) (.ref 202) 431),
 (204,Qd (Qe 22) "neg" .none kv4 203),
 (210,co "add" "add" 434 140 2 3 205 (.ref 207) (.ref 208) (.ref 209) 439),
 (211,Qd (Qe 23) "add" .none kv4 210),
 (217,co "sub" "sub" 442 150 2 3 212 (.ref 214) (.ref 215) (.ref 216) 447),
 (218,Qd (Qe 24) "sub" .none kv4 217),
 (224,co "mul" "mul" 450 152 2 3 219 (.ref 221) (.ref 222) (.ref 223) 455),
 (225,Qd (Qe 25) "mul" .none kv4 224),
 (231,co "div" "div" 458 156 2 3 226 (.ref 228) (.ref 229) (.ref 230) 463),
 (232,Qd (Qe 26) "div" .none kv4 231),
 (238,co "to_whole" "to_whole" 466 164 1 3 233 (.ref 235) (.ref 236) (.ref 237) 471),
 (239,Qd (Qe 27) "to_whole" .none kv4 238),
 (266,co "__init__" "Null.__init__" 510 190 1 3 261 (.ref 263) (.ref 264) (.ref 265) 514),
 (267,Qd (methAt 32 0) "Null.__init__" .none kv6 266),
 (269,{cls:=Value.type "dict",data:=Data.dict #[de P "__module__" 505 (.str (SP "vectorcove.values") 494),de P "__firstlineno__" 509 (.int 188 508),de P "__init__" 516 (.ref 267),de P "__static_attributes__" 519 (.ref 268),de P "__dict__" 521 (.ref 271),de P "__weakref__" 523 (.ref 272),de P "__doc__" 524 .none] 4}),
 (270,{cls:=Value.type "type",data:=Data.cls {name:=SP "Null",bases:=[.type "object"],mro:=[.ref 270,.type "object"],ns:=269,qualname:=SP "Null"},slots:=#[none,none,some (.str (SP "Null") 498),some (.str (SP "Null") 506),some (.builtin "object.__new__"),some (.bool true)]}),
 (271,{cls:=Value.type "getset_descriptor",data:=Data.fields #[.str (SP "__dict__") 520,.ref 270,.builtin "function.__dict__",.builtin "function.__dict__#set"]}),
 (272,{cls:=Value.type "getset_descriptor",data:=Data.fields #[.str (SP "__weakref__") 522,.ref 270,.builtin "ExceptionGroup.__weakref__",.none]}),
 (282,{cls:=Value.type "tuple",data:=Data.seq #[.none]}),
 (288,co "__init__" "Vector.__init__" 539 195 4 3 283 (.ref 285) (.ref 286) (.ref 287) 546),
 (289,Qd (methAt 33 0) "Vector.__init__" (.ref 282) kv6 288),
 (295,co "copy" "Vector.copy" 549 202 1 3 290 (.ref 292) (.ref 293) (.ref 294) 553),
 (296,Qd (methAt 33 1) "Vector.copy" .none kv6 295),
 (298,{cls:=Value.type "dict",data:=Data.dict #[de P "__module__" 534 (.str (SP "vectorcove.values") 494),de P "__firstlineno__" 538 (.int 193 537),de P "__init__" 548 (.ref 289),de P "copy" 555 (.ref 296),de P "__static_attributes__" 561 (.ref 297),de P "__dict__" 563 (.ref 300),de P "__weakref__" 565 (.ref 301),de P "__doc__" 566 .none] 4}),
 (299,{cls:=Value.type "type",data:=Data.cls {name:=SP "Vector",bases:=[.type "object"],mro:=[.ref 299,.type "object"],ns:=298,qualname:=SP "Vector"},slots:=#[none,none,some (.str (SP "Vector") 527),some (.str (SP "Vector") 535),some (.builtin "object.__new__"),some (.bool true)]}),
 (300,{cls:=Value.type "getset_descriptor",data:=Data.fields #[.str (SP "__dict__") 562,.ref 299,.builtin "function.__dict__",.builtin "function.__dict__#set"]}),
 (301,{cls:=Value.type "getset_descriptor",data:=Data.fields #[.str (SP "__weakref__") 564,.ref 299,.builtin "ExceptionGroup.__weakref__",.none]}),
 (309,co "room" "room" 569 204 1 3 304 (.ref 306) (.ref 307) (.ref 308) 573),
 (310,Qd (Qe 34) "room" .none kv6 309),
 (316,co "null" "null" 576 208 0 3 311 (.ref 313) (.ref 314) (.ref 315) 579),
 (317,Qd (Qe 35) "null" .none kv6 316),
 (323,co "integer" "integer" 582 210 1 3 318 (.ref 320) (.ref 321) (.ref 322) 586),
 (324,Qd (Qe 36) "integer" .none kv6 323),
 (337,co "whole" "whole" 596 214 1 3 332 (.ref 334) (.ref 335) (.ref 336) 600),
 (338,Qd (Qe 38) "whole" .none kv6 337),
 (344,co "length" "length" 603 216 1 3 339 (.ref 341) (.ref 342) (.ref 343) 608),
 (345,Qd (Qe 39) "length" .none kv6 344),
 (351,co "is_vector" "is_vector" 611 227 1 3 346 (.ref 348) (.ref 349) (.ref 350) 615),
 (352,Qd (Qe 40) "is_vector" .none kv6 351),
 (365,co "share" "share" 625 231 1 3 360 (.ref 362) (.ref 363) (.ref 364) 629),
 (366,Qd (Qe 42) "share" .none kv6 365),
 (367,{cls:=Value.type "tuple",data:=Data.seq #[.int 0 634,.int 1 635]}),
 (368,{cls:=Value.type "tuple",data:=Data.seq #[.int 1 637,.int 1 638]}),
 (374,co "identity_rows" "identity_rows" 640 238 1 3 369 (.ref 371) (.ref 372) (.ref 373) 647),
 (375,Qd (Qe 46) "identity_rows" .none kv1 374),
 (379,co "copied" "copied" 650 245 1 3 376 .none .none (.ref 378) 653),
 (380,Qd (Qe 47) "copied" .none kv1 379),
 (384,co "scaled" "scaled" 656 247 2 3 381 .none .none (.ref 383) 659),
 (385,Qd (Qe 48) "scaled" .none kv1 384),
 (391,co "less_multiple" "less_multiple" 663 250 3 3 386 (.ref 388) (.ref 389) (.ref 390) 671),
 (392,Qd (Qe 50) "less_multiple" .none kv1 391),
 (398,co "first_filled" "first_filled" 674 257 3 3 393 (.ref 395) (.ref 396) (.ref 397) 681),
 (399,Qd (Qe 51) "first_filled" .none kv1 398),
 (405,co "clear_column" "clear_column" 684 262 3 3 400 (.ref 402) (.ref 403) (.ref 404) 691),
 (406,Qd (Qe 52) "clear_column" .none kv1 405),
 (412,co "row_echelon" "row_echelon" 694 266 1 3 407 (.ref 409) (.ref 410) (.ref 411) 704),
 (413,Qd (Qe 53) "row_echelon" .none kv1 412),
 (419,co "check_square" "check_square" 707 280 2 3 414 (.ref 416) (.ref 417) (.ref 418) 712),
 (420,Qd (Qe 54) "check_square" .none kv1 419),
 (426,co "first_dependent" "first_dependent" 715 283 2 3 421 (.ref 423) (.ref 424) (.ref 425) 721),
 (427,Qd (Qe 55) "first_dependent" .none kv1 426),
 (431,co "solve_rows" "solve_rows" 724 288 2 3 428 .none .none (.ref 430) 727),
 (432,Qd (Qe 56) "solve_rows" .none kv1 431),
 (438,co "inverse" "inverse" 730 296 1 3 433 (.ref 435) (.ref 436) (.ref 437) 734),
 (439,Qd (Qe 57) "inverse" .none kv1 438),
 (445,co "greatest_divisor" "greatest_divisor" 737 298 2 3 440 (.ref 442) (.ref 443) (.ref 444) 742),
 (446,Qd (Qe 58) "greatest_divisor" .none kv1 445),
 (450,co "whole_row" "whole_row" 745 302 1 3 447 .none .none (.ref 449) 748),
 (451,Qd (Qe 59) "whole_row" .none kv1 450),
 (457,co "whole_determinant" "whole_determinant" 751 307 1 3 452 (.ref 454) (.ref 455) (.ref 456) 763),
 (458,Qd (Qe 60) "whole_determinant" .none kv1 457),
 (464,co "determinant" "determinant" 766 327 1 3 459 (.ref 461) (.ref 462) (.ref 463) 775),
 (465,Qd (Qe 61) "determinant" .none kv1 464),
 (471,co "get_attr" "get_attr" 780 338 2 3 466 (.ref 468) (.ref 469) (.ref 470) 785),
 (472,Qd (Qe 63) "get_attr" .none kv10 471),
 (476,co "names_of" "names_of" 788 342 1 3 473 .none .none (.ref 475) 791),
 (477,Qd (Qe 64) "names_of" .none kv10 476),
 (483,co "dim_of" "dim_of" 794 358 1 3 478 (.ref 480) (.ref 481) (.ref 482) 799),
 (484,Qd (Qe 65) "dim_of" .none kv10 483),
 (488,co "dimnames_of" "dimnames_of" 802 363 1 3 485 .none .none (.ref 487) 805),
 (489,Qd (Qe 66) "dimnames_of" .none kv10 488),
 (509,co "scaled" "scaled" 829 389 3 3 504 (.ref 506) (.ref 507) (.ref 508) 836),
 (510,Qd (Qe 71) "scaled" .none (.str "vectorcove.numtext" 808) 509),
 (648,co "to_logical" "to_logical" 1040 567 2 3 643 (.ref 645) (.ref 646) (.ref 647) 1045),
 (649,Qd (Qe 94) "to_logical" .none kv7 648),
 (662,co "to_double" "to_double" 1057 585 3 3 657 (.ref 659) (.ref 660) (.ref 661) 1063),
 (663,Qd (Qe 96) "to_double" .none kv7 662),
 (676,co "item_as" "item_as" 1074 599 4 3 671 (.ref 673) (.ref 674) (.ref 675) 1081),
 (677,Qd (Qe 98) "item_as" .none kv7 676),
 (683,co "is_atomic_kind" "is_atomic_kind" 1084 613 1 3 678 (.ref 680) (.ref 681) (.ref 682) 1088),
 (684,Qd (Qe 99) "is_atomic_kind" .none kv7 683),
 (709,co "with_names" "with_names" 1115 637 2 3 704 (.ref 706) (.ref 707) (.ref 708) 1120),
 (710,Qd (Qe 103) "with_names" .none kv7 709),
 (714,co "as_kind" "as_kind" 1123 641 3 3 711 .none .none (.ref 713) 1126),
 (715,Qd (Qe 104) "as_kind" .none kv7 714),
 (716,{cls:=Value.type "tuple",data:=Data.seq #[.int 0 1131,.int 1 1132]}),
 (722,co "dims" "dims" 1134 650 1 3 717 (.ref 719) (.ref 720) (.ref 721) 1138),
 (723,Qd (Qe 107) "dims" .none kv3 722),
 (729,co "is_matrix" "is_matrix" 1141 654 1 3 724 (.ref 726) (.ref 727) (.ref 728) 1146),
 (730,Qd (Qe 108) "is_matrix" .none kv3 729),
 (736,co "shape_of" "shape_of" 1149 657 1 3 731 (.ref 733) (.ref 734) (.ref 735) 1153),
 (737,Qd (Qe 109) "shape_of" .none kv3 736),
 (743,co "axis_names" "axis_names" 1156 661 2 3 738 (.ref 740) (.ref 741) (.ref 742) 1162),
 (744,Qd (Qe 110) "axis_names" .none kv3 743),
 (750,co "plain_names" "plain_names" 1165 668 1 3 745 (.ref 747) (.ref 748) (.ref 749) 1169),
 (751,Qd (Qe 111) "plain_names" .none kv3 750),
 (755,co "dimnames_list" "dimnames_list" 1172 672 1 3 752 .none .none (.ref 754) 1175),
 (756,Qd (Qe 112) "dimnames_list" .none kv3 755),
 (762,co "new_array" "new_array" 1178 679 4 3 757 (.ref 759) (.ref 760) (.ref 761) 1187),
 (763,Qd (Qe 113) "new_array" .none kv3 762),
 (769,co "new_matrix" "new_matrix" 1190 686 5 3 764 (.ref 766) (.ref 767) (.ref 768) 1198),
 (770,Qd (Qe 114) "new_matrix" .none kv3 769),
 (776,co "transpose" "transpose" 1201 688 1 3 771 (.ref 773) (.ref 774) (.ref 775) 1211),
 (777,Qd (Qe 115) "transpose" .none kv3 776),
 (783,co "numbers_of" "numbers_of" 1214 702 1 3 778 (.ref 780) (.ref 781) (.ref 782) 1218),
 (784,Qd (Qe 116) "numbers_of" .none kv3 783),
 (790,co "product_shapes" "product_shapes" 1221 706 2 3 785 (.ref 787) (.ref 788) (.ref 789) 1230),
 (791,Qd (Qe 117) "product_shapes" .none kv3 790),
 (797,co "mat_mul" "mat_mul" 1233 728 2 3 792 (.ref 794) (.ref 795) (.ref 796) 1249),
 (798,Qd (Qe 118) "mat_mul" .none kv3 797),
 (804,co "as_column" "as_column" 1252 743 1 3 799 (.ref 801) (.ref 802) (.ref 803) 1256),
 (805,Qd (Qe 119) "as_column" .none kv3 804),
 (811,co "cross" "cross" 1259 747 2 3 806 (.ref 808) (.ref 809) (.ref 810) 1264),
 (812,Qd (Qe 120) "cross" .none kv3 811),
 (818,co "is_true" "is_true" 1269 750 2 3 813 (.ref 815) (.ref 816) (.ref 817) 1275),
 (819,Qd (Qe 122) "is_true" .none kv11 818),
 (825,co "extent_of" "extent_of" 1278 757 2 3 820 (.ref 822) (.ref 823) (.ref 824) 1285),
 (826,Qd (Qe 123) "extent_of" .none kv11 825),
 (832,co "matrix_argument" "matrix_argument" 1288 771 2 3 827 (.ref 829) (.ref 830) (.ref 831) 1295),
 (833,Qd (Qe 124) "matrix_argument" .none kv11 832),
 (837,co "fraction_rows" "fraction_rows" 1300 778 1 3 834 .none .none (.ref 836) 1303),
 (838,Qd (Qe 126) "fraction_rows" .none kv9 837),
 (844,co "rows_matrix" "rows_matrix" 1306 788 4 3 839 (.ref 841) (.ref 842) (.ref 843) 1316),
 (845,Qd (Qe 127) "rows_matrix" .none kv9 844),
 (851,co "matrix_names" "matrix_names" 1319 794 2 3 846 (.ref 848) (.ref 849) (.ref 850) 1324),
 (852,Qd (Qe 128) "matrix_names" .none kv9 851),
 (856,co "b_solve" "b_solve" 1327 796 3 3 853 .none .none (.ref 855) 1330),
 (857,Qd (Qe 129) "b_solve" .none kv9 856),
 (863,co "b_det" "b_det" 1333 818 3 3 858 (.ref 860) (.ref 861) (.ref 862) 1340),
 (864,Qd (Qe 130) "b_det" .none kv9 863),
 (865,{cls:=Value.type "tuple",data:=Data.seq #[.int 0 1345,.int 1 1346]}),
 (869,co "diag_of" "diag_of" 1348 825 1 3 866 .none .none (.ref 868) 1351),
 (870,Qd (Qe 133) "diag_of" .none kv8 869),
 (876,co "diag_matrix" "diag_matrix" 1354 835 3 3 871 (.ref 873) (.ref 874) (.ref 875) 1364),
 (877,Qd (Qe 134) "diag_matrix" .none kv8 876),
 (883,co "upper_tri" "upper_tri" 1367 846 2 3 878 (.ref 880) (.ref 881) (.ref 882) 1372),
 (884,Qd (Qe 135) "upper_tri" .none kv8 883),
 (890,co "lower_tri" "lower_tri" 1375 848 2 3 885 (.ref 887) (.ref 888) (.ref 889) 1380),
 (891,Qd (Qe 136) "lower_tri" .none kv8 890),
 (897,co "triangle" "triangle" 1383 850 3 3 892 (.ref 894) (.ref 895) (.ref 896) 1395),
 (898,Qd (Qe 137) "triangle" .none kv8 897),
 (904,co "place_matrix" "place_matrix" 1398 858 2 3 899 (.ref 901) (.ref 902) (.ref 903) 1408),
 (905,Qd (Qe 138) "place_matrix" .none kv8 904),
 (911,co "both_extents" "both_extents" 1413 866 1 3 906 (.ref 908) (.ref 909) (.ref 910) 1419),
 (912,Qd (Qe 140) "both_extents" .none kv0 911),
 (918,co "one_extent" "one_extent" 1422 874 3 3 913 (.ref 915) (.ref 916) (.ref 917) 1429),
 (919,Qd (Qe 141) "one_extent" .none kv0 918),
 (925,co "b_nrow" "b_nrow" 1432 881 3 3 920 (.ref 922) (.ref 923) (.ref 924) 1438),
 (926,Qd (Qe 142) "b_nrow" .none kv0 925),
 (932,co "b_ncol" "b_ncol" 1441 883 3 3 927 (.ref 929) (.ref 930) (.ref 931) 1447),
 (933,Qd (Qe 143) "b_ncol" .none kv0 932),
 (939,co "b_all_rows" "b_all_rows" 1450 885 3 3 934 (.ref 936) (.ref 937) (.ref 938) 1456),
 (940,Qd (Qe 144) "b_all_rows" .none kv0 939),
 (946,co "b_all_columns" "b_all_columns" 1459 887 3 3 941 (.ref 943) (.ref 944) (.ref 945) 1465),
 (947,Qd (Qe 145) "b_all_columns" .none kv0 946),
 (953,co "two_vectors" "two_vectors" 1468 889 1 3 948 (.ref 950) (.ref 951) (.ref 952) 1475),
 (954,Qd (Qe 146) "two_vectors" .none kv0 953),
 (960,co "b_crossprod" "b_crossprod" 1478 895 3 3 955 (.ref 957) (.ref 958) (.ref 959) 1486),
 (961,Qd (Qe 147) "b_crossprod" .none kv0 960),
 (967,co "b_tcrossprod" "b_tcrossprod" 1489 901 3 3 962 (.ref 964) (.ref 965) (.ref 966) 1497),
 (968,Qd (Qe 148) "b_tcrossprod" .none kv0 967),
 (974,co "b_kronecker" "b_kronecker" 1500 907 3 3 969 (.ref 971) (.ref 972) (.ref 973) 1518),
 (975,Qd (Qe 149) "b_kronecker" .none kv0 974),
 (981,co "diagonal_size" "diagonal_size" 1521 921 1 3 976 (.ref 978) (.ref 979) (.ref 980) 1526),
 (982,Qd (Qe 150) "diagonal_size" .none kv0 981),
 (988,co "b_diag" "b_diag" 1529 926 3 3 983 (.ref 985) (.ref 986) (.ref 987) 1544),
 (989,Qd (Qe 151) "b_diag" .none kv0 988),
 (995,co "triangle_arguments" "triangle_arguments" 1547 950 1 3 990 (.ref 992) (.ref 993) (.ref 994) 1553),
 (996,Qd (Qe 152) "triangle_arguments" .none kv0 995),
 (1002,co "b_upper" "b_upper" 1556 953 3 3 997 (.ref 999) (.ref 1000) (.ref 1001) 1564),
 (1003,Qd (Qe 153) "b_upper" .none kv0 1002),
 (1009,co "b_lower" "b_lower" 1567 956 3 3 1004 (.ref 1006) (.ref 1007) (.ref 1008) 1575),
 (1010,Qd (Qe 154) "b_lower" .none kv0 1009),
 (1016,co "place_argument" "place_argument" 1578 959 1 3 1011 (.ref 1013) (.ref 1014) (.ref 1015) 1583),
 (1017,Qd (Qe 155) "place_argument" .none kv0 1016),
 (1023,co "b_row" "b_row" 1586 964 3 3 1018 (.ref 1020) (.ref 1021) (.ref 1022) 1592),
 (1024,Qd (Qe 156) "b_row" .none kv0 1023),
 (1030,co "b_col" "b_col" 1595 966 3 3 1025 (.ref 1027) (.ref 1028) (.ref 1029) 1601),
 (1031,Qd (Qe 157) "b_col" .none kv0 1030),
 (1037,co "_law_draw" "_law_draw" 1606 969 2 3 1032 (.ref 1034) (.ref 1035) (.ref 1036) 1612),
 (1038,Qd (Qe 159) "_law_draw" .none kv2 1037),
 (1044,co "_law_rows" "_law_rows" 1615 978 4 3 1039 (.ref 1041) (.ref 1042) (.ref 1043) 1626),
 (1045,Qd (Qe 160) "_law_rows" .none kv2 1044),
 (1049,co "_law_matrix" "_law_matrix" 1629 987 2 3 1046 .none .none (.ref 1048) 1632),
 (1050,Qd (Qe 161) "_law_matrix" .none kv2 1049),
 (1054,co "_law_shown" "_law_shown" 1635 991 1 3 1051 .none .none (.ref 1053) 1638),
 (1055,Qd (Qe 162) "_law_shown" .none kv2 1054),
 (1061,co "_law_ratio" "_law_ratio" 1641 996 2 3 1056 (.ref 1058) (.ref 1059) (.ref 1060) 1648),
 (1062,Qd (Qe 163) "_law_ratio" .none kv2 1061),
 (1068,co "_law_sum" "_law_sum" 1651 1002 1 3 1063 (.ref 1065) (.ref 1066) (.ref 1067) 1658),
 (1069,Qd (Qe 164) "_law_sum" .none kv2 1068),
 (1073,co "_law_turned" "_law_turned" 1661 1009 1 3 1070 .none .none (.ref 1072) 1664),
 (1074,Qd (Qe 165) "_law_turned" .none kv2 1073),
 (1078,co "_law_product" "_law_product" 1667 1011 2 3 1075 .none .none (.ref 1077) 1670),
 (1079,Qd (Qe 166) "_law_product" .none kv2 1078),
 (1083,co "_law_signed" "_law_signed" 1673 1013 1 3 1080 .none .none (.ref 1082) 1676),
 (1084,Qd (Qe 167) "_law_signed" .none kv2 1083),
 (1088,co "_law_many" "_law_many" 1679 1021 1 3 1085 .none .none (.ref 1087) 1682),
 (1089,Qd (Qe 168) "_law_many" .none kv2 1088),
 (1095,co "_law_solves" "_law_solves" 1685 1032 3 3 1090 (.ref 1092) (.ref 1093) (.ref 1094) 1698),
 (1096,Qd (Qe 169) "_law_solves" .none kv2 1095),
 (1100,co "_law_products_hold" "_law_products_hold" 1701 1044 2 3 1097 .none .none (.ref 1099) 1704),
 (1101,Qd (Qe 170) "_law_products_hold" .none kv2 1100),
 (1105,co "_law_places_hold" "_law_places_hold" 1707 1061 1 3 1102 .none .none (.ref 1104) 1710),
 (1106,Qd (Qe 171) "_law_places_hold" .none kv2 1105),
 (1110,co "_law_equations_hold" "_law_equations_hold" 1713 1100 3 3 1107 .none .none (.ref 1109) 1716),
 (1111,Qd (Qe 172) "_law_equations_hold" .none kv2 1110),
 (1115,co "law" "law" 1719 1126 1 3 1112 .none .none (.ref 1114) 1722),
 (1116,Qd (Qe 173) "law" .none kv2 1115)
]
noncomputable def KA:List Addr:=[3,20,21,30,31,32,47,48,50,51,66,67,73,74,80,81,87,88,94,95,101,102,106,107,109,110,111,112,134,138,139,145,146,147,151,152,153,161,162,168,169,175,176,182,183,189,190,196,197,203,204,210,211,217,218,224,225,231,232,238,239,266,267,269,270,271,272,282,288,289,295,296,298,299,300,301,309,310,316,317,323,324,337,338,344,345,351,352,365,366,367,368,374,375,379,380,384,385,391,392,398,399,405,406,412,413,419,420,426,427,431,432,438,439,445,446,450,451,457,458,464,465,471,472,476,477,483,484,488,489,509,510,648,649,662,663,676,677,683,684,709,710,714,715,716,722,723,729,730,736,737,743,744,750,751,755,756,762,763,769,770,776,777,783,784,790,791,797,798,804,805,811,812,818,819,825,826,832,833,837,838,844,845,851,852,856,857,863,864,865,869,870,876,877,883,884,890,891,897,898,904,905,911,912,918,919,925,926,932,933,939,940,946,947,953,954,960,961,967,968,974,975,981,982,988,989,995,996,1002,1003,1009,1010,1016,1017,1023,1024,1030,1031,1037,1038,1044,1045,1049,1050,1054,1055,1061,1062,1068,1069,1073,1074,1078,1079,1083,1084,1088,1089,1095,1096,1100,1101,1105,1106,1110,1111,1115,1116]
theorem UL:∀P,KA=(KX P).map (·.1):=λP=>by kernel_rfl!
end
section
set_option backward.match.sparseCases false
noncomputable def hookX:Hook:=kmHook KX KA UL [1103]
noncomputable def qv:Program:={P0 with main:={P0.main with body:=P0.main.body.drop 173}}
noncomputable def looseX:List Str:=P0.boundNames.filter λn=>!(n==Str.ofString "law")
noncomputable def envA:Env:={scope:=P0.main.scope,locals:=mainNs,globals:=mainNs,cells:=[],code:=.ref 13,frame:=some 14}
noncomputable def bE:List Stmt:=behindTheImports P0
noncomputable def codeA:Code:=.body bE envA
noncomputable def pos0:Pos:=⟨0,0,0,0⟩
noncomputable def annA:Option Value:=some (.ref 6)
noncomputable def objs15 (P:Params):List Obj:=[boot_o_0 P,boot_o_1 P,boot_o_2 P,boot_o_3 P,boot_o_4 P,boot_o_5 P,boot_o_6 P,boot_o_7 P,boot_o_8 P,boot_o_9 P,boot_o_10 P,
 {cls:=PySem.Value.type "tuple",data:=PySem.Data.seq #[]},{cls:=PySem.Value.none,data:=PySem.Data.fields #[]},
 {cls:=PySem.Value.type "code",data:=PySem.Data.fields #[PySem.Value.str (PySem.Str.ofString "<module>") 182,PySem.Value.str (PySem.Str.ofString "<module>") 183,PySem.Value.str (PySem.Str.ofString "/claim/cut.py") 184,PySem.Value.int 1 0,PySem.Value.int 0 0,PySem.Value.int 0 0,PySem.Value.int 0 0,PySem.Value.int 0 0,PySem.Value.ref 11,PySem.Value.bool false,PySem.Value.int 181 0,PySem.Value.ref 12,PySem.Value.none,PySem.Value.none,PySem.Value.none,PySem.Value.none,PySem.Value.int 185 0,PySem.Value.int 1 0,PySem.Value.str (PySem.Str.ofString "/claim/cut.py") 186]},
 {cls:=PySem.Value.type "frame",slots:=#[some (PySem.Value.ref 13),some (PySem.Value.ref 3),some (PySem.Value.ref 3),none,some (PySem.Value.str (PySem.Str.ofString "__main__") 164),none,some (PySem.Value.ref 0)]}]
noncomputable def mkT (os:List Obj):Nat->Nat->Nat->BT
 | 0,_,_=>.nil
 | n+1,a,b=>match os[b]? with
  | some o=>.node o (mkT os n (2*a) (a+b)) (mkT os n (2*a) (2*a+b))
  | none=>.nil
noncomputable def st0 (w:World)(os:OsState):Shared:={heap:=boot_heap w.params,gens:=#[],drawn:=boot_drawn,toks:=boot_toks,os:=os}
noncomputable def st15 (w:World)(os:OsState):SharedT:={tree:=mkT (objs15 w.params) 6 1 0,n:=15,life:={},gens:=#[],drawn:={},toks:=187,os:=os}
theorem abs15 (w:World)(os:OsState):(st15 w os).abs={heap:=⟨(objs15 w.params).toArray,{}⟩,gens:=#[],drawn:={},toks:=187,os:=os}:=by kernel_rfl!
noncomputable abbrev B0:List PySem.Frame:=[topFrame pos0]
theorem pre_q:∀w:World,(λos=>topGo treeTable P0 w 11 annA 12 (st0 w os) (topStub P0)) =
  λos=>some ({heap:=⟨(objs15 w.params).toArray,{}⟩,gens:=#[],drawn:={},toks:=187,os:=os},⟨denote treeTable codeA,codeA,pos0,B0⟩):=by
 intro w
 kernel_rfl
noncomputable def lookT (w:World)(s:SharedT) :=
 ((staticsOk (importedModules P0.main.body) (boot_heap w.params) s.abs.heap&&namesBound P0 s.abs.heap&&gensDone s.abs&&laidKept (boot_heap w.params) s.abs.heap),
 openSeen qv looseX (importedModules P0.main.body) (λ_=>true) true s.abs,KA.map s.tree.get,s.tree.get 1103,s.n)
noncomputable def chk (w:World)(os:OsState):=(qSegRunT qTable P0 w 11 annA 1 60 (st15 w os) (blockOf bE envA codeA pos0 B0)).bind λr1 =>
 (qSegRunT qTable P0 w 11 annA 1 8000 r1.2.1 ⟨(qExecs bE envA).wrap doneF deadEnd id id,codeA,r1.2.2.2,B0⟩).map λr2 =>
  ((r1.1,r1.2.2.1),(r2.1,r2.2.2.1),lookT w r2.2.1)
theorem zZ:∀w:World,(λos=>chk w os)=λ_=>some ((.next,codeA),(.next,codeA),(true,openGood qv looseX,(KX w.params).map (λp=>some p.2),some (tabObj #[]),1117)):=by
 intro w
 kernel_rfl
theorem z7:KA.all (λa=>Nat.blt a 1117)=true:=by kernel_rfl
theorem z8:∀P,(KX P).map (λp=>alive p.2)=(KX P).map (λp=>some p.2):=λP=>by kernel_rfl
theorem fin_run (w:World)(s:Shared)(p:Pos):topRun treeTable P0 w 11 annA 4 s ⟨doneF .next,codeA,p,[topFrame pos0]⟩=some s:=by
 obtain⟨h,g,d,t,o⟩:=s;rfl
theorem z9 (w:World)(os:OsState):∃sT:SharedT,topRun treeTable P0 w 11 annA 8076 (st0 w os) (topStub P0)=some sT.abs /\
  lookT w sT=(true,openGood qv looseX,(KX w.params).map (λp=>some p.2),some (tabObj #[]),1117):=by
 have h:=congrFun (zZ w) os;simp only[chk] at h;obtain⟨⟨f1,sM,c1,p1⟩,e1,h⟩:=Option.bind_eq_some_iff.mp h;obtain⟨⟨f2,sT,c2,p2⟩,e2,h⟩:=Option.map_eq_some_iff.mp h;simp only[Prod.mk.injEq] at h;obtain⟨⟨rfl,rfl⟩,⟨rfl,rfl⟩,hl⟩:=h;refine⟨sT,?_,by rw[hl]⟩;have t1:=congrFun (pre_q w) os;simp only at t1 e1 e2;rw[show @qSegRunT=@segRunT from PySem.W.Fast.te10110043849684766642.symm,show qTable=treeTable from PySem.W.Fast.te14364793385576792824.symm] at e1 e2;rw[show @qExecs=@execs from PySem.W.Fast.te12563942051412417395.symm] at e2;have s1:=segRun_of e1;have s2:=segRun_of e2;rw[abs15] at s1;have r:=piece_app (l:=bE) (rest:=[]) s2 (piece_nil (fin_run w sT.abs p2));rw[List.append_nil] at r;have r2:=piece_block s1 r;have r3:=go_top t1 r2;exact r3
theorem wg (w:World)(s:SharedT)(h1:KA.map s.tree.get=(KX w.params).map (λp=>some p.2))(h2:s.tree.get 1103=some (tabObj #[]))(hn:s.n=1117) :
  hookX.obs s.abs=hookX.val w:=by
 have key:∀a o,a<1117->s.tree.get a=some o->s.abs.heap.get? a=alive o:=λa o ha ho=>abs_get (by rw[hn]; exact ha) ho
 show (KA.map s.abs.heap.get?,[1103].map s.abs.heap.get?)=((KX w.params).map λp=>some p.2,[1103].map λ_=>some (tabObj #[]));refine Prod.ext ?_ ?_
 ·show KA.map s.abs.heap.get?=(KX w.params).map λp=>some p.2
  have hk:=UL w.params;have hlow:=List.all_eq_true.mp z7;rw[<-z8 w.params];rw[hk] at h1 hlow ⊢;rw[List.map_map] at h1 ⊢;refine List.map_congr_left λp hp=>?_
  have e:=List.map_inj_left.mp h1 p hp;exact key _ _ (Nat.le_of_ble_eq_true (hlow _ (List.mem_map_of_mem hp))) e
 ·show [s.abs.heap.get? 1103]=[some (tabObj #[])]
  rw[key 1103 _ (by decide) h2];rfl
noncomputable abbrev NX:Nat:=8100
theorem wi:opening P0=plainProg P0.main.scope.names:=by kernel_rfl
theorem wj (s:Shared):fenceModules? P0 s=some s:=by kernel_rfl
theorem size_eq (w:World):((boot_heap w.params).isNs mainGlobals&&(#[]:Array GenState).size==0,(boot_heap w.params).objs.size,(boot_heap w.params).nsMap mainGlobals "__annotations__")=(true,11,annA):=by kernel_rfl
theorem wk {p q:Program}{loose:List Str}{Xt:Shared->Bool}{α:Type}{Yf:Shared->α}{Ya:World->α}{N:Nat}{g0:Bool}{H_0:Params->Heap}{gs_0:Array GenState}{d_0:Drawn}{k_0:Nat}{m_0:Nat}{ann:Option Value}{M:Nat}
  (open_:∀w:World,(fencedOpening treeTable p w N).map (λs=>(s.heap,s.gens,s.drawn,s.toks))=some (H_0 w.params,gs_0,d_0,k_0))
  (size:∀w:World,((H_0 w.params).isNs mainGlobals&&gs_0.size==0,(H_0 w.params).objs.size,(H_0 w.params).nsMap mainGlobals "__annotations__")=(true,m_0,ann))
  (run:∀(w:World) (os:OsState),∃s:Shared,topRun treeTable p w m_0 ann M ⟨H_0 w.params,gs_0,d_0,k_0,os⟩ (topStub p)=some s /\
   (staticsOk (importedModules p.main.body) (H_0 w.params) s.heap&&namesBound p s.heap&&gensDone s&&laidKept (H_0 w.params) s.heap)=true /\
   openSeen q loose (importedModules p.main.body) Xt g0 s=openGood q loose/\Yf s=Ya w) (le:Nat.ble M N=true):LeftO p q loose Xt Yf Ya N g0:=λw=>by
 obtain⟨⟨h,gs,d,k,os⟩,e,e'⟩:=Option.map_eq_some_iff.mp (open_ w);obtain⟨rfl,rfl,rfl,rfl⟩:h=H_0 w.params/\gs=gs_0/\d=d_0/\k=k_0:=by simpa using e'
 obtain⟨z1,z2,z3⟩:_/\_/\_:=by simpa only[Prod.mk.injEq] using size w
 obtain⟨s,hr,l1,l2,l3⟩:=run w os;have r:=topRun_mono (N-M) _ _ _ _ hr;rw[show M+(N-M)=N from Nat.add_sub_cancel' (Nat.le_of_ble_eq_true le)] at r;have t:topFrom treeTable p w N ⟨H_0 w.params,gs,d,k,os⟩=some s:=by
  unfold topFrom;dsimp only;rw[z1,z2,z3,r];show (match staticsOk (importedModules p.main.body) (H_0 w.params) s.heap&&namesBound p s.heap&&gensDone s&&laidKept (H_0 w.params) s.heap with | true=>_ | false=>_)=_
  rw[l1]
 unfold openEnds;rw[e];show (topFrom treeTable p w N _).map _=_;rw[t];exact congrArg some (Prod.ext l2 l3)
theorem wu (w:World)(os:OsState):∃s:Shared,topRun treeTable P0 w 11 annA 8076 ⟨boot_heap w.params,#[],boot_drawn,boot_toks,os⟩ (topStub P0)=some s /\
   (staticsOk (importedModules P0.main.body) (boot_heap w.params) s.heap&&namesBound P0 s.heap&&gensDone s&&laidKept (boot_heap w.params) s.heap)=true /\
   openSeen qv looseX (importedModules P0.main.body) (λ_=>true) true s=openGood qv looseX/\hookX.obs s=hookX.val w:=by
 obtain⟨sT,hr,hl⟩:=z9 w os;unfold lookT at hl;simp only[Prod.mk.injEq] at hl;obtain⟨l1,l2,l3,l4,l5⟩:=hl;exact⟨sT.abs,hr,l1,l2,wg w sT l3 l4 l5⟩
theorem leftX:LeftO P0 qv looseX (λ_=>true) hookX.obs hookX.val NX :=
 wk (H_0:=boot_heap) (boot_open wi (by decide) wj (N:=NX)) size_eq wu (by decide)
end
section
set_option backward.match.sparseCases false
set_option maxHeartbeats 4000000
theorem said:L0.wellSaid=true:=by
 unfold OpenLaw.wellSaid OpenRow.wellSaid OpenRow.partSaid looksOpen
 repeat' (with_reducible refine look_both ?_ ?_)
 all_goals decide +kernel
theorem tabw:L0.row.prog.tablesWhole=true:=by decide +kernel
end
section
set_option backward.match.sparseCases false
set_option maxHeartbeats 4000000
noncomputable def dLaw:DefRec:=⟨Str.ofString "law",sArgs (Qe 173),sBody (Qe 173),sScope (Qe 173),sPos (Qe 173)⟩
theorem ww:defOf qv L0.row.name=some (dLaw,[]):=by kernel_rfl
theorem wy:L0.row.prog.theDef L0.row.name=some (dLaw.params,dLaw.body,dLaw.scope):=by kernel_rfl
theorem kw_eq:kwWritten? dLaw.params.kwonlyargs dLaw.params.kw_defaults=some []:=by kernel_rfl
theorem ok_eq:(chainsOk qv&&opensWell L0.row.prog&&(frees L0.row.toRowW&&L0.row.within.isEmpty))=true:=by decide +kernel
theorem wz:L0.row.prog.bare:=⟨rfl,rfl,rfl,rfl,rfl,tabw⟩
theorem wB:L0.row.toRowW.promised:=by w_witness2
abbrev WalkGoal:Prop:=WalkO qv looseX (λ_ _=>True) hookX.says L0.row.toRowW dLaw [] λf vs=>PySem.call f vs
theorem wC (walk:WalkGoal):L0.Holds :=
 holds_law said λk1=>holds_open (r:=L0.row) (q:=qv) (loose:=looseX) (Xt:=λ_=>true) (XP:=λ_ _=>True) (Yf:=hookX.obs) (Ya:=hookX.val) (YP:=hookX.says) (N:=NX)
  leftX hookX.of hookX.keeps (λ_ _=>trivial) (λ_ _ _ _ _=>trivial) ww wy kw_eq (λs _=>recFacts_of (R:=[]) (s:=s) rfl) rfl k1 ok_eq wz wB walk
end
section
theorem nf {P:Prop}(h:false=true):P:=Bool.noConfusion h
theorem no {P:Prop}{α:Type}{x:α}(h:none=some x):P:=by cases h
theorem bN {α:Type}[BEq α][LawfulBEq α]{a b:α}(h:a≠b):(a==b)=false:=beq_eq_false_iff_ne.mpr h
theorem anD {a b:Bool}(h:(a&&b)=true):a=true/\b=true:=Bool.and_eq_true_iff.mp h
theorem mmD {α β:Type}{f:α->β}{l:List α}{b:β}(h:b∈l.map f):∃a,a∈l/\f a=b:=List.mem_map.mp h
theorem mcD {α:Type}{a b:α}{l:List α}(h:a∈b::l):a=b\/a∈l:=List.mem_cons.mp h
theorem msD {α:Type}{a b:α}(h:a∈[b]):a=b:=List.mem_singleton.mp h
theorem omD {α β:Type}{f:α->β}{o:Option α}{b:β}(h:o.map f=some b):∃a,o=some a/\f a=b:=Option.map_eq_some_iff.mp h
theorem obD {α β:Type}{o:Option α}{f:α->Option β}{b:β}(h:o.bind f=some b):∃a,o=some a/\f a=some b:=Option.bind_eq_some_iff.mp h
theorem ieD {α:Type}{l:List α}(h:l.isEmpty=true):l=[]:=List.isEmpty_iff.mp h
theorem aaD {α:Type}{l:List α}{p:α->Bool}(h:l.all p=true):∀x∈l,p x=true:=List.all_eq_true.mp h
theorem maD {α:Type}{a:α}{l r:List α}(h:a∈l++r):a∈l\/a∈r:=List.mem_append.mp h
theorem eqD {α:Type}[BEq α][LawfulBEq α]{a b:α}(h:(a==b)=true):a=b:=beq_iff_eq.mp h
theorem nb {a b c:Nat}(h:a<=b)(g:Nat.ble b c=true):a<=c:=Nat.le_trans h (Nat.le_of_ble_eq_true g)
theorem nl {a b c:Nat}(h:a<=b)(g:Nat.ble (b+1) c=true):a<c:=Nat.lt_of_le_of_lt h (Nat.le_of_ble_eq_true g)
theorem nk {a b c:Nat}(h:a<b)(g:Nat.ble b (c+1)=true):a<=c:=Nat.le_of_lt_succ (Nat.lt_of_lt_of_le h (Nat.le_of_ble_eq_true g))
theorem nt {a b c:Nat}(h:a<b)(g:Nat.ble b c=true):a<c:=Nat.lt_of_lt_of_le h (Nat.le_of_ble_eq_true g)
theorem ng {a b c:Nat}(h:b<=c)(g:Nat.ble a b=true):a<=c:=Nat.le_trans (Nat.le_of_ble_eq_true g) h
inductive AV where
 | unset | none | bool (b:Bool) | int (i:Int) | str (s:String)
 | tup (l:List AV) | lst (l:List AV) | dct (ks:List String) (vs:List AV) | obj (C:Nat) (ks:List String) (vs:List AV)
 | cell (i:Nat) | kref (a:Nat) | rng (a b:Int) | lam (k:Nat)
inductive AC where
 | lst (l:List AV) | dct (ks:List String) (vs:List AV) | obj (C:Nat) (ks:List String) (vs:List AV) | dead
abbrev AH:=List AC
abbrev LA:=List AV
inductive Op where | add | sub | mul | div | mod
inductive Cm where | eq | ne | lt | le | gt | ge | is | isnot | isin | notin
mutual
inductive PE where
 | non | tru (b:Bool) | int (i:Int) | str (s:String)
 | loc (k:Nat)
 | glob (n:String)(v:AV)
 | bin (o:Op)(a b:PE)
 | neg (a:PE)
 | cmp (c:Cm)(a b:PE)
 | nt (a:PE) | and (l:List PE) | or (l:List PE)
 | ife (t a b:PE)
 | call (f:PE)(as:List PE)
 | new (n:String)(C init:Nat)(as:List PE)
 | meth (o:PE)(C:Nat)(n:String)(f:Nat)(as:List PE)
 | push (o x:PE)
 | pop0 (o:PE)
 | dget (o k:PE)
 | attr (o:PE)(n:String)
 | sub (o i:PE)
 | upto (o i:PE) | from (o i:PE)
 | rep (o n:PE)(mu:Bool)
 | cat (a b:PE)
 | len (a:PE) | abs (a:PE) | sum (a:PE) | min (a b:PE) | intof (a:PE) | strof (a:PE)
 | range (a b:PE) | range1 (a:PE)
 | list (a:PE)(mu:Bool)
 | isinst (a:PE)(n:String)(C:Nat)
 | lst (l:List PE)(mu:Bool) | tup (l:List PE) | dct (ks:List String) (vs:List PE) (mu:Bool)
 | comp (e:PE)(gs:List PG)(mu:Bool)
 | lam (k:Nat)
 | fstr (l:List PE) | fmt (a:PE)
 | frz (a:PE)
 | bad
inductive PG where
 | mk (t:List Nat)(one:Bool)(it:PE)(ifs:List PE)
end
inductive PT where
 | loc (k:Nat) | tup (l:List PT) | attr (o:PE) (n:String) | sub (o i:PE)
inductive PS where
 | asg (t:PT)(e:PE)
 | aug (k:Nat)(o:Op)(e:PE)
 | exp (e:PE)
 | ret (e:PE) | ret0
 | ite (t:PE)(a b:List PS)
 | whl (t:PE)(b:List PS)
 | for_ (t:List Nat)(one:Bool)(it:PE)(b:List PS)
 | cont | pass
 | raise (a:PE)
 | tryR (b:List PS)(k:Nat)(ek:Nat)
 | bad
inductive Out (α:Type) where
 | ok (a:α)(H:AH) | exc (m:AV) (H:AH) | stuck
namespace Out
noncomputable def bind {α β:Type}:Out α->(α->AH->Out β)->Out β
 | .ok a H,f=>f a H
 | .exc m H,_=>.exc m H
 | .stuck,_=>.stuck
noncomputable def opt {α β:Type}(o:Option α)(k:α->Out β):Out β:=match o with | some a=>k a | none=>.stuck
noncomputable def ofOpt {α:Type}(o:Option α)(H:AH):Out α:=match o with | some a=>.ok a H | none=>.stuck
@[simp] theorem bind_ok {α β:Type}(a:α)(H:AH)(f:α->AH->Out β):(Out.ok a H).bind f=f a H:=rfl
@[simp] theorem bind_exc {α β:Type}(m:AV)(H:AH)(f:α->AH->Out β):(Out.exc m H).bind f=.exc m H:=rfl
@[simp] theorem bind_stuck {α β:Type}(f:α->AH->Out β):(Out.stuck:Out α).bind f=.stuck:=rfl
@[simp] theorem ofOpt_some {α:Type}(a:α)(H:AH):ofOpt (some a) H=.ok a H:=rfl
@[simp] theorem QgG {α:Type}(H:AH):ofOpt (none:Option α) H=.stuck:=rfl
end Out
theorem Jc {α β:Type}(a:α)(k:α->Out β):Out.opt (some a) k=k a:=rfl
noncomputable def attrL:List (Nat × String):=[(299,"kind"),(299,"items"),(299,"attrs"),(299,"shared"),(299,"loose"),(270,"kind"),(270,"attrs"),(110,"formals"),(110,"tags"),(110,"used"),(110,"places")]
noncomputable def attrC (C:Nat)(n:String):Bool:=attrL.contains (C,n)
structure Orc where
 f:Nat->LA->AH->Out AV
 l:Nat->LA->AH->Out AV
open Classical in
section
noncomputable def AV.data:Nat->AV->Bool
 | _,.none | _,.int _ | _,.str _=>true
 | n+1,.tup l | n+1,.lst l=>l.all (AV.data n)
 | _,_=>false
mutual
noncomputable def AV.nc:AV->Bool
 | .cell _ | .unset=>false
 | .tup l | .lst l | .dct _ l | .obj _ _ l=>AV.ncs l
 | _=>true
noncomputable def AV.ncs:LA->Bool
 | []=>true
 | x::l=>x.nc&&AV.ncs l
end
section
variable (l:LA)
@[simp] theorem nc_u:AV.nc .unset=false:=rfl
@[simp] theorem nc_0:AV.nc .none=true:=rfl
@[simp] theorem nc_b (b:Bool):AV.nc (.bool b)=true:=rfl
@[simp] theorem nc_i (i:Int):AV.nc (.int i)=true:=rfl
@[simp] theorem nc_s (s:String):AV.nc (.str s)=true:=rfl
@[simp] theorem nc_t:AV.nc (.tup l)=AV.ncs l:=rfl
@[simp] theorem Y4:AV.nc (.lst l)=AV.ncs l:=rfl
@[simp] theorem nc_d (k:List String):AV.nc (.dct k l)=AV.ncs l:=rfl
@[simp] theorem nc_o (C:Nat)(k:List String):AV.nc (.obj C k l)=AV.ncs l:=rfl
@[simp] theorem nc_k (i:Nat):AV.nc (.kref i)=true:=rfl
@[simp] theorem nc_r (i j:Int):AV.nc (.rng i j)=true:=rfl
@[simp] theorem nc_m (i:Nat):AV.nc (.lam i)=true:=rfl
@[simp] theorem ncs_n:AV.ncs []=true:=rfl
@[simp] theorem Js (x:AV):AV.ncs (x::l)=(x.nc&&AV.ncs l):=rfl
end
noncomputable def bigE:Nat:=4000
noncomputable def Qg (a:Int):Prop:=a.natAbs<2 ^ bigE
noncomputable def AV.int? (v:AV):Option Int:=AV.casesOn (motive_1:=λ_=>Option Int) v Option.none Option.none (λz=>Option.none) some (λz=>Option.none) (λz=>Option.none) (λz=>Option.none) (λz z=>Option.none) (λz z z=>Option.none) (λz=>Option.none) (λz=>Option.none) (λz z=>Option.none) (λz=>Option.none)
noncomputable def AV.str? (v:AV):Option String:=AV.casesOn (motive_1:=λ_=>Option String) v Option.none Option.none (λz=>Option.none) (λz=>Option.none) some (λz=>Option.none) (λz=>Option.none) (λz z=>Option.none) (λz z z=>Option.none) (λz=>Option.none) (λz=>Option.none) (λz z=>Option.none) (λz=>Option.none)
noncomputable def AV.lst? (v:AV):Option (LA):=AV.casesOn (motive_1:=λ_=>Option (LA)) v Option.none Option.none (λz=>Option.none) (λz=>Option.none) (λz=>Option.none) (λz=>Option.none) some (λz z=>Option.none) (λz z z=>Option.none) (λz=>Option.none) (λz=>Option.none) (λz z=>Option.none) (λz=>Option.none)
noncomputable def AV.cell? (v:AV):Option Nat:=AV.casesOn (motive_1:=λ_=>Option Nat) v Option.none Option.none (λz=>Option.none) (λz=>Option.none) (λz=>Option.none) (λz=>Option.none) (λz=>Option.none) (λz z=>Option.none) (λz z z=>Option.none) some (λz=>Option.none) (λz z=>Option.none) (λz=>Option.none)
noncomputable def AV.dct? (v:AV):Option (List String × LA):=AV.casesOn (motive_1:=λ_=>Option (List String × LA)) v Option.none Option.none (λz=>Option.none) (λz=>Option.none) (λz=>Option.none) (λz=>Option.none) (λz=>Option.none) (λks vs=>some (ks,vs)) (λz z z=>Option.none) (λz=>Option.none) (λz=>Option.none) (λz z=>Option.none) (λz=>Option.none)
noncomputable def AC.lst?:AC->Option (LA)
 | .lst l=>some l
 | .dct _ _ | .obj _ _ _ | .dead=>none
noncomputable def AC.dct?:AC->Option (List String × LA)
 | .dct ks vs=>some (ks,vs)
 | .lst _ | .obj _ _ _ | .dead=>none
noncomputable def AC.obj?:AC->Option (Nat × List String × LA)
 | .obj C ks vs=>some (C,ks,vs)
 | .lst _ | .dct _ _ | .dead=>none
noncomputable def AV.bool? (v:AV):Option Bool:=AV.casesOn (motive_1:=λ_=>Option Bool) v Option.none Option.none some (λz=>Option.none) (λz=>Option.none) (λz=>Option.none) (λz=>Option.none) (λz z=>Option.none) (λz z z=>Option.none) (λz=>Option.none) (λz=>Option.none) (λz z=>Option.none) (λz=>Option.none)
noncomputable def AV.isN (v:AV):Bool:=v.ctorIdx==1
noncomputable def int2 {α:Type}(f:Int->Int->Option α)(a b:AV):Option α:=a.int?.bind λx=>b.int?.bind λy=>f x y
noncomputable def pBin:Op->AV->AV->Option AV
 | .add,a,b=>(int2 (λx y=>some (.int (x+y))) a b).or (a.str?.bind λx=>b.str?.bind λy=>if x.length+y.length<=100000 then some (.str (x++y)) else none)
 | .sub,a,b=>int2 (λx y=>some (.int (x-y))) a b
 | .mul,a,b=>int2 (λx y=>if Qg x/\Qg y then some (.int (x*y)) else none) a b
 | .div,a,b=>int2 (λx y=>if y≠0/\Qg y then some (.int (x.fdiv y)) else none) a b
 | .mod,a,b=>int2 (λx y=>if y≠0/\Qg y then some (.int (x.fmod y)) else none) a b
noncomputable def AV.isNone (v:AV):Option Bool:=bif v.ctorIdx==0 then Option.none else some (v.ctorIdx==1)
noncomputable def keyAt:List String->LA->String->Option AV
 | k::ks,v::vs,n=>if k=n then some v else keyAt ks vs n
 | _,_,_=>none
noncomputable def Qj:List String->LA->String->AV->List String × LA
 | k::ks,v::vs,n,x=>if k=n then (k::ks,x::vs) else let r:=Qj ks vs n x; (k::r.1,v::r.2)
 | _,_,n,x=>([n],[x])
noncomputable def lstOf (H:AH)(v:AV):Option (LA):=AV.casesOn (motive_1:=λ_=>Option (LA)) v Option.none Option.none (λz=>Option.none) (λz=>Option.none) (λz=>Option.none) (λz=>Option.none) some (λz z=>Option.none) (λz z z=>Option.none) (λi=>H[i]?.bind AC.lst?) (λz=>Option.none) (λz z=>Option.none) (λz=>Option.none)
noncomputable def dctOf (H:AH)(v:AV):Option (List String × LA):=AV.casesOn (motive_1:=λ_=>Option (List String × LA)) v Option.none Option.none (λz=>Option.none) (λz=>Option.none) (λz=>Option.none) (λz=>Option.none) (λz=>Option.none) (λks vs=>some (ks,vs)) (λz z z=>Option.none) (λi=>H[i]?.bind AC.dct?) (λz=>Option.none) (λz z=>Option.none) (λz=>Option.none)
noncomputable def objOf (H:AH)(v:AV):Option (Nat × List String × LA):=AV.casesOn (motive_1:=λ_=>Option (Nat × List String × LA)) v Option.none Option.none (λz=>Option.none) (λz=>Option.none) (λz=>Option.none) (λz=>Option.none) (λz=>Option.none) (λz z=>Option.none) (λC ks vs=>some (C,ks,vs)) (λi=>H[i]?.bind AC.obj?) (λz=>Option.none) (λz z=>Option.none) (λz=>Option.none)
noncomputable def seqOf (H:AH)(v:AV):Option (LA):=AV.casesOn (motive_1:=λ_=>Option (LA)) v Option.none Option.none (λz=>Option.none) (λz=>Option.none) (λz=>Option.none) some some (λz z=>Option.none) (λz z z=>Option.none) (λi=>H[i]?.bind AC.lst?) (λz=>Option.none) (λz z=>Option.none) (λz=>Option.none)
noncomputable def itemsOf (v:AV):Option (LA):=AV.casesOn (motive_1:=λ_=>Option (LA)) v Option.none Option.none (λz=>Option.none) (λz=>Option.none) (λz=>Option.none) some some (λz z=>Option.none) (λz z z=>Option.none) (λz=>Option.none) (λz=>Option.none) (λa b=>some ((List.range (b-a).toNat).map λi=>.int (a+(i:Nat)))) (λz=>Option.none)
noncomputable def rd (H:AH):AV->AV
 | .cell i=>match H[i]? with
  | some (.lst l)=>.lst l
  | _=>.unset
 | v=>v
noncomputable def AV.sq? (v:AV):Option (LA):=AV.casesOn (motive_1:=λ_=>Option (LA)) v Option.none Option.none (λz=>Option.none) (λz=>Option.none) (λz=>Option.none) some some (λz z=>Option.none) (λz z z=>Option.none) (λz=>Option.none) (λz=>Option.none) (λz z=>Option.none) (λz=>Option.none)
noncomputable def datO (H:AH)(f:AV->AV->Bool)(a b:AV):Option Bool:=if AV.data 6 (rd H a)&&AV.data 6 (rd H b) then some (f (rd H a) (rd H b)) else none
noncomputable def str2 (f:String->String->Bool)(a b:AV):Option Bool:=a.str?.bind λx=>b.str?.map λy=>f x y
noncomputable def memO (H:AH)(s:String)(b:AV):Option Bool:=match dctOf H b with
 | some p=>some (decide (s∈p.1))
 | none=>b.sq?.bind λl=>if l.all (AV.data 5) then some (decide (AV.str s∈l)) else none
noncomputable def pCmp (H:AH):Cm->AV->AV->Option Bool
 | .eq,a,b=>(int2 (λx y=>some (decide (x=y))) a b).or ((str2 (λx y=>x==y) a b).or (datO H (λx y=>decide (x=y)) a b))
 | .ne,a,b=>(a.bool?.bind λx=>b.bool?.map λy=>x != y).or ((int2 (λx y=>some (decide (x≠y))) a b).or ((str2 (λx y=>!(x==y)) a b).or (datO H (λx y=>decide (x≠y)) a b)))
 | .lt,a,b=>int2 (λx y=>some (decide (x<y))) a b
 | .le,a,b=>int2 (λx y=>some (decide (x<=y))) a b
 | .gt,a,b=>int2 (λx y=>some (decide (x>y))) a b
 | .ge,a,b=>int2 (λx y=>some (decide (x>=y))) a b
 | .is,a,b=>if b.isN then a.isNone else none
 | .isnot,a,b=>if b.isN then a.isNone.map (!·) else none
 | .isin,a,b=>a.str?.bind λs=>memO H s b
 | .notin,a,b=>a.str?.bind λs=>(memO H s b).map (!·)
noncomputable def pTruth (v:AV):Option Bool:=AV.casesOn (motive_1:=λ_=>Option Bool) v Option.none Option.none some (λi=>some (i != 0)) (λz=>Option.none) (λz=>Option.none) (λz=>Option.none) (λz z=>Option.none) (λz z z=>Option.none) (λz=>Option.none) (λz=>Option.none) (λz z=>Option.none) (λz=>Option.none)
noncomputable def AV.ix {α:Type}(v:AV)(f:Int->Option α)(g:String->Option α):Option α:=AV.casesOn (motive_1:=λ_=>Option α) v Option.none Option.none (λz=>Option.none) f g (λz=>Option.none) (λz=>Option.none) (λz z=>Option.none) (λz z z=>Option.none) (λz=>Option.none) (λz=>Option.none) (λz z=>Option.none) (λz=>Option.none)
noncomputable def subJ (o:Option (LA))(i:Int):Option AV:=o.bind λl=>if 0<=i then (if l.length<=1000000 then l[i.toNat]? else none) else none
noncomputable def pSub (H:AH)(o x:AV):Option AV:=x.ix (subJ (seqOf H o)) λs=>(dctOf H o).bind λq=>keyAt q.1 q.2 s
noncomputable def sumInts:LA->Option Int
 | []=>some 0
 | .int i::l=>(sumInts l).map (i+·)
 | _=>none
noncomputable def newC (H:AH)(mu:Bool)(l:LA):Out AV:=if mu then .ok (.cell H.length) (H++[.lst l]) else .ok (.lst l) H
noncomputable def fzA (H:AH)(i:Nat):AC->Out AV
 | .lst l=>if AV.ncs l then .ok (.lst l) (H.set i .dead) else .stuck
 | .dct ks l=>if AV.ncs l then .ok (.dct ks l) (H.set i .dead) else .stuck
 | .obj C ks l=>if AV.ncs l then .ok (.obj C ks l) (H.set i .dead) else .stuck
 | .dead=>.stuck
noncomputable def pFrz (H:AH)(v:AV):Out AV:=match v.cell? with
 | some i=>.opt H[i]? (fzA H i)
 | none=>.ok v H
noncomputable def Out.lp {α β:Type}:Out α->(α->AH->Out β)->Out β
 | .ok a H,k=>k a H
 | .exc _ _,_=>.stuck
 | .stuck,_=>.stuck
noncomputable def loopO {α:Type}(f:AV->α->AH->Out α):LA->α->AH->Out α
 | [],a,H=>.ok a H
 | x::l,a,H=>(f x a H).lp (loopO f l)
noncomputable def Jk:List Nat->LA->LA->Option (LA)
 | [],[],J=>some J
 | k::ks,v::vs,J=>Jk ks vs (J.set k v)
 | _,_,_=>none
noncomputable def bindT (t:List Nat)(one:Bool)(x:AV)(J:LA):Option (LA) :=
 if one then Jk t [x] J else match x with
  | .tup l=>Jk t l J
  | _=>none
noncomputable def AV.isU (v:AV):Bool:=v.ctorIdx==0
noncomputable def AV.set? (v:AV):Option AV:=bif v.isU then Option.none else some v
noncomputable def clrOk:List PG->LA->Bool
 | [],_=>true
 | .mk t _ _ _::gs,J=>t.all (λk=>J[k]?.all AV.isU)&&clrOk gs J
noncomputable def notCell (v:AV):Bool:=!(v.ctorIdx==9)
noncomputable def AV.isFn (v:AV):Bool:=v.ctorIdx==10||v.ctorIdx==12
noncomputable def callV (C:Orc)(v:AV)(as:LA)(H:AH):Out AV:=AV.casesOn (motive_1:=λ_=>Out AV) v .stuck .stuck (λz=>.stuck) (λz=>.stuck) (λz=>.stuck) (λz=>.stuck) (λz=>.stuck) (λz z=>.stuck) (λz z z=>.stuck) (λz=>.stuck) (λa=>C.f a as H) (λz z=>.stuck) (λk=>C.l k as H)
noncomputable def boK (d:Bool)(k:Out AV)(v:AV)(H:AH)(o:Option Bool):Out AV:=match o with
 | some t=>bif t==d then k else .ok v H
 | none=>.stuck
mutual
noncomputable def evE (C:Orc)(J:LA):PE->AH->Out AV
 | .non,H=>.ok .none H
 | .tru b,H=>.ok (.bool b) H
 | .int i,H=>.ok (.int i) H
 | .str s,H=>.ok (.str s) H
 | .loc k,H=>.opt (J[k]?.bind AV.set?) λv=>.ok v H
 | .glob _ v,H=>.ok v H
 | .bin o a b,H=>(evE C J a H).bind λx H=>(evE C J b H).bind λy H=>.ofOpt (pBin o x y) H
 | .neg a,H=>(evE C J a H).bind λx H=>.opt x.int? λi=>.ok (.int (-i)) H
 | .cmp c a b,H=>(evE C J a H).bind λx H=>(evE C J b H).bind λy H=>.ofOpt ((pCmp H c x y).map .bool) H
 | .nt a,H=>(evE C J a H).bind λx H=>.ofOpt ((pTruth x).map λb=>.bool !b) H
 | .and l,H=>evB C J true l H
 | .or l,H=>evB C J false l H
 | .ife t a b,H=>(evE C J t H).bind λc H=>.opt (pTruth c) λt=>bif t then evE C J a H else evE C J b H
 | .call f as,H=>(evE C J f H).bind λv H=>if v.isFn=true then (evL C J as H).bind λvs H=>callV C v vs H else .stuck
 | .new _ D init as,H=>(evL C J as H).bind λvs H=>(C.f init (.cell H.length::vs) (H++[.obj D [] []])).bind λr H'=>match r with | .none=>.ok (.cell H.length) H' | _=>.stuck
 | .meth o D _ f as,H=>(evE C J o H).bind λv H=>.opt (objOf H v) λq=>if q.1=D then (evL C J as H).bind λvs H=>C.f f (v::vs) H else .stuck
 | .push o x,H=>(evE C J o H).bind λv H=>.opt v.cell? λi=>.opt (lstOf H v) λ_=>(evE C J x H).bind λy H=>.opt (H[i]?.bind AC.lst?) λl =>
  if l.length<=100000 then .ok .none (H.set i (.lst (l++[y]))) else .stuck
 | .pop0 o,H=>(evE C J o H).bind λv H=>.opt v.cell? λi=>.opt (H[i]?.bind AC.lst?) λl=>.opt l.head? λx =>
  if l.tail.length<=100000 then .ok x (H.set i (.lst l.tail)) else .stuck
 | .dget o k,H=>(evE C J o H).bind λv H=>.opt v.dct? λq=>(evE C J k H).bind λx H=>.opt x.str? λs=>.ok ((keyAt q.1 q.2 s).getD .none) H
 | .attr o n,H=>(evE C J o H).bind λv H=>.opt (objOf H v) λq=>.ofOpt (keyAt q.2.1 q.2.2 n) H
 | .sub o i,H=>(evE C J o H).bind λv H=>(evE C J i H).bind λx H=>.ofOpt (pSub H v x) H
 | .upto o i,H=>(evE C J o H).bind λv H=>(evE C J i H).bind λx H=>.opt v.lst? λl=>.opt x.int? λk=>if 0<=k/\k<1000000/\l.length<=1000000 then .ok (.lst (l.take k.toNat)) H else .stuck
 | .from o i,H=>(evE C J o H).bind λv H=>(evE C J i H).bind λx H=>.opt v.lst? λl=>.opt x.int? λk=>if 0<=k/\k<=l.length/\l.length<=1000000 then .ok (.lst (l.drop k.toNat)) H else .stuck
 | .rep o n mu,H=>(evE C J o H).bind λv H=>(evE C J n H).bind λx H=>.opt x.int? λk=>if 0<=k/\k<100000 then newC H mu (List.replicate k.toNat v) else .stuck
 | .cat a b,H=>(evE C J a H).bind λv H=>(evE C J b H).bind λx H=>.opt v.lst? λl=>.opt x.lst? λr=>if l.length+r.length<=1000000 then .ok (.lst (l++r)) H else .stuck
 | .len a,H=>(evE C J a H).bind λv H=>.opt (seqOf H v) λl=>if l.length<=1000000 then .ok (.int l.length) H else .stuck
 | .abs a,H=>(evE C J a H).bind λx H=>.opt x.int? λi=>.ok (.int i.natAbs) H
 | .sum a,H=>(evE C J a H).bind λx H=>.opt x.lst? λl=>.opt (sumInts l) λt=>.ok (.int t) H
 | .min a b,H=>(evE C J a H).bind λx H=>(evE C J b H).bind λy H=>.opt x.int? λi=>.opt y.int? λj=>.ok (.int (if j<i then j else i)) H
 | .intof a,H=>(evE C J a H).bind λx H=>.opt x.int? λi=>.ok (.int i) H
 | .strof a,H=>(evE C J a H).bind λx H=>.opt x.int? λi=>if i.natAbs<1000000 then .ok (.str (toString i)) H else .stuck
 | .range a b,H=>(evE C J a H).bind λx H=>(evE C J b H).bind λy H=>.opt x.int? λi=>.opt y.int? λj=>if i.natAbs<1000000/\j.natAbs<1000000 then .ok (.rng i j) H else .stuck
 | .range1 a,H=>(evE C J a H).bind λx H=>.opt x.int? λi=>if i.natAbs<1000000 then .ok (.rng 0 i) H else .stuck
 | .list a mu,H=>(evE C J a H).bind λx H=>.opt x.lst? λl=>if l.length<=100000 then newC H mu l else .stuck
 | .isinst a _ D,H=>(evE C J a H).bind λx H=>.opt (objOf H x) λq=>if q.1=D then .ok (.bool true) H else .stuck
 | .lst l mu,H=>(evL C J l H).bind λvs H=>newC H mu vs
 | .tup l,H=>(evL C J l H).bind λvs H=>.ok (.tup vs) H
 | .dct ks l mu,H=>(evL C J l H).bind λvs H=>if ks.length=vs.length/\ks.Nodup then (if mu then .ok (.cell H.length) (H++[.dct ks vs]) else .ok (.dct ks vs) H) else .stuck
 | .comp e gs mu,H=>if clrOk gs J=true then (evG C (λJ H=>evE C J e H) gs J [] H).bind λvs H=>newC H mu vs else .stuck
 | .lam k,H=>.ok (.lam k) H
 | .fmt a,H=>(evE C J a H).bind λx H=>.opt x.int? λi=>if i.natAbs<1000000 then .ok (.str (toString i)) H else .stuck
 | .fstr l,H=>evJ C J l "" H
 | .frz a,H=>(evE C J a H).bind λv H=>pFrz H v
 | .bad,_=>.stuck
noncomputable def evL (C:Orc)(J:LA):List PE->AH->Out (LA)
 | [],H=>.ok [] H
 | e::l,H=>(evE C J e H).bind λv H=>(evL C J l H).bind λvs H=>.ok (v::vs) H
noncomputable def evJ (C:Orc)(J:LA):List PE->String->AH->Out AV
 | [],acc,H=>.ok (.str acc) H
 | e::l,acc,H=>(evE C J e H).bind λv H=>.opt v.str? λs=>if (acc++s).length<=100000 then evJ C J l (acc++s) H else .stuck
noncomputable def evB (C:Orc)(J:LA)(d:Bool):List PE->AH->Out AV
 | [],_=>.stuck
 | [e],H=>evE C J e H
 | e::e'::l,H=>(evE C J e H).bind λv H=>boK d (evB C J d (e'::l) H) v H (pTruth v)
noncomputable def evIfs (C:Orc)(J:LA):List PE->AH->Out Bool
 | [],H=>.ok true H
 | e::l,H=>(evE C J e H).bind λv H=>.opt (pTruth v) λb=>bif b then evIfs C J l H else .ok false H
noncomputable def evG (C:Orc)(k:LA->AH->Out AV):List PG->LA->LA->AH->Out (LA)
 | [],J,acc,H=>(k J H).bind λv H=>if acc.length<=100000 then .ok (acc++[v]) H else .stuck
 | .mk t one it ifs::gs,J,acc,H=>(evE C J it H).bind λv H=>.opt (itemsOf v) λl=>loopO (λx acc H=>.opt (bindT t one x J) λJ'=>(evIfs C J' ifs H).bind λb H=>if b=true then evG C k gs J' acc H else .ok acc H) l acc H
end
noncomputable abbrev evAnd (C:Orc)(J:LA):=evB C J true
noncomputable abbrev evOr (C:Orc)(J:LA):=evB C J false
inductive Fl where
 | next | cont | ret (v:AV)
inductive OS where
 | ok (f:Fl)(J:LA)(H:AH) | exc (m:AV) (J:LA) (H:AH) | stuck
noncomputable def OS.bind:OS->(Fl->LA->AH->OS)->OS
 | .ok f J H,k=>k f J H
 | .exc m J H,_=>.exc m J H
 | .stuck,_=>.stuck
@[simp] theorem OS.bind_ok (f J H k):(OS.ok f J H).bind k=k f J H:=rfl
@[simp] theorem OS.bind_exc (m J H k):(OS.exc m J H).bind k=.exc m J H:=rfl
@[simp] theorem OS.bind_stuck (k):OS.stuck.bind k=.stuck:=rfl
noncomputable def Out.st {α:Type}(o:Out α)(J:LA)(k:α->AH->OS):OS:=match o with
 | .ok a H=>k a H
 | .exc m H=>.exc m J H
 | .stuck=>.stuck
@[simp] theorem Out.st_ok {α:Type}(a:α)(H J k):(Out.ok a H).st J k=k a H:=rfl
@[simp] theorem Out.st_exc {α:Type}(m:AV)(H J)(k:α->AH->OS):(Out.exc m H).st J k=.exc m J H:=rfl
@[simp] theorem Out.st_stuck {α:Type}(J)(k:α->AH->OS):Out.stuck.st J k=.stuck:=rfl
noncomputable def setSub (H:AH)(o i v:AV):Option AH:=o.cell?.bind λc=>i.ix
 (λk=>(H[c]?.bind AC.lst?).bind λl=>if 0<=k/\k<l.length/\l.length<=1000000 then some (H.set c (.lst (l.set k.toNat v))) else none)
 λs=>(H[c]?.bind AC.dct?).bind λq=>if q.1.length<=100 then some (H.set c (.dct (Qj q.1 q.2 s v).1 (Qj q.1 q.2 s v).2)) else none
noncomputable def setAttr (H:AH)(o:AV)(n:String)(v:AV):Option AH:=o.cell?.bind λc=>(H[c]?.bind AC.obj?).bind λq =>
 if attrC q.1 n=true/\q.2.1.length<=100 then some (H.set c (.obj q.1 (Qj q.2.1 q.2.2 n v).1 (Qj q.2.1 q.2.2 n v).2)) else none
noncomputable def obT {α:Type}(o:Option α)(k:α->OS):OS:=match o with
 | some a=>k a
 | none=>.stuck
mutual
noncomputable def asg (C:Orc):PT->AV->LA->AH->OS
 | .loc k,v,J,H=>.ok .next (J.set k v) H
 | .attr o n,v,J,H=>(evE C J o H).st J λx H=>obT (Internal.setAttr H x n v) λH=>.ok .next J H
 | .sub o i,v,J,H=>(evE C J o H).st J λx H=>(evE C J i H).st J λy H=>obT (setSub H x y v) λH=>.ok .next J H
 | .tup ts,v,J,H=>obT v.sq? λl=>if l.length=ts.length then asgs C ts l J H else .stuck
noncomputable def asgs (C:Orc):List PT->LA->LA->AH->OS
 | [],_,J,H=>.ok .next J H
 | t::ts,v::vs,J,H=>(asg C t v J H).bind λ_ J H=>asgs C ts vs J H
 | _::_,[],_,_=>.stuck
end
noncomputable def OS.lp:OS->(LA->AH->OS)->OS
 | .ok .next J H,k=>k J H
 | .ok .cont J H,k=>k J H
 | .ok (.ret v) J H,_=>.ok (.ret v) J H
 | .exc _ _ _,_=>.stuck
 | .stuck,_=>.stuck
noncomputable def loopS (f:AV->LA->AH->OS):LA->LA->AH->OS
 | [],J,H=>.ok .next J H
 | x::l,J,H=>(f x J H).lp (loopS f l)
noncomputable def whK (r:Out Bool)(J:LA)(b:LA->AH->OS)(k:LA->AH->OS):OS:=match r with
 | .ok true H=>(b J H).lp k
 | .ok false H=>.ok .next J H
 | .exc _ _=>.stuck
 | .stuck=>.stuck
noncomputable def whileN (t:LA->AH->Out Bool)(b:LA->AH->OS):Nat->LA->AH->OS
 | 0,_,_=>.stuck
 | n+1,J,H=>whK (t J H) J b (whileN t b n)
open Classical in
noncomputable def whileO (t:LA->AH->Out Bool)(b:LA->AH->OS)(J:LA)(H:AH):OS :=
 if h:∃n,whileN t b n J H≠.stuck then whileN t b (Classical.choose h) J H else .stuck
noncomputable def evT (C:Orc)(J:LA)(e:PE)(H:AH):Out Bool:=(evE C J e H).bind λv H=>.ofOpt (pTruth v) H
noncomputable def forI (g:LA->LA->AH->OS)(J:LA)(H:AH)(o:Option (LA)):OS:=obT o λl=>g l J H
noncomputable def AV.drop? (v:AV):Option Unit:=AV.casesOn (motive_1:=λ_=>Option Unit) v Option.none (some ()) (λz=>Option.none) (λ_=>some ()) (λz=>Option.none) (λz=>Option.none) (λz=>Option.none) (λz z=>Option.none) (λz z z=>Option.none) (λz=>Option.none) (λz=>Option.none) (λz z=>Option.none) (λz=>Option.none)
noncomputable def OS.ctch:OS->(AV->LA->AH->OS)->OS
 | .exc m J H,k=>k m J H
 | .ok f J H,_=>.ok f J H
 | .stuck,_=>.stuck
noncomputable def Fl.nx (k:LA->AH->OS)(f:Fl)(J:LA)(H:AH):OS:=match f with
 | .next=>k J H
 | .cont=>.ok .cont J H
 | .ret v=>.ok (.ret v) J H
mutual
noncomputable def evS (C:Orc):PS->LA->AH->OS
 | .asg t e,J,H=>(evE C J e H).st J λv H=>asg C t v J H
 | .aug k o e,J,H=>(evE C J (.loc k) H).st J λx H=>(evE C J e H).st J λy H=>obT (pBin o x y) λv=>.ok .next (J.set k v) H
 | .exp e,J,H=>(evE C J e H).st J λv H=>obT v.drop? λ_=>.ok .next J H
 | .ret e,J,H=>(evE C J e H).st J λv H=>.ok (.ret v) J H
 | .ret0,J,H=>.ok (.ret .none) J H
 | .ite t a b,J,H=>(evT C J t H).st J λc H=>if c=true then evSs C a J H else evSs C b J H
 | .whl t b,J,H=>whileO (λJ H=>evT C J t H) (λJ H=>evSs C b J H) J H
 | .for_ t one it b,J,H=>(evE C J it H).st J λv H=>forI (loopS λx J H=>obT (bindT t one x J) λJ=>evSs C b J H) J H (itemsOf v)
 | .cont,J,H=>.ok .cont J H
 | .pass,J,H=>.ok .next J H
 | .raise e,J,H=>(evE C J e H).st J λv H=>.exc v J H
 | .tryR b k ek,J,H=>(evSs C b J H).ctch λm J H=>if ek<J.length then .ok .next ((J.set k m).set ek .unset) H else .stuck
 | .bad,_,_=>.stuck
noncomputable def evSs (C:Orc):List PS->LA->AH->OS
 | [],J,H=>.ok .next J H
 | p::r,J,H=>(evS C p J H).bind (Fl.nx (evSs C r))
end
structure FD where
 np:Nat
 dflt:LA
 ns:Nat
 body:List PS
noncomputable def FD.frame (d:FD)(as:LA):Option (LA) :=
 if as.length<=d.np/\d.np<=as.length+d.dflt.length then
  some (as++d.dflt.drop (as.length+d.dflt.length-d.np)++List.replicate (d.ns-d.np) .unset) else none
noncomputable def OS.out (o:OS):Out AV:=match o with
 | .ok (.ret v) _ H=>.ok v H
 | .ok _ _ H=>.ok .none H
 | .exc m _ H=>.exc m H
 | .stuck=>.stuck
@[simp] theorem OS.out_ret (v J H):(OS.ok (.ret v) J H).out=.ok v H:=rfl
@[simp] theorem OS.out_next (J H):(OS.ok .next J H).out=.ok .none H:=rfl
@[simp] theorem OS.out_exc (m J H):(OS.exc m J H).out=.exc m H:=rfl
noncomputable def pureOut (H:AH)(o:Out AV):Out AV:=match o with
 | .ok v _=>if v.nc=true then .ok v H else .stuck
 | .exc m _=>if m.nc=true then .exc m H else .stuck
 | .stuck=>.stuck
noncomputable def runF (C:Orc)(d:FD)(as:LA)(H:AH):Out AV:=.opt (d.frame as) λJ=>(evSs C d.body J H).out
noncomputable def pureG (C:Orc)(as:LA)(H:AH)(d:FD):Out AV:=if AV.ncs as=true then pureOut H (runF C d as []) else .stuck
noncomputable def runO (C:Orc)(as:LA)(H:AH)(p:Bool × FD):Out AV:=bif p.1 then pureG C as H p.2 else runF C p.2 as H
open Classical in
noncomputable def run (T:Nat->Option (Bool × FD))(U:Nat->Option FD):Nat->Orc
 | 0=>⟨λ_ _ _=>.stuck,λ_ _ _=>.stuck⟩
 | n+1=>⟨λf as H=>.opt (T f) (runO (run T U n) as H),λk as H=>.opt (U k) (pureG (run T U n) as H)⟩
end
end
section
abbrev CM:=List (Addr × List Addr)
noncomputable def adr (cm:CM):List Addr:=cm.flatMap (·.2)
noncomputable def stab (o:Obj):Bool:=match o.data with
 | .fields _=>o.cls==.type "range"||o.cls==.type "code"
 | _=>true
abbrev Rl:=Addr->Obj->Prop
noncomputable def Rr (FX:List Addr)(cm:CM)(h:Heap):Rl:=λa o=>h.get? a=some o/\stab o=true/\a ∉ FX/\a ∉ adr cm
noncomputable abbrev rangeObj (a b:Int)(t u v:Tok):Obj:={cls:=.type "range",dict:=none,data:=.fields #[.int a t,.int b u,.int 1 v],slots:=#[]}
inductive SeqP (R:Rl)(k:String)(v:Value)(Q:List Value->Prop):Prop where
 | mk (a:Addr)(o:Obj)(vs:List Value)(n:Nat)(e:v=.ref a)(r:R a o)(hc:o.cls=.type k)(hd:o.data=.seq (List.toArray vs) n)(q:Q vs)
inductive LstAt (h:Heap)(x:Value)(A:Obj->Prop)(Q:List Value->Prop):Prop where
 | mk (a:Addr)(o:Obj)(xs:List Value)(n:Nat)(e:x=.ref a)(g:h.get? a=some o)(d:o.data=.seq (List.toArray xs) n)(q:Q xs)(hc:A o)
inductive DctAt (w:World)(h:Heap)(x:Value)(Q:List (Str × Value)->Prop):Prop where
 | mk (a:Addr)(o:Obj)(kvs:List (Str × Value))(e:x=.ref a)(g:h.get? a=some o)(lo:(a==sysModules)=false)(d:o.IsDictOf (strKind P0 w) kvs)(q:Q kvs)
inductive ObjAt (h:Heap)(D:Nat)(y:Value)(A:Prop)(Q:List DictEntry->Prop):Prop where
 | mk (a d:Addr)(ds:List DictEntry)(m:Nat)(e:y=.ref a)(g:h.get? a=some (instObj D d))(g2:h.get? d=some (dictOf ds m))(ac:A)(q:Q ds)
inductive CelL (h:Heap)(p:Addr × List Addr)(Q:List Value->Prop):Prop where
 | mk (e:p.2=[p.1])(xs:List Value)(m:Nat)(g:h.get? p.1=some {cls:=.type "list",dict:=none,data:=.seq (List.toArray xs) m,slots:=#[]})(q:Q xs)
inductive DctP (w:World)(R:Rl)(v:Value)(Q:List (Str × Value)->Prop):Prop where
 | mk (a:Addr)(o:Obj)(kvs:List (Str × Value))(e:v=.ref a)(r:R a o)(n1:a≠1)(d:o.IsDictOf (strKind P0 w) kvs)(q:Q kvs)
inductive ObjP (R:Rl)(C:Nat)(v:Value)(A:Prop)(Q:List DictEntry->Prop):Prop where
 | mk (x d:Addr)(ds:List DictEntry)(n:Nat)(e:v=.ref x)(r:R x (instObj C d))(r2:R d (dictOf ds n))(ha:A)(q:Q ds)
inductive RngP (R:Rl)(a b:Int)(v:Value):Prop where
 | mk (r:Addr)(t u w:Tok)(e:v=.ref r)(h:R r (rangeObj a b t u w))(ha:a.natAbs<1000000)(hb:b.natAbs<1000000)
inductive LamP (R:Rl)(L:FuncData->Prop)(v:Value):Prop where
 | mk (r:Addr)(o:Obj)(e:v=.ref r)(h:R r o)(fd:FuncData)(c':Addr)(oc:Obj)(vs:Array Value)(t:Tok)(hd:o.data=.func fd)(hf:fd.code=.ref c')(hr:R c' oc)(hv:oc.data=.fields vs)(hq:vs[1]?=some (.str fd.qualname t))(hl:L fd)
inductive ConsP (vs:List Value)(P:Value->Prop)(Q:List Value->Prop):Prop where
 | mk (v:Value)(r:List Value)(e:vs=v::r)(p:P v)(q:Q r)
inductive ConsK (ks:List String)(kvs:List (Str × Value))(P:Value->Prop)(Q:List String->List (Str × Value)->Prop):Prop where
 | mk (k:String)(ks':List String)(v:Value)(r:List (Str × Value))(e1:ks=k::ks')(e2:kvs=(Str.ofString k,v)::r)(p:P v)(q:Q ks' r)
inductive ConsD (w:World)(ks:List String)(ds:List DictEntry)(P:Value->Prop)(Q:List String->List DictEntry->Prop):Prop where
 | mk (k:String)(ks':List String)(v:Value)(t:Tok)(r:List DictEntry)(e1:ks=k::ks')(e2:ds=⟨PyData.keyHash w.params (Str.ofString k),.str (Str.ofString k) t,v⟩::r)(p:P v)(q:Q ks' r)
section
variable (w:World)(LO:Nat->FuncData->Prop)(R:Rl)(cm:CM)
mutual
noncomputable def rep:AV->Value->Prop
 | .unset,_=>False
 | .none,v=>v=.none
 | .bool b,v=>v=.bool b
 | .int i,v=>∃t,v=.int i t
 | .str s,v=>∃t,v=.str (Str.ofString s) t
 | .tup l,v=>SeqP R "tuple" v λvs=>reps l vs
 | .lst l,v=>SeqP R "list" v λvs=>reps l vs
 | .dct ks l,v=>DctP w R v λkvs=>repk ks l kvs
 | .obj C ks l,v=>ObjP R C v (∀k∈ks,attrC C k=true) λds=>repd ks l ds
 | .cell i,v=>∃p,cm[i]?=some p/\v=.ref p.1
 | .kref a,v=>v=.ref a
 | .rng a b,v=>RngP R a b v
 | .lam k,v=>LamP R (LO k) v
noncomputable def repk:List String->LA->List (Str × Value)->Prop
 | ks,[],kvs=>ks=[]/\kvs=[]
 | ks,x::l,kvs=>ConsK ks kvs (rep x) λks' r=>repk ks' l r
noncomputable def reps:LA->List Value->Prop
 | [],vs=>vs=[]
 | x::l,vs=>ConsP vs (rep x) λr=>reps l r
noncomputable def repd:List String->LA->List DictEntry->Prop
 | ks,[],ds=>ks=[]/\ds=[]
 | ks,x::l,ds=>ConsD w ks ds (rep x) λks' r=>repd ks' l r
end
end
section
variable {w:World}{LO:Nat->FuncData->Prop}{R R':Rl}{cm cm':CM}
noncomputable def CMle (cm cm':CM):Prop:=∀(i:Nat) p,cm[i]?=some p->∃p',cm'[i]?=some p'/\p'.1=p.1/\(p'.2=p.2\/p'.2=[])
theorem CMle.refl (cm:CM):CMle cm cm:=λ_ p e=>⟨p,e,rfl,.inl rfl⟩
theorem CMle.trans {a b c:CM}(x:CMle a b)(y:CMle b c):CMle a c:=λi p e=>by
 obtain⟨p1,e1,f1,g1⟩:=x i p e;obtain⟨p2,e2,f2,g2⟩:=y i p1 e1;refine⟨p2,e2,f2.trans f1,?_⟩;rcases g2 with g2 | g2
 ·rcases g1 with g1 | g1
  ·exact .inl (g2.trans g1)
  ·exact .inr (g2.trans g1)
 ·exact .inr g2
theorem nF {p:Prop}(h:true=false):p:=(Bool.noConfusion h)
inductive UpL (w:World)(LO:Nat->FuncData->Prop)(R R':Rl)(cm cm':CM)(l:LA):Prop where
 | mk (s:∀vs,reps w LO R cm l vs->reps w LO R' cm' l vs)(k:∀ks ds,repk w LO R cm ks l ds->repk w LO R' cm' ks l ds)(d:∀ks ds,repd w LO R cm ks l ds->repd w LO R' cm' ks l ds)
theorem UT:UpL w LO R R' cm cm' []:=⟨λ_ h=>h,λ_ _ h=>h,λ_ _ h=>h⟩
theorem UV {x:AV}{l:LA}(hx:∀v,rep w LO R cm x v->rep w LO R' cm' x v)(hl:UpL w LO R R' cm cm' l):UpL w LO R R' cm cm' (x::l):=by
 obtain⟨s,k,d⟩:=hl;refine⟨λvs h=>?_,λks ds h=>?_,λks ds h=>?_⟩
 ·obtain⟨v,r,e,h1,h2⟩:=h; exact⟨v,r,e,hx v h1,s r h2⟩
 ·obtain⟨q,ks',v,r,e1,e2,h1,h2⟩:=h; exact⟨q,ks',v,r,e1,e2,hx v h1,k ks' r h2⟩
 ·obtain⟨q,ks',v,t,r,e1,e2,h1,h2⟩:=h; exact⟨q,ks',v,t,r,e1,e2,hx v h1,d ks' r h2⟩
theorem Zg {b:Bool}(hR:∀a o,R a o->R' a o)(hc:b=false->CMle cm cm')(x:AV):(b=true->x.nc=true)->∀v,rep w LO R cm x v->rep w LO R' cm' x v:=by
 refine AV.rec (motive_1:=λx=>(b=true->x.nc=true)->∀v,rep w LO R cm x v->rep w LO R' cm' x v) (motive_2:=λl=>(b=true->AV.ncs l=true)->UpL w LO R R' cm cm' l) (λ_ _ h=>h.elim) (λ_ _ h=>h) (λ_ _ _ h=>h) (λ_ _ _ h=>h) (λ_ _ _ h=>h) ?_ ?_ ?_ ?_ ?_ (λ_ _ _ h=>h) ?_ ?_ (λ_=>UT) ?_ x
 ·intro l ih q v h
  obtain⟨a,o,vs,n,e,r,c,d,z⟩:=h; obtain⟨s,-,-⟩:=ih q; exact⟨a,o,vs,n,e,hR _ _ r,c,d,s vs z⟩
 ·intro l ih q v h
  obtain⟨a,o,vs,n,e,r,c,d,z⟩:=h; obtain⟨s,-,-⟩:=ih q; exact⟨a,o,vs,n,e,hR _ _ r,c,d,s vs z⟩
 ·intro ks l ih q v h
  obtain⟨a,o,kvs,e,r,lo,d,z⟩:=h; obtain⟨-,s,-⟩:=ih q; exact⟨a,o,kvs,e,hR _ _ r,lo,d,s ks kvs z⟩
 ·intro C ks l ih q v h
  obtain⟨a,d,ds,n,e,r,r2,ac,z⟩:=h; obtain⟨-,-,s⟩:=ih q; exact⟨a,d,ds,n,e,hR _ _ r,hR _ _ r2,ac,s ks ds z⟩
 ·intro i q v h
  cases b with
  | true=>exact nf (q rfl)
  | false=>obtain⟨p,e,h⟩:=h; obtain⟨p',e',f,-⟩:=hc rfl i p e; exact⟨p',e',h.trans (congrArg Value.ref f.symm)⟩
 ·intro a b q v h
  obtain⟨r,t,u,w,e,q,z,z2⟩:=h; exact⟨r,t,u,w,e,hR _ _ q,z,z2⟩
 ·intro k q v h
  obtain⟨r,o,e,q,fd,c',oc,vs,t,z1,z2,z3,z4,z5,z6⟩:=h; exact⟨r,o,e,hR _ _ q,fd,c',oc,vs,t,z1,z2,hR _ _ z3,z4,z5,z6⟩
 ·intro x l h1 h2 q
  exact UV (h1 λe=>(Bool.and_eq_true_iff.mp (q e)).1) (h2 λe=>(Bool.and_eq_true_iff.mp (q e)).2)
theorem Yh {b:Bool}(hR:∀a o,R a o->R' a o)(hc:b=false->CMle cm cm')(l:LA):(b=true->AV.ncs l=true)->UpL w LO R R' cm cm' l:=by
 induction l with
 | nil=>exact λ_=>UT
 | cons x l ih=>exact λq=>UV (Zg hR hc x λe=>(Bool.and_eq_true_iff.mp (q e)).1) (ih λe=>(Bool.and_eq_true_iff.mp (q e)).2)
theorem rep_mono (hR:∀a o,R a o->R' a o)(hc:CMle cm cm')(x:AV)(v:Value):rep w LO R cm x v->rep w LO R' cm' x v:=Zg hR (λ_=>hc) x nf v
theorem reps_mono (hR:∀a o,R a o->R' a o)(hc:CMle cm cm')(l:LA)(vs:List Value):reps w LO R cm l vs->reps w LO R' cm' l vs:=(Yh hR (λ_=>hc) l nf).rec λs _ _=>s vs
theorem repk_mono (hR:∀a o,R a o->R' a o)(hc:CMle cm cm')(ks:List String)(l:LA)(ds:List (Str × Value)):repk w LO R cm ks l ds->repk w LO R' cm' ks l ds:=(Yh hR (λ_=>hc) l nf).rec λ_ k _=>k ks ds
theorem repd_mono (hR:∀a o,R a o->R' a o)(hc:CMle cm cm')(ks:List String)(l:LA)(ds:List DictEntry):repd w LO R cm ks l ds->repd w LO R' cm' ks l ds:=(Yh hR (λ_=>hc) l nf).rec λ_ _ d=>d ks ds
theorem QL {l:LA}:∀{vs:List Value},reps w LO R cm l vs->vs.length=l.length:=by
 induction l with
 | nil =>
  intro _ h;rw[show _=[] from h]; rfl
 | cons x l ih =>
  rintro _ ⟨v,r,e,_,h⟩
  simp only[e,List.length_cons,List.length_cons,ih h]
theorem UW {l:LA}:∀{vs:List Value} {i:Nat} {x:AV},reps w LO R cm l vs->l[i]?=some x->∃v,vs[i]?=some v/\rep w LO R cm x v:=by
 induction l with
 | nil=>intro _ i x _ h; exact no h
 | cons y l ih =>
  intro _ i x q h;obtain⟨v,r,e,h1,h2⟩:=q;subst e;cases i with
  | zero=>cases h; exact⟨v,rfl,h1⟩
  | succ i=>exact ih (i:=i) h2 h
theorem Wq {l:LA}:∀{m:LA} {vs ws:List Value},reps w LO R cm l vs->reps w LO R cm m ws->reps w LO R cm (l++m) (vs++ws):=by
 induction l with
 | nil =>
  intro m _ ws h k;rw[show _=[] from h]; exact k
 | cons x l ih =>
  rintro m _ ws ⟨v,r,e,h1,h2⟩ k
  subst e; exact⟨v,r++ws,rfl,h1,ih h2 k⟩
theorem U0 {x:AV}{v:Value}(h:rep w LO R cm x v):reps w LO R cm [x] [v]:=⟨v,[],rfl,h,rfl⟩
theorem wD {l:LA}:∀{vs:List Value} (n:Nat),reps w LO R cm l vs->reps w LO R cm (l.take n) (vs.take n):=by
 induction l with
 | nil=>intro _ n h; rw[show _=[] from h]; cases n<;>exact rfl
 | cons x l ih =>
  intro _ n q;obtain⟨v,r,e,h1,h2⟩:=q;subst e;cases n with
  | zero=>exact rfl
  | succ n=>exact⟨v,r.take n,rfl,h1,ih n h2⟩
theorem wF {l:LA}:∀{vs:List Value} (n:Nat),reps w LO R cm l vs->reps w LO R cm (l.drop n) (vs.drop n):=by
 induction l with
 | nil=>intro _ n h; rw[show _=[] from h]; cases n<;>exact rfl
 | cons x l ih =>
  intro _ n q;cases n with
  | zero=>exact q
  | succ n =>
   obtain⟨v,r,e,h1,h2⟩:=q;subst e; exact ih n h2
theorem wG {l:LA}:∀{vs:List Value} {x:AV} {v:Value} (n:Nat),reps w LO R cm l vs->rep w LO R cm x v->reps w LO R cm (l.set n x) (vs.set n v):=by
 induction l with
 | nil=>intro _ x v n h _; rw[show _=[] from h]; exact rfl
 | cons y l ih =>
  intro _ x v n q k;obtain⟨a,r,e,h1,h2⟩:=q;subst e;cases n with
  | zero=>exact⟨v,r,rfl,k,h2⟩
  | succ n=>exact⟨a,r.set n v,rfl,h1,ih n h2 k⟩
theorem wH {x:AV}{v:Value}(h:rep w LO R cm x v)(n:Nat):reps w LO R cm (List.replicate n x) (List.replicate n v):=by
 induction n with
 | zero=>exact rfl
 | succ n ih=>exact⟨v,List.replicate n v,rfl,h,ih⟩
theorem wI (cm2:CM)(x:AV)(v:Value)(q:x.nc=true):rep w LO R cm x v->rep w LO R cm2 x v:=Zg (b:=true) (λ_ _ h=>h) nF x (λ_=>q) v
theorem Zh (cm2:CM)(l:LA)(vs:List Value)(q:AV.ncs l=true):reps w LO R cm l vs->reps w LO R cm2 l vs:=(Yh (b:=true) (λ_ _ h=>h) nF l λ_=>q).rec λs _ _=>s vs
theorem wJ (cm2:CM)(ks:List String)(l:LA)(ds:List (Str × Value))(q:AV.ncs l=true):repk w LO R cm ks l ds->repk w LO R cm2 ks l ds:=(Yh (b:=true) (λ_ _ h=>h) nF l λ_=>q).rec λ_ k _=>k ks ds
theorem U3 (cm2:CM)(ks:List String)(l:LA)(ds:List DictEntry)(q:AV.ncs l=true):repd w LO R cm ks l ds->repd w LO R cm2 ks l ds:=(Yh (b:=true) (λ_ _ h=>h) nF l λ_=>q).rec λ_ _ d=>d ks ds
end
end
section
noncomputable abbrev gh:Addr:=1103
structure Cx where
 w:World
 h_1:Heap
 os_1:OsState
 LO:Nat->FuncData->Prop
 lq:Str
 p:Program
 loose:List Str
 mg:Str->Option Value
 mb:Str->Option Value
 X:(KX w.params).In h_1
 T:TopRead p loose mg mb h_1
 glow:h_1.get? gh≠none
 one:h_1.get? 1≠none
 blt:h_1.BuiltinsAt mg gh
inductive CLst (h:Heap)(a:Addr)(l:List Addr)(Q:List Value->Prop):Prop where
 | mk (e:l=[a])(xs:List Value)(o:Obj)(n:Nat)(g:h.get? a=some o)(hc:o.cls=.type "list")(hd:o.data=.seq (List.toArray xs) n)(h1:o.dict=none)(h2:o.slots=#[])(q:Q xs)
inductive CDct (w:World)(h:Heap)(a:Addr)(l:List Addr)(A:Prop)(Q:List (Str × Value)->Prop):Prop where
 | mk (e:l=[a])(o:Obj)(kvs:List (Str × Value))(g:h.get? a=some o)(d:o.IsDictOf (strKind P0 w) kvs)(hl:A)(q:Q kvs)
inductive CObj (h:Heap)(C:Nat)(a:Addr)(l:List Addr)(A B:Prop)(Q:List DictEntry->Prop):Prop where
 | mk (d:Addr)(e:l=[a,d])(ne:a≠d)(ds:List DictEntry)(n:Nat)(g:h.get? a=some (instObj C d))(g2:h.get? d=some (dictOf ds n))(hl:A)(ha:B)(q:Q ds)
section
variable (c:Cx)
abbrev Cx.rep (c:Cx)(FX:List Addr)(cm:CM)(h:Heap):AV->Value->Prop:=Internal.rep c.w c.LO (Rr FX cm h) cm
abbrev Cx.reps (c:Cx)(FX:List Addr)(cm:CM)(h:Heap):LA->List Value->Prop:=Internal.reps c.w c.LO (Rr FX cm h) cm
abbrev Cx.repk (c:Cx)(FX:List Addr)(cm:CM)(h:Heap):List String->LA->List (Str × Value)->Prop:=Internal.repk c.w c.LO (Rr FX cm h) cm
abbrev Cx.repd (c:Cx)(FX:List Addr)(cm:CM)(h:Heap):List String->LA->List DictEntry->Prop:=Internal.repd c.w c.LO (Rr FX cm h) cm
noncomputable def cellOk (FX:List Addr)(cm:CM)(h:Heap):Addr × List Addr->AC->Prop
 | (a,l),.lst vs=>CLst h a l λxs=>c.reps FX cm h vs xs
 | (a,l),.dct ks vs=>CDct c.w h a l (ks.length<=900) λkvs=>c.repk FX cm h ks vs kvs
 | (a,l),.obj C ks vs=>CObj h C a l (ks.length<=900) (∀k∈ks,attrC C k=true) λds=>c.repd FX cm h ks vs ds
 | (_,l),.dead=>l=[]
noncomputable def TabOk (FX:List Addr)(cm:CM)(h:Heap):Prop:=∃ps,h.get? gh=some (tabObj ps)/\TriplesOk ps.toList /\
 ∀pos cv,codeAmong pos ps.toList=some cv->∃c' oc vs t,cv=.ref c'/\Rr FX cm h c' oc/\oc.data=.fields vs/\vs[1]?=some (.str c.lq t)
structure Base (FX:List Addr)(s:Shared)(H:AH)(cm:CM):Prop where
 len:cm.length=H.length
 cells:∀(i:Nat) p x,cm[i]?=some p->H[i]?=some x->cellOk c FX cm s.heap p x
 lo:∀a,a∈FX\/a∈adr cm->c.h_1.get? a=none/\s.heap.get? a≠none
 dj:∀a,a∈FX->a ∉ adr cm
 nd:(adr cm).Nodup
 old:∀b o,b≠gh->c.h_1.get? b=some o->s.heap.get? b=some o
 gens:s.gens=#[]
 os:s.os=c.os_1
 tab:TabOk c FX cm s.heap
theorem TabOk.mono {c:Cx}{FX FX':List Addr}{cm cm':CM}{h h':Heap}(t:TabOk c FX cm h)(k:∀o,h.get? gh=some o->h'.get? gh=some o)(r:∀a o,Rr FX cm h a o->Rr FX' cm' h' a o):TabOk c FX' cm' h':=by
 obtain⟨ps,e,ok,z⟩:=t;refine⟨ps,k _ e,ok,λpos cv q=>?_⟩;obtain⟨c',oc,vs,tt,e1,e2,e3⟩:=z pos cv q;exact⟨c',oc,vs,tt,e1,r _ _ e2,e3⟩
end
structure Nx (FA FO:List Addr)(s:Shared)(cm:CM)(s':Shared)(cm':CM):Prop where
 keep:∀a o,s.heap.get? a=some o->a≠gh->a ∉ FA->a ∉ FO->a ∉ adr cm->s'.heap.get? a=some o
 outer:∀a o,s.heap.get? a=some o->a∈FO->∃sl,s'.heap.get? a=some {o with slots:=sl}
 cms:CMle cm cm'
 new:∀a,a∈adr cm'->a∈adr cm\/s.heap.get? a=none\/a=gh\/a∈FA\/a∈FO
 alive:∀a,s.heap.get? a≠none->s'.heap.get? a≠none
theorem Nx.refl (FA FO s cm):Nx FA FO s cm s cm:=⟨λ_ _ e _ _ _ _=>e,λ_ o e _=>⟨o.slots,e⟩,CMle.refl _,λ_ h=>.inl h,λ_ h=>h⟩
theorem Nx.out {FA FO s cm s' cm'}(x:Nx FA FO s cm s' cm'){a:Addr}{o:Obj}(e:s.heap.get? a=some o)(h0:a≠gh)(h1:a ∉ FA)(h2:a ∉ FO)(h3:a ∉ adr cm):a ∉ adr cm':=λq=>by
 rcases x.new a q with q | q | q | q | q
 ·exact h3 q
 ·rw[q] at e; exact no e
 ·exact h0 q
 ·exact h1 q
 ·exact h2 q
theorem Nx.trans {FA FO s cm s' cm' s'' cm''}(x:Nx FA FO s cm s' cm')(y:Nx FA FO s' cm' s'' cm''):Nx FA FO s cm s'' cm'' where
 keep a o e h0 h1 h2 h3:=y.keep a o (x.keep a o e h0 h1 h2 h3) h0 h1 h2 (x.out e h0 h1 h2 h3)
 outer a o e h:=by
  obtain⟨sl,e1⟩:=x.outer a o e h;obtain⟨sl',e2⟩:=y.outer a _ e1 h;exact⟨sl',e2⟩
 cms:=x.cms.trans y.cms
 new a h:=by
  rcases y.new a h with h | h | h
  ·exact x.new a h
  ·cases e:s.heap.get? a with
   | none=>exact .inr (.inl rfl)
   | some o =>
    by_cases h0:a=gh
    ·exact .inr (.inr (.inl h0))
    by_cases h1:a∈FA
    ·exact .inr (.inr (.inr (.inl h1)))
    by_cases h2:a∈FO
    ·exact .inr (.inr (.inr (.inr h2)))
    by_cases h3:a∈adr cm
    ·exact .inl h3
    replace h:=(x.keep a o e h0 h1 h2 h3) ▸ h
    cases h
  ·exact .inr (.inr h)
 alive a h:=y.alive a (x.alive a h)
theorem Rr.keeps {FA FO FX cm cm' s s'}(x:Nx FA FO s cm s' cm')(hFX:∀a,a∈FA\/a∈FO->a∈FX)(hg:∃ps,s.heap.get? gh=some (tabObj ps)):∀a o,Rr FX cm s.heap a o->Rr FX cm' s'.heap a o:=λa o q70=>by
 obtain⟨e,hs,h1,h2⟩:=q70;have h1':a ∉ FA/\a ∉ FO:=⟨λq=>h1 (hFX a (.inl q)),λq=>h1 (hFX a (.inr q))⟩;have h0:a≠gh:=λq=>by
  obtain⟨ps,hp⟩:=hg;subst q
  replace e:=hp ▸ e
  cases e;simp[stab] at hs
 exact⟨x.keep a o e h0 h1'.1 h1'.2 h2,hs,h1,x.out e h0 h1'.1 h1'.2 h2⟩
inductive CelP (env:Env)(ow:Str->Bool)(FA FO:List Addr)(x:Str):Prop where
 | mk (c:Addr)(e:env.cells.lookup x=some c)(ne:c≠env.locals)(m:c∈FA\/c∈FO)(o:ow x=true->c∈FA)
inductive ClsP (h:Heap)(a:Addr)(P:Option Value->Prop):Prop where
 | mk (o:Obj)(ov:Option Value)(e:h.get? a=some o)(d:o.data=.cell ov)(q:P ov)
inductive FrsP (h:Heap)(e:Env)(FA FO:List Addr):Prop where
 | mk (nm:e.scope.kind≠.module)(L:Addr)(o:Obj)(f:e.frame=some L)(g:h.get? L=some o)(n:∀vs,o.data≠.fields vs)(m:L∈FA\/L∈FO)
inductive NsP (h:Heap)(l:Addr)(P:(Str->Option Value)->Prop):Prop where
 | mk (m:Str->Option Value)(n:h.Ns l m)(q:P m)
structure EnvS (env:Env)(sc:List (Str × NameKind))(σ:List (Str × Nat))(ow:Str->Bool)(FA FO:List Addr):Prop where
 names:env.scope.names=sc
 kind:env.scope.kind=.function
 globals:env.globals=mainGlobals
 builtins:env.builtins=builtinsNs
 loc:env.locals∈FA
 inj:∀x y c,env.cells.lookup x=some c->env.cells.lookup y=some c->x=y
 cell:∀x k kd,σ.lookup x=some k->sc.lookup x=some kd->(kd=.cell\/kd=.free)->CelP env ow FA FO x
 slots:∀x y k kx ky,σ.lookup x=some k->σ.lookup y=some k->sc.lookup x=some kx->sc.lookup y=some ky->x=y
section
variable (c:Cx)
noncomputable def slotIs (FX:List Addr)(cm:CM)(h:Heap)(J:LA)(k:Nat)(v:Option Value):Prop :=
 ∀av,J[k]?=some av->av≠.unset->∃x,v=some x/\c.rep FX cm h av x
structure Fm where
 env:Env
 sc:List (Str × NameKind)
 σ:List (Str × Nat)
 ow:Str->Bool
 FA:List Addr
 FO:List Addr
 FZ:List Addr
 fs:List Env
 ok:EnvS env sc σ ow FA FO
noncomputable abbrev Fm.FX (f:Fm):List Addr:=f.FA++(f.FO++f.FZ)
structure Inv (f:Fm)(s:Shared)(J:LA)(H:AH)(cm:CM):Prop where
 base:Base c f.FX s H cm
 dj:∀a,a∈f.FA->a ∉ f.FO/\a ∉ f.FZ
 dj2:∀a,a∈f.FO->a ∉ f.FZ
 ns:NsP s.heap f.env.locals λm=>∀x k,f.σ.lookup x=some k->f.sc.lookup x=some .local->slotIs c f.FX cm s.heap J k (m x)
 cl:∀x k kd a,f.σ.lookup x=some k->f.sc.lookup x=some kd->(kd=.cell\/kd=.free)->f.env.cells.lookup x=some a ->
  ClsP s.heap a λov=>slotIs c f.FX cm s.heap J k ov
 frs:∀e∈f.fs,FrsP s.heap e f.FA f.FO
structure Room (f:Fm)(A:Around)(n:Nat):Prop where
 hh:A.handled=none
 depth:A.depth+3*n+10<=900
 units:A.units+40*n+100<=9000
 frames:A.frames=some f.fs
structure RoomC (f:Fm)(A:Around)(n:Nat):Prop where
 hh:A.handled=none
 depth:A.depth+3*n+8<=900
 units:A.units+40*n+80<=9000
 frames:A.frames=some f.fs
theorem Room.call {f:Fm}{A:Around}{n:Nat}(r:Room f A n):RoomC f A n:=⟨r.hh,Nat.le_trans (Nat.add_le_add_left (by decide) _) r.depth,Nat.le_trans (Nat.add_le_add_left (by decide) _) r.units,r.frames⟩
inductive FlP (h0:Heap)(FX:List Addr)(cm:CM)(h:Heap)(a:Addr)(x:Option Value)(v:Value):Prop where
 | mk (T:Addr)(oT:Obj)(ts:Array Value)(e:x=some (.ref T))(ne:T≠a)(g:h.get? T=some oT)(hc:oT.cls=.type "traceback")(hd:oT.data=.fields ts)(h3:ts[3]?=some v)(h0':h0.get? T=none)(f:T ∉ FX)(ad:T ∉ adr cm)
inductive ExcP (h0:Heap)(FX:List Addr)(cm:CM)(h:Heap)(e:Value)(A:List DictEntry->Prop)(B:Addr->Array Value->Prop):Prop where
 | mk (a:Addr)(o:Obj)(d:Addr)(vs:Array Value)(ds:List DictEntry)(n:Nat)(e1:e=.ref a)(g:h.get? a=some o)(hc:o.cls=.ref 51)(hd:o.dict=some d)(hv:o.data=.fields vs)(n0:h0.get? a=none)(f:a ∉ FX)(ad:a ∉ adr cm)
  (r:Rr FX cm h d (dictOf ds n)) (q:A ds) (b:B a vs)
noncomputable def ExcF (h0:Heap)(FX:List Addr)(cm:CM)(h:Heap)(fl:Option Value)(e:Value)(m:AV):Prop :=
 ExcP h0 FX cm h e (λds=>c.repd FX cm h ["message"] [m] ds) λa vs=>match fl with
   | none=>vs[1]?=some .none
   | some v=>FlP h0 FX cm h a vs[1]? v
noncomputable def ExcAt (h0:Heap)(FX:List Addr)(cm:CM)(h:Heap)(e:Value)(m:AV):Prop:=ExcF c h0 FX cm h none e m\/ExcF c h0 FX cm h (some .none) e m
noncomputable def GPost {α β:Type}(rp:CM->Heap->α->β->Prop)(f:Fm)(J:LA)(s:Shared)(cm:CM)(o:Out α)(Q:β->Shared->Prop)(E:VS):Prop:=match o with
 | .ok v H=>∀x s' cm',Nx f.FA f.FO s cm s' cm'->Inv c f s' J H cm'->rp cm' s'.heap v x->Q x s'
 | .exc m H=>∀e s' cm',Nx f.FA f.FO s cm s' cm'->Inv c f s' J H cm'->ExcAt c s.heap f.FX cm' s'.heap e m->E e s'
 | .stuck=>False
abbrev EPost (f:Fm):=GPost c (c.rep f.FX) f
abbrev LPost (f:Fm):=GPost c (c.reps f.FX) f
abbrev TPost (f:Fm):=GPost c (λ_ _ (a b:Bool)=>a=b) f
end
end
section
variable {c:Cx}{f g:Fm}{s s' s_1 s_2 s_0:Shared}{H H':AH}{A:Around}{C:Orc}{J J' l J_0 acc:LA}{n t i:Nat}{E Q:VS}{k:Ck}{cm cm' cm_1 cm_0:CM}{M:Model}{it D a L:Addr}{x:PX}{FX FX' FA FO:List Addr}{e:PE}{K:Shared->Prop}{R:Result->Shared->Prop}{w:World}{v m b d:AV}{h0 h:Heap}{prog:Program}{α β γ:Type}{rp:CM->Heap->α->β->Prop}{env:Env}{outer:List Env}{os:OsState}{ox:Obj}{od:Option Obj}{t1 t2 t3:PT}
section
section
theorem Cx.rep_mono {h h':Heap}(hR:∀a o,Rr FX cm h a o->Rr FX' cm' h' a o)(hc:CMle cm cm'){x:AV}{v:Value}(r:c.rep FX cm h x v):c.rep FX' cm' h' x v:=Internal.rep_mono hR hc x v r
theorem Cx.reps_mono {h h':Heap}(hR:∀a o,Rr FX cm h a o->Rr FX' cm' h' a o)(hc:CMle cm cm'){x:LA}{v:List Value}(r:c.reps FX cm h x v):c.reps FX' cm' h' x v:=Internal.reps_mono hR hc x v r
theorem Cx.repd_mono {h h':Heap}(hR:∀a o,Rr FX cm h a o->Rr FX' cm' h' a o)(hc:CMle cm cm'){ks:List String}{x:LA}{v:List DictEntry}(r:c.repd FX cm h ks x v):c.repd FX' cm' h' ks x v:=Internal.repd_mono hR hc ks x v r
theorem Cx.repk_mono {h h':Heap}(hR:∀a o,Rr FX cm h a o->Rr FX' cm' h' a o)(hc:CMle cm cm'){ks:List String}{x:LA}{v:List (Str × Value)}(r:c.repk FX cm h ks x v):c.repk FX' cm' h' ks x v:=Internal.repk_mono hR hc ks x v r
theorem Ql (h:a∈f.FA\/a∈f.FO):a∈f.FX:=h.elim (λh=>List.mem_append_left _ h) λh=>List.mem_append_right _ (List.mem_append_left _ h)
theorem Base.gh (b:Base c FX s H cm):∃ps,s.heap.get? gh=some (tabObj ps):=by
 obtain⟨ps,h,_⟩:=b.tab;exact⟨ps,h⟩
theorem Nx.rr (x:Nx f.FA f.FO s cm s' cm')(b:Base c f.FX s H cm):∀a o,Rr f.FX cm s.heap a o->Rr f.FX cm' s'.heap a o:=Rr.keeps x (λ_ h=>Ql h) b.gh
theorem Nx.rep (x:Nx f.FA f.FO s cm s' cm')(b:Base c f.FX s H cm){y:Value}(r:c.rep f.FX cm s.heap v y):c.rep f.FX cm' s'.heap v y:=Cx.rep_mono (x.rr b) x.cms r
theorem Nx.reps (x:Nx f.FA f.FO s cm s' cm')(b:Base c f.FX s H cm){v:LA}{y:List Value}(r:c.reps f.FX cm s.heap v y):c.reps f.FX cm' s'.heap v y:=Cx.reps_mono (x.rr b) x.cms r
theorem Nx.repd (x:Nx f.FA f.FO s cm s' cm')(b:Base c f.FX s H cm){ks:List String}{v:LA}{y:List DictEntry}(r:c.repd f.FX cm s.heap ks v y):c.repd f.FX cm' s'.heap ks v y:=Cx.repd_mono (x.rr b) x.cms r
theorem Nx.repk (x:Nx f.FA f.FO s cm s' cm')(b:Base c f.FX s H cm){ks:List String}{v:LA}{y:List (Str × Value)}(r:c.repk f.FX cm s.heap ks v y):c.repk f.FX cm' s'.heap ks v y:=Cx.repk_mono (x.rr b) x.cms r
theorem ExcF.older {h0 h1 h:Heap}{fl:Option Value}{e:Value}(r:ExcF c h1 FX cm h fl e m)(x:∀a,h0.get? a≠none->h1.get? a≠none):ExcF c h0 FX cm h fl e m:=by
 have nn:∀{a},h1.get? a=none->h0.get? a=none:=λ{a} q=>Decidable.byContradiction λz=>x a z q
 obtain⟨a,o,d,vs,ds,n,h1,h2,h3,h4,h5,h6,g1,g2,g3,g4,g5⟩:=r;refine⟨a,o,d,vs,ds,n,h1,h2,h3,h4,h5,nn h6,g1,g2,g3,g4,?_⟩;cases fl with
 | none=>exact g5
 | some v=>obtain⟨T,oT,ts,q1,q2,q3,q0,q4,q5,q6,q7,q8⟩:=g5; exact⟨T,oT,ts,q1,q2,q3,q0,q4,q5,nn q6,q7,q8⟩
theorem ExcAt.older {h0 h1 h:Heap}{e:Value}(r:ExcAt c h1 FX cm h e m)(x:∀a,h0.get? a≠none->h1.get? a≠none):ExcAt c h0 FX cm h e m:=r.imp (·.older x) (·.older x)
theorem GPost.from {o:Out α}{Q:β->Shared->Prop}(h:GPost c rp f J s cm o Q E)(x:Nx f.FA f.FO s cm s' cm'):GPost c rp f J s' cm' o Q E:=by
 cases o with
 | ok v H=>exact λy s'' cm'' n=>h y s'' cm'' (x.trans n)
 | exc m H=>exact λy s'' cm'' n i r=>h y s'' cm'' (x.trans n) i (r.older x.alive)
 | stuck=>exact h
theorem cell_eq (h:v.cell?=some i):v=.cell i:=by
 cases v with
 | cell j=>cases h; rfl
 | _=>exact no h
theorem bd_of {o:Option AC}{q:List String × LA}(h:o.bind AC.dct?=some q):o=some (.dct q.1 q.2):=by
 cases o with
 | none=>exact no h
 | some y=>cases y with | dct m l=>cases h; rfl | _=>exact no h
theorem bo_of {o:Option AC}{q:Nat × List String × LA}(h:o.bind AC.obj?=some q):o=some (.obj q.1 q.2.1 q.2.2):=by
 cases o with
 | none=>exact no h
 | some y=>cases y with | obj C m l=>cases h; rfl | _=>exact no h
theorem Y5 {o:Option AC}(h:o.bind AC.lst?=some l):o=some (.lst l):=by
 cases o with
 | none=>exact no h
 | some y=>cases y with | lst m=>cases h; rfl | _=>exact no h
inductive OptR {α:Type}(o:Option α)(P:α->Prop):Prop where
 | mk (a:α)(e:o=some a)(p:P a)
inductive VL (y:AC)(P:LA->Prop):Prop where
 | mk (l:LA)(e:y=.lst l)(p:P l)
inductive VR {α:Type}(v:AV)(m:α->AV)(P:α->Prop):Prop where
 | mk (a:α)(e:v=m a)(p:P a)
section
variable {Q:β->Shared->Prop}
theorem GPost.opt {o:Option γ}{k:γ->Out α}(p:GPost c rp f J s cm (.opt o k) Q E):OptR o λa=>GPost c rp f J s cm (k a) Q E:=by
 cases o with
 | none=>exact p.elim
 | some a=>exact⟨a,rfl,p⟩
theorem GPost.ite {P:Prop}{_:Decidable P}{o:Out α}(p:GPost c rp f J s cm (if P then o else .stuck) Q E):P/\GPost c rp f J s cm o Q E:=by
 by_cases h:P
 ·rw[if_pos h] at p; exact⟨h,p⟩
 ·rw[if_neg h] at p; exact p.elim
theorem Q0 {g:Int->Out α}(p:GPost c rp f J s cm (.opt v.int? g) Q E):VR v .int λi=>GPost c rp f J s cm (g i) Q E:=by
 cases v with
 | int i=>exact⟨i,rfl,p⟩
 | _=>exact p.elim
theorem U4 {g:String->Out α}(p:GPost c rp f J s cm (.opt v.str? g) Q E):VR v .str λi=>GPost c rp f J s cm (g i) Q E:=by
 cases v with
 | str i=>exact⟨i,rfl,p⟩
 | _=>exact p.elim
theorem Yi {g:LA->Out α}(p:GPost c rp f J s cm (.opt v.lst? g) Q E):VR v .lst λi=>GPost c rp f J s cm (g i) Q E:=by
 cases v with
 | lst i=>exact⟨i,rfl,p⟩
 | _=>exact p.elim
theorem U5 {g:Nat->Out α}(p:GPost c rp f J s cm (.opt v.cell? g) Q E):VR v .cell λi=>GPost c rp f J s cm (g i) Q E:=by
 obtain⟨i,e,p⟩:=GPost.opt p;exact⟨i,cell_eq e,p⟩
theorem wK {g:List String × LA->Out α}(p:GPost c rp f J s cm (.opt v.dct? g) Q E):VR v (λq=>.dct q.1 q.2) λi=>GPost c rp f J s cm (g i) Q E:=by
 cases v with
 | dct k l=>exact⟨(k,l),rfl,p⟩
 | _=>exact p.elim
end
theorem bindG {α_1 β_1 α' β':Type}{rp:CM->Heap->α_1->β_1->Prop}{rp':CM->Heap->α'->β'->Prop}{t:Sem β_1}{o:Out α_1}{k:α_1->AH->Out α'}{K:β_1->Shared->Prop}{Q:β'->Shared->Prop}
  (ih:∀Q,GPost c rp f J s cm o Q E->wpAny M A t Q E s) (h:GPost c rp' f J s cm (o.bind k) Q E)
  (hk:∀v H_1 x s_1 cm_1,o=.ok v H_1->Nx f.FA f.FO s cm s_1 cm_1->Inv c f s_1 J H_1 cm_1->rp cm_1 s_1.heap v x->GPost c rp' f J s_1 cm_1 (k v H_1) Q E->K x s_1):wpAny M A t K E s:=by
 refine ih K ?_;cases o with
 | ok v H=>exact λx s_1 cm_1 n i r=>hk v H x s_1 cm_1 rfl n i r (GPost.from h n)
 | exc m H=>exact h
 | stuck=>exact h.elim
structure Grow (s s':Shared):Prop where
 keep:∀a o,s.heap.get? a=some o->s'.heap.get? a=some o
 gens:s'.gens=s.gens
 os:s'.os=s.os
theorem Grow.toks (s:Shared)(t:Nat):Grow s {s with toks:=t}:=⟨λ_ _ e=>e,rfl,rfl⟩
theorem Grow.push (s:Shared)(o:Obj)(t:Nat):Grow s {s with heap:=s.heap.push o,toks:=t}:=⟨λ_ _ e=>Heap.get?_push_of_some _ e,rfl,rfl⟩
theorem Grow.of {h':Heap}{tk:Nat}(k:∀a o,s.heap.get? a=some o->h'.get? a=some o):Grow s {s with heap:=h',toks:=tk}:=⟨k,rfl,rfl⟩
theorem Grow.trans (x:Grow s s_1)(y:Grow s_1 s_2):Grow s s_2:=⟨λa o e=>y.keep a o (x.keep a o e),y.gens.trans x.gens,y.os.trans x.os⟩
theorem Grow.refl (s:Shared):Grow s s:=⟨λ_ _ e=>e,rfl,rfl⟩
theorem Grow.some (g:Grow s s')(h:s.heap.get? a≠none):s'.heap.get? a≠none:=by
 cases e:s.heap.get? a with
 | none=>exact absurd e h
 | some o=>refine (g.keep a o e) ▸ ?_; nofun
theorem Grow.nx (g:Grow s s'):Nx FA FO s cm s' cm:=⟨λa o e _ _ _ _=>g.keep a o e,λa o e _=>⟨o.slots,g.keep a o e⟩,.refl _,λ_ h=>.inl h,λ_ h=>g.some h⟩
theorem Grow.rr (g:Grow s s'):∀a o,Rr FX cm s.heap a o->Rr FX cm s'.heap a o:=λa o q70=>by obtain⟨e,r⟩:=q70; exact⟨g.keep a o e,r⟩
theorem QM {h h':Heap}{p:Addr × List Addr}{x:AC}(hk:∀a o,a∈p.2->h.get? a=some o->h'.get? a=some o)(hR:∀a o,Rr FX cm h a o->Rr FX' cm' h' a o)(hc:CMle cm cm')(z:cellOk c FX cm h p x):cellOk c FX' cm' h' p x:=by
 obtain⟨a,l⟩:=p;cases x with
 | lst vs=>obtain⟨rfl,xs,o,n,e,r1,r2,r3,r4,z⟩:=z; exact⟨rfl,xs,o,n,hk _ _ (.head _) e,r1,r2,r3,r4,Cx.reps_mono hR hc z⟩
 | dct ks vs=>obtain⟨rfl,o,kvs,e,r1,r2,z⟩:=z; exact⟨rfl,o,kvs,hk _ _ (.head _) e,r1,r2,Cx.repk_mono hR hc z⟩
 | obj C ks vs=>obtain⟨d,rfl,hne,ds,n,e,e2,r1,ac,z⟩:=z; exact⟨d,rfl,hne,ds,n,hk _ _ (.head _) e,hk _ _ (.tail _ (.head _)) e2,r1,ac,Cx.repd_mono hR hc z⟩
 | dead=>exact z
theorem Grow.slot (g:Grow s s'){k:Nat}{v:Option Value}(h:slotIs c FX cm s.heap J k v):slotIs c FX cm s'.heap J k v:=λav e n=>(by obtain⟨x,e1,r⟩:=h av e n; exact⟨x,e1,Cx.rep_mono g.rr (.refl _) r⟩)
theorem Grow.base (g:Grow s s')(b:Base c FX s H cm):Base c FX s' H cm where
 len:=b.len
 cells i p x e1 e2:=QM (λa o _ e=>g.keep a o e) g.rr (.refl _) (b.cells i p x e1 e2)
 lo a h:=⟨(b.lo a h).1,g.some (b.lo a h).2⟩
 dj:=b.dj
 nd:=b.nd
 old x o n e:=g.keep _ _ (b.old x o n e)
 gens:=g.gens.trans b.gens
 os:=g.os.trans b.os
 tab:=b.tab.mono (λ_ e=>g.keep _ _ e) g.rr
theorem Grow.inv (g:Grow s s')(i:Inv c f s J H cm):Inv c f s' J H cm where
 base:=g.base i.base
 dj:=i.dj
 dj2:=i.dj2
 ns:=by obtain⟨m,n,z⟩:=i.ns; exact⟨m,n.keeps g.keep,λx k e1 e2=>g.slot (z x k e1 e2)⟩
 cl x k kd a e1 e2 e3 e4:=by obtain⟨o,ov,e,d,z⟩:=i.cl x k kd a e1 e2 e3 e4; exact⟨o,ov,g.keep _ _ e,d,g.slot z⟩
 frs e he:=(by obtain⟨h1,L,o,h2,h3,h4,h5⟩:=i.frs e he; exact⟨h1,L,o,h2,g.keep _ _ h3,h4,h5⟩)
theorem Base.rr_new (b:Base c FX s H cm){o:Obj}(e:h.get? a=some o)(st:stab o=true)(n:s.heap.get? a=none):Rr FX cm h a o :=
 ⟨e,st,λq=>(b.lo a (.inl q)).2 n,λq=>(b.lo a (.inr q)).2 n⟩
theorem Qk (h:Heap):h.get? h.objs.size=none:=Heap.get?_none_of_le (Nat.le_refl _)
theorem EPost.end {x:Value}(h:EPost c f J s cm (.ok v H) Q E)(i:Inv c f s J H cm)(g:Grow s s')(r:c.rep f.FX cm s'.heap v x):Q x s':=h x s' cm g.nx (g.inv i) r
theorem EPost.here {x:Value}(h:EPost c f J s cm (.ok v H) Q E)(i:Inv c f s J H cm)(r:c.rep f.FX cm s.heap v x):Q x s:=h.end i (.refl s) r
theorem Inv.tup (i:Inv c f s J H cm){vs:List Value}(r:c.reps f.FX cm s.heap l vs){t:Nat} :
  c.rep f.FX cm (s.heap.push {cls:=.type "tuple",data:=.seq vs.toArray}) (.tup l) (.ref s.heap.objs.size) :=
 ⟨_,_,vs,0,rfl,i.base.rr_new (Heap.get?_push_size _ rfl) rfl (Qk _),rfl,rfl,Cx.reps_mono (Grow.push s _ t).rr (.refl _) r⟩
theorem Inv.lst (i:Inv c f s J H cm){vs:List Value}(r:c.reps f.FX cm s.heap l vs){t:Nat} :
  c.rep f.FX cm (s.heap.push {cls:=.type "list",data:=.seq vs.toArray}) (.lst l) (.ref s.heap.objs.size) :=
 ⟨_,_,vs,0,rfl,i.base.rr_new (Heap.get?_push_size _ rfl) rfl (Qk _),rfl,rfl,Cx.reps_mono (Grow.push s _ t).rr (.refl _) r⟩
structure But (l:List Addr)(s s':Shared):Prop where
 keep:∀a o,a ∉ l->s.heap.get? a=some o->s'.heap.get? a=some o
 gens:s'.gens=s.gens
 os:s'.os=s.os
theorem But.nx {l:List Addr}(g:But l s s')(gl:∀a,a∈l->s'.heap.get? a≠none)(h:∀a,a∈l->(a∈adr cm\/a∈FA\/s.heap.get? a=none)/\a ∉ FO):Nx FA FO s cm s' cm where
 keep a o e _ h1 _ h2:=g.keep a o (λq=>(h a q).1.elim h2 λz=>z.elim h1 λz=>by rw[z] at e; exact no e) e
 outer a o e h1:=⟨o.slots,g.keep a o (λq=>(h a q).2 h1) e⟩
 cms:=.refl _
 new _ h:=.inl h
 alive a q:=by
  by_cases hl:a∈l
  ·exact gl a hl
  ·cases e:s.heap.get? a with
   | none=>exact absurd e q
   | some o=>refine (g.keep a o hl e) ▸ ?_; nofun
theorem Qz {p:Addr × List Addr}(e:cm[i]?=some p)(h:a∈p.2):a∈adr cm:=List.mem_flatMap.mpr ⟨p,List.mem_of_getElem? e,h⟩
theorem wL:∀{i j:Nat} {p q:Addr × List Addr} {a:Addr},(adr cm).Nodup->cm[i]?=some p->cm[j]?=some q->i≠j->a∈p.2->a ∉ q.2:=by
 induction cm with
 | nil=>intro i j p q a _ e; exact no e
 | cons x cm ih =>
  intro i j p q a nd e1 e2 n h h2;have nd':=List.nodup_append.mp (show (x.2++adr cm).Nodup from nd);cases i with
  | zero =>
   cases j with
   | zero=>exact n rfl
   | succ j=>cases e1; exact nd'.2.2 a h a (Qz (i:=j) e2 h2) rfl
  | succ i =>
   cases j with
   | zero=>cases e2; exact nd'.2.2 a h2 a (Qz (i:=i) e1 h) rfl
   | succ j=>exact ih (i:=i) (j:=j) nd'.2.1 e1 e2 (λq=>n (congrArg Nat.succ q)) h h2
theorem Inv.moveS (i:Inv c f s J H cm)(x:Nx f.FA f.FO s cm s' cm')(own:∀a o,a∈f.FA->s.heap.get? a=some o->∃sl,s'.heap.get? a=some {o with slots:=sl})(b:Base c f.FX s' H' cm'):Inv c f s' J H' cm' where
 base:=b
 dj:=i.dj
 dj2:=i.dj2
 ns:=by
  obtain⟨m,⟨o,es,ep,e,r⟩,z⟩:=i.ns;obtain⟨sl,e'⟩:=own _ _ f.ok.loc e;exact⟨m,⟨_,es,ep,e',r⟩,λy k e1 e2 av e3 e4=>let ⟨v,h1,h2⟩:=z y k e1 e2 av e3 e4; ⟨v,h1,x.rep i.base h2⟩⟩
 cl y k kd a e1 e2 e3 e4:=by
  obtain⟨o,ov,e,d,z⟩:=i.cl y k kd a e1 e2 e3 e4;have z':slotIs c f.FX cm' s'.heap J k ov:=λav e3 e4=>by obtain⟨v,h1,h2⟩:=z av e3 e4; exact⟨v,h1,x.rep i.base h2⟩
  obtain⟨a',h1,_,h2,_⟩:=f.ok.cell y k kd e1 e2 e3;obtain rfl:a'=a:=Option.some.inj (h1.symm.trans e4);rcases h2 with h2 | h2
  ·obtain⟨sl,e'⟩:=own _ _ h2 e
   exact⟨_,ov,e',d,z'⟩
  ·obtain⟨sl,e'⟩:=x.outer _ _ e h2
   exact⟨_,ov,e',d,z'⟩
 frs e he:=by
  obtain⟨h1,L,o,h2,h3,h4,h5⟩:=i.frs e he;rcases h5 with h6 | h6
  ·obtain⟨sl,e'⟩:=own _ _ h6 h3
   exact⟨h1,L,_,h2,e',h4,.inl h6⟩
  ·obtain⟨sl,e'⟩:=x.outer _ _ h3 h6
   exact⟨h1,L,_,h2,e',h4,.inr h6⟩
theorem Inv.move (i:Inv c f s J H cm)(x:Nx f.FA f.FO s cm s' cm')(own:∀a o,a∈f.FA->s.heap.get? a=some o->s'.heap.get? a=some o)(b:Base c f.FX s' H' cm'):Inv c f s' J H' cm' :=
 i.moveS x (λa o h e=>⟨o.slots,own a o h e⟩) b
theorem Base.setCell {p:Addr × List Addr}{x':AC}(b:Base c FX s H cm)(hi:cm[i]?=some p)(g:But p.2 s s')(gl:∀a,a∈p.2->s'.heap.get? a≠none)(z:(∀a o,Rr FX cm s.heap a o->Rr FX cm s'.heap a o)->cellOk c FX cm s'.heap p x'):Base c FX s' (H.set i x') cm:=by
 have rr:∀a o,Rr FX cm s.heap a o->Rr FX cm s'.heap a o:=λa o q70=>by obtain⟨e,st,h1,h2⟩:=q70; exact⟨g.keep a o (λq=>h2 (Qz hi q)) e,st,h1,h2⟩
 refine⟨by rw[List.length_set]; exact b.len,λj q x e1 e2=>?_,λa h=>⟨(b.lo a h).1,?_⟩,b.dj,b.nd,λa o n e=>?_,g.gens.trans b.gens,g.os.trans b.os,?_⟩
 ·by_cases hij:i=j
  ·subst hij
   obtain rfl:p=q:=Option.some.inj (hi.symm.trans e1);have hl:i<H.length:=by rw[<-b.len]; exact (List.getElem?_eq_some_iff.mp hi).1
   rw[List.getElem?_set_self hl] at e2;cases e2;exact z rr
  ·rw[List.getElem?_set_ne hij] at e2
   exact QM (λa o ha e=>g.keep a o (wL b.nd e1 hi (Ne.symm hij) ha) e) rr (.refl _) (b.cells j q x e1 e2)
 ·by_cases ha:a∈p.2
  ·exact gl a ha
  ·cases e:s.heap.get? a with
   | none=>exact absurd e (b.lo a h).2
   | some o=>refine (g.keep a o ha e) ▸ ?_; nofun
 ·refine g.keep a o (λq=>?_) (b.old a o n e)
  rw[(b.lo a (.inr (Qz hi q))).1] at e;exact no e
 ·refine b.tab.mono (λ_ e=>g.keep _ _ (λq=>?_) e) rr
  exact c.glow (b.lo Internal.gh (.inr (Qz hi q))).1
theorem Jl (cm:CM)(p:Addr × List Addr):adr (cm++[p])=adr cm++p.2:=by simp[adr]
theorem CMle.snoc (cm:CM)(p:Addr × List Addr):CMle cm (cm++[p]):=λi q e=>⟨q,by rw[List.getElem?_append_left (List.getElem?_eq_some_iff.mp e).1]; exact e,rfl,.inl rfl⟩
theorem Grow.rrAdd (b:Base c FX s H cm)(g:Grow s s'){l:List Addr}(hl:∀a,a∈l->s.heap.get? a=none):∀x o,Rr FX cm s.heap x o->Rr FX (cm++[(a,l)]) s'.heap x o:=λx o ⟨e,st,h1,h2⟩ =>
 ⟨g.keep x o e,st,h1,λq=>by
  rw[Jl] at q;exact (maD q).elim h2 λq=>by rw[hl x q] at e; cases e⟩
theorem Base.addCell {l:List Addr}{x:AC}(b:Base c FX s H cm)(g:Grow s s')(nd:l.Nodup)(hl:∀a,a∈l->s.heap.get? a=none/\s'.heap.get? a≠none)
  (z:cellOk c FX (cm++[(a,l)]) s'.heap (a,l) x):Base c FX s' (H++[x]) (cm++[(a,l)]):=by
 have hR:=g.rrAdd (a:=a) b λa h=>(hl a h).1
 refine⟨by simp[b.len],λi p y e1 e2=>?_,λa h=>?_,λa h h'=>?_,?_,λx o n e=>g.keep _ _ (b.old x o n e),g.gens.trans b.gens,g.os.trans b.os,?_⟩
 ·by_cases hi:i<cm.length
  ·rw[List.getElem?_append_left hi] at e1
   rw[List.getElem?_append_left (by rw[<-b.len]; exact hi)] at e2;exact QM (λa o _ e=>g.keep a o e) hR (.snoc _ _) (b.cells i p y e1 e2)
  ·have hi':i=cm.length:=by have:=(List.getElem?_eq_some_iff.mp e1).1; rw[List.length_append] at this; exact Nat.le_antisymm (Nat.le_of_lt_succ this) (Nat.le_of_not_lt hi)
   subst hi';rw[List.getElem?_concat_length] at e1;rw[b.len,List.getElem?_concat_length] at e2;cases e1; cases e2;exact z
 ·rw[Jl] at h
  rcases h with h | h
  ·exact⟨(b.lo a (.inl h)).1,g.some (b.lo a (.inl h)).2⟩
  ·rcases maD h with h | h
   ·exact⟨(b.lo a (.inr h)).1,g.some (b.lo a (.inr h)).2⟩
   ·refine⟨?_,(hl a h).2⟩
    cases e:c.h_1.get? a with
    | none=>rfl
    | some o =>
     by_cases hg:a=Internal.gh
     ·obtain⟨ps,e2,_⟩:=b.tab
      rw[hg] at h
      replace e2:=((hl _ h).1) ▸ e2
      cases e2
     ·have:=b.old a o hg e
      rw[(hl a h).1] at this;exact no this
 ·rw[Jl] at h'
  rcases maD h' with h' | h'
  ·exact b.dj a h h'
  ·exact absurd (hl a h').1 (b.lo a (.inl h)).2
 ·rw[Jl]
  exact List.nodup_append.mpr ⟨b.nd,nd,λx hx y hy q=>(b.lo x (.inr hx)).2 (q ▸ (hl y hy).1)⟩
 ·exact b.tab.mono (λ_ e=>g.keep _ _ e) hR
theorem Grow.nxAdd (g:Grow s s'){l:List Addr}(hl:∀a,a∈l->s.heap.get? a=none):Nx FA FO s cm s' (cm++[(a,l)]) :=
 ⟨λa o e _ _ _ _=>g.keep a o e,λa o e _=>⟨o.slots,g.keep a o e⟩,.snoc _ _,λx h=>by
  simp only[Jl] at h;exact (maD h).imp id λh=>.inl (hl x h),λ_ h=>g.some h⟩
theorem Inv.addCell {l:List Addr}{x:AC}(i:Inv c f s J H cm)(g:Grow s s')(nd:l.Nodup)(hl:∀a,a∈l->s.heap.get? a=none/\s'.heap.get? a≠none)
  (z:cellOk c f.FX (cm++[(a,l)]) s'.heap (a,l) x):Inv c f s' J (H++[x]) (cm++[(a,l)]) :=
 i.move (g.nxAdd λa h=>(hl a h).1) (λa o _ e=>g.keep a o e) (i.base.addCell g nd hl z)
theorem EPost.endCell {l:List Addr}{x:AC}(h:EPost c f J s cm (.ok (.cell H.length) (H++[x])) Q E)(i:Inv c f s J H cm)(g:Grow s s')(nd:l.Nodup)(hl:∀a,a∈l->s.heap.get? a=none/\s'.heap.get? a≠none)
  (z:cellOk c f.FX (cm++[(a,l)]) s'.heap (a,l) x):Q (.ref a) s' :=
 h _ s' _ (g.nxAdd λa h=>(hl a h).1) (i.addCell g nd hl z) ⟨(a,l),by simp only[<-i.base.len,List.getElem?_concat_length],rfl⟩
theorem Inv.set {p:Addr × List Addr}{x':AC}(v:Inv c f s J H cm)(hi:cm[i]?=some p)(g:But p.2 s s')(gl:∀a,a∈p.2->s'.heap.get? a≠none)(z:(∀a o,Rr f.FX cm s.heap a o->Rr f.FX cm s'.heap a o)->cellOk c f.FX cm s'.heap p x') :
  Inv c f s' J (H.set i x') cm/\Nx f.FA f.FO s cm s' cm:=by
 have hn:∀a,a∈p.2->a ∉ f.FX:=λa h q=>v.base.dj a q (Qz hi h)
 have n:Nx f.FA f.FO s cm s' cm:=g.nx gl λa h=>⟨.inl (Qz hi h),λq=>hn a h (Ql (.inr q))⟩
 exact⟨v.move n (λa o h e=>g.keep a o (λq=>hn a q (Ql (.inl h))) e) (v.base.setCell hi g gl z),n⟩
theorem CMle.kill (cm:CM){p:Addr × List Addr}(hi:cm[i]?=some p):CMle cm (cm.set i (p.1,[])):=λj q e=>by
 by_cases h:i=j
 ·subst h
  obtain rfl:p=q:=Option.some.inj (hi.symm.trans e);exact⟨_,List.getElem?_set_self (List.getElem?_eq_some_iff.mp e).1,rfl,.inr rfl⟩
 ·exact⟨q,by rw[List.getElem?_set_ne h]; exact e,rfl,.inl rfl⟩
theorem U6:∀{i:Nat} {p:Addr × List Addr},cm[i]?=some p->(adr (cm.set i (p.1,[]))).Sublist (adr cm):=by
 induction cm with
 | nil=>intro i p e; exact no e
 | cons x cm ih =>
  intro i p e;cases i with
  | zero=>cases e; exact List.sublist_append_right _ _
  | succ i=>exact List.Sublist.append (List.Sublist.refl x.2) (ih (i:=i) e)
theorem wM:∀{i:Nat} {p:Addr × List Addr} {a:Addr},(adr cm).Nodup->cm[i]?=some p->a∈p.2->a ∉ adr (cm.set i (p.1,[])):=by
 induction cm with
 | nil=>intro i p a _ e; exact no e
 | cons x cm ih =>
  intro i p a nd e h q;have nd':=List.nodup_append.mp (show (x.2++adr cm).Nodup from nd);cases i with
  | zero=>cases e; exact nd'.2.2 a h a q rfl
  | succ i =>
   rcases maD (show a∈x.2++adr (cm.set i (p.1,[])) from q) with q | q
   ·exact nd'.2.2 a q a (Qz (i:=i) e h) rfl
   ·exact ih (i:=i) nd'.2.1 e h q
theorem Inv.kill {p:Addr × List Addr}(v:Inv c f s J H cm)(hi:cm[i]?=some p):Inv c f s J (H.set i .dead) (cm.set i (p.1,[]))/\Nx f.FA f.FO s cm s (cm.set i (p.1,[])):=by
 have b:=v.base;have sub:=(U6 hi).subset;have hR:∀a o,Rr f.FX cm s.heap a o->Rr f.FX (cm.set i (p.1,[])) s.heap a o:=λa o q70=>by obtain⟨e,st,h1,h2⟩:=q70; exact⟨e,st,h1,λq=>h2 (sub q)⟩
 have n:Nx f.FA f.FO s cm s (cm.set i (p.1,[])):=⟨λ_ _ e _ _ _ _=>e,λ_ o e _=>⟨o.slots,e⟩,.kill cm hi,λa h=>.inl (sub h),λ_ h=>h⟩;refine⟨v.move n (λ_ _ _ e=>e) ⟨by simp[b.len],λj q x e1 e2=>?_,λa h=>b.lo a (h.imp id λh=>sub h),λa h q=>b.dj a h (sub q),b.nd.sublist (U6 hi),b.old,b.gens,b.os,b.tab.mono (λ_ e=>e) hR⟩,n⟩;by_cases hij:i=j
 ·subst hij
  have hl:i<cm.length:=(List.getElem?_eq_some_iff.mp hi).1
  replace e1:=(List.getElem?_set_self hl) ▸ e1
  rw[List.getElem?_set_self (by rw[<-b.len]; exact hl)] at e2;cases e1; cases e2;rfl
 ·rw[List.getElem?_set_ne hij] at e1 e2
  exact QM (λ_ _ _ e=>e) hR (.kill cm hi) (b.cells j q x e1 e2)
noncomputable def Fm.wide (f:Fm)(d:Addr):Fm:={f with FZ:=d::f.FZ,ok:=f.ok}
theorem Qt {d a:Addr}:a∈(f.wide d).FX↔a=d\/a∈f.FX:=by
 simp only[Fm.wide,Fm.FX,List.mem_append,List.mem_cons];constructor
 ·rintro (h | h | h | h)
  ·exact .inr (.inl h)
  ·exact .inr (.inr (.inl h))
  ·exact .inl h
  ·exact .inr (.inr (.inr h))
 ·rintro (h | h | h | h)
  ·exact .inr (.inr (.inl h))
  ·exact .inl h
  ·exact .inr (.inl h)
  ·exact .inr (.inr (.inr h))
theorem Rr.sub (hs:∀a,a∈FX->a∈FX'):∀a o,Rr FX' cm h a o->Rr FX cm h a o:=λa o q70=>by obtain⟨e,st,h1,h2⟩:=q70; exact⟨e,st,λq=>h1 (hs a q),h2⟩
theorem slotIs.mono {h h':Heap}(hR:∀a o,Rr FX cm h a o->Rr FX' cm' h' a o)(hc:CMle cm cm'){k:Nat}{v:Option Value}(z:slotIs c FX cm h J k v):slotIs c FX' cm' h' J k v :=
 λav e n=>(by obtain⟨x,e1,r⟩:=z av e n; exact⟨x,e1,Cx.rep_mono hR hc r⟩)
theorem Inv.narrow {d:Addr}(i:Inv c (f.wide d) s J H cm):Inv c f s J H cm:=by
 have hs:∀a,a∈f.FX->a∈(f.wide d).FX:=λa h=>Qt.mpr (.inr h)
 have hR:=Rr.sub (cm:=cm) (h:=s.heap) hs;have b:=i.base;exact⟨⟨b.len,λj p x e1 e2=>QM (λ_ _ _ e=>e) hR (.refl _) (b.cells j p x e1 e2),λa h=>b.lo a (h.imp (hs a) id),λa h=>b.dj a (hs a h),b.nd,b.old,b.gens,b.os,b.tab.mono (λ_ e=>e) hR⟩,
  λa h=>⟨(i.dj a h).1,λq=>(i.dj a h).2 (.tail _ q)⟩,λa h q=>i.dj2 a h (.tail _ q),
  by obtain⟨m,n,z⟩:=i.ns; exact⟨m,n,λx k e1 e2=>(z x k e1 e2).mono hR (.refl _)⟩,
  λx k kd a e1 e2 e3 e4=>(by obtain⟨o,ov,e,dd,z⟩:=i.cl x k kd a e1 e2 e3 e4; exact⟨o,ov,e,dd,z.mono hR (.refl _)⟩),i.frs⟩
theorem Inv.wider {d:Addr}(i:Inv c f s J H cm)(g:Grow s s')(h0:s.heap.get? d=none)(h1:s'.heap.get? d≠none):Inv c (f.wide d) s' J H cm:=by
 have hR:∀a o,Rr f.FX cm s.heap a o->Rr (f.wide d).FX cm s'.heap a o:=λa o ⟨e,st,n1,n2⟩=>⟨g.keep a o e,st,λq=>(Qt.mp q).elim (λq=>by rw[q,h0] at e; exact no e) n1,n2⟩
 have b:=i.base;have hd:d ∉ adr cm:=λq=>(b.lo d (.inr q)).2 h0
 have hdF:d ∉ f.FX:=λq=>(b.lo d (.inl q)).2 h0
 have h00:c.h_1.get? d=none:=by
  cases e:c.h_1.get? d with
  | none=>rfl
  | some o =>
   by_cases hg:d=Internal.gh
   ·obtain⟨ps,e2,_⟩:=b.tab
    rw[hg] at h0
    replace e2:=h0 ▸ e2; cases e2
   ·rw[b.old d o hg e] at h0; cases h0
 refine⟨⟨b.len,λj p x e1 e2=>QM (λa o _ e=>g.keep a o e) hR (.refl _) (b.cells j p x e1 e2),λa h=>?_,λa h=>?_,b.nd,λx o n e=>g.keep _ _ (b.old x o n e),g.gens.trans b.gens,g.os.trans b.os,b.tab.mono (λ_ e=>g.keep _ _ e) hR⟩,
  λa h=>⟨(i.dj a h).1,λq=>?_⟩,λa h q=>?_,by obtain⟨m,n,z⟩:=i.ns; exact⟨m,n.keeps g.keep,λx k e1 e2=>(z x k e1 e2).mono hR (.refl _)⟩,
  λx k kd a e1 e2 e3 e4=>by obtain⟨o,ov,e,dd,z⟩:=i.cl x k kd a e1 e2 e3 e4; exact⟨o,ov,g.keep _ _ e,dd,z.mono hR (.refl _)⟩,
  λe he=>let ⟨h1,L,o,h2,h3,h4,h5⟩:=i.frs e he; ⟨h1,L,o,h2,g.keep _ _ h3,h4,h5⟩⟩
 ·rcases h with h | h
  ·rcases Qt.mp h with h | h
   ·rw[h]; exact⟨h00,h1⟩
   ·exact⟨(b.lo a (.inl h)).1,g.some (b.lo a (.inl h)).2⟩
  ·exact⟨(b.lo a (.inr h)).1,g.some (b.lo a (.inr h)).2⟩
 ·rcases Qt.mp h with h | h
  ·rw[h]; exact hd
  ·exact b.dj a h
 ·rcases mcD q with q | q
  ·exact hdF (q ▸ List.mem_append_left _ h)
  ·exact (i.dj a h).2 q
 ·rcases mcD q with q | q
  ·exact hdF (q ▸ List.mem_append_right _ (List.mem_append_left _ h))
  ·exact i.dj2 a h q
theorem Inv.zmodF {d:Addr}(i:Inv c f s J H cm)(hz:d∈f.FZ)(hb:∀a o,a≠d->s.heap.get? a=some o->s'.heap.get? a=some o)(h1:s'.heap.get? d≠none)(hg:s'.gens=s.gens)(ho:s'.os=s.os):Inv c f s' J H cm:=by
 have hd:d∈f.FX:=List.mem_append_right _ (List.mem_append_right _ hz);have b:=i.base;have hR:∀a o,Rr f.FX cm s.heap a o->Rr f.FX cm s'.heap a o:=λa o ⟨e,st,n1,n2⟩=>⟨hb a o (λq=>n1 (q ▸ hd)) e,st,n1,n2⟩
 have some':∀a,s.heap.get? a≠none->s'.heap.get? a≠none:=λa h=>by
  by_cases q:a=d
  ·rw[q]; exact h1
  ·cases e:s.heap.get? a with
   | none=>exact absurd e h
   | some o=>rw[hb a o q e]; nofun
 have hne:∀a o,c.h_1.get? a=some o->a≠d:=λa o e q=>by rw[q,(b.lo d (.inl hd)).1] at e; exact no e
 have hFA:∀a,a∈f.FA->a≠d:=λa h q=>(i.dj a h).2 (by simp only[q]; exact hz)
 have hFO:∀a,a∈f.FO->a≠d:=λa h q=>i.dj2 a h (by simp only[q]; exact hz)
 have hgd:Internal.gh≠d:=λq=>c.glow (by rw[q]; exact (b.lo d (.inl hd)).1)
 refine⟨⟨b.len,λj p x e1 e2=>QM (λa o ha e=>hb a o (λq=>b.dj d hd (q ▸ Qz e1 ha)) e) hR (.refl _) (b.cells j p x e1 e2),λa h=>⟨(b.lo a h).1,some' a (b.lo a h).2⟩,b.dj,b.nd,
  λx o n e=>hb x o (hne x o e) (b.old x o n e),hg.trans b.gens,ho.trans b.os,b.tab.mono (λ_ e=>hb _ _ hgd e) hR⟩,i.dj,i.dj2,?_,?_,?_⟩
 ·obtain⟨m,⟨o,es,ep,e,r⟩,z⟩:=i.ns
  exact⟨m,⟨o,es,ep,hb _ _ (hFA _ f.ok.loc) e,r⟩,λx k e1 e2=>(z x k e1 e2).mono hR (.refl _)⟩
 ·intro x k kd a e1 e2 e3 e4
  obtain⟨o,ov,e,dd,z⟩:=i.cl x k kd a e1 e2 e3 e4;refine⟨o,ov,hb a o ?_ e,dd,z.mono hR (.refl _)⟩;obtain⟨a',q1,_,q2,_⟩:=f.ok.cell x k kd e1 e2 e3;obtain rfl:a'=a:=Option.some.inj (q1.symm.trans e4);exact q2.elim (hFA _) (hFO _)
 ·intro e he
  obtain⟨h1,L,o,h2,h3,h4,h5⟩:=i.frs e he;exact⟨h1,L,o,h2,hb L o (h5.elim (hFA _) (hFO _)) h3,h4,h5⟩
theorem Inv.zmod {d:Addr}(i:Inv c (f.wide d) s J H cm)(hb:∀a o,a≠d->s.heap.get? a=some o->s'.heap.get? a=some o)(h1:s'.heap.get? d≠none)(hg:s'.gens=s.gens)(ho:s'.os=s.os):Inv c (f.wide d) s' J H cm:=i.zmodF (.head _) hb h1 hg ho
theorem Nx.mod {d:Addr}(x:Nx FA FO s cm s_1 cm_1)(h0:s.heap.get? d=none)(hb:∀a o,a≠d->s_1.heap.get? a=some o->s_2.heap.get? a=some o):Nx FA FO s cm s_2 cm_1 where
 alive a h:=by
  have h1:=x.alive a h;cases e:s_1.heap.get? a with
  | none=>exact absurd e h1
  | some o=>rw[hb a o (λq=>h (by rw[q]; exact h0)) e]; nofun
 keep a o e q1 q2 q3 q4:=hb a o (λq=>by simp only[q,h0] at e; exact no e) (x.keep a o e q1 q2 q3 q4)
 outer a o e q:=(by obtain⟨sl,e1⟩:=x.outer a o e q; exact⟨sl,hb a _ (λq=>by rw[q,h0] at e; exact no e) e1⟩)
 cms:=x.cms
 new:=x.new
theorem Nx.reWide {d:Addr}(x:Nx (f.wide d).FA (f.wide d).FO s cm s_1 cm_1):Nx f.FA f.FO s cm s_1 cm_1:=x
end
end
theorem Str.ofString_append (a b:String):Str.ofString (a++b)=Str.ofString a++Str.ofString b:=by
 show _=PySem.Str.append _ _;unfold PySem.Str.append;simp only[Str.ofString_eq_toList,Str.ofString_eq_toList,Str.ofString_eq_toList];simp
theorem Str.ofString_inj {a b:String}(h:Str.ofString a=Str.ofString b):a=b:=by
 simp only[Str.ofString_eq_toList,Str.ofString_eq_toList] at h;have h1:a.toList.map Char.toNat=b.toList.map Char.toNat:=by simpa using h
 have:∀{l m:List Char},l.map Char.toNat=m.map Char.toNat->l=m:=by
  intro l
  induction l with
  | nil=>intro m h; cases m with | nil=>rfl | cons _ _=>cases h
  | cons x l ih =>
   intro m h;cases m with
   | nil=>cases h
   | cons y m =>
    simp only[List.map_cons,List.cons.injEq] at h;have:x=y:=Char.ext (UInt32.toNat_inj.mp h.1);simp only[this,ih h.2]
 exact String.toList_inj.mp (this h1)
theorem Str.ofString_len (a:String):(Str.ofString a).length=a.length:=by
 rw[Str.ofString_eq_toList];show (List.map Char.toNat a.toList).toArray.size=_;simp[String.length_toList]
theorem Str.ofString_beq (a b:String):(Str.ofString a==Str.ofString b)=(a==b):=by
 rw[Bool.eq_iff_iff];simp only[beq_iff_eq];exact⟨Str.ofString_inj,λh=>by rw[h]⟩
theorem Qg.log {a:Int}(h:Qg a):a.natAbs.log2<9000:=by
 by_cases h0:a.natAbs=0
 ·rw[h0]; decide
 ·exact Nat.lt_of_lt_of_le ((Nat.log2_lt h0).mpr h) (by decide)
theorem Qg.bits {a:Int}(h:Qg a):Builtin.Int.intBits a<=2 ^ 20:=by
 unfold Builtin.Int.intBits;by_cases q:(a==0)=true
 ·rw[if_pos q]; decide
 ·rw[if_neg q]; exact Nat.le_trans h.log (by decide)
section
noncomputable def opOf:Op->Operator
 | .add=>.Add | .sub=>.Sub | .mul=>.Mult | .div=>.FloorDiv | .mod=>.Mod
theorem int?_of {i:Int}(h:v.int?=some i):v=.int i:=by
 cases v with
 | int=>exact congrArg _ (Option.some.inj h)
 | _=>exact no h
theorem str?_of {s:String}(h:v.str?=some s):v=.str s:=by
 cases v with
 | str=>exact congrArg _ (Option.some.inj h)
 | _=>exact no h
theorem bool?_of {s:Bool}(h:v.bool?=some s):v=.bool s:=by
 cases v with
 | bool=>exact congrArg _ (Option.some.inj h)
 | _=>exact no h
theorem U7 (h:v.isN=true):v=.none:=by
 cases v with
 | none=>rfl
 | _=>exact nf h
inductive Int2 {α:Type}(f:Int->Int->Option α)(a b:AV)(r:α):Prop where
 | mk (x y:Int)(e1:a=.int x)(e2:b=.int y)(h:f x y=some r)
theorem Jd {f:Int->Int->Option α}{a b:AV}{r:α}(h:int2 f a b=some r):Int2 f a b r:=by
 obtain⟨x,e1,h⟩:=obD h;obtain⟨y,e2,h⟩:=obD h;exact⟨x,y,int?_of e1,int?_of e2,h⟩
theorem JX {P:Prop}{_:Decidable P}{x r:α}(h:(if P then some x else none)=some r):P/\x=r:=by
 by_cases p:P
 ·replace h:=(if_pos p) ▸ h; exact⟨p,Option.some.inj h⟩
 ·replace h:=(if_neg p) ▸ h; cases h
inductive BinV:Op->AV->AV->AV->Prop where
 | add (a b:Int):BinV .add (.int a) (.int b) (.int (a+b))
 | cat (a b:String)(h:a.length+b.length<=100000):BinV .add (.str a) (.str b) (.str (a++b))
 | sub (a b:Int):BinV .sub (.int a) (.int b) (.int (a-b))
 | mul (a b:Int)(h:Qg a/\Qg b):BinV .mul (.int a) (.int b) (.int (a*b))
 | div (a b:Int)(h:b≠0/\Qg b):BinV .div (.int a) (.int b) (.int (a.fdiv b))
 | mod (a b:Int)(h:b≠0/\Qg b):BinV .mod (.int a) (.int b) (.int (a.fmod b))
theorem wO {o:Op}{v w r:AV}(h:pBin o v w=some r):BinV o v w r:=by
 cases o with
 | add =>
  rcases Option.or_eq_some_iff.mp h with h | ⟨_,h⟩
  ·obtain⟨x,y,rfl,rfl,h⟩:=Jd h; cases h; exact .add x y
  ·obtain⟨x,e1,h⟩:=obD h
   obtain⟨y,e2,h⟩:=obD h;obtain⟨p,rfl⟩:=JX h;simp only[str?_of e1,str?_of e2];exact .cat x y p
 | sub=>obtain⟨x,y,rfl,rfl,h⟩:=Jd h; cases h; exact .sub x y
 | mul=>obtain⟨x,y,rfl,rfl,h⟩:=Jd h; obtain⟨p,rfl⟩:=JX h; exact .mul x y p
 | div=>obtain⟨x,y,rfl,rfl,h⟩:=Jd h; obtain⟨p,rfl⟩:=JX h; exact .div x y p
 | mod=>obtain⟨x,y,rfl,rfl,h⟩:=Jd h; obtain⟨p,rfl⟩:=JX h; exact .mod x y p
theorem U8 {a b:String}(h:a.length+b.length<=100000):(Str.ofString a).length+(Str.ofString b).length<=sizeLine:=by simp only[Str.ofString_len,Str.ofString_len,sizeLine_eq]; exact Nat.le_trans h (by decide)
theorem wQ {o:Op}{v w r:AV}{x y:Value}(b:BinV o v w r)(r1:c.rep f.FX cm h v x)(r2:c.rep f.FX cm h w y)(k:∀z s',Grow s s'->c.rep f.FX cm s'.heap r z->Q z s') :
  wpAny (model P0 c.w) A (binaryOp (opOf o) x y) Q E s/\wpAny (model P0 c.w) A (inplaceOp (opOf o) x y) Q E s:=by
 cases b with
 | add =>
  obtain⟨t,rfl⟩:=r1; obtain⟨u,rfl⟩:=r2;exact⟨PyProof.Rows.add_int (k _ _ (Grow.toks _ _) ⟨_,rfl⟩),PyProof.Rows.iadd_int (k _ _ (Grow.toks _ _) ⟨_,rfl⟩)⟩
 | cat _ _ hl =>
  obtain⟨t,rfl⟩:=r1; obtain⟨u,rfl⟩:=r2;have q:=λt' tk=>k (.str _ t') _ (Grow.toks _ tk) ⟨t',by rw[Str.ofString_append]⟩
  exact⟨PyProof.Rows.add_str q (U8 hl),PyProof.Rows.iadd_str q (U8 hl)⟩
 | sub =>
  obtain⟨t,rfl⟩:=r1; obtain⟨u,rfl⟩:=r2;exact⟨PyProof.Rows.sub_int (k _ _ (Grow.toks _ _) ⟨_,rfl⟩),PyProof.Rows.isub_int (k _ _ (Grow.toks _ _) ⟨_,rfl⟩)⟩
 | mul _ _ hb =>
  obtain⟨t,rfl⟩:=r1; obtain⟨u,rfl⟩:=r2;exact⟨PyProof.Rows.mul_int (k _ _ (Grow.toks _ _) ⟨_,rfl⟩) (IntMulOk.of_bits hb.1.bits hb.2.bits),PyProof.Rows.imul_int (k _ _ (Grow.toks _ _) ⟨_,rfl⟩) (IntMulOk.of_bits hb.1.bits hb.2.bits)⟩
 | div _ _ hb =>
  obtain⟨t,rfl⟩:=r1; obtain⟨u,rfl⟩:=r2;exact⟨PyProof.Rows.floordiv_int hb.1 (k _ _ (Grow.toks _ _) ⟨_,rfl⟩) (.inl (PyProof.noPylong_of_log2 hb.2.log)),PyProof.Rows.ifloordiv_int hb.1 (k _ _ (Grow.toks _ _) ⟨_,rfl⟩) (.inl (PyProof.noPylong_of_log2 hb.2.log))⟩
 | mod _ _ hb =>
  obtain⟨t,rfl⟩:=r1; obtain⟨u,rfl⟩:=r2;exact⟨PyProof.Rows.mod_int hb.1 (k _ _ (Grow.toks _ _) ⟨_,rfl⟩),PyProof.Rows.imod_int hb.1 (k _ _ (Grow.toks _ _) ⟨_,rfl⟩)⟩
inductive OptP (o:Option AV)(P:AV->Prop):Prop where
 | mk (r:AV)(e:o=some r)(p:P r)
theorem wR {o:Option AV}(h:EPost c f J s cm (.ofOpt o H) Q E):OptP o λr=>EPost c f J s cm (.ok r H) Q E:=by
 cases o with
 | none=>exact h.elim
 | some r=>exact⟨r,rfl,h⟩
theorem U9 {o:Op}{v w:AV}{x y:Value}(i:Inv c f s J H cm)(r1:c.rep f.FX cm s.heap v x)(r2:c.rep f.FX cm s.heap w y)
  (h:EPost c f J s cm (.ofOpt (pBin o v w) H) Q E):wpAny (model P0 c.w) A (binaryOp (opOf o) x y) Q E s/\wpAny (model P0 c.w) A (inplaceOp (opOf o) x y) Q E s :=
 (wR h).casesOn λ_ e p=>wQ (wO e) r1 r2 λ_ _ g=>p.end i g
theorem Zi {x:Value}{K:Bool->Shared->Prop}{b:Bool}(r:c.rep f.FX cm s.heap v x)(h:pTruth v=some b)(k:K b s):wpAny (model P0 c.w) A (truthy x) K E s:=by
 cases v with
 | bool=>cases h; obtain rfl:x=.bool b:=r; exact wpAny_truthy_bool k
 | int=>obtain⟨t,rfl⟩:=r; cases h; exact P.truthy_int k
 | _=>exact no h
mutual
noncomputable def toD:AV->Dat
 | .none=>.none
 | .int i=>.int i
 | .str s=>.str (Str.ofString s)
 | .tup l=>.tuple (toDs l)
 | .lst l=>.list (toDs l)
 | _=>.bytes #[]
noncomputable def toDs:LA->List Dat
 | []=>[]
 | x::l=>toD x::toDs l
end
theorem JZ (s:String):PyData.strOk (Str.ofString s)=true:=by
 rw[Str.ofString_eq_toList];unfold PyData.strOk;simp only[List.all_toArray,List.all_eq_true,List.mem_map,decide_eq_true_eq]
 rintro x ⟨ch,_,rfl⟩
 have h:=ch.valid;show ch.val.toNat<_;exact Or.elim h (λh=>Nat.lt_trans h (by decide)) λh=>h.2
theorem Zj {d:Dat}(h:d∈toDs l):∃x∈l,toD x=d:=by
 induction l with
 | nil=>cases h
 | cons y l ih =>
  rcases mcD (show d∈toD y::toDs l from h) with rfl | h
  ·exact⟨y,.head _,rfl⟩
  ·obtain⟨x,hx,e⟩:=ih h; exact⟨x,.tail _ hx,e⟩
inductive DataV:Nat->AV->Prop where
 | non (n:Nat):DataV n .none
 | int (n:Nat)(i:Int):DataV n (.int i)
 | str (n:Nat)(s:String):DataV n (.str s)
 | tup (n:Nat)(l:LA)(h:∀x∈l,AV.data n x=true):DataV (n+1) (.tup l)
 | lst (n:Nat)(l:LA)(h:∀x∈l,AV.data n x=true):DataV (n+1) (.lst l)
theorem Yj {x:AV}(h:AV.data n x=true):DataV n x:=by
 cases n with
 | zero =>
  cases x with
  | none=>exact .non _
  | int=>exact .int ..
  | str=>exact .str ..
  | _=>exact nf h
 | succ n =>
  cases x with
  | none=>exact .non _
  | int=>exact .int ..
  | str=>exact .str ..
  | tup l=>exact .tup _ _ (aaD h)
  | lst l=>exact .lst _ _ (aaD h)
  | _=>exact nf h
theorem Nb {n m:Nat}{x:AV}(hm:n<=m)(h:AV.data n x=true):kqdOk m (toD x)=true:=by
 induction n generalizing m x with
 | zero=>cases Yj h<;>cases m<;>first | rfl | exact JZ _
 | succ n ih =>
  cases m with
  | zero=>cases hm
  | succ m =>
   have all:∀l:LA,(∀x∈l,AV.data n x=true)->(toDs l).all (kqdOk m)=true:=λl hl=>List.all_eq_true.mpr λd hd=>(by obtain⟨x,hx,e⟩:=Zj hd; exact e ▸ ih (Nat.le_of_succ_le_succ hm) (hl x hx))
   cases Yj h with
   | non=>rfl
   | int=>rfl
   | str=>exact JZ _
   | tup _ l hl=>exact all l hl
   | lst _ l hl=>exact all l hl
theorem Wr (n:Nat)(x:AV)(h:AV.data n x=true):kqdOk n (toD x)=true:=Nb (Nat.le_refl n) h
theorem Nf {y:AV}(e:Dat.none=toD y):AV.none=y:=by cases y<;>cases e<;>rfl
theorem Ng {y:AV}{i:Int}(e:Dat.int i=toD y):AV.int i=y:=by cases y<;>cases e<;>rfl
inductive ToS (s:Str)(y:AV):Prop where | mk (t:String) (e:y=.str t) (h:s=Str.ofString t)
theorem Nh {y:AV}{s:Str}(e:Dat.str s=toD y):ToS s y:=by
 cases y with
 | str t=>exact⟨t,rfl,by cases e; rfl⟩
 | _=>cases e
inductive ToL (l:List Dat)(k:LA->AV)(y:AV):Prop where | mk (m:LA) (e:y=k m) (h:l=toDs m)
theorem wU {y:AV}{l:List Dat}(e:Dat.tuple l=toD y):ToL l .tup y:=by
 cases y with
 | tup t=>exact⟨t,rfl,by cases e; rfl⟩
 | _=>cases e
theorem wV {y:AV}{l:List Dat}(e:Dat.list l=toD y):ToL l .lst y:=by
 cases y with
 | lst t=>exact⟨t,rfl,by cases e; rfl⟩
 | _=>cases e
theorem Ni (ih:∀x y:AV,AV.data n x=true->toD x=toD y->x=y)(l m:LA)(h:∀x∈l,AV.data n x=true)(e:toDs l=toDs m):l=m:=by
 induction l generalizing m with
 | nil=>cases m with | nil=>rfl | cons=>cases e
 | cons x l il =>
  cases m with
  | nil=>cases e
  | cons y m =>
   have e:toD x::toDs l=toD y::toDs m:=e;rw[ih x y (h x (.head _)) (List.cons.inj e).1,il m (λz hz=>h z (.tail _ hz)) (List.cons.inj e).2]
theorem Nj (n:Nat)(x y:AV)(h:AV.data n x=true)(e:toD x=toD y):x=y:=by
 induction n generalizing x y with
 | zero =>
  cases Yj h with
  | non=>exact Nf e
  | int=>exact Ng e
  | str=>obtain⟨t,rfl,q⟩:=Nh e; exact congrArg _ (Str.ofString_inj q)
 | succ n ih =>
  cases Yj h with
  | non=>exact Nf e
  | int=>exact Ng e
  | str=>obtain⟨t,rfl,q⟩:=Nh e; exact congrArg _ (Str.ofString_inj q)
  | tup _ l hl=>obtain⟨t,rfl,q⟩:=wU e; exact congrArg _ (Ni ih l t hl q)
  | lst _ l hl=>obtain⟨t,rfl,q⟩:=wV e; exact congrArg _ (Ni ih l t hl q)
abbrev Rds (h:Heap)(x:AV)(v:Value):Prop:=∃as,Reads h v (kqdP (toD x)) as
theorem Zk (ih:∀(x:AV) (v:Value),AV.data n x=true->c.rep f.FX cm h x v->Rds h x v)(l:LA)(vs:List Value)(hl:∀x∈l,AV.data n x=true)(r:c.reps f.FX cm h l vs):∃as,ReadsAll h vs (kqdPs (toDs l)) as:=by
 induction l generalizing vs with
 | nil=>cases (show vs=[] from r); exact⟨_,.nil⟩
 | cons x l il =>
  obtain⟨v,r,rfl,h1,h2⟩:=r;obtain⟨as,q⟩:=ih x v (hl x (.head _)) h1;obtain⟨bs,p⟩:=il r (λz hz=>hl z (.tail _ hz)) h2;exact⟨_,.cons q p⟩
theorem Nk (n:Nat)(x:AV)(v:Value)(hx:AV.data n x=true)(r:c.rep f.FX cm s.heap x v):Rds s.heap x v:=by
 induction n generalizing x v with
 | zero =>
  cases Yj hx with
  | non=>cases (show v=.none from r); exact⟨_,.none⟩
  | int=>obtain⟨t,rfl⟩:=r; exact⟨_,.int _ t⟩
  | str=>obtain⟨t,rfl⟩:=r; exact⟨_,.str _ t⟩
 | succ n ih =>
  cases Yj hx with
  | non=>cases (show v=.none from r); exact⟨_,.none⟩
  | int=>obtain⟨t,rfl⟩:=r; exact⟨_,.int _ t⟩
  | str=>obtain⟨t,rfl⟩:=r; exact⟨_,.str _ t⟩
  | tup _ l hl =>
   obtain⟨a,o,vs,k,rfl,r,hc,hd,z⟩:=r;obtain⟨as,q⟩:=Zk ih l vs hl z;exact⟨_,reads_tuple_at r.1 hc hd q⟩
  | lst _ l hl =>
   obtain⟨a,o,vs,k,rfl,r,hc,hd,z⟩:=r;obtain⟨as,q⟩:=Zk ih l vs hl z;exact⟨_,reads_list_at r.1 hc hd q⟩
theorem Zm (n:Nat)(l:LA)(vs:List Value)(h:l.all (AV.data n)=true)(r:c.reps f.FX cm s.heap l vs):∃as,ReadsAll s.heap vs (kqdPs (toDs l)) as:=Zk (Nk n) l vs (aaD h) r
theorem Nm (i:Inv c f s J H cm){x:AV}{v:Value}(h:AV.data 6 (rd H x)=true)(r:c.rep f.FX cm s.heap x v):Rds s.heap (rd H x) v:=by
 cases x with
 | cell k =>
  obtain⟨p,hp,rfl⟩:=r;show Rds s.heap (match H[k]? with | some (.lst l)=>.lst l | _=>.unset) _
  have h:AV.data 6 (match H[k]? with | some (.lst l)=>.lst l | _=>.unset)=true:=h
  cases hk:H[k]? with
  | none=>rw[hk] at h; cases h
  | some x =>
   replace h:=hk ▸ h
   cases x with
   | lst l =>
    obtain⟨_,xs,o,n,e,r1,r2,_,_,z⟩:=i.base.cells k p _ hp hk;obtain⟨as,q⟩:=Zm 5 l xs h z;exact⟨_,reads_list_at e r1 r2 q⟩
   | _=>exact nf h
 | _=>exact Nk 6 _ v h r
theorem Ws {x:AV}(h:AV.data 6 x=true):SeqAt.shaped (kqdP (toD x))=true:=by
 have l:=kqd_lay 6 (toD x) (Wr 6 x h);unfold SeqAt.shaped;simp only[l.1,Bool.true_and];exact decide_eq_true (Nat.le_trans l.2 (by decide))
open Classical in
theorem Np {x y:AV}(h:AV.data 6 x=true)(k:AV.data 6 y=true):PyData.eqv (kqdP (toD x)) (kqdP (toD y))=decide (x=y):=by
 have q:=kqd_eqv 6 (toD x) (toD y) 6 (Wr 6 x h) (Wr 6 y k);by_cases e:x=y
 ·rw[decide_eq_true e]; exact q.mpr (by rw[e])
 ·rw[decide_eq_false e]; exact Bool.eq_false_iff.mpr λz=>e (Nj 6 x y h (q.mp z))
theorem Room.cu (rm:Room f A n):A.units+90<cLine:=Nat.lt_of_le_of_lt (Nat.le_trans (Nat.add_le_add (Nat.le_add_right ..) (by decide)) rm.units) (by decide)
end
section
noncomputable def cmOf:Cm->CmpOp
 | .eq=>.Eq | .ne=>.NotEq | .lt=>.Lt | .le=>.LtE | .gt=>.Gt | .ge=>.GtE | .is=>.Is | .isnot=>.IsNot | .isin=>.In | .notin=>.NotIn
theorem Je {x:Value}{b:Bool}(hx:plainIs x .none=true/\(x==Value.none)=false)(h:some false=some b):plainIs x .none=true/\(x==Value.none)=b:=Option.some.inj h ▸ hx
theorem JL {x:Value}(h:x=.ref a):plainIs x .none=true/\(x==Value.none)=false:=h ▸ ⟨rfl,rfl⟩
theorem Nq {x:Value}{b:Bool}(r:c.rep f.FX cm s.heap v x)(h:v.isNone=some b):plainIs x .none=true/\(x==Value.none)=b:=by
 cases v with
 | unset=>exact r.elim
 | none=>obtain rfl:x=.none:=r; exact Option.some.inj h ▸ ⟨rfl,rfl⟩
 | bool _=>exact Je ((show x=.bool _ from r) ▸ ⟨rfl,rfl⟩) h
 | int _=>exact Je (r.casesOn λ_ e=>e ▸ ⟨rfl,rfl⟩) h
 | str _=>exact Je (r.casesOn λ_ e=>e ▸ ⟨rfl,rfl⟩) h
 | tup _=>exact Je (r.casesOn λ_ _ _ _ e _ _ _ _=>JL e) h
 | lst _=>exact Je (r.casesOn λ_ _ _ _ e _ _ _ _=>JL e) h
 | dct _ _=>exact Je (r.casesOn λ_ _ _ e _ _ _ _=>JL e) h
 | obj _ _ _=>exact Je (r.casesOn λ_ _ _ _ e _ _ _ _=>JL e) h
 | cell _=>exact Je (r.elim λ_ h=>JL h.2) h
 | kref _=>exact Je (JL r) h
 | rng _ _=>exact Je (r.casesOn λ_ _ _ _ e _ _ _=>JL e) h
 | lam _=>exact Je (r.casesOn λ_ _ e _ _ _ _ _ _ _ _ _ _ _ _=>JL e) h
theorem Nr {b:Bool}{x:Option α}{r:α}(h:(if b=true then x else none)=some r):b=true/\x=some r:=by
 cases b with
 | true=>exact⟨rfl,h⟩
 | false=>exact no h
theorem wW {k k':String}{v:Value}{r:List (Str × Value)}(h:k'≠k):valueAt ((Str.ofString k',v)::r) (Str.ofString k)=valueAt r (Str.ofString k):=by
 unfold valueAt;simp only[List.find?_cons,decide_eq_false λq=>h (Str.ofString_inj q)]
theorem wX {k:String}{v:Value}{r:List (Str × Value)}:valueAt ((Str.ofString k,v)::r) (Str.ofString k)=some v:=by
 unfold valueAt;simp only[List.find?_cons,decide_eq_true rfl]; rfl
theorem Zn {ks:List String}{kvs:List (Str × Value)}(k:String)(h:c.repk f.FX cm s.heap ks l kvs):ks.length=l.length/\(valueAt kvs (Str.ofString k)).isSome=decide (k∈ks) /\
  (∀x,keyAt ks l k=some x->∃v,valueAt kvs (Str.ofString k)=some v/\c.rep f.FX cm s.heap x v)/\(keyAt ks l k=none->valueAt kvs (Str.ofString k)=none):=by
 induction l generalizing ks kvs with
 | nil=>obtain⟨rfl,rfl⟩:=h; exact⟨rfl,rfl,λx e=>no e,λ_=>rfl⟩
 | cons y l ih =>
  obtain⟨k',ks',v,r,rfl,rfl,h1,h2⟩:=h;have z:=ih h2;have e1:=congrArg (·+1) z.1;by_cases hk:k'=k
  ·subst hk
   have kh:keyAt (k'::ks') (y::l) k'=some y:=if_pos rfl;rw[wX,kh];exact⟨e1,(decide_eq_true (.head _)).symm,λx e=>⟨v,rfl,Option.some.inj e ▸ h1⟩,nofun⟩
  ·have kh:keyAt (k'::ks') (y::l) k=keyAt ks' l k:=if_neg hk
   rw[wW hk,kh,z.2.1];exact⟨e1,decide_eq_decide.mpr ⟨.tail _,λq=>by cases q with | head=>exact absurd rfl hk | tail _ q=>exact q⟩,z.2.2⟩
theorem Wt (i:Inv c f s J H cm){x:Value}{ks:List String}{vs:LA}(r:c.rep f.FX cm s.heap v x)(h:dctOf H v=some (ks,vs)) :
  DctAt c.w s.heap x λkvs=>c.repk f.FX cm s.heap ks vs kvs:=by
 cases v with
 | dct ks' vs' =>
  cases h;obtain⟨a,o,kvs,rfl,r,lo,d,z⟩:=r;exact⟨a,o,kvs,rfl,r.1,bN λq=>lo q,d,z⟩
 | cell k =>
  obtain⟨p,hp,rfl⟩:=r;have h:H[k]?.bind AC.dct?=some (ks,vs):=h;cases hk:H[k]? with
  | none=>replace h:=hk ▸ h; exact no h
  | some y =>
   replace h:=hk ▸ h
   cases y with
   | dct ks' vs' =>
    cases h;obtain⟨hl,o,kvs,e,r1,_,z⟩:=i.base.cells k p _ hp hk;exact⟨_,o,kvs,rfl,e,bN λq=>c.one ((congrArg _ q).symm.trans (i.base.lo p.1 (.inr (Qz hp (by rw[hl]; exact .head _)))).1),r1,z⟩
   | _=>exact no h
 | _=>exact no h
open Classical in
theorem wY {k:String}(h:l.all (AV.data 5)=true):((kqdPs (toDs l)).any λy=>PyData.eqv y (kqdP (toD (.str k))))=decide (AV.str k∈l):=by
 have h8:∀d∈toDs l,kqdOk 8 d=true:=λd hd=>by
  obtain⟨x,hx,rfl⟩:=Zj hd;exact Nb (by decide) (aaD h x hx)
 have q:=kqd_any (toDs l) (toD (.str k)) h8 (JZ k);have q2:toD (.str k)∈toDs l↔AV.str k∈l:=by
  constructor
  ·intro hm
   obtain⟨x,hx,e⟩:=Zj hm;simp only[Nj 5 x (.str k) (aaD h x hx) e] at hx;exact hx
  ·have:∀{l:LA} {x:AV},x∈l->toD x∈toDs l:=by
    intro l
    induction l with
    | nil=>intro x h; cases h
    | cons y l ih =>
     intro x h;rcases mcD h with rfl | h
     ·exact .head _
     ·exact .tail _ (ih h)
   exact this
 by_cases e:AV.str k∈l
 ·rw[decide_eq_true e]; exact q.mpr (q2.mpr e)
 ·rw[decide_eq_false e]; exact Bool.eq_false_iff.mpr λz=>e (q2.mp (q.mp z))
theorem Wu (h:l.all (AV.data 5)=true):PyData.canLayAll0 (kqdPs (toDs l))=true:=by
 exact (kqd_lay 6 (toD (.lst l)) (Wr 6 (.lst l) h)).1
theorem Wv {u x:Nat}{s:Str}(hu:u+90<cLine):u+1+min x (PyData.str s).depth<cLine :=
 Nat.lt_of_le_of_lt (Nat.add_le_add_left (Nat.min_le_right _ _) _) (Nat.lt_of_le_of_lt (by simp only[PyData.depth]; exact Nat.add_le_add_left (by decide:1<=90) u) hu)
open Classical in
theorem Nt {k:String}{t:Tok}{w:AV}{y:Value}{b:Bool}{K K':VS}(hu:A.units+90<cLine)(i:Inv c f s J H cm)(r2:c.rep f.FX cm s.heap w y)(h:memO H k w=some b)
  (q:∀s',Grow s s'->K (.bool b) s') (q':∀s',Grow s s'->K' (.bool !b) s') :
  wpAny (model P0 c.w) A (compareOp .In (.str (Str.ofString k) t) y) K E s/\wpAny (model P0 c.w) A (compareOp .NotIn (.str (Str.ofString k) t) y) K' E s:=by
 unfold memO at h;cases hq:dctOf H w with
 | some p =>
  replace h:=hq ▸ h
  obtain⟨a,o,kvs,rfl,e,lo,d,z⟩:=Wt i r2 hq;have m:=(Heap.dictOf_iff.mpr ⟨o,e,d⟩).mapOf;have v:=(Zn k z).2.1.trans (Option.some.inj h);exact⟨wpAny_in_of (strKind_is P0 c.w _ t) lo m (by rw[v]; exact q _ (Grow.toks _ _)),wpAny_notIn_of (strKind_is P0 c.w _ t) lo m (by rw[v]; exact q' _ (Grow.toks _ _))⟩
 | none =>
  simp only[hq] at h;obtain⟨l,e1,h⟩:=obD h;obtain⟨hd,rfl⟩:=JX h;have v:((kqdPs (toDs l)).any λy=>PyData.eqv y (.str (Str.ofString k)))=decide (AV.str k∈l):=wY hd;cases w with
  | tup =>
   cases e1;obtain⟨a,o,xs,m,rfl,r,hc,hda,z⟩:=r2;obtain⟨as,p⟩:=Zm 5 l xs hd z;exact⟨SeqAt.in_tuple_reads (reads_tuple_at r.1 hc hda p) (.str _ t) (Wu hd) (JZ _) (Wv hu) (by rw[v]; exact q _ (.refl s)),SeqAt.notIn_tuple_reads (reads_tuple_at r.1 hc hda p) (.str _ t) (Wu hd) (JZ _) (Wv hu) (by rw[v]; exact q' _ (.refl s))⟩
  | lst =>
   cases e1;obtain⟨a,o,xs,m,rfl,r,hc,hda,z⟩:=r2;obtain⟨as,p⟩:=Zm 5 l xs hd z;exact⟨SeqAt.in_list_reads (reads_list_at r.1 hc hda p) (.str _ t) (Wu hd) (JZ _) (Wv hu) (by rw[v]; exact q _ (.refl s)),SeqAt.notIn_list_reads (reads_list_at r.1 hc hda p) (.str _ t) (Wu hd) (JZ _) (Wv hu) (by rw[v]; exact q' _ (.refl s))⟩
  | _=>exact no e1
open Classical in
theorem Nu {v w:AV}{x y:Value}{K K':VS}(hu:A.units+64<cLine)(i:Inv c f s J H cm)(r1:c.rep f.FX cm s.heap v x)(r2:c.rep f.FX cm s.heap w y)
  (hd:(AV.data 6 (rd H v)&&AV.data 6 (rd H w))=true) (q:K (.bool (decide (rd H v=rd H w))) s) (q':K' (.bool (decide (rd H v≠rd H w))) s) :
  wpAny (model P0 c.w) A (compareOp .Eq x y) K E s/\wpAny (model P0 c.w) A (compareOp .NotEq x y) K' E s:=by
 obtain⟨h1,h2⟩:=anD hd;obtain⟨as,q1⟩:=Nm i h1 r1;obtain⟨bs,q2⟩:=Nm i h2 r2;exact⟨eq_dataH q1 q2 (Ws h1) (Ws h2) hu (by rw[Np h1 h2]; exact q),ne_dataH q1 q2 (Ws h1) (Ws h2) hu (by rw[Np h1 h2,<-decide_not]; exact q')⟩
theorem Zo (b1 b2:Bool):SeqAt.shaped (.bool b1)=true/\(!PyData.eqv (.bool b1) (.bool b2))=(b1 != b2):=by
 cases b1<;>cases b2<;>decide +kernel
theorem Zq {P Q:Prop}{_:Decidable P}{_:Decidable Q}(h:P↔Q):decide P=decide Q:=decide_eq_decide.mpr h
theorem Nv {a b:Int}:@decide (AV.int a=AV.int b) (Classical.propDecidable _)=decide (a=b):=Zq ⟨λh=>by cases h; rfl,λh=>h ▸ rfl⟩
open Classical in
theorem Ny {a b:String}:@decide (AV.str a=AV.str b) (Classical.propDecidable _)=(a==b):=by
 by_cases e:a=b
 ·subst e; rw[beq_self_eq_true]; exact decide_eq_true rfl
 ·simp only[bN e]; exact decide_eq_false λh=>e (by cases h; rfl)
open Classical in
theorem Nz {v w:AV}{b:Bool}(h:pCmp H .eq v w=some b):(AV.data 6 (rd H v)&&AV.data 6 (rd H w))=true/\decide (rd H v=rd H w)=b:=by
 rcases Option.or_eq_some_iff.mp h with h | ⟨_,h⟩
 ·obtain⟨x,y,rfl,rfl,h⟩:=Jd h
  exact⟨rfl,Nv.trans (Option.some.inj h)⟩
 rcases Option.or_eq_some_iff.mp h with h | ⟨_,h⟩
 ·obtain⟨x,e1,h⟩:=obD h
  obtain⟨y,e2,h3⟩:=omD h;cases str?_of e1; cases str?_of e2;exact⟨rfl,Ny.trans h3⟩
 ·obtain⟨hd,e⟩:=JX h
  exact⟨hd,e⟩
open Classical in
theorem NB {v w:AV}{b:Bool}(h:(int2 (λx y=>some (decide (x≠y))) v w).or ((str2 (λx y=>!(x==y)) v w).or (datO H (λx y=>decide (x≠y)) v w))=some b):(AV.data 6 (rd H v)&&AV.data 6 (rd H w))=true/\decide (rd H v≠rd H w)=b:=by
 rcases Option.or_eq_some_iff.mp h with h | ⟨_,h⟩
 ·obtain⟨x,y,rfl,rfl,h⟩:=Jd h
  exact⟨rfl,decide_not.trans ((congrArg (!·) Nv).trans (decide_not.symm.trans (Option.some.inj h)))⟩
 rcases Option.or_eq_some_iff.mp h with h | ⟨_,h⟩
 ·obtain⟨x,e1,h⟩:=obD h
  obtain⟨y,e2,h3⟩:=omD h;cases str?_of e1; cases str?_of e2;exact⟨rfl,decide_not.trans ((congrArg (!·) Ny).trans h3)⟩
 ·obtain⟨hd,e⟩:=JX h
  exact⟨hd,e⟩
open Classical in
theorem NK {o:Cm}{v w:AV}{x y:Value}{b:Bool}{K:VS}(rm:Room f A n)(i:Inv c f s J H cm)(r1:c.rep f.FX cm s.heap v x)(r2:c.rep f.FX cm s.heap w y)
  (h:pCmp H o v w=some b) (k:∀s',Grow s s'->K (.bool b) s'):wpAny (model P0 c.w) A (compareOp (cmOf o) x y) K E s:=by
 have hu:=rm.cu;have kr:=k _ (.refl s);have hu':A.units+64<cLine:=Nat.lt_of_le_of_lt (Nat.add_le_add_left (by decide:64<=90) _) hu;cases o with
 | eq=>obtain⟨hd,rfl⟩:=Nz h; exact (Nu (K':=λ_ _=>True) hu' i r1 r2 hd kr trivial).1
 | ne =>
  rcases Option.or_eq_some_iff.mp h with h | ⟨_,h⟩
  ·obtain⟨b1,e1,h⟩:=obD h
   obtain⟨b2,e2,rfl⟩:=omD h;cases bool?_of e1; cases bool?_of e2;obtain rfl:y=.bool b2:=r2;obtain rfl:x=.bool b1:=r1;exact ne_dataH (.bool _) (.bool _) (Zo b1 b2).1 (Zo b2 b1).1 hu' (by rw[(Zo b1 b2).2]; exact kr)
  ·obtain⟨hd,rfl⟩:=NB h; exact (Nu (K:=λ_ _=>True) hu' i r1 r2 hd trivial kr).2
 | lt=>obtain⟨_,_,rfl,rfl,h⟩:=Jd h; obtain⟨t,rfl⟩:=r1; obtain⟨u,rfl⟩:=r2; cases h; exact P.lt_int kr
 | le=>obtain⟨_,_,rfl,rfl,h⟩:=Jd h; obtain⟨t,rfl⟩:=r1; obtain⟨u,rfl⟩:=r2; cases h; exact P.le_int kr
 | gt=>obtain⟨_,_,rfl,rfl,h⟩:=Jd h; obtain⟨t,rfl⟩:=r1; obtain⟨u,rfl⟩:=r2; cases h; exact P.gt_int kr
 | ge=>obtain⟨_,_,rfl,rfl,h⟩:=Jd h; obtain⟨t,rfl⟩:=r1; obtain⟨u,rfl⟩:=r2; cases h; exact P.ge_int kr
 | is =>
  obtain⟨hn,h⟩:=Nr h;cases U7 hn;obtain⟨p1,p2⟩:=Nq r1 h;obtain rfl:y=.none:=r2;exact wpAny_is_plain p1 (by rw[p2]; exact kr)
 | isnot =>
  obtain⟨hn,h⟩:=Nr h;cases U7 hn;obtain rfl:y=.none:=r2;obtain⟨b',hb,rfl⟩:=omD h;obtain⟨p1,p2⟩:=Nq r1 hb;exact wpAny_isNot_plain p1 (by rw[p2]; exact kr)
 | isin =>
  obtain⟨q,e,h⟩:=obD h;cases str?_of e;obtain⟨t,rfl⟩:=r1;exact (Nt (K':=λ_ _=>True) hu i r2 h k λ_ _=>trivial).1
 | notin =>
  obtain⟨q,e,h⟩:=obD h;cases str?_of e;obtain⟨t,rfl⟩:=r1;obtain⟨b',hb,rfl⟩:=omD h;exact (Nt (K:=λ_ _=>True) hu i r2 hb (λ_ _=>trivial) k).2
end
abbrev Sc:=List (Str × NameKind)
abbrev Sl:=List (Str × Nat)
structure Ck where
 g:String->AV->Bool
 lm:Nat->Arguments->PX->Scope->Pos->Bool
 init:Nat->Nat->Bool
 mt:Nat->String->Nat->Bool
 code:Value
 qual:Str
noncomputable def FrOk (k:Ck)(e:Env):Prop:=e.code=k.code/\e.qual=k.qual
noncomputable def onConst (x:PX)(P:Const->Nat->Pos->Bool):Bool:=if h:x.ctorIdx=19 then PySem.Expr.Constant.elim (motive_1:=λ_=>Bool) x h P else false
noncomputable def onName (x:PX)(P:Str->Pos->Bool):Bool:=if h:x.ctorIdx=23 then PySem.Expr.Name.elim (motive_1:=λ_=>Bool) x h P else false
noncomputable def onBin (x:PX)(P:PX->Operator->PX->Pos->Bool):Bool:=if h:x.ctorIdx=2 then PySem.Expr.BinOp.elim (motive_1:=λ_=>Bool) x h P else false
noncomputable def onUn (x:PX)(P:UnaryOp->PX->Pos->Bool):Bool:=if h:x.ctorIdx=3 then PySem.Expr.UnaryOp.elim (motive_1:=λ_=>Bool) x h P else false
noncomputable def onCmpL (x:PX)(P:PX->List CmpOp->List PX->Pos->Bool):Bool:=if h:x.ctorIdx=15 then PySem.Expr.Compare.elim (motive_1:=λ_=>Bool) x h P else false
noncomputable def onBool (x:PX)(P:BoolOp->List PX->Pos->Bool):Bool:=if h:x.ctorIdx=0 then PySem.Expr.BoolOp.elim (motive_1:=λ_=>Bool) x h P else false
noncomputable def onIf (x:PX)(P:PX->PX->PX->Pos->Bool):Bool:=if h:x.ctorIdx=5 then PySem.Expr.IfExp.elim (motive_1:=λ_=>Bool) x h P else false
noncomputable def onCallE (x:PX)(P:PX->List PX->List Keyword->Pos->Bool):Bool:=if h:x.ctorIdx=16 then PySem.Expr.Call.elim (motive_1:=λ_=>Bool) x h P else false
noncomputable def onAttr (x:PX)(P:PX->Str->Pos->Bool):Bool:=if h:x.ctorIdx=20 then PySem.Expr.Attribute.elim (motive_1:=λ_=>Bool) x h P else false
noncomputable def onSub (x:PX)(P:PX->PX->Pos->Bool):Bool:=if h:x.ctorIdx=21 then PySem.Expr.Subscript.elim (motive_1:=λ_=>Bool) x h P else false
noncomputable def onSlL (x:PX)(P:Option PX->Option PX->Option PX->Pos->Bool):Bool:=if h:x.ctorIdx=26 then PySem.Expr.Slice.elim (motive_1:=λ_=>Bool) x h P else false
noncomputable def onList (x:PX)(P:List PX->Pos->Bool):Bool:=if h:x.ctorIdx=24 then PySem.Expr.List.elim (motive_1:=λ_=>Bool) x h P else false
noncomputable def onTup (x:PX)(P:List PX->Nat->Pos->Bool):Bool:=if h:x.ctorIdx=25 then PySem.Expr.Tuple.elim (motive_1:=λ_=>Bool) x h P else false
noncomputable def onDict (x:PX)(P:List (Option PX)->List PX->Pos->Bool):Bool:=if h:x.ctorIdx=6 then PySem.Expr.Dict.elim (motive_1:=λ_=>Bool) x h P else false
noncomputable def onComp (x:PX)(P:PX->List Comprehension->Scope->Pos->Bool):Bool:=if h:x.ctorIdx=8 then PySem.Expr.ListComp.elim (motive_1:=λ_=>Bool) x h P else false
noncomputable def onLam (x:PX)(P:Arguments->PX->Scope->Pos->Bool):Bool:=if h:x.ctorIdx=4 then PySem.Expr.Lambda.elim (motive_1:=λ_=>Bool) x h P else false
noncomputable def onJoin (x:PX)(P:List PX->Pos->Bool):Bool:=if h:x.ctorIdx=18 then PySem.Expr.JoinedStr.elim (motive_1:=λ_=>Bool) x h P else false
noncomputable def onFmtL (x:PX)(P:PX->Int->Option PX->Pos->Bool):Bool:=if h:x.ctorIdx=17 then PySem.Expr.FormattedValue.elim (motive_1:=λ_=>Bool) x h P else false
noncomputable def on1 {α:Type}(l:List α)(P:α->Bool):Bool:=match l with | [a]=>P a | _=>false
noncomputable def on2 {α:Type}(l:List α)(P:α->α->Bool):Bool:=match l with | [a,b]=>P a b | _=>false
noncomputable def onS {α:Type}(o:Option α)(P:α->Bool):Bool:=match o with | some a=>P a | none=>false
noncomputable def onCmp (x:PX)(P:PX->CmpOp->PX->Bool):Bool:=onCmpL x λl os rs _=>on1 os λo=>on1 rs λr=>P l o r
noncomputable def noBare (x:PX):Bool:=!(onCallE x λy as ks _=>as.isEmpty&&ks.isEmpty&&onName y λ_ _=>true)
noncomputable def onCall (x:PX)(P:Str->List PX->Bool):Bool:=onCallE x λy as ks _=>ks.isEmpty&&onName y λn _=>P n as
noncomputable def onCall1 (x:PX)(P:Str->PX->Bool):Bool:=onCall x λn as=>on1 as (P n)
noncomputable def onCall2 (x:PX)(P:Str->PX->PX->Bool):Bool:=onCall x λn as=>on2 as (P n)
noncomputable def onMeth (x:PX)(P:PX->Str->List PX->Bool):Bool:=onCallE x λy as ks p=>ks.isEmpty&&onAttr y λo n ap=>ap.endLine==p.line&&decide (as.length<20)&&noBare o&&P o n as
noncomputable def onSl (x:PX)(P:Option PX->Option PX->Bool):Bool:=onSlL x λa b c _=>c.isNone&&P a b
noncomputable def isSl (x:PX):Bool:=onSl x λ_ _=>true
noncomputable def onFmt (x:PX)(P:PX->Bool):Bool:=onFmtL x λv c s _=>c==-1&&s.isNone&&P v
noncomputable def cNone:Const->Bool | .none=>true | _=>false
noncomputable def cBool (b:Bool):Const->Bool | .bool c=>b==c | _=>false
noncomputable def cInt (i:Int):Const->Bool | .int j=>i==j | _=>false
noncomputable def cStr (s:String):Const->Bool | .str t=>t==Str.ofString s | _=>false
theorem dinv {c:Prop}[Decidable c]{g:c->Bool}(h:(if h:c then g h else false)=true):c:=Decidable.byContradiction λn=>by rw[dif_neg n] at h; exact nf h
theorem Yk {P}(h:onConst x P=true):∃c k p,x=.Constant c k p/\P c k p=true:=by have e:=dinv h; revert h; exact PySem.Expr.Constant.elim x e λc k p h=>⟨c,k,p,rfl,h⟩
theorem QR {P}(h:onName x P=true):∃y p,x=.Name y p/\P y p=true:=by have e:=dinv h; revert h; exact PySem.Expr.Name.elim x e λy p h=>⟨y,p,rfl,h⟩
theorem Zr {P}(h:onBin x P=true):∃l o r p,x=.BinOp l o r p/\P l o r p=true:=by have e:=dinv h; revert h; exact PySem.Expr.BinOp.elim x e λl o r p h=>⟨l,o,r,p,rfl,h⟩
theorem NP {P}(h:onUn x P=true):∃o y p,x=.UnaryOp o y p/\P o y p=true:=by have e:=dinv h; revert h; exact PySem.Expr.UnaryOp.elim x e λo y p h=>⟨o,y,p,rfl,h⟩
theorem wZ {P}(h:onCmpL x P=true):∃l os rs p,x=.Compare l os rs p/\P l os rs p=true:=by have e:=dinv h; revert h; exact PySem.Expr.Compare.elim x e λl os rs p h=>⟨l,os,rs,p,rfl,h⟩
theorem NQ {P}(h:onBool x P=true):∃o l p,x=.BoolOp o l p/\P o l p=true:=by have e:=dinv h; revert h; exact PySem.Expr.BoolOp.elim x e λo l p h=>⟨o,l,p,rfl,h⟩
theorem on_If {P}(h:onIf x P=true):∃t a b p,x=.IfExp t a b p/\P t a b p=true:=by have e:=dinv h; revert h; exact PySem.Expr.IfExp.elim x e λt a b p h=>⟨t,a,b,p,rfl,h⟩
theorem Zt {P}(h:onCallE x P=true):∃y as ks p,x=.Call y as ks p/\P y as ks p=true:=by have e:=dinv h; revert h; exact PySem.Expr.Call.elim x e λy as ks p h=>⟨y,as,ks,p,rfl,h⟩
theorem Ww {P}(h:onAttr x P=true):∃o n p,x=.Attribute o n p/\P o n p=true:=by have e:=dinv h; revert h; exact PySem.Expr.Attribute.elim x e λo n p h=>⟨o,n,p,rfl,h⟩
theorem Yl {P}(h:onSub x P=true):∃o i p,x=.Subscript o i p/\P o i p=true:=by have e:=dinv h; revert h; exact PySem.Expr.Subscript.elim x e λo i p h=>⟨o,i,p,rfl,h⟩
theorem kj {P}(h:onSlL x P=true):∃a b c p,x=.Slice a b c p/\P a b c p=true:=by have e:=dinv h; revert h; exact PySem.Expr.Slice.elim x e λa b c p h=>⟨a,b,c,p,rfl,h⟩
theorem NT {P}(h:onList x P=true):∃l p,x=.List l p/\P l p=true:=by have e:=dinv h; revert h; exact PySem.Expr.List.elim x e λl p h=>⟨l,p,rfl,h⟩
theorem Ym {P}(h:onTup x P=true):∃l q p,x=.Tuple l q p/\P l q p=true:=by have e:=dinv h; revert h; exact PySem.Expr.Tuple.elim x e λl q p h=>⟨l,q,p,rfl,h⟩
theorem km {P}(h:onDict x P=true):∃a b p,x=.Dict a b p/\P a b p=true:=by have e:=dinv h; revert h; exact PySem.Expr.Dict.elim x e λa b p h=>⟨a,b,p,rfl,h⟩
theorem Zu {P}(h:onComp x P=true):∃e gs s p,x=.ListComp e gs s p/\P e gs s p=true:=by have e:=dinv h; revert h; exact PySem.Expr.ListComp.elim x e λe gs s p h=>⟨e,gs,s,p,rfl,h⟩
theorem kE {P}(h:onLam x P=true):∃a b s p,x=.Lambda a b s p/\P a b s p=true:=by have e:=dinv h; revert h; exact PySem.Expr.Lambda.elim x e λa b s p h=>⟨a,b,s,p,rfl,h⟩
theorem kJ {P}(h:onJoin x P=true):∃l p,x=.JoinedStr l p/\P l p=true:=by have e:=dinv h; revert h; exact PySem.Expr.JoinedStr.elim x e λl p h=>⟨l,p,rfl,h⟩
theorem kO {P}(h:onFmtL x P=true):∃v c s p,x=.FormattedValue v c s p/\P v c s p=true:=by have e:=dinv h; revert h; exact PySem.Expr.FormattedValue.elim x e λv c s p h=>⟨v,c,s,p,rfl,h⟩
theorem Q3 {l:List α}{P}(h:on1 l P=true):∃a,l=[a]/\P a=true:=by
 cases l with
 | nil=>exact nf h
 | cons a l=>cases l with | nil=>exact⟨a,rfl,h⟩ | cons _ _=>exact nf h
theorem J0 {l:List α}{P}(h:on2 l P=true):∃a b,l=[a,b]/\P a b=true:=by
 cases l with
 | nil=>exact nf h
 | cons a l=>cases l with
  | nil=>exact nf h
  | cons b l=>cases l with | nil=>exact⟨a,b,rfl,h⟩ | cons _ _=>exact nf h
theorem Qp {o:Option α}{P}(h:onS o P=true):∃a,o=some a/\P a=true:=by
 cases o with
 | none=>exact nf h
 | some a=>exact⟨a,rfl,h⟩
theorem kW {P}(h:onCmp x P=true):∃l o r p,x=.Compare l [o] [r] p/\P l o r=true:=by
 replace h:=wZ h
 obtain⟨_,_,_,_,rfl,h⟩:=h
 replace h:=Q3 h
 obtain⟨_,rfl,h⟩:=h;obtain⟨_,rfl,h⟩:=Q3 h;exact⟨_,_,_,_,rfl,h⟩
theorem Zv {P}(h:onCall x P=true):∃y as q p,x=.Call (.Name y q) as [] p/\P y as=true:=by
 replace h:=Zt h
 obtain⟨y,as,ks,p,rfl,h⟩:=h;simp only[Bool.and_eq_true] at h;obtain⟨n,q,rfl,h2⟩:=QR h.2;cases ieD h.1;exact⟨_,_,_,_,rfl,h2⟩
theorem NZ {P}(h:onCall1 x P=true):∃y z q p,x=.Call (.Name y q) [z] [] p/\P y z=true:=by
 replace h:=Zv h
 obtain⟨y,as,q,p,rfl,h⟩:=h;obtain⟨_,rfl,h⟩:=Q3 h;exact⟨_,_,_,_,rfl,h⟩
theorem N5 {P}(h:onCall2 x P=true):∃y z u q p,x=.Call (.Name y q) [z,u] [] p/\P y z u=true:=by
 replace h:=Zv h
 obtain⟨y,as,q,p,rfl,h⟩:=h;obtain⟨_,_,rfl,h⟩:=J0 h;exact⟨_,_,_,_,_,rfl,h⟩
theorem Wx {P}(h:onMeth x P=true):∃y m as ap p,x=.Call (.Attribute y m ap) as [] p/\(ap.endLine==p.line)=true/\as.length<20/\noBare y=true/\P y m as=true:=by
 replace h:=Zt h
 obtain⟨y,as,ks,p,rfl,h⟩:=h;simp only[Bool.and_eq_true] at h;obtain⟨o,n,ap,rfl,h2⟩:=Ww h.2;cases ieD h.1;simp only[Bool.and_eq_true,decide_eq_true_eq] at h2;exact⟨_,_,_,_,_,rfl,h2.1.1.1,h2.1.1.2,h2.1.2,h2.2⟩
theorem N6 {P}(h:onSl x P=true):∃a b p,x=.Slice a b none p/\P a b=true:=by
 replace h:=kj h
 obtain⟨a,b,c,p,rfl,h⟩:=h;rw[Bool.and_eq_true,Option.isNone_iff_eq_none] at h;obtain⟨rfl,h⟩:=h;exact⟨_,_,_,rfl,h⟩
theorem kY {P}(h:onFmt x P=true):∃v p,x=.FormattedValue v (-1) none p/\P v=true:=by
 replace h:=kO h
 obtain⟨v,c,s,p,rfl,h⟩:=h;rw[Bool.and_eq_true,Bool.and_eq_true,beq_iff_eq,Option.isNone_iff_eq_none] at h;obtain⟨⟨rfl,rfl⟩,h⟩:=h;exact⟨_,_,rfl,h⟩
noncomputable def noStar (x:PX):Bool:=!(x.ctorIdx==22)
noncomputable def plainT (x:PX):Bool:=!(x.ctorIdx==0||x.ctorIdx==3||x.ctorIdx==5||x.ctorIdx==15)||onUn x λo _ _=>!(o.ctorIdx==1)
noncomputable def noSet (x:PX):Bool:=!(x.ctorIdx==7)
noncomputable def visL (sc:Sc)(x:Str):Bool:=onS (sc.lookup x) λkd=>kd==.local||kd==.cell||kd==.free
noncomputable def glb (sc:Sc)(n:String)(x:Str):Bool:=x==Str.ofString n&&sc.lookup x==some .globalImplicit&&!(x==Str.ofString "__debug__")
noncomputable def nameOf (x:PX):Option Str:=if h:x.ctorIdx=23 then PySem.Expr.Name.elim (motive_1:=λ_=>Option Str) x h λy _=>some y else none
theorem N7 {y:Str}(h:nameOf x=some y):∃p,x=.Name y p:=by
 by_cases e:x.ctorIdx=23
 ·revert h
  exact PySem.Expr.Name.elim x e λz p h=>⟨p,by cases (show some z=some y from h); rfl⟩
 ·rw[nameOf,dif_neg e] at h; exact no h
noncomputable def names?:List PX->Option (List Str)
 | []=>some []
 | x::l=>(nameOf x).bind λy=>(names? l).map (y::·)
noncomputable def tgt (x:PX):Option (Bool × List Str):=if h:x.ctorIdx=25 then PySem.Expr.Tuple.elim (motive_1:=λ_=>Option (Bool × List Str)) x h (λl _ _=>(names? l).map (false,·)) else (nameOf x).map λy=>(true,[y])
theorem kZ {b:Bool}{xs:List Str}(h:tgt x=some (b,xs)):(∃y p,x=.Name y p/\b=true/\xs=[y])\/∃l q p,x=.Tuple l q p/\b=false/\names? l=some xs:=by
 by_cases e:x.ctorIdx=25
 ·revert h
  exact PySem.Expr.Tuple.elim x e λl q p h=>by
   obtain⟨r,e1,e2⟩:=omD (show (names? l).map (false,·)=some (b,xs) from h);cases e2;exact .inr ⟨l,q,p,rfl,rfl,e1⟩
 ·rw[tgt,dif_neg e] at h
  obtain⟨y,e1,e2⟩:=omD h;obtain⟨p,rfl⟩:=N7 e1;cases e2;exact .inl ⟨y,p,rfl,rfl,rfl⟩
noncomputable def chkT (sc:Sc)(σ:Sl)(ow:Str->Bool)(t:List Nat)(one:Bool)(x:PX):Bool:=match tgt x with
 | some (b,xs)=>b==one&&xs.length==t.length&&(xs.zip t).all (λ(x,k)=>σ.lookup x==some k&&ow x&&(sc.lookup x==some .local||sc.lookup x==some .cell)&&!(x==Str.ofString "__debug__"))&&decide xs.Nodup
 | none=>false
noncomputable def onC {α:Type}(l:List α)(P:α->List α->Bool):Bool:=match l with | a::l=>P a l | []=>false
theorem Zw {l:List α}{P:α->List α->Bool}(h:onC l P=true):∃a r,l=a::r/\P a r=true:=by
 cases l with
 | nil=>exact nf h
 | cons a r=>exact⟨a,r,rfl,h⟩
noncomputable def gslots:List PG->List Comprehension->Option Sl
 | [],cs=>if cs.isEmpty=true then some [] else none
 | .mk t _ _ _::gs,cs=>cs.head?.bind λc=>(tgt c.target).bind λp=>(gslots gs cs.tail).map λr=>p.2.zip t++r
noncomputable def relab (sc:Sc)(names:Sc):Sc:=names.map λq=>if (q.2==.free&&sc.lookup q.1==some .cell) then (q.1,.cell) else q
noncomputable def csK (sc:Sc)(σ:Sl)(own:Sl)(n:Str):NameKind->Bool
 | .free=>(σ.lookup n).isSome&&(sc.lookup n==some .cell||sc.lookup n==some .free)&&(own.lookup n).isNone
 | .local=>(σ.lookup n).isNone||(own.lookup n).isSome
 | .cell=>(own.lookup n).isSome
 | .globalImplicit=>(own.lookup n).isNone&&(σ.lookup n).isNone
 | _=>false
noncomputable def compScope (sc:Sc)(σ:Sl)(own:Sl)(s:Scope):Bool :=
 s.kind==.function&&!s.isGenerator&&!s.isCoroutine&&decide (s.names.map (·.1)).Nodup &&
 s.names.all (λq=>csK sc σ own q.1 q.2) &&
 own.all (λq=>(s.names.lookup q.1==some .local||s.names.lookup q.1==some .cell)&&σ.all (λp=>p.2 != q.2))&&decide (own.map (·.2)).Nodup&&decide (own.map (·.1)).Nodup
noncomputable def dctHead (ks:List String)(zs:List (Option PX))(ys:List PX)(mu:Bool):Bool:=match ks with
 | []=>zs.isEmpty&&(ys.isEmpty&&mu)
 | key::r=>r.isEmpty&&!mu&&on1 ys (λ_=>true)&&on1 zs λz=>onS z λe=>onConst e λq _ _=>cStr key q
inductive DctS:List String->List (Option PX)->List PX->Bool->Prop where
 | nil:DctS [] [] [] true
 | one (key:String)(kk:Nat)(pp:Pos)(y:PX):DctS [key] [some (.Constant (.str (Str.ofString key)) kk pp)] [y] false
theorem vd {s:String}{q:Const}(h:cStr s q=true):q=.str (Str.ofString s):=by
 cases q with
 | str t=>exact congrArg _ (eqD h)
 | _=>exact nf h
theorem vf {ks:List String}{zs:List (Option PX)}{ys:List PX}{mu:Bool}(h:dctHead ks zs ys mu=true):DctS ks zs ys mu:=by
 cases ks with
 | nil =>
  obtain⟨h1,h2⟩:=anD h;cases ieD h1;obtain⟨h3,h4⟩:=anD h2;cases ieD h3;refine h4 ▸ ?_;exact .nil
 | cons key r =>
  obtain⟨h1,h2⟩:=anD h;obtain⟨h3,h4⟩:=anD h1;obtain⟨h5,h6⟩:=anD h3;obtain⟨y,rfl,_⟩:=Q3 h4;obtain⟨z,rfl,h7⟩:=Q3 h2;obtain⟨e,rfl,h8⟩:=Qp h7;cases ieD h5;obtain⟨q,kk,pp,rfl,h9⟩:=Yk h8;cases vd h9;cases mu with
  | true=>exact nf h6
  | false=>exact .one key kk pp y
mutual
noncomputable def chkE (k:Ck):PE->Sc->Sl->PX->Bool
 | .non,sc,σ,x=>onConst x λq _ _=>cNone q
 | .tru b,sc,σ,x=>onConst x λq _ _=>cBool b q
 | .int i,sc,σ,x=>onConst x λq _ _=>cInt i q
 | .str s,sc,σ,x=>onConst x λq _ _=>cStr s q
 | .loc n,sc,σ,x=>onName x λy _=>σ.lookup y==some n&&visL sc y&&!(y==Str.ofString "__debug__")&&!(y==Str.ofString "__classdict__")
 | .glob n v,sc,σ,x=>onName x λy _=>glb sc n y&&k.g n v
 | .bin o a b,sc,σ,x=>onBin x λl p r _=>p==opOf o&&chkE k a sc σ l&&chkE k b sc σ r
 | .neg a,sc,σ,x=>onUn x λo y _=>o==.USub&&chkE k a sc σ y
 | .cmp o a b,sc,σ,x=>onCmp x λl p r=>p==cmOf o&&!(behindInMarks p r)&&chkE k a sc σ l&&chkE k b sc σ r
 | .nt a,sc,σ,x=>onUn x λo y _=>o==.Not&&chkE k a sc σ y
 | .and l,sc,σ,x=>onBool x λo ys _=>o==.And&&chkL k l sc σ ys
 | .or l,sc,σ,x=>onBool x λo ys _=>o==.Or&&chkL k l sc σ ys
 | .ife t a b,sc,σ,x=>onIf x λy u v _=>chkE k t sc σ y&&chkE k a sc σ u&&chkE k b sc σ v
 | .call f as,sc,σ,x=>onCallE x λy ys ks _=>ks.isEmpty&&onName y (λ_ _=>true)&&chkE k f sc σ y&&chkL k as sc σ ys
 | .new n C i as,sc,σ,x=>onCall x λy ys=>glb sc n y&&k.g n (.kref C)&&k.init C i&&chkL k as sc σ ys
 | .meth o C n f as,sc,σ,x=>onMeth x λy m ys=>m==Str.ofString n&&k.mt C n f&&chkE k o sc σ y&&chkL k as sc σ ys
 | .push o a,sc,σ,x=>onMeth x λy m ys=>on1 ys λz=>m==Str.ofString "append"&&chkE k o sc σ y&&chkE k a sc σ z&&noStar z
 | .pop0 o,sc,σ,x=>onMeth x λy m ys=>on1 ys λz=>onConst z λq _ _=>cInt 0 q&&m==Str.ofString "pop"&&chkE k o sc σ y
 | .dget o a,sc,σ,x=>onMeth x λy m ys=>on1 ys λz=>m==Str.ofString "get"&&chkE k o sc σ y&&chkE k a sc σ z&&noStar z
 | .attr o n,sc,σ,x=>onAttr x λy m _=>m==Str.ofString n&&noBare y&&chkE k o sc σ y
 | .sub o i,sc,σ,x=>onSub x λy z _=>!isSl z&&chkE k o sc σ y&&chkE k i sc σ z
 | .upto o i,sc,σ,x=>onSub x λy z _=>onSl z λq r=>q.isNone&&onS r λu=>onName y (λ_ _=>true)&&chkE k o sc σ y&&chkE k i sc σ u
 | .from o i,sc,σ,x=>onSub x λy z _=>onSl z λq r=>r.isNone&&onS q λu=>onName y (λ_ _=>true)&&chkE k o sc σ y&&chkE k i sc σ u
 | .rep a b mu,sc,σ,x=>onBin x λl p r _=>onList l λzs _=>on1 zs λz=>p==.Mult&&noStar z&&chkE k a sc σ z&&chkE k b sc σ r
 | .cat a b,sc,σ,x=>onBin x λl p r _=>p==.Add&&chkE k a sc σ l&&chkE k b sc σ r
 | .len a,sc,σ,x=>onCall1 x λy z=>glb sc "len" y&&chkE k a sc σ z&&noStar z
 | .abs a,sc,σ,x=>onCall1 x λy z=>glb sc "abs" y&&chkE k a sc σ z&&noStar z
 | .sum a,sc,σ,x=>onCall1 x λy z=>glb sc "sum" y&&chkE k a sc σ z&&noStar z
 | .min a b,sc,σ,x=>onCall2 x λy z u=>glb sc "min" y&&chkE k a sc σ z&&noStar z&&chkE k b sc σ u&&noStar u
 | .intof a,sc,σ,x=>onCall1 x λy z=>glb sc "int" y&&chkE k a sc σ z&&noStar z
 | .strof a,sc,σ,x=>onCall1 x λy z=>glb sc "str" y&&chkE k a sc σ z&&noStar z
 | .range a b,sc,σ,x=>onCall2 x λy z u=>glb sc "range" y&&chkE k a sc σ z&&noStar z&&chkE k b sc σ u&&noStar u
 | .range1 a,sc,σ,x=>onCall1 x λy z=>glb sc "range" y&&chkE k a sc σ z&&noStar z
 | .list a mu,sc,σ,x=>onCall1 x λy z=>glb sc "list" y&&chkE k a sc σ z&&noStar z
 | .isinst a n C,sc,σ,x=>onCall2 x λy z w=>onName w λu _=>glb sc "isinstance" y&&chkE k a sc σ z&&noStar z&&glb sc n u&&k.g n (.kref C)
 | .lst l mu,sc,σ,x=>onList x λys _=>decide (ys.length<=1000)&&chkL k l sc σ ys
 | .tup l,sc,σ,x=>onTup x λys _ _=>decide (ys.length<=1000)&&chkL k l sc σ ys
 | .dct ks l mu,sc,σ,x=>onDict x λzs ys _=>dctHead ks zs ys mu&&chkL k l sc σ ys
 | .comp e gs mu,sc,σ,x=>onComp x λy cs s _=>onS (gslots gs cs) λown=>!gs.isEmpty&&compScope sc σ own s&&chkG k gs sc σ (relab sc s.names) (own++σ) (λn=>(own.lookup n).isSome) cs&&chkE k e (relab sc s.names) (own++σ) y
 | .lam n,sc,σ,x=>onLam x λa b s p=>k.lm n a b s p
 | .fstr l,sc,σ,x=>onJoin x λys _=>decide (2<=ys.length)&&chkL k l sc σ ys
 | .fmt a,sc,σ,x=>onFmt x λy=>chkE k a sc σ y
 | .frz a,sc,σ,x=>plainT x&&chkE k a sc σ x
 | .bad,sc,σ,x=>true
noncomputable def chkL (k:Ck):List PE->Sc->Sl->List PX->Bool
 | [],_,_,ys=>ys.isEmpty
 | a::l,sc,σ,ys=>match ys with
  | y::r=>noStar y&&chkE k a sc σ y&&chkL k l sc σ r
  | []=>false
noncomputable def chkG (k:Ck):List PG->Sc->Sl->Sc->Sl->(Str->Bool)->List Comprehension->Bool
 | [],_,_,_,_,_,cs=>cs.isEmpty
 | .mk t one it ifs::gs,sc,σ,sc',σ',ow,cs=>onC cs λc r=>c.is_async==0&&noSet c.iter&&chkE k it sc σ c.iter&&chkT sc' σ' ow t one c.target&&chkL k ifs sc' σ' c.ifs&&chkG k gs sc' σ' sc' σ' ow r
end
section
inductive GlobV (P:Params):AV->Value->Prop where
 | kref (b:Nat):GlobV P (.kref b) (.ref b)
 | int (i:Int)(t:Tok):GlobV P (.int i) (.int i t)
 | tup (i j:Int)(a:Addr)(o:Obj)(t u:Tok)(n:Nat)(e:(KX P).lookup a=some o)(hc:o.cls=.type "tuple")(hd:o.data=.seq #[.int i t,.int j u] n):GlobV P (.tup [.int i,.int j]) (.ref a)
noncomputable def mtL:List (Nat × String × Nat):=[(110,"exact",74),(110,"partial",81),(110,"partial_of",88),(110,"positional",95),(110,"is_free",102),(110,"rest",107)]
noncomputable def initL:List (Nat × Nat):=[(110,67),(270,267),(299,289)]
structure CkOk (c:Cx)(k:Ck):Prop where
 g:∀n v,k.g n v=true->n≠"__debug__"/\∃val,nsIn (KX c.w.params) mainGlobals (Str.ofString n)=some (some val)/\GlobV c.w.params v val
 mt:∀D n f,k.mt D n f=true->(D,n,f)∈mtL
 init:∀D i,k.init D i=true->(D,i)∈initL
 lm:∀m a b s p,k.lm m a b s p=true->(∃ca,k.code=.ref ca/\∀h,(KX c.w.params).In h->CodeHd h ca gh)/\k.qual++Str.ofString "<lambda>"=c.lq/\(∀env,defaultsOf a env=([],[]))/\(∀env,closureFor s env=pure []) /\
  ∀fd:FuncData,fd.params=a->fd.body=.expr b->fd.scope=s->fd.closure=[]->fd.globals=mainGlobals->fd.builtins=builtinsNs->fd.defaults=.none->c.LO m fd
section
variable (c:Cx)(k:Ck)(n:Nat)(C:Orc)
noncomputable def EvOk (e:PE)(f:Fm)(x:PX):Prop:=∀A,Room f A n->∀J s H cm,Inv c f s J H cm->∀Q E,EPost c f J s cm (evE C J e H) Q E->wpAny (model P0 c.w) A (eval x f.env) Q E s
noncomputable def TrOk (e:PE)(f:Fm)(x:PX):Prop:=∀A,Room f A n->∀J s H cm,Inv c f s J H cm->∀Q E,TPost c f J s cm (evT C J e H) Q E->wpAny (model P0 c.w) A (isTrue x f.env (eval x f.env)) Q E s
noncomputable def SE (e:PE):Prop:=∀f:Fm,FrOk k f.env->∀x,chkE k e f.sc f.σ x=true->EvOk c n C e f x/\TrOk c n C e f x
noncomputable def SL (l:List PE):Prop:=∀f:Fm,FrOk k f.env->∀xs,chkL k l f.sc f.σ xs=true->∀pos A,Room f A n->∀J s H cm,Inv c f s J H cm->∀Q E,LPost c f J s cm (evL C J l H) Q E->wpAny (model P0 c.w) A (spliced (backTo pos (starEach xs f.env))) Q E s
end
theorem isTrue_plain {w:Sem Value}(h:plainT x=true):isTrue x env w=(do let v <-w; standAt x.pos; holding [v] (truthy v)):=by
 cases x with
 | UnaryOp o _ _=>cases o<;>first | rfl | exact nf h
 | _=>first | rfl | exact nf h
theorem vg (hx:plainT x=true)(h:EvOk c n C e f x):TrOk c n C e f x:=λA rm J s H cm i Q E p=>by
 refine wpAny_isTrue_value ?_ (isTrue_plain hx);unfold evT at p;refine bindG (rp:=c.rep f.FX) (rp':=λ_ _ (a b:Bool)=>a=b) (λQ=>h A rm J s H cm i Q E) p λv H_1 y s_1 cm_1 _ n i_1 r p=>?_
 cases hb:pTruth v with
 | none=>rw[hb] at p; exact p.elim
 | some b=>rw[hb] at p; exact Zi r hb (p b s_1 cm_1 (Nx.refl ..) i_1 rfl)
theorem Qm (hx:plainT x=true)(h:EvOk c n C e f x):EvOk c n C e f x/\TrOk c n C e f x:=⟨h,vg hx h⟩
theorem vh:SE c k n C .non:=λf hcd x h=>by
 replace h:=Yk h
 obtain⟨q,_,_,rfl,h⟩:=h;cases q<;>first | (exact nf h) | skip
 refine Qm rfl λA rm J s H cm i Q E p=>wpAny_Constant_none (p.here i rfl)
theorem vm {b:Bool}:SE c k n C (.tru b):=λf hcd x h=>by
 replace h:=Yk h
 obtain⟨q,_,_,rfl,h⟩:=h;cases q<;>first | (exact nf h) | skip
 refine (eqD (show (b==_)=true from h)) ▸ ?_;refine Qm rfl λA rm J s H cm i Q E p=>wpAny_Constant_bool (p.here i rfl)
theorem vo {j:Int}:SE c k n C (.int j):=λf hcd x h=>by
 replace h:=Yk h
 obtain⟨q,_,_,rfl,h⟩:=h;cases q<;>first | (exact nf h) | skip
 refine (eqD (show (j==_)=true from h)) ▸ ?_;refine Qm rfl λA rm J s H cm i Q E p=>wpAny_Constant_int (p.end i (Grow.toks _ _) ⟨_,rfl⟩)
theorem vq {t:String}:SE c k n C (.str t):=λf hcd x h=>by
 replace h:=Yk h
 obtain⟨q,_,_,rfl,h⟩:=h;cases q<;>first | (exact nf h) | skip
 refine (eqD (show (_==Str.ofString t)=true from h)) ▸ ?_;refine Qm rfl λA rm J s H cm i Q E p=>wpAny_Constant_str (p.end i (Grow.toks _ _) ⟨_,rfl⟩)
theorem Jt {x:Str}:f.env.kindOf x=f.sc.lookup x:=by simp only[Env.kindOf,f.ok.names]
theorem set_inv {v w:AV}(h:AV.set? v=some w):v=w/\v≠.unset:=by
 refine⟨?_,λq=>?_⟩
 ·unfold AV.set? at h
  cases e:v.isU with
  | true=>replace h:=e ▸ h; cases h
  | false=>replace h:=e ▸ h; exact Option.some.inj h
 ·replace h:=q ▸ h; cases h
theorem N8 {m:Nat}{y:Str}(h1:f.σ.lookup y=some m)(h2:visL f.sc y=true)(h4:(y==Str.ofString "__classdict__")=false)(i:Inv c f s J H cm)(p:EPost c f J s cm (evE C J (.loc m) H) Q E):wpAny (model P0 c.w) A (loadName f.env y) Q E s:=by
 obtain⟨av,e0,p⟩:=GPost.opt p;obtain⟨av',e1,e0⟩:=obD e0;obtain⟨rfl,e2⟩:=set_inv e0;obtain⟨kd,hk,h2⟩:=Qp h2;have cl:(kd=.cell\/kd=.free)->∃a v,f.env.cells.lookup y=some a/\(∃o,s.heap.get? a=some o/\o.data=.cell (some v))/\c.rep f.FX cm s.heap av' v:=λhc=>by
  obtain⟨a,ha,_⟩:=f.ok.cell y m _ h1 hk hc;obtain⟨o,ov,eo,ed,z⟩:=i.cl y m _ a h1 hk hc ha;obtain⟨v,rfl,r⟩:=z av' e1 e2;exact⟨a,v,ha,⟨o,eo,ed⟩,r⟩
 cases kd with
 | «local» =>
  obtain⟨mm,hn,z⟩:=i.ns;obtain⟨v,hv,r⟩:=z y m h1 hk av' e1 e2;exact wpAny_loadName_local f.ok.kind (Jt.trans hk) hn hv (EPost.here p i r)
 | cell =>
  obtain⟨a,v,ha,ho,r⟩:=cl (.inl rfl);exact wpAny_loadName_cell f.ok.kind (Jt.trans hk) ha ho (EPost.here p i r)
 | free =>
  obtain⟨a,v,ha,ho,r⟩:=cl (.inr rfl);exact wpAny_loadName_free f.ok.kind (Jt.trans hk) ha ho (EPost.here p i r) h4
 | _=>exact nf h2
theorem vy {m:Nat}:SE c k n C (.loc m):=λf hcd x h=>by
 replace h:=QR h
 obtain⟨y,p,rfl,h⟩:=h;simp only[Bool.and_eq_true,beq_iff_eq,Bool.not_eq_true'] at h;obtain⟨⟨⟨h1,h2⟩,h3⟩,h4⟩:=h;exact Qm rfl λA rm J s H cm i Q E p=>wpAny_Name (N8 h1 h2 h4 i p) h3
theorem KX_ne (P:Params):(KX P).all (λp=>p.1 != 1103&&(stab p.2||(p.2.cls==.type "code"||p.2.cls==.type "getset_descriptor")))=true:=by kernel_rfl
theorem mem_lookup {K:Frag}{o:Obj}(h:K.lookup a=some o):(a,o)∈K:=mem_of_lookupK h
theorem vz {P:Params}{o:Obj}(h:(KX P).lookup a=some o):a≠Internal.gh:=by
 have:=aaD (KX_ne P) (a,o) (mem_lookup h);rw[Bool.and_eq_true,bne_iff_ne] at this;exact this.1
theorem Base.X (b:Base c FX s H cm):(KX c.w.params).In s.heap:=λa o e=>b.old a o (vz e) (c.X a o e)
theorem Base.ns (b:Base c FX s H cm){m:Str->Option Value}(h:c.h_1.Ns a m)(ha:a≠Internal.gh):s.heap.Ns a m :=
 (by obtain⟨o,es,ep,e,r⟩:=h; exact⟨o,es,ep,b.old a o ha e,r⟩)
theorem Base.nolim (b:Base c FX s H cm):s.heap.NoLimit :=
 (by obtain⟨mc,h,r⟩:=c.T.nolimit; exact⟨mc,b.ns h (by decide),r⟩)
theorem Y6 {nm:String}{pos:Pos}{v:Value}(i:Inv c f s J H cm)(hg:glb f.sc nm (Str.ofString nm)=true)
  (e:nsIn (KX c.w.params) mainGlobals (Str.ofString nm)=some (some v)) (h:Q v s):wpAny (model P0 c.w) A (eval (.Name (Str.ofString nm) pos) f.env) Q E s:=by
 simp only[glb,Bool.and_eq_true,beq_iff_eq,Bool.not_eq_true'] at hg;refine Calls.Name_function_global f.ok.kind (Jt.trans hg.1.2) (Calls.loadGlobal_global (mg:=c.mg) ?_ (mg_of c.X c.T.g e) h) hg.2;refine f.ok.globals ▸ ?_;exact i.base.ns c.T.g (by decide)
theorem vA {nm:String}{pos:Pos}{v:Value}(i:Inv c f s J H cm)(hg:glb f.sc nm (Str.ofString nm)=true)
  (e:nsIn (KX c.w.params) mainGlobals (Str.ofString nm)=some none) (hv:bootBuiltins (Str.ofString nm)=some v) (hn:Str.ofString nm≠Str.ofString "__name__") (h:Q v s):wpAny (model P0 c.w) A (eval (.Name (Str.ofString nm) pos) f.env) Q E s:=by
 simp only[glb,Bool.and_eq_true,beq_iff_eq,Bool.not_eq_true'] at hg;refine Calls.Name_function_global f.ok.kind (Jt.trans hg.1.2) (Calls.loadGlobal_builtin (mg:=c.mg) (mb:=c.mb) ?_ (mg_none_of c.X c.T.g e) ?_ ((c.T.builtins _ hn).trans hv) h) hg.2
 ·rw[f.ok.globals]; exact i.base.ns c.T.g (by decide)
 ·rw[f.ok.builtins]; exact i.base.ns c.T.b (by decide)
theorem GlobV.rep (b:Base c FX s H cm){x:Value}(h:GlobV c.w.params v x):c.rep FX cm s.heap v x:=by
 cases h with
 | kref=>rfl
 | int i t=>exact⟨t,rfl⟩
 | tup i j a o t u m e hc hd =>
  have hb:=c.X a o e;refine⟨a,o,[.int _ t,.int _ u],m,rfl,⟨b.X a o e,by unfold stab; rw[hd],λq=>?_,λq=>?_⟩,hc,hd,⟨_,_,rfl,⟨t,rfl⟩,_,_,rfl,⟨u,rfl⟩,rfl⟩⟩
  ·rw[(b.lo a (.inl q)).1] at hb; exact no hb
  ·rw[(b.lo a (.inr q)).1] at hb; exact no hb
theorem vB (ok:CkOk c k){m:String}:SE c k n C (.glob m v):=λf hcd x h=>by
 replace h:=QR h
 obtain⟨y,p,rfl,h⟩:=h;simp only[Bool.and_eq_true] at h;obtain⟨h1,h2⟩:=h;have hy:y=Str.ofString m:=by simp only[glb,Bool.and_eq_true,beq_iff_eq] at h1; exact h1.1.1
 subst hy;obtain⟨_,val,e,gv⟩:=ok.g m v h2;exact Qm rfl λA rm J s H cm i Q E p=>Y6 i h1 e (p.here i (gv.rep i.base))
theorem vC {o:Op}{a b:PE}(ha:SE c k n C a)(hb:SE c k n C b):SE c k n C (.bin o a b):=λf hcd x h=>by
 replace h:=Zr h
 obtain⟨l,p,r,pos,rfl,h⟩:=h;simp only[Bool.and_eq_true,beq_iff_eq] at h;obtain⟨⟨rfl,h1⟩,h2⟩:=h;refine Qm rfl λA rm J s H cm i Q E p=>wpAny_BinOp ?_
 refine bindG (λQ=>(ha f hcd l h1).1 A rm J s H cm i Q E) p λv H_1 y s_1 cm_1 _ n_1 i_1 r_1 p=>?_
 refine bindG (λQ=>(hb f hcd r h2).1 A rm J s_1 H_1 cm_1 i_1 Q E) p λw H_2 z s_2 cm_2 _ n_2 i_2 r_2 p=>?_
 exact (U9 i_2 (n_2.rep i_1.base r_1) r_2 p).1
theorem vD {a:PE}(ha:SE c k n C a):SE c k n C (.neg a):=λf hcd x h=>by
 replace h:=NP h
 obtain⟨o,y,pos,rfl,h⟩:=h;simp only[Bool.and_eq_true,beq_iff_eq] at h;obtain⟨rfl,h1⟩:=h;refine Qm rfl λA rm J s H cm i Q E p=>wpAny_UnaryOp ?_
 refine bindG (λQ=>(ha f hcd y h1).1 A rm J s H cm i Q E) p λv H_1 y s_1 cm_1 _ n_1 i_1 r_1 p=>?_
 replace p:=Q0 p
 obtain⟨j,rfl,p⟩:=p;obtain⟨t,rfl⟩:=r_1;exact P.neg_int (EPost.end p i_1 (Grow.toks _ _) ⟨_,rfl⟩)
theorem vG {o:Cm}{a b:PE}(ha:SE c k n C a)(hb:SE c k n C b):SE c k n C (.cmp o a b):=λf hcd x h=>by
 replace h:=kW h
 obtain⟨l,p,r,pos,rfl,h⟩:=h;simp only[Bool.and_eq_true,beq_iff_eq,Bool.not_eq_true'] at h;obtain⟨⟨⟨rfl,h0⟩,h1⟩,h2⟩:=h;refine⟨λA rm J s H cm i Q E p=>wpAny_Compare1 ?_ h0,λA rm J s H cm i Q E p=>wpAny_isTrue_Compare1 ?_ h0⟩
 ·skip
  refine bindG (λQ=>(ha f hcd l h1).1 A rm J s H cm i Q E) p λv H_1 y s_1 cm_1 _ n_1 i_1 r_1 p=>?_
  refine bindG (λQ=>(hb f hcd r h2).1 A rm J s_1 H_1 cm_1 i_1 Q E) p λw H_2 z s_2 cm_2 _ n_2 i_2 r_2 p=>?_
  cases hc:pCmp H_2 o v w with
  | none=>rw[hc] at p; exact p.elim
  | some t =>
   replace p:=hc ▸ p
   exact NK rm i_2 (n_2.rep i_1.base r_1) r_2 hc λs' g=>EPost.end p i_2 g rfl
 ·skip
  have p':TPost c f J s cm ((evE C J a H).bind λx H=>(evE C J b H).bind λy H=>.ofOpt (pCmp H o x y) H) Q E:=by
   have e:(((evE C J a H).bind λx H=>(evE C J b H).bind λy H=>Out.ofOpt ((pCmp H o x y).map AV.bool) H).bind λv H=>Out.ofOpt (pTruth v) H)=((evE C J a H).bind λx H=>(evE C J b H).bind λy H=>.ofOpt (pCmp H o x y) H):=by
    cases evE C J a H with
    | ok v H_1 =>
     simp only[Out.bind_ok];cases evE C J b H_1 with
     | ok w H_2=>simp only[Out.bind_ok]; cases pCmp H_2 o v w<;>rfl
     | _=>rfl
    | _=>rfl
   refine e ▸ ?_; exact p
  refine bindG (rp':=λ_ _ (a b:Bool)=>a=b) (λQ=>(ha f hcd l h1).1 A rm J s H cm i Q E) p' λv H_1 y s_1 cm_1 _ n_1 i_1 r_1 p=>?_
  refine bindG (rp':=λ_ _ (a b:Bool)=>a=b) (λQ=>(hb f hcd r h2).1 A rm J s_1 H_1 cm_1 i_1 Q E) p λw H_2 z s_2 cm_2 _ n_2 i_2 r_2 p=>?_
  cases hc:pCmp H_2 o v w with
  | none=>rw[hc] at p; exact p.elim
  | some t =>
   rw[hc] at p;exact NK rm i_2 (n_2.rep i_1.base r_1) r_2 hc λs' g=>wpAny_truthy_bool (p _ s' cm_2 g.nx (g.inv i_2) rfl)
theorem se_nt {a:PE}(ha:SE c k n C a):SE c k n C (.nt a):=λf hcd x h=>by
 replace h:=NP h
 obtain⟨o,y,pos,rfl,h⟩:=h;simp only[Bool.and_eq_true,beq_iff_eq] at h;obtain⟨rfl,h1⟩:=h;refine⟨λA rm J s H cm i Q E p=>wpAny_UnaryOp ?_,λA rm J s H cm i Q E p=>wpAny_isTrue_Not ?_⟩
 ·skip
  refine bindG (λQ=>(ha f hcd y h1).1 A rm J s H cm i Q E) p λv H_1 y s_1 cm_1 _ n_1 i_1 r_1 p=>?_
  refine not_value ?_;cases hb:pTruth v with
  | none=>rw[hb] at p; exact p.elim
  | some b=>rw[hb] at p; exact Zi r_1 hb (EPost.here p i_1 rfl)
 ·skip
  have p':TPost c f J s cm ((evT C J a H).bind λb H=>.ok (!b) H) Q E:=by
   have e:(((evE C J a H).bind λx H=>Out.ofOpt ((pTruth x).map λb=>AV.bool !b) H).bind λv H=>Out.ofOpt (pTruth v) H)=((evT C J a H).bind λb H=>.ok (!b) H):=by
    unfold evT;cases evE C J a H with
    | ok v H_1=>simp only[Out.bind_ok]; cases pTruth v<;>rfl
    | _=>rfl
   refine e ▸ ?_; exact p
  refine bindG (rp:=λ_ _ (a b:Bool)=>a=b) (rp':=λ_ _ (a b:Bool)=>a=b) (λQ=>(ha f hcd y h1).2 A rm J s H cm i Q E) p' λv H_1 y s_1 cm_1 _ n_1 i_1 r_1 p=>?_
  refine r_1 ▸ ?_;exact p _ s_1 cm_1 (Nx.refl ..) i_1 rfl
end
inductive ChkC (k:Ck)(a:PE)(l:List PE)(sc:Sc)(σ:Sl)(ys:List PX):Prop where
 | mk (y:PX)(r:List PX)(e:ys=y::r)(n:noStar y=true)(h:chkE k a sc σ y=true)(q:chkL k l sc σ r=true)
theorem Jf {a:PE}{l:List PE}{sc:Sc}{σ:Sl}{ys:List PX}(h:chkL k (a::l) sc σ ys=true):ChkC k a l sc σ ys:=by
 cases ys with
 | nil=>exact nf h
 | cons y r =>
  obtain⟨h1,h2⟩:=anD (show (noStar y&&chkE k a sc σ y&&chkL k l sc σ r)=true from h);obtain⟨h0,h1⟩:=anD h1;exact⟨y,r,rfl,h0,h1,h2⟩
theorem JM {sc:Sc}{σ:Sl}{ys:List PX}(h:chkL k [] sc σ ys=true):ys=[]:=ieD h
noncomputable def boO (d:Bool):BoolOp:=bif d then .And else .Or
theorem vH {y y':PX}{r:List PX}{pos:Pos}(d:Bool)
  (h:wpAny (model P0 c.w) A (eval y env) (λv s_1=>wpAny (model P0 c.w) A (truthy v) (λt s_2=>bif t==d then wpAny (model P0 c.w) A (boolOp pos (boO d) (evalEach (y'::r) env)) Q E s_2 else Q v s_2) E s_1) E s) :
  wpAny (model P0 c.w) A (boolOp pos (boO d) (evalEach (y::y'::r) env)) Q E s:=by
 cases d<;>refine wpAny_bind (wpAny_mono h (λv s_1 h_1=>wpAny_bind (wpAny_standAt (wpAny_bind (wpAny_holding (wpAny_mono h_1 (λt s_2 h_2=>?_) λ_ _ x=>x))))) λ_ _ x=>x)<;>cases t
 ·exact h_2
 ·exact wpAny_pure h_2
 ·exact wpAny_pure h_2
 ·exact h_2
theorem Ga (d:Bool)(rm:Room f A n)(hcd:FrOk k f.env){pos:Pos}(l:List PE)(hs:∀e∈l,SE c k n C e)(ys:List PX)(h:chkL k l f.sc f.σ ys=true)(s:Shared)(H:AH)(cm:CM)(i:Inv c f s J H cm)
  (p:EPost c f J s cm (evB C J d l H) Q E):wpAny (model P0 c.w) A (boolOp pos (boO d) (evalEach ys f.env)) Q E s:=by
 induction l generalizing ys s H cm with
 | nil=>exact p.elim
 | cons e l ih =>
  obtain⟨y,r,rfl,-,h1,h2⟩:=Jf h;cases l with
  | nil=>cases JM h2; exact (hs e (.head _) f hcd y h1).1 A rm J s H cm i Q E p
  | cons e' l =>
   obtain⟨y',r',rfl,-,-,-⟩:=Jf h2;refine vH d (bindG (λQ=>(hs e (.head _) f hcd y h1).1 A rm J s H cm i Q E) p λv H_1 z s_1 cm_1 _ n_1 i_1 r_1 p=>?_);cases hb:pTruth v with
   | none=>rw[hb] at p; exact p.elim
   | some b =>
    rw[hb] at p;refine Zi r_1 hb ?_
    revert p
    show EPost c f J s_1 cm_1 (bif b==d then evB C J d (e'::l) H_1 else .ok v H_1) Q E->_;cases b==d with
    | true=>exact ih (λe he=>hs e (.tail _ he)) (y'::r') h2 s_1 H_1 cm_1 i_1
    | false=>exact λp=>EPost.here p i_1 r_1
noncomputable def trO (v:AV)(H:AH):Out Bool:=.ofOpt (pTruth v) H
noncomputable def boT (C:Orc)(J:LA)(d b:Bool)(l:List PE)(H:AH):Out Bool:=match l with
 | []=>.ok b H
 | e::l=>bif b==d then (evB C J d (e::l) H).bind trO else .ok b H
theorem vJ (J:LA)(d:Bool)(e:PE)(l:List PE)(H:AH):(evB C J d (e::l) H).bind trO=(evT C J e H).bind λb H=>boT C J d b l H:=by
 cases l with
 | nil =>
  show (evE C J e H).bind trO=((evE C J e H).bind trO).bind _;cases evE C J e H with
  | ok v H_1=>show Out.ofOpt (pTruth v) H_1=(Out.ofOpt (pTruth v) H_1).bind _; cases pTruth v<;>rfl
  | _=>rfl
 | cons e' l =>
  show ((evE C J e H).bind λv H=>boK d (evB C J d (e'::l) H) v H (pTruth v)).bind trO=((evE C J e H).bind trO).bind λb H=>bif b==d then (evB C J d (e'::l) H).bind trO else .ok b H
  cases evE C J e H with
  | ok v H_1 =>
   show (boK d (evB C J d (e'::l) H_1) v H_1 (pTruth v)).bind trO=(Out.ofOpt (pTruth v) H_1).bind _;cases hb:pTruth v with
   | none=>rfl
   | some b =>
    show (bif b==d then _ else _:Out AV).bind trO=bif b==d then _ else _;cases b==d with
    | true=>rfl
    | false=>exact congrArg (Out.ofOpt · H_1) hb
  | _=>rfl
theorem vK {y:PX}{r:List PX}{Q:Bool->Shared->Prop}(d:Bool)
  (h:wpAny (model P0 c.w) A (isTrue y env (eval y env)) (λb s_1=>(b=d->wpAny (model P0 c.w) A (allTrue (boO d) r env) Q E s_1)/\(b=!d->Q b s_1)) E s):wpAny (model P0 c.w) A (allTrue (boO d) (y::r) env) Q E s:=by
 cases d
 ·exact wpAny_allTrue_Or_cons (wpAny_mono h (λb s_1 h=>by cases b; exact h.1 rfl; exact h.2 rfl) λ_ _ x=>x)
 ·exact wpAny_allTrue_And_cons (wpAny_mono h (λb s_1 h=>by cases b; exact h.2 rfl; exact h.1 rfl) λ_ _ x=>x)
theorem Gb (d:Bool)(rm:Room f A n)(hcd:FrOk k f.env){Q:Bool->Shared->Prop}(l:List PE)(hs:∀e∈l,SE c k n C e)(ys:List PX)(h:chkL k l f.sc f.σ ys=true)(s:Shared)(H:AH)(cm:CM)(i:Inv c f s J H cm)
  (p:TPost c f J s cm ((evB C J d l H).bind trO) Q E):wpAny (model P0 c.w) A (allTrue (boO d) ys f.env) Q E s:=by
 induction l generalizing ys s H cm with
 | nil=>exact p.elim
 | cons e l ih =>
  obtain⟨y,r,rfl,-,h1,h2⟩:=Jf h;rw[vJ] at p;refine vK d (bindG (rp:=λ_ _ (a b:Bool)=>a=b) (rp':=λ_ _ (a b:Bool)=>a=b) (λQ=>(hs e (.head _) f hcd y h1).2 A rm J s H cm i Q E) p λb H_1 z s_1 cm_1 _ n_1 i_1 r_1 p=>?_);subst r_1;cases l with
  | nil =>
   cases JM h2;have q:=p _ s_1 cm_1 (Nx.refl ..) i_1 rfl;exact⟨λe=>by cases e; cases d<;>exact wpAny_pure q,λ_=>q⟩
  | cons e' l =>
   have p:TPost c f J s_1 cm_1 (bif b==d then (evB C J d (e'::l) H_1).bind trO else .ok b H_1) Q E:=p;refine⟨λe=>?_,λe=>?_⟩
   ·rw[beq_iff_eq.mpr e] at p; exact ih (λe he=>hs e (.tail _ he)) r h2 s_1 H_1 cm_1 i_1 p
   ·rw[show (b==d)=false by rw[e]; cases d<;>rfl] at p; exact p _ s_1 cm_1 (Nx.refl ..) i_1 rfl
theorem vL {l:List PE}(hl:∀e∈l,SE c k n C e):SE c k n C (.and l):=λf hcd x h=>by
 replace h:=NQ h
 obtain⟨o,ys,pos,rfl,h⟩:=h;simp only[Bool.and_eq_true,beq_iff_eq] at h;obtain⟨rfl,h1⟩:=h;refine⟨λA rm J s H cm i Q E p=>?_,λA rm J s H cm i Q E p=>wpAny_isTrue_BoolOp ?_⟩
 ·skip
  rw[arm_eval_BoolOp];exact Ga true rm hcd l hl ys h1 s H cm i p
 ·skip
  exact Gb true rm hcd l hl ys h1 s H cm i p
theorem se_or {l:List PE}(hl:∀e∈l,SE c k n C e):SE c k n C (.or l):=λf hcd x h=>by
 replace h:=NQ h
 obtain⟨o,ys,pos,rfl,h⟩:=h;simp only[Bool.and_eq_true,beq_iff_eq] at h;obtain⟨rfl,h1⟩:=h;refine⟨λA rm J s H cm i Q E p=>?_,λA rm J s H cm i Q E p=>wpAny_isTrue_BoolOp ?_⟩
 ·skip
  rw[arm_eval_BoolOp];exact Ga false rm hcd l hl ys h1 s H cm i p
 ·skip
  exact Gb false rm hcd l hl ys h1 s H cm i p
theorem Gd (t a b:PE)(J:LA)(H:AH)(g:AV->AH->Out α):(evE C J (.ife t a b) H).bind g=(evT C J t H).bind λcd H=>if cd=true then (evE C J a H).bind g else (evE C J b H).bind g:=by
 show (Out.bind (evE C J t H) _).bind g=(Out.bind (evE C J t H) _).bind _;cases evE C J t H with
 | ok v H_1 =>
  simp only[Out.bind_ok];cases pTruth v with
  | none=>rfl
  | some q=>cases q<;>rfl
 | _=>rfl
theorem bind_pure (o:Out AV):o.bind (λv H=>.ok v H)=o:=by cases o<;>rfl
theorem vN {t a b:PE}(ht:SE c k n C t)(ha:SE c k n C a)(hb:SE c k n C b):SE c k n C (.ife t a b):=λf hcd x h=>by
 replace h:=on_If h
 obtain⟨y,u,v,pos,rfl,h⟩:=h;simp only[Bool.and_eq_true] at h;obtain⟨⟨h1,h2⟩,h3⟩:=h;refine⟨λA rm J s H cm i Q E p=>wpAny_IfExp ?_,λA rm J s H cm i Q E p=>?_⟩
 ·rw[<-bind_pure (evE C J (.ife t a b) H),Gd] at p
  simp only[bind_pure] at p;refine bindG (rp:=λ_ _ (a b:Bool)=>a=b) (λQ=>(ht f hcd y h1).2 A rm J s H cm i Q E) p λv H_1 z s_1 cm_1 _ n_1 i_1 r_1 p=>?_
  subst r_1;cases v with
  | true=>exact (ha f hcd u h2).1 A rm J s_1 H_1 cm_1 i_1 Q E p
  | false=>exact (hb f hcd _ h3).1 A rm J s_1 H_1 cm_1 i_1 Q E p
 ·unfold evT at p
  rw[Gd] at p;refine wpAny_bind (bindG (rp:=λ_ _ (a b:Bool)=>a=b) (rp':=λ_ _ (a b:Bool)=>a=b) (λQ=>(ht f hcd y h1).2 A rm J s H cm i Q E) p λv H_1 z s_1 cm_1 _ n_1 i_1 r_1 p=>?_);subst r_1;cases v with
  | true=>exact (ha f hcd u h2).2 A rm J s_1 H_1 cm_1 i_1 Q E p
  | false=>exact (hb f hcd _ h3).2 A rm J s_1 H_1 cm_1 i_1 Q E p
theorem Jg {y:PX}{r:List PX}(h:noStar y=true):starEach (y::r) env=(false,eval y env)::starEach r env:=by
 cases y<;>first | rfl | exact nf h
theorem Yn (l:List PE)(hs:∀e∈l,SE c k n C e):SL c k n C l:=λf hcd ys h pos A rm J s H cm i Q E p=>by
 induction l generalizing ys s H cm Q with
 | nil =>
  cases JM h;exact wpAny_items_nil (p [] s cm (Nx.refl ..) i rfl)
 | cons e l ih =>
  obtain⟨y,r,rfl,hy,h1,h2⟩:=Jf h;refine wpAny_items_cons ?_ (Jg hy);refine bindG (rp':=c.reps f.FX) (λQ=>(hs e (.head _) f hcd y h1).1 A rm J s H cm i Q E) p λv H_1 z s_1 cm_1 _ n_1 i_1 r_1 p=>?_
  exact bindG (rp:=c.reps f.FX) (rp':=c.reps f.FX) (λQ=>ih (λe he=>hs e (.tail _ he)) r h2 s_1 H_1 cm_1 i_1 Q) p λvs H_2 zs s_2 cm_2 _ n_2 i_2 r_2 p=>p _ s_2 cm_2 (Nx.refl ..) i_2 ⟨z,zs,rfl,n_2.rep i_1.base r_1,r_2⟩
theorem Ge {o:Out α}{g:α->AH->Out β}{v:β}(h:o.bind g=.ok v H):∃a H',o=.ok a H'/\g a H'=.ok v H:=by
 cases o with
 | ok a H'=>exact⟨a,H',rfl,h⟩
 | _=>cases h
theorem Gf {l:List PE}{vs:LA}(h:evL C J l H=.ok vs H'):vs.length=l.length:=by
 induction l generalizing H vs H' with
 | nil=>cases h; rfl
 | cons e l ih =>
  obtain⟨v,H_1,_,h⟩:=Ge (show ((evE C J e H).bind λv H=>(evL C J l H).bind λvs H=>.ok (v::vs) H)=.ok vs H' from h);obtain⟨ws,H_2,h2,h⟩:=Ge h;cases h;exact congrArg (·+1) (ih h2)
theorem Gg {mu:Bool}{xs:List Value}(p:EPost c f J s cm (newC H mu l) Q E)(i:Inv c f s J H cm)
  (r:c.reps f.FX cm s.heap l xs) (t:Nat):Q (.ref s.heap.objs.size) {s with heap:=s.heap.push {cls:=.type "list",data:=.seq xs.toArray},toks:=t}:=by
 have g:Grow s {s with heap:=s.heap.push {cls:=.type "list",data:=.seq xs.toArray},toks:=t}:=Grow.push s _ t;cases mu with
 | false=>exact EPost.end p i g (i.lst r (t:=t))
 | true =>
  refine EPost.endCell (l:=[s.heap.objs.size]) p i g (by simp) (λa h=>?_) ⟨rfl,xs,_,0,Heap.get?_push_size _ rfl,rfl,rfl,rfl,rfl,Cx.reps_mono (g.rrAdd i.base λa h=>?_) (.snoc _ _) r⟩
  ·cases msD h
   exact⟨Qk _,by show (s.heap.push _).get? _≠none; rw[Heap.get?_push_size _ rfl]; nofun⟩
  ·cases msD h; exact Qk _
theorem vO {l:List PE}(hl:∀e∈l,SE c k n C e):SE c k n C (.tup l):=λf hcd x h=>by
 replace h:=Ym h
 obtain⟨ys,q,pos,rfl,h⟩:=h;simp only[Bool.and_eq_true,decide_eq_true_eq] at h;obtain⟨h0,h1⟩:=h;refine Qm rfl λA rm J s H cm i Q E p=>wpAny_Tuple ?_
 refine bindG (rp:=c.reps f.FX) (λQ=>Yn l hl f hcd ys h1 pos A rm J s H cm i Q E) p λvs H_1 xs s_1 cm_1 e_1 n_1 i_1 r_1 p=>?_
 refine⟨?_,EPost.end p i_1 (Grow.push _ _ _) (i_1.tup r_1 (t:=s_1.toks))⟩;have h2:∀{l:List PE} {ys},chkL k l f.sc f.σ ys=true->l.length=ys.length:=by
  intro l
  induction l with
  | nil=>intro ys h; cases JM h; rfl
  | cons a l ih=>intro ys h; obtain⟨y,r,rfl,_,_,h2⟩:=Jf h; simp[ih h2]
 simp only[QL r_1,Gf e_1,h2 h1,sizeLine_eq]
 lia
theorem vP {l:List PE}:∀{ys:List PX} {sc:Sc} {σ:Sl},chkL k l sc σ ys=true->l.length=ys.length:=by
 induction l with
 | nil =>
  intro ys sc σ h;cases JM h; rfl
 | cons a l ih =>
  intro ys sc σ h;obtain⟨y,r,rfl,_,_,h2⟩:=Jf h; simp[ih h2]
theorem vQ {l:List PE}{mu:Bool}(hl:∀e∈l,SE c k n C e):SE c k n C (.lst l mu):=λf hcd x h=>by
 replace h:=NT h
 obtain⟨ys,pos,rfl,h⟩:=h;simp only[Bool.and_eq_true,decide_eq_true_eq] at h;obtain⟨h0,h1⟩:=h;refine Qm rfl λA rm J s H cm i Q E p=>wpAny_List ?_
 refine bindG (rp:=c.reps f.FX) (λQ=>Yn l hl f hcd ys h1 pos A rm J s H cm i Q E) p λvs H_1 xs s_1 cm_1 e_1 n_1 i_1 r_1 p=>?_
 refine⟨?_,Gg p i_1 r_1 s_1.toks⟩;simp only[QL r_1,Gf e_1,vP h1,sizeLine_eq]
 lia
theorem Zx {z:PX}{o i:Value}(h:(!isSl z)=true):subscripted z false o i=operate [o,i] (getItem o i):=by
 cases z with
 | Slice a b st p=>cases st<;>first | rfl | exact nf h
 | _=>rfl
theorem Gh (i:Inv c f s J H cm){x:Value}(r:c.rep f.FX cm s.heap v x)(h:seqOf H v=some l) :
  LstAt s.heap x (λo=>o.cls=.type "tuple"\/o.cls=.type "list") λxs=>c.reps f.FX cm s.heap l xs:=by
 cases v with
 | tup m=>cases h; obtain⟨a,o,xs,n,rfl,r,hc,hd,z⟩:=r; exact⟨a,o,xs,n,rfl,r.1,hd,z,.inl hc⟩
 | lst m=>cases h; obtain⟨a,o,xs,n,rfl,r,hc,hd,z⟩:=r; exact⟨a,o,xs,n,rfl,r.1,hd,z,.inr hc⟩
 | cell j =>
  obtain⟨p,hp,rfl⟩:=r;obtain⟨_,xs,o,n,e,r1,r2,_,_,z⟩:=i.base.cells j p _ hp (Y5 h);exact⟨p.1,o,xs,n,rfl,e,r2,z,.inr r1⟩
 | _=>exact no h
theorem Yo {J:LA}{H:AH}{v:LA}{x:Value}(r:c.rep FX cm s.heap (.lst v) x) :
  LstAt s.heap x (λo=>o.cls=.type "list") λxs=>c.reps FX cm s.heap v xs:=by
 obtain⟨a,o,xs,n,rfl,r,hc,hd,z⟩:=r; exact⟨a,o,xs,n,rfl,r.1,hd,z,hc⟩
theorem Yp {P:Prop}{_:Decidable P}{o:Option α}{r:α}(h:(if P then o else none)=some r):P/\o=some r:=by
 by_cases p:P
 ·rw[if_pos p] at h; exact⟨p,h⟩
 ·rw[if_neg p] at h; exact no h
theorem vR {y z:PX}(hz:(!isSl z)=true){v w u:AV}{a b:Value}(i:Inv c f s J H cm)
  (r1:c.rep f.FX cm s.heap v a) (r2:c.rep f.FX cm s.heap w b) (h:pSub H v w=some u) (p:EPost c f J s cm (.ok u H) Q E):wpAny (model P0 c.w) A (subscriptTail y z a b) Q E s:=by
 cases w with
 | int j =>
  obtain⟨t,rfl⟩:=r2;obtain⟨l,hl,h⟩:=obD (show subJ (seqOf H v) j=some u from h);obtain⟨a,o,xs,m,rfl,e,hd,zr,hc⟩:=Gh i r1 hl;obtain⟨h0,h⟩:=Yp h;obtain⟨hlen,h⟩:=Yp h;obtain⟨val,hv,rv⟩:=UW zr h;have hb:j.toNat<l.length:=(List.getElem?_eq_some_iff.mp h).1;have hxl:=QL zr;have hj:j<(xs.length:Int):=(Int.toNat_lt h0).mp (hxl.symm ▸ hb);have hj':j<2 ^ 63:=Int.lt_of_lt_of_le hj (Int.le_trans (Int.ofNat_le.mpr (hxl.symm ▸ hlen:xs.length<=1000000)) (by decide))
  rcases hc with hc | hc
  ·refine item_tupleT (j:=j.toNat) ⟨o,e,hc,m,hd⟩ (Int.le_trans (by decide) h0) hj' ?_ hv (EPost.here p i rv) (Zx hz)
   unfold seqIndex?;simp only[Int.not_lt.mpr h0,if_false];have h2:(decide (0<=j)&&decide (j<(xs.length:Int)))=true:=by rw[decide_eq_true h0,decide_eq_true hj]; rfl
   rw[h2]; rfl
  ·have hL:s.heap.IsList a xs.toArray:=⟨o,e,hc,m,hd⟩
   exact tail_any hL.typeIs slot_list_getitem.lookup (wpAny_getItem_list hL h0 hj' (by simpa using hv) (EPost.here p i rv)) (Zx hz)
 | str key =>
  obtain⟨t,rfl⟩:=r2;obtain⟨⟨ks,vs⟩,hq,h⟩:=obD (show ((dctOf H v).bind λq=>keyAt q.1 q.2 key)=some u from h);obtain⟨a,o,kvs,rfl,e,lo,d,zr⟩:=Wt i r1 hq;obtain⟨val,hv,rv⟩:=(Zn _ zr).2.2.1 u h;have hm:=(Heap.dictOf_iff.mpr ⟨o,e,d⟩:s.heap.DictOf (strKind P0 c.w) a kvs).mapOf;exact tail_any hm.typeIs slot_dict_getitem.lookup (wpAny_getItem_of (strKind_is P0 c.w _ t) hm hv (EPost.end p i (Grow.toks _ _) rv)) (Zx hz)
 | _=>exact no h
theorem vU {a b:PE}(ha:SE c k n C a)(hb:SE c k n C b):SE c k n C (.sub a b):=λf hcd x h=>by
 replace h:=Yl h
 obtain⟨y,z,pos,rfl,h⟩:=h;simp only[Bool.and_eq_true] at h;obtain⟨⟨h0,h1⟩,h2⟩:=h;refine Qm rfl λA rm J s H cm i Q E p=>Subscript_ ?_
 refine bindG (λQ=>(ha f hcd y h1).1 A rm J s H cm i Q E) p λv H_1 a s_1 cm_1 _ n_1 i_1 r_1 p=>?_
 refine bindG (λQ=>(hb f hcd z h2).1 A rm J s_1 H_1 cm_1 i_1 Q E) p λw H_2 b s_2 cm_2 _ n_2 i_2 r_2 p=>?_
 cases hq:pSub H_2 v w with
 | none=>rw[hq] at p; exact p.elim
 | some u=>rw[hq] at p; exact vR h0 i_2 (n_2.rep i_1.base r_1) r_2 hq p
theorem vV (items:Array Value)(b:Nat)(hb:items.size<=b):slicePick items none (some b) none=slicePick items none (some items.size) none:=by
 have e:sliceBounds none (some (b:Int)) none items.size=sliceBounds none (some (items.size:Int)) none items.size:=by
  simp only[sliceBounds,Option.getD_none];have h1:¬((b:Int)<0):=Int.not_lt.mpr (Int.natCast_nonneg b);have h2:¬((items.size:Int)<0):=Int.not_lt.mpr (Int.natCast_nonneg _);have h3:min (b:Int) items.size=items.size:=Int.min_eq_right (Int.ofNat_le.mpr hb);simp only[h1,h2,if_false,show (1:Int)>0 by decide,if_true];congr 2
  all_goals simp only[h3,Int.min_self]
 unfold slicePick;rw[e]
theorem vW {a b:PE}(ha:SE c k n C a)(hb:SE c k n C b):SE c k n C (.upto a b):=λf hcd x h=>by
 replace h:=Yl h
 obtain⟨y,z,pos,rfl,h⟩:=h
 replace h:=N6 h
 obtain⟨q,r0,p2,rfl,h⟩:=h;simp only[Bool.and_eq_true,Option.isNone_iff_eq_none] at h;obtain⟨rfl,h⟩:=h
 replace h:=Qp h
 obtain⟨u,rfl,h⟩:=h;simp only[Bool.and_eq_true] at h;obtain⟨⟨h0,h1⟩,h2⟩:=h
 replace h0:=QR h0
 obtain⟨nm,np,rfl,_⟩:=h0;refine Qm rfl λA rm J s H cm i Q E p=>wpAny_Subscript_list_slice ?_
 refine bindG (λQ=>(ha f hcd _ h1).1 A rm J s H cm i Q E) p λv H_1 a s_1 cm_1 _ n_1 i_1 r_1 p1=>?_
 clear p;rw[evalPart_none,evalPart_some];refine wpAny_pure ?_;refine bindG (λQ=>(hb f hcd u h2).1 A rm J s_1 H_1 cm_1 i_1 Q E) p1 λw H_2 b s_2 cm_2 _ n_2 i_2 r_2 p=>?_
 clear p1
 replace p:=Yi p
 obtain⟨l,rfl,q⟩:=p
 replace q:=Q0 q
 obtain⟨j,rfl,p⟩:=q;obtain⟨hj,p⟩:=GPost.ite p
 ·obtain⟨a,o,xs,m,rfl,e,hd,zr,hc⟩:=Yo (s:=s_2) (J:=J) (H:=H_2) (n_2.rep i_1.base r_1)
  obtain⟨t,rfl⟩:=r_2;have hxl:=QL zr;have hpick:slicePick xs.toArray none (some j) none=(xs.take j.toNat).toArray:=by
   obtain⟨m,rfl⟩:=Int.eq_ofNat_of_zero_le hj.1;simp only[Int.toNat_natCast];by_cases hm:m<=xs.length
   ·rw[slicePick_upto _ m (by simpa using hm)]
   ·rw[vV _ m (by rw[List.size_toArray]; exact Nat.le_of_not_le hm),slicePick_upto _ _ (Nat.le_refl _)]
    simp[List.take_of_length_le (Nat.le_of_lt (Nat.lt_of_not_le hm))]
  refine⟨a,xs.toArray,none,some j,rfl,⟨o,e,hc,m,hd⟩,by rw[List.size_toArray,sizeLine_eq,hxl]; exact nb hj.2.2 (by rfl),.none,.int j t,?_⟩;refine hpick ▸ ?_;have g1:=Grow.push s_2 {cls:=.type "slice",data:=.fields #[.none,.int j t,.none]} s_2.toks;have i3:=g1.inv i_2;have:=EPost.end p i_2 (g1.trans (Grow.push _ _ s_2.toks)) (i3.lst (Cx.reps_mono g1.rr (.refl _) (wD j.toNat zr)) (t:=s_2.toks));rw[show (({s_2 with heap:=s_2.heap.push {cls:=.type "slice",data:=.fields #[.none,.int j t,.none]},toks:=s_2.toks}:Shared).heap.objs.size)=s_2.heap.objs.size+1 from Heap.size_push ..] at this;exact this
theorem vX {a b:PE}(ha:SE c k n C a)(hb:SE c k n C b):SE c k n C (.from a b):=λf hcd x h=>by
 replace h:=Yl h
 obtain⟨y,z,pos,rfl,h⟩:=h
 replace h:=N6 h
 obtain⟨q,r0,p2,rfl,h⟩:=h;simp only[Bool.and_eq_true,Option.isNone_iff_eq_none] at h;obtain⟨rfl,h⟩:=h
 replace h:=Qp h
 obtain⟨u,rfl,h⟩:=h;simp only[Bool.and_eq_true] at h;obtain⟨⟨h0,h1⟩,h2⟩:=h
 replace h0:=QR h0
 obtain⟨nm,np,rfl,_⟩:=h0;refine Qm rfl λA rm J s H cm i Q E p=>wpAny_Subscript_list_slice ?_
 refine bindG (λQ=>(ha f hcd _ h1).1 A rm J s H cm i Q E) p λv H_1 a s_1 cm_1 _ n_1 i_1 r_1 p1=>?_
 clear p;rw[evalPart_none,evalPart_some];refine bindG (λQ=>(hb f hcd u h2).1 A rm J s_1 H_1 cm_1 i_1 Q E) p1 λw H_2 b s_2 cm_2 _ n_2 i_2 r_2 p=>wpAny_pure ?_
 clear p1
 replace p:=Yi p
 obtain⟨l,rfl,q⟩:=p
 replace q:=Q0 q
 obtain⟨j,rfl,p⟩:=q;obtain⟨hj,p⟩:=GPost.ite p
 ·obtain⟨a,o,xs,m,rfl,e,hd,zr,hc⟩:=Yo (s:=s_2) (J:=J) (H:=H_2) (n_2.rep i_1.base r_1)
  obtain⟨t,rfl⟩:=r_2;have hxl:=QL zr;have hpick:slicePick xs.toArray (some j) none none=(xs.drop j.toNat).toArray:=by
   obtain⟨m,rfl⟩:=Int.eq_ofNat_of_zero_le hj.1;simp only[Int.toNat_natCast];rw[slicePick_from _ m (by rw[List.size_toArray,hxl]; exact Int.ofNat_le.mp hj.2.1)]
  refine⟨a,xs.toArray,some j,none,rfl,⟨o,e,hc,m,hd⟩,by rw[List.size_toArray,sizeLine_eq,hxl]; exact nb hj.2.2 (by rfl),.int j t,.none,?_⟩;rw[hpick];have g1:=Grow.push s_2 {cls:=.type "slice",data:=.fields #[.int j t,.none,.none]} s_2.toks;have i3:=g1.inv i_2;have:=EPost.end p i_2 (g1.trans (Grow.push _ _ s_2.toks)) (i3.lst (Cx.reps_mono g1.rr (.refl _) (wF j.toNat zr)) (t:=s_2.toks));rw[show (({s_2 with heap:=s_2.heap.push {cls:=.type "slice",data:=.fields #[.int j t,.none,.none]},toks:=s_2.toks}:Shared).heap.objs.size)=s_2.heap.objs.size+1 from Heap.size_push ..] at this;exact this
theorem vY (P:Params):nsIn (KX P) mainGlobals (Str.ofString "len")=some none:=by kernel_rfl
theorem vZ (P:Params):nsIn (KX P) mainGlobals (Str.ofString "abs")=some none:=by kernel_rfl
theorem v4 (P:Params):nsIn (KX P) mainGlobals (Str.ofString "sum")=some none:=by kernel_rfl
theorem v5 (P:Params):nsIn (KX P) mainGlobals (Str.ofString "min")=some none:=by kernel_rfl
theorem v6 (P:Params):nsIn (KX P) mainGlobals (Str.ofString "int")=some none:=by kernel_rfl
theorem v7 (P:Params):nsIn (KX P) mainGlobals (Str.ofString "str")=some none:=by kernel_rfl
theorem Gi (P:Params):nsIn (KX P) mainGlobals (Str.ofString "range")=some none:=by kernel_rfl
theorem v8 (P:Params):nsIn (KX P) mainGlobals (Str.ofString "list")=some none:=by kernel_rfl
theorem v9 (P:Params):nsIn (KX P) mainGlobals (Str.ofString "isinstance")=some none:=by kernel_rfl
theorem xd:bootBuiltins (Str.ofString "len")=some (.builtin "len"):=by kernel_rfl
theorem xf:bootBuiltins (Str.ofString "abs")=some (.builtin "abs"):=by kernel_rfl
theorem xg:bootBuiltins (Str.ofString "sum")=some (.builtin "sum"):=by kernel_rfl
theorem xm:bootBuiltins (Str.ofString "min")=some (.builtin "min"):=by kernel_rfl
theorem xn:bootBuiltins (Str.ofString "int")=some (.type "int"):=by kernel_rfl
theorem xq:bootBuiltins (Str.ofString "str")=some (.type "str"):=by kernel_rfl
theorem Gj:bootBuiltins (Str.ofString "range")=some (.type "range"):=by kernel_rfl
theorem xx:bootBuiltins (Str.ofString "list")=some (.type "list"):=by kernel_rfl
theorem xF:bootBuiltins (Str.ofString "isinstance")=some (.builtin "isinstance"):=by kernel_rfl
theorem Zy {ys:List PX}{pos:Pos}(h:ys.all noStar=true):(backTo pos (starEach ys env)).any (·.1)=false:=by
 induction ys with
 | nil=>rfl
 | cons y r ih =>
  simp only[List.all_cons,Bool.and_eq_true] at h;rw[Jg h.1];show (false||(backTo pos (starEach r env)).any (·.1))=false;rw[ih h.2]; rfl
noncomputable def CvOk (v:Value):Prop:=(∃id,v=.builtin id)\/∃id,v=.type id
theorem Zz {nm:String}{cv:Value}{q pos:Pos}{y:PX}{r:List PX}(i:Inv c f s J H cm)
  (hg:glb f.sc nm (Str.ofString nm)=true) (e:nsIn (KX c.w.params) mainGlobals (Str.ofString nm)=some none) (hv:bootBuiltins (Str.ofString nm)=some cv) (hc:CvOk cv) (hs:(y::r).all noStar=true) (hn:Str.ofString nm≠Str.ofString "__name__")
  (h:wpAny (model P0 c.w) A (spliced (backTo pos (starEach (y::r) f.env))) (λvs s_1=>wpAny (model P0 c.w) A (call cv vs) Q E s_1) E s) :
  wpAny (model P0 c.w) A (eval (.Call (.Name (Str.ofString nm) q) (y::r) [] pos) f.env) Q E s:=by
 refine wpAny_Call_Name_kw (vA i hg e hv hn ?_);have h1:=Zy (anD (show (noStar y&&r.all noStar)=true from hs)).2 (pos:=pos) (env:=f.env);have h2:=Jg (env:=f.env) (r:=r) (anD (show (noStar y&&r.all noStar)=true from hs)).1;rcases hc with ⟨id,rfl⟩ | ⟨id,rfl⟩
 ·exact PyProof.Rows.callWith_builtin1 h h2 h1
 ·exact PyProof.Rows.callWith_type1 h h2 h1
theorem arg1 {a:PE}{y:PX}{pos:Pos}{K:List Value->Shared->Prop}{g:AV->AH->Out AV}(ha:SE c k n C a)(h1:chkE k a f.sc f.σ y=true)(hs:noStar y=true)
  (rm:Room f A n) (hcd:FrOk k f.env) (i:Inv c f s J H cm) (p:EPost c f J s cm ((evE C J a H).bind g) Q E)
  (h:∀v H_1 z s_1 cm_1,evE C J a H=.ok v H_1->Nx f.FA f.FO s cm s_1 cm_1->Inv c f s_1 J H_1 cm_1->c.rep f.FX cm_1 s_1.heap v z->EPost c f J s_1 cm_1 (g v H_1) Q E->K [z] s_1) :
  wpAny (model P0 c.w) A (spliced (backTo pos (starEach [y] f.env))) K E s:=by
 refine wpAny_items_cons ?_ (Jg hs);refine bindG (λQ=>(ha f hcd y h1).1 A rm J s H cm i Q E) p λv H_1 z s_1 cm_1 e_1 n_1 i_1 r_1 p=>?_
 exact wpAny_items_nil (h v H_1 z s_1 cm_1 e_1 n_1 i_1 r_1 p)
theorem arg2 {a b:PE}{y u:PX}{pos:Pos}{K:List Value->Shared->Prop}{g:AV->AV->AH->Out AV}(ha:SE c k n C a)(hb:SE c k n C b)(h1:chkE k a f.sc f.σ y=true)(h2:chkE k b f.sc f.σ u=true)(hs:noStar y=true)(hs2:noStar u=true)
  (rm:Room f A n) (hcd:FrOk k f.env) (i:Inv c f s J H cm) (p:EPost c f J s cm ((evE C J a H).bind λv H=>(evE C J b H).bind λw H=>g v w H) Q E)
  (h:∀v w H_1 z t s_1 cm_1,Nx f.FA f.FO s cm s_1 cm_1->Inv c f s_1 J H_1 cm_1->c.rep f.FX cm_1 s_1.heap v z->c.rep f.FX cm_1 s_1.heap w t->EPost c f J s_1 cm_1 (g v w H_1) Q E->K [z,t] s_1) :
  wpAny (model P0 c.w) A (spliced (backTo pos (starEach [y,u] f.env))) K E s:=by
 refine wpAny_items_cons ?_ (Jg hs);refine bindG (λQ=>(ha f hcd y h1).1 A rm J s H cm i Q E) p λv H_1 z s_1 cm_1 e_1 n_1 i_1 r_1 p=>?_
 refine wpAny_items_cons ?_ (Jg hs2);refine bindG (λQ=>(hb f hcd u h2).1 A rm J s_1 H_1 cm_1 i_1 Q E) p λw H_2 t s_2 cm_2 e_2 n_2 i_2 r_2 p=>?_
 exact wpAny_items_nil (h v w H_2 z t s_2 cm_2 (n_1.trans n_2) i_2 (n_2.rep i_1.base r_1) r_2 p)
theorem J1 {sc:Sc}{nm:String}{y:Str}(h:glb sc nm y=true):y=Str.ofString nm:=by
 simp only[glb,Bool.and_eq_true,beq_iff_eq] at h; exact h.1.1
theorem J2 {a e:PE}{nm:String}{cv:Value}{g:AV->AH->Out AV}(ha:SE c k n C a)(he:∀J H,evE C J e H=(evE C J a H).bind g)
  (hk:∀sc σ x,chkE k e sc σ x=onCall1 x λy z=>glb sc nm y&&chkE k a sc σ z&&noStar z) (hb:nsIn (KX c.w.params) mainGlobals (Str.ofString nm)=some none) (hv:bootBuiltins (Str.ofString nm)=some cv) (hc:CvOk cv) (hn:Str.ofString nm≠Str.ofString "__name__")
  (h:∀{f:Fm} {A:Around} {s:Shared} {J:LA} {H:AH} {cm:CM} {v:AV} {z:Value} {Q:VS} {E:VS},Room f A n->Inv c f s J H cm->c.rep f.FX cm s.heap v z->EPost c f J s cm (g v H) Q E->wpAny (model P0 c.w) A (call cv [z]) Q E s):SE c k n C e:=λf hcd x hx=>by
 rw[hk] at hx;obtain⟨y,z,q,pos,rfl,hx⟩:=NZ hx;obtain⟨hx,h2⟩:=anD hx;obtain⟨h0,h1⟩:=anD hx;cases J1 h0;refine Qm rfl λA rm J s H cm i Q E p=>Zz i h0 hb hv hc (Bool.and_eq_true_iff.mpr ⟨h2,rfl⟩) hn ?_
 rw[he] at p;exact arg1 ha h1 h2 rm hcd i p λv H_1 z s_1 cm_1 _ _ i_1 r_1 p=>h rm i_1 r_1 p
theorem Gk {a b e:PE}{nm:String}{cv:Value}{g:AV->AV->AH->Out AV}(ha:SE c k n C a)(hb':SE c k n C b)(he:∀J H,evE C J e H=(evE C J a H).bind λv H=>(evE C J b H).bind λw H=>g v w H)
  (hk:∀sc σ x,chkE k e sc σ x=onCall2 x λy z u=>glb sc nm y&&chkE k a sc σ z&&noStar z&&chkE k b sc σ u&&noStar u) (hb:nsIn (KX c.w.params) mainGlobals (Str.ofString nm)=some none) (hv:bootBuiltins (Str.ofString nm)=some cv) (hc:CvOk cv) (hn:Str.ofString nm≠Str.ofString "__name__")
  (h:∀{f:Fm} {A:Around} {s:Shared} {J:LA} {H:AH} {cm:CM} {v w:AV} {z t:Value} {Q:VS} {E:VS},Room f A n->Inv c f s J H cm->c.rep f.FX cm s.heap v z->c.rep f.FX cm s.heap w t->EPost c f J s cm (g v w H) Q E->wpAny (model P0 c.w) A (call cv [z,t]) Q E s):SE c k n C e:=λf hcd x hx=>by
 rw[hk] at hx;obtain⟨y,z,u,q,pos,rfl,hx⟩:=N5 hx;obtain⟨hx,h4⟩:=anD hx;obtain⟨hx,h3⟩:=anD hx;obtain⟨hx,h2⟩:=anD hx;obtain⟨h0,h1⟩:=anD hx;cases J1 h0;refine Qm rfl λA rm J s H cm i Q E p=>Zz i h0 hb hv hc (Bool.and_eq_true_iff.mpr ⟨h2,Bool.and_eq_true_iff.mpr ⟨h4,rfl⟩⟩) hn ?_
 rw[he] at p;exact arg2 ha hb' h1 h3 h2 h4 rm hcd i p λv w H_1 z t s_1 cm_1 _ i_1 r_1 r_2 p=>h rm i_1 r_1 r_2 p
theorem xG {a:PE}(ha:SE c k n C a):SE c k n C (.len a):=J2 ha (λ_ _=>rfl) (λ_ _ _=>rfl) (vY _) xd (.inl ⟨_,rfl⟩) (by decide) λ{f A s J H cm v z Q E} rm i r p=>by
 obtain⟨l,hq,p⟩:=GPost.opt p;obtain⟨hlen,p⟩:=GPost.ite p;obtain⟨a,o,xs,m,rfl,e,hd,zr,hc⟩:=Gh i r hq;have hl:=QL zr;have hsz:xs.toArray.size=l.length:=by simp[hl]
 have fin:=EPost.end p i (Grow.toks s (s.toks+1+1)) (x:=.int (l.length:Int) (s.toks+1)) ⟨_,rfl⟩;rw[<-hsz] at fin hlen;rcases hc with hc | hc
 ·exact PyProof.Rows.len_tuple ⟨o,e,hc,m,hd⟩ (Int.lt_of_le_of_lt (Int.ofNat_le.mpr hlen) (by decide)) fin
 ·exact Calls.call_len_list ⟨o,e,hc,m,hd⟩ (Int.lt_of_le_of_lt (Int.ofNat_le.mpr hlen) (by decide)) fin
theorem xH {a:PE}(ha:SE c k n C a):SE c k n C (.abs a):=J2 ha (λ_ _=>rfl) (λ_ _ _=>rfl) (vZ _) xf (.inl ⟨_,rfl⟩) (by decide) λrm i r p=>by
 replace p:=Q0 p
 obtain⟨j,rfl,p⟩:=p;obtain⟨t,rfl⟩:=r;refine PyProof.Rows.call_abs_int λu tk=>EPost.end p i (Grow.toks _ _) ⟨u,?_⟩
 rw[show (if j<0 then -j else j)=(j.natAbs:Int) by
  by_cases h:j<0
  ·rw[if_pos h]; exact (Int.ofNat_natAbs_of_nonpos (Int.le_of_lt h)).symm
  ·rw[if_neg h]; exact (Int.natAbs_of_nonneg (Int.not_lt.mp h)).symm]
theorem xJ {a b:PE}(ha:SE c k n C a)(hb:SE c k n C b):SE c k n C (.min a b):=Gk ha hb (λ_ _=>rfl) (λ_ _ _=>rfl) (v5 _) xm (.inl ⟨_,rfl⟩) (by decide) λ{f A s J H cm v w z t Q E} rm i r_1 r_2 p=>by
 replace p:=Q0 p
 obtain⟨i1,rfl,p⟩:=p
 replace p:=Q0 p
 obtain⟨j1,rfl,p⟩:=p;obtain⟨t1,rfl⟩:=r_1; obtain⟨t2,rfl⟩:=r_2;refine min_two_ints rm.hh λh' tk hk=>?_
 have g:Grow s {s with heap:=h',toks:=tk}:=Grow.of hk;by_cases hj:j1<i1
 ·rw[if_pos hj]; rw[if_pos hj] at p; exact EPost.end p i g ⟨_,rfl⟩
 ·rw[if_neg hj]; rw[if_neg hj] at p; exact EPost.end p i g ⟨_,rfl⟩
theorem xK {a:PE}(ha:SE c k n C a):SE c k n C (.intof a):=J2 ha (λ_ _=>rfl) (λ_ _ _=>rfl) (v6 _) xn (.inr ⟨_,rfl⟩) (by decide) λrm i r p=>by
 replace p:=Q0 p
 obtain⟨j,rfl,p⟩:=p;obtain⟨t,rfl⟩:=r;exact call_int_int (EPost.here p i ⟨_,rfl⟩)
theorem Gl {a:Int}(h:a.natAbs<1000000):a.natAbs.log2<1920:=by
 by_cases h0:a.natAbs=0
 ·rw[h0]; decide
 ·exact Nat.lt_trans ((Nat.log2_lt (k:=20) h0).mpr (Nat.lt_trans h (by decide))) (by decide)
theorem xM {a:PE}(ha:SE c k n C a):SE c k n C (.strof a):=J2 ha (λ_ _=>rfl) (λ_ _ _=>rfl) (v7 _) xq (.inr ⟨_,rfl⟩) (by decide) λrm i r p=>by
 replace p:=Q0 p
 obtain⟨j,rfl,p⟩:=p;obtain⟨hl,p⟩:=GPost.ite p;obtain⟨t,rfl⟩:=r;exact P.str_of_int (Gl hl) (EPost.end p i (Grow.toks _ _) ⟨_,rfl⟩)
theorem xN {a:PE}(ha:SE c k n C a):SE c k n C (.range1 a):=J2 ha (λ_ _=>rfl) (λ_ _ _=>rfl) (Gi _) Gj (.inr ⟨_,rfl⟩) (by decide) λrm i r p=>by
 replace p:=Q0 p
 obtain⟨j,rfl,p⟩:=p;obtain⟨hb,p⟩:=GPost.ite p;obtain⟨t,rfl⟩:=r;exact call_range_1 (EPost.end p i (Grow.push _ _ _) ⟨_,_,_,_,rfl,i.base.rr_new (Heap.get?_push_size _ rfl) rfl (Qk _),by decide,hb⟩)
theorem xO {a b:PE}(ha:SE c k n C a)(hb:SE c k n C b):SE c k n C (.range a b):=Gk ha hb (λ_ _=>rfl) (λ_ _ _=>rfl) (Gi _) Gj (.inr ⟨_,rfl⟩) (by decide) λrm i r_1 r_2 p=>by
 replace p:=Q0 p
 obtain⟨i1,rfl,p⟩:=p
 replace p:=Q0 p
 obtain⟨j1,rfl,p⟩:=p;obtain⟨hb,p⟩:=GPost.ite p;obtain⟨t1,rfl⟩:=r_1; obtain⟨t2,rfl⟩:=r_2;exact call_range_2 (EPost.end p i (Grow.push _ _ _) ⟨_,_,_,_,rfl,i.base.rr_new (Heap.get?_push_size _ rfl) rfl (Qk _),hb.1,hb.2⟩)
theorem sum_ints {vs:List Value}{t:Int}(r:c.reps FX cm h l vs)(e:sumInts l=some t):∃ps:List (Int × Tok),vs=ps.map (λp=>.int p.1 p.2)/\(ps.map (·.1)).sum=t:=by
 induction l generalizing vs t with
 | nil=>obtain rfl:vs=[]:=r; cases e; exact⟨[],rfl,rfl⟩
 | cons x l ih =>
  obtain⟨v,r,rfl,h1,h2⟩:=r;cases x with
  | int i =>
   obtain⟨t',e',rfl⟩:=omD (show (sumInts l).map (i+·)=some t from e);obtain⟨ps,rfl,e2⟩:=ih h2 e';obtain⟨u,rfl⟩:=h1;exact⟨(i,u)::ps,rfl,by simp only[List.map_cons,List.sum_cons,e2]⟩
  | _=>exact no e
theorem xP {a:PE}(ha:SE c k n C a):SE c k n C (.sum a):=J2 ha (λ_ _=>rfl) (λ_ _ _=>rfl) (v4 _) xg (.inl ⟨_,rfl⟩) (by decide) λ{f A s J H cm v z Q E} rm i r p=>by
 replace p:=Yi p
 obtain⟨l,rfl,p⟩:=p;obtain⟨t,hs,p⟩:=GPost.opt p;obtain⟨a,o,xs,m,rfl,e,hd,zr,hc⟩:=Yo (J:=J) (H:=H) r;obtain⟨ps,rfl,e2⟩:=sum_ints zr hs;have hL:s.heap.IsList a (intItems ps.toArray):=⟨o,e,hc,m,by rw[hd]; simp[intItems]⟩;refine sum_intListG rm.hh hL λh' tk t' hk=>?_
 have e3:preSum (numAt ps.toArray) ps.toArray.size=t:=by rw[preSum_eq,List.size_toArray,List.take_of_length_le (by simp),e2]
 refine e3 ▸ ?_;exact EPost.end p i (Grow.of hk) ⟨_,rfl⟩
theorem xQ {a:PE}{mu:Bool}(ha:SE c k n C a):SE c k n C (.list a mu):=J2 ha (λ_ _=>rfl) (λ_ _ _=>rfl) (v8 _) xx (.inr ⟨_,rfl⟩) (by decide) λ{f A s J H cm v z Q E} rm i r p=>by
 replace p:=Yi p
 obtain⟨l,rfl,p⟩:=p;obtain⟨hl,p⟩:=GPost.ite p;obtain⟨a,o,xs,m,rfl,e,hd,zr,hc⟩:=Yo (J:=J) (H:=H) r;have hxl:=QL zr;refine call_list_seq a (T:="list") (.inl rfl) e hc hd (λh' c' hk hn=>?_) (by rw[List.size_toArray,sizeLine_eq]; lia);have g:Grow s {s with heap:=h'}:=Grow.of hk (tk:=s.toks);cases mu with
 | false=>exact EPost.end p i g ⟨_,_,xs,c',rfl,i.base.rr_new hn rfl (Qk _),rfl,rfl,Cx.reps_mono g.rr (.refl _) zr⟩
 | true =>
  refine EPost.endCell (l:=[s.heap.objs.size]) p i g (by simp) (λa h=>?_) ⟨rfl,xs,_,c',hn,rfl,rfl,rfl,rfl,Cx.reps_mono (g.rrAdd i.base λa h=>?_) (.snoc _ _) zr⟩
  ·cases msD h; exact⟨Qk _,by show h'.get? _≠none; rw[hn]; nofun⟩
  ·cases msD h; exact Qk _
theorem xR {a b:PE}(ha:SE c k n C a)(hb:SE c k n C b):SE c k n C (.cat a b):=λf hcd x h=>by
 replace h:=Zr h
 obtain⟨l,p,r,pos,rfl,h⟩:=h;simp only[Bool.and_eq_true,beq_iff_eq] at h;obtain⟨⟨rfl,h1⟩,h2⟩:=h;refine Qm rfl λA rm J s H cm i Q E p=>wpAny_BinOp ?_
 refine bindG (λQ=>(ha f hcd l h1).1 A rm J s H cm i Q E) p λv H_1 y s_1 cm_1 _ n_1 i_1 r_1 q=>?_
 clear p;refine bindG (λQ=>(hb f hcd r h2).1 A rm J s_1 H_1 cm_1 i_1 Q E) q λw H_2 z s_2 cm_2 _ n_2 i_2 r_2 p=>?_
 clear q
 replace p:=Yi p
 obtain⟨l,rfl,q⟩:=p
 replace q:=Yi q
 obtain⟨r,rfl,p⟩:=q;obtain⟨hl,p⟩:=GPost.ite p;obtain⟨a,⟨cls,dd,data,sl⟩,xs,m,rfl,e,hd,zr,hc⟩:=Yo (J:=J) (H:=H_2) (n_2.rep i_1.base r_1);obtain⟨b,⟨cls2,dd2,data2,sl2⟩,ys,m2,rfl,e2,hd2,zr2,hc2⟩:=Yo (J:=J) (H:=H_2) r_2;have l1:=QL zr;have l2:=QL zr2;simp only at hc hd hc2 hd2;subst hc hd hc2 hd2;refine concat_meets ⟨_,e,rfl⟩ ⟨_,e2,rfl⟩ noFill_list_add seq_list_add PySem.F.slot_list_add PySem.F.entry_list_add (PySem.F.args_list_add_2 _ _) (list_addW a b xs.toArray ys.toArray m m2 dd dd2 sl sl2 (by rw[List.size_toArray,List.size_toArray,sizeLine_eq,l1,l2]; exact nb hl (by rfl))) ⟨e,e2,?_⟩
 have fin:=EPost.end p i_2 (Grow.push s_2 _ s_2.toks) (i_2.lst (Wq zr zr2) (t:=s_2.toks));have e3:(xs++ys).toArray=xs.toArray++ys.toArray:=by simp
 rw[e3] at fin;exact fin
theorem xT {a b:PE}{mu:Bool}(ha:SE c k n C a)(hb:SE c k n C b):SE c k n C (.rep a b mu):=λf hcd x h=>by
 replace h:=Zr h
 obtain⟨l,p,r,pos,rfl,h⟩:=h
 replace h:=NT h
 obtain⟨zs,lp,rfl,h⟩:=h
 replace h:=Q3 h
 obtain⟨z,rfl,h⟩:=h;simp only[Bool.and_eq_true,beq_iff_eq] at h;obtain⟨⟨⟨rfl,h0⟩,h1⟩,h2⟩:=h;refine Qm rfl λA rm J s H cm i Q E p=>wpAny_BinOp (wpAny_List (wpAny_items_cons ?_ (Jg h0)))
 refine bindG (λQ=>(ha f hcd z h1).1 A rm J s H cm i Q E) p λv H_1 y s_1 cm_1 _ n_1 i_1 r_1 p=>wpAny_items_nil ⟨by rw[sizeLine_eq]; simp,?_⟩
 have g1:Grow s_1 {s_1 with heap:=s_1.heap.push {cls:=.type "list",data:=.seq [y].toArray}}:=Grow.push s_1 _ s_1.toks;have i1':=g1.inv i_1;have p1:=GPost.from p (g1.nx (FA:=f.FA) (FO:=f.FO) (cm:=cm_1));have hl0:({s_1 with heap:=s_1.heap.push {cls:=.type "list",data:=.seq [y].toArray}}:Shared).heap.get? s_1.heap.objs.size=some {cls:=.type "list",data:=.seq [y].toArray}:=Heap.get?_push_size _ rfl;refine bindG (λQ=>(hb f hcd r h2).1 A rm J _ H_1 cm_1 i1' Q E) p1 λw H_2 z s_2 cm_2 _ n_2 i_2 r_2 p=>?_
 replace p:=Q0 p
 obtain⟨j,rfl,p⟩:=p;obtain⟨hj,p⟩:=GPost.ite p
 ·obtain⟨t,rfl⟩:=r_2
  have rn:=(i_1.base.rr_new hl0 rfl (Qk _));have hl2:=(n_2.rr i1'.base _ _ rn).1;have rv:=n_2.rep i1'.base (Cx.rep_mono g1.rr (.refl _) r_1);refine wpAny_binaryOp_repeat_ref (T:="list") (U:="int") (by decide) ⟨_,hl2,rfl⟩ (λs'=>typeIs_int s' j t) noFill_list_mul F.fills_int_mul F.slot_int_rmul repeat_list F.slot_int_index.lookup
   (call_meets F.slot_int_rmul (typeIs_int s_2 j t) F.entry_int_rmul (F.args_int_rmul_2 _ _) (int___rmul___int_list j t s_1.heap.objs.size _ 0)
    ⟨hl2,rfl,⟨_,hl2,rfl⟩,call_meets F.slot_list_mul ⟨_,hl2,rfl⟩ F.entry_list_mul (F.args_list_mul_2 _ _)
     (AutoListH.list___mul___list_int_3 s_1.heap.objs.size _ 0 j t (by simp[Builtin.List.listFitsIndex]; exact⟨Int.le_trans (by decide) hj.1,Int.lt_trans hj.2 (by decide)⟩) (by simp; lia) (by simp[Builtin.List.listTooLong,sizeLine]; lia))
     ⟨hl2,?_⟩⟩)
  have e3:List.foldl (λx1 x2=>x1++x2) #[] (List.replicate (if ([y].toArray:Array Value).isEmpty=true then 0 else j.toNat) ([y].toArray:Array Value))=(List.replicate j.toNat y).toArray:=by
   have:∀(m:Nat) (acc:List Value),List.foldl (λ(x1 x2:Array Value)=>x1++x2) acc.toArray (List.replicate m ([y].toArray:Array Value))=(acc++List.replicate m y).toArray:=by
    intro m
    induction m with
    | zero=>intro acc; simp
    | succ m ih =>
     intro acc;rw[List.replicate_succ,List.foldl_cons];have:=ih (acc++[y]);simp only[List.append_toArray] at this ⊢;rw[this];simp[List.replicate_succ]
   have:=this j.toNat [];simpa using this
  refine e3 ▸ ?_;exact Gg p i_2 (wH rv _) s_2.toks
theorem Y7 {o:PX}{attr:Str}{m:Sem Value}(h:noBare o=true):attributeBase o attr env m=m:=by
 cases o with
 | Call fn as kws p =>
  cases fn with
  | Name id q =>
   cases as with
   | nil =>
    cases kws with
    | nil=>exact nf h
    | cons _ _=>rfl
   | cons _ _=>rfl
  | _=>rfl
 | _=>rfl
theorem attrK (P:Params):attrL.all (λp=>findIn (KX P) (.ref p.1) (Str.ofString p.2)==some none&&takerIn (KX P) p.1 (Str.ofString p.2)==some none&&hasDictIn (KX P) p.1&&plainGet (KX P) p.1 (Str.ofString "")&&findIn (KX P) (.ref p.1) "__setattr__"==some (some (.builtin "object.__setattr__"))&&plainOver (KX P) p.1)=true:=by kernel_rfl
theorem Gm {P:Params}{C:Nat}{n:String}(h:attrC C n=true):findIn (KX P) (.ref C) (Str.ofString n)=some none/\takerIn (KX P) C (Str.ofString n)=some none/\hasDictIn (KX P) C=true/\plainGet (KX P) C (Str.ofString n)=true /\
  findIn (KX P) (.ref C) "__setattr__"=some (some (.builtin "object.__setattr__"))/\plainOver (KX P) C=true:=by
 have hm:(C,n)∈attrL:=by
  unfold attrC at h;exact List.contains_iff_mem.mp h
 have:=aaD (attrK P) (C,n) hm;simp only[Bool.and_eq_true,beq_iff_eq] at this;obtain⟨⟨⟨⟨⟨a,b⟩,d⟩,e⟩,g⟩,i⟩:=this;exact⟨a,b,d,e,g,i⟩
theorem Gn {k:String}{ks:List String}{vs:LA}:keyAt (k::ks) (v::vs) k=some v:=if_pos rfl
theorem Gp {k n:String}{ks:List String}{vs:LA}(h:k≠n):keyAt (k::ks) (v::vs) n=keyAt ks vs n:=if_neg h
theorem xU {ks:List String}{vs:LA}{n:String}{u:AV}(h:keyAt ks vs n=some u):n∈ks:=by
 induction ks generalizing vs with
 | nil=>exact no h
 | cons k ks ih =>
  cases vs with
  | nil=>exact no h
  | cons v vs =>
   by_cases hk:k=n
   ·refine hk ▸ ?_; exact .head _
   ·rw[Gp hk] at h; exact .tail _ (ih h)
theorem Y8 {ks:List String}{ds:List DictEntry}(n:String)(z:c.repd FX cm h ks l ds) :
  (∀x,keyAt ks l n=some x->∃v,getL (Str.ofString n) ds=some (some v)/\c.rep FX cm h x v)/\(n ∉ ks->getL (Str.ofString n) ds=some none)/\ds.any (·.refKey)=false/\ds.length=ks.length:=by
 induction l generalizing ks ds with
 | nil=>obtain⟨rfl,rfl⟩:=z; exact⟨λx e=>no e,λ_=>rfl,rfl,rfl⟩
 | cons y l ih =>
  obtain⟨k',ks',v,t,r,rfl,rfl,h1,h2⟩:=z;obtain⟨e1,e2,e3,e4⟩:=ih h2;have hs:(Value.str (Str.ofString k') t).isStr (Str.ofString n)=(k'==n):=Str.ofString_beq k' n;have e4:=congrArg (·+1) e4;by_cases hk:k'=n
  ·have hg:getL (Str.ofString n) (⟨PyData.keyHash c.w.params (Str.ofString k'),.str (Str.ofString k') t,v⟩::r)=some (some v):=by
    unfold getL;rw[List.find?_cons,show (Value.str (Str.ofString k') t).isStr (Str.ofString n)=true from hs.trans (beq_iff_eq.mpr hk)]
   refine⟨λx e=>⟨v,hg,?_⟩,λh=>absurd (hk ▸ .head _) h,e3,e4⟩;subst hk;cases Gn.symm.trans e;exact h1
  ·have hg:getL (Str.ofString n) (⟨PyData.keyHash c.w.params (Str.ofString k'),.str (Str.ofString k') t,v⟩::r)=getL (Str.ofString n) r:=by
    unfold getL;rw[List.find?_cons,show (Value.str (Str.ofString k') t).isStr (Str.ofString n)=false from hs.trans (bN hk),List.any_cons,e3];rfl
   rw[hg,Gp hk];exact⟨e1,λh=>e2 λq=>h (.tail _ q),e3,e4⟩
theorem ZC (i:Inv c f s J H cm){y:Value}{D:Nat}{ks:List String}{vs:LA}(r:c.rep f.FX cm s.heap v y)(h:objOf H v=some (D,ks,vs)) :
  ObjAt s.heap D y (∀k∈ks,attrC D k=true) λds=>c.repd f.FX cm s.heap ks vs ds:=by
 cases v with
 | obj D' ks' vs'=>cases h; obtain⟨a,d,ds,m,rfl,r1,r2,ac,z⟩:=r; exact⟨a,d,ds,m,rfl,r1.1,r2.1,ac,z⟩
 | cell j =>
  obtain⟨p,hp,rfl⟩:=r;have h:H[j]?.bind AC.obj?=some (D,ks,vs):=h;cases hk:H[j]? with
  | none=>replace h:=hk ▸ h; exact no h
  | some y =>
   replace h:=hk ▸ h
   cases y with
   | obj D' ks' vs' =>
    cases h;obtain⟨d,_,_,ds,m,e1,e2,_,ac,z⟩:=i.base.cells j p _ hp hk;exact⟨p.1,d,ds,m,rfl,e1,e2,ac,z⟩
   | _=>exact no h
 | _=>exact no h
theorem Gq {y:Value}(r:c.rep FX cm h v y):handedIn y=true:=by
 cases v with
 | unset=>exact r.elim
 | none=>obtain rfl:y=.none:=r; rfl
 | bool _=>obtain rfl:y=.bool _:=r; rfl
 | int _=>obtain⟨_,rfl⟩:=r; rfl
 | str _=>obtain⟨_,rfl⟩:=r; rfl
 | tup _=>obtain⟨_,_,_,_,rfl,_⟩:=r; rfl
 | lst _=>obtain⟨_,_,_,_,rfl,_⟩:=r; rfl
 | dct _ _=>obtain⟨_,_,_,rfl,_⟩:=r; rfl
 | obj _ _ _=>obtain⟨_,_,_,_,rfl,_⟩:=r; rfl
 | cell _=>obtain⟨_,_,rfl⟩:=r; rfl
 | kref _=>obtain rfl:y=.ref _:=r; rfl
 | rng _ _=>obtain⟨_,_,_,_,rfl,_⟩:=r; rfl
 | lam _=>obtain⟨_,_,rfl,_⟩:=r; rfl
theorem Gr {y:PX}{m:Str}{p:Pos}(h0:noBare y=true)
  (h:wpAny (model P0 c.w) A (eval y env) (λo s_1=>wpAny (model P0 c.w) A (getAttr o m true) Q E s_1) E s):wpAny (model P0 c.w) A (eval (.Attribute y m p) env) Q E s:=by
 have e:eval (.Attribute y m p) env=(do
   let o <-attributeBase y m env (eval y env)
   standAt p.atName
   let r <-holding [o] (getAttr o m true)
   letTemporaryGo y o r
   pure r):=rfl
 rw[e,Y7 h0];exact wpAny_bind (wpAny_mono h (λo s_1 h_1=>wpAny_bind (wpAny_standAt (wpAny_bind (wpAny_holding (wpAny_mono h_1 (λr s_2 h_2=>wpAny_bind (wpAny_letTemporaryGo (wpAny_pure h_2))) λ_ _ z=>z))))) λ_ _ z=>z)
theorem xV (i:Inv c f s J H cm){v u:AV}{y:Value}{D:Nat}{ks:List String}{vs:LA}{nm:String}
  (r:c.rep f.FX cm s.heap v y) (h:objOf H v=some (D,ks,vs)) (hu:keyAt ks vs nm=some u) (p:EPost c f J s cm (.ok u H) Q E):wpAny (model P0 c.w) A (getAttr y (Str.ofString nm) true) Q E s:=by
 obtain⟨a,d,ds,m,rfl,e1,e2,ac,z⟩:=ZC i r h;obtain⟨val,hv,rv⟩:=(Y8 nm z).1 u hu;obtain⟨k1,k2,k3,k4,_⟩:=Gm (P:=c.w.params) (ac nm (xU hu));exact get_value i.base.X ⟨e1,rfl,rfl,e2⟩ (plainGet_of k4).1 (findObj_own (od:=dictOf ds m) k3 k1 rfl ((lookIn_dict _ _ _).trans hv)) (Gq rv) (EPost.end p i (Grow.toks _ _) rv)
theorem xW {a:PE}{nm:String}(ha:SE c k n C a):SE c k n C (.attr a nm):=λf hcd x h=>by
 replace h:=Ww h
 obtain⟨y,m,pos,rfl,h⟩:=h;simp only[Bool.and_eq_true,beq_iff_eq] at h;obtain⟨⟨rfl,h0⟩,h1⟩:=h;refine Qm rfl λA rm J s H cm i Q E p=>Gr h0 ?_
 refine bindG (λQ=>(ha f hcd y h1).1 A rm J s H cm i Q E) p λv H_1 z s_1 cm_1 _ n_1 i_1 r_1 p=>?_
 obtain⟨⟨D,ks,vs⟩,ho,p⟩:=GPost.opt p;have p:EPost c f J s_1 cm_1 (.ofOpt (keyAt ks vs nm) H_1) Q E:=p;cases hu:keyAt ks vs nm with
 | none=>rw[hu] at p; exact p.elim
 | some u=>rw[hu] at p; exact xV i_1 r_1 ho hu p
theorem Gs {y:PX}{pos:Pos}(h:noStar y=true):backTo pos (starEach [y] env)=[(false,eval y env)]:=by
 rw[Jg h]; rfl
theorem xX {o:Obj}{xs:List Value}{m:Nat}(h1:o.cls=.type "list")(h2:o.data=.seq (List.toArray xs) m)(h3:o.dict=none)(h4:o.slots=#[]):o={cls:=.type "list",dict:=none,data:=.seq xs.toArray m,slots:=#[]}:=by
 obtain⟨a,b,d,e⟩:=o;obtain rfl:=h1; obtain rfl:=h2; obtain rfl:=h3; cases h4; rfl
theorem Wy (i:Inv c f s J H cm){j:Nat}{p:Addr × List Addr}(hp:cm[j]?=some p)(hk:H[j]?=some (.lst l)) :
  CelL s.heap p λxs=>c.reps f.FX cm s.heap l xs:=by
 obtain⟨h0,xs,o,m,e,r1,r2,r3,r4,z⟩:=i.base.cells j p _ hp hk;exact⟨h0,xs,m,by simp only[e,xX r1 r2 r3 r4],z⟩
theorem ZD (i:Inv c f s J H cm){j:Nat}{p:Addr × List Addr}{l l':LA}{xs xs':List Value}{m:Nat}{g:Array Value->Array Value}(hp:cm[j]?=some p)
  (h0:p.2=[p.1]) (e:s.heap.get? p.1=some {cls:=.type "list",dict:=none,data:=.seq (List.toArray xs) m,slots:=#[]}) (hg:g xs.toArray=xs'.toArray)
  (z:(∀a o,Rr f.FX cm s.heap a o->Rr f.FX cm (s.heap.update p.1 (Obj.mapSeq g)) a o)->c.reps f.FX cm (s.heap.update p.1 (Obj.mapSeq g)) l' xs') (tk:Nat) :
  Inv c f {s with heap:=s.heap.update p.1 (Obj.mapSeq g),toks:=tk} J (H.set j (.lst l')) cm/\Nx f.FA f.FO s cm {s with heap:=s.heap.update p.1 (Obj.mapSeq g),toks:=tk} cm:=by
 have hf:(Obj.mapSeq g {cls:=.type "list",dict:=none,data:=.seq (List.toArray xs) m,slots:=#[]}).isFreed=false:=rfl;have hn:=Heap.get?_update_self (Obj.mapSeq g) e hf;refine i.set (s':={s with heap:=s.heap.update p.1 (Obj.mapSeq g),toks:=tk}) hp ⟨λa o ha eo=>?_,rfl,rfl⟩ (λa ha=>?_) λrr=>?_
 ·rw[h0] at ha
  exact (Heap.get?_update_ne _ _ _ _ (λq=>ha (by rw[q]; exact .head _))).trans eo
 ·replace ha:=h0 ▸ ha
  cases msD ha;show (s.heap.update p.1 (Obj.mapSeq g)).get? p.1≠none;rw[hn]; nofun
 ·obtain⟨p1,p2⟩:=p
  refine⟨h0,xs',_,(if (g xs.toArray).size==xs.toArray.size then m else m+1),hn,rfl,?_,rfl,rfl,z rr⟩;show Data.seq (g xs.toArray) _=_;rw[hg]
set_option tactic.hygienic true in
theorem xY {a b:PE}(ha:SE c k n C a)(hb:SE c k n C b):SE c k n C (.push a b):=λf hcd x h=>by
 replace h:=Wx h
 obtain⟨y,m,ys0,ap,pos,rfl,hl,_,h0,h⟩:=h
 replace h:=Q3 h
 obtain⟨z,rfl,h⟩:=h;simp only[Bool.and_eq_true,beq_iff_eq] at h;obtain⟨⟨⟨rfl,h1⟩,h2⟩,h3⟩:=h;refine Qm rfl λA rm J s H cm i Q E p=>wpAny_Call_method1_late (Y7 h0) hl (Gs h3) ?_
 refine bindG (λQ=>(ha f hcd y h1).1 A rm J s H cm i Q E) p λv H_1 w s_1 cm_1 _ n_1 i_1 r_1 p1=>?_
 clear p;have p:=U5 p1;clear p1;obtain⟨j,rfl,q⟩:=p;obtain⟨pp,hp,rfl⟩:=r_1;obtain⟨l0,hk,p⟩:=GPost.opt q;clear q
 ·have hk:=Y5 (show H_1[j]?.bind AC.lst?=some l0 from hk)
  obtain⟨hp2,xs0,m0,e0,z0⟩:=Wy i_1 hp hk;refine⟨"list","list.append",PySem.F.plainAttrs_list,PySem.F.slot_list_append,PySem.F.type_list_append,⟨_,e0,rfl⟩,λa q=>by cases q; exact⟨_,e0,rfl⟩,?_⟩;refine method1_meetsIn PySem.F.slot_list_append PySem.F.entry_list_append ?_;refine bindG (λQ=>(hb f hcd z h2).1 A rm J s_1 H_1 cm_1 i_1 Q E) p λu H_2 t s_2 cm_2 _ n_2 i_2 r_2 q=>?_
  clear p;obtain⟨l,hk2,p⟩:=GPost.opt q;clear q;obtain⟨hlen,p⟩:=GPost.ite p
  ··have hk2:=Y5 hk2
    obtain⟨pp',hp',e1,_⟩:=n_2.cms j pp hp;obtain⟨hq2,xs,m,e,z⟩:=Wy i_2 hp' hk2;have hxl:=QL z;rw[e1] at e;refine⟨⟨_,e,rfl⟩,PySem.F.args_list_append_2 _ _,_,Meets.inModel (AutoListH.list_append_list_val_0 pp.1 xs.toArray m t (by rw[List.size_toArray,sizeLine_eq]; lia)) P0 c.w,e,?_⟩;rw[<-e1] at e ⊢;obtain⟨iv,nx⟩:=ZD (l:=l) (l':=l++[u]) (g:=λx_1=>x_1.push t) (xs':=xs++[t]) i_2 hp' hq2 e (by simp) (λrr=>Wq (Cx.reps_mono rr (.refl _) z) (U0 (Cx.rep_mono rr (.refl _) r_2))) s_2.toks
    exact p _ _ cm_2 nx iv rfl
set_option tactic.hygienic true in
theorem xZ {a:PE}(ha:SE c k n C a):SE c k n C (.pop0 a):=λf hcd x h=>by
 replace h:=Wx h
 obtain⟨y,m,ys0,ap,pos,rfl,hl,_,h0,h⟩:=h
 replace h:=Q3 h
 obtain⟨z0,rfl,h⟩:=h
 replace h:=Yk h
 obtain⟨c0,q1,q2,rfl,h⟩:=h;simp only[Bool.and_eq_true,beq_iff_eq] at h;obtain⟨⟨hc,rfl⟩,h1⟩:=h;cases c0<;>first | (exact nf hc) | skip
 cases eqD (show ((0:Int)==_)=true from hc);refine Qm rfl λA rm J s H cm i Q E p=>wpAny_Call_method1_late (Y7 h0) hl rfl ?_
 refine bindG (λQ=>(ha f hcd y h1).1 A rm J s H cm i Q E) p λv H_1 w s_1 cm_1 _ n_1 i_1 r_1 p1=>?_
 clear p;have p:=U5 p1;clear p1;obtain⟨j,rfl,q⟩:=p;obtain⟨pp,hp,rfl⟩:=r_1;obtain⟨l0,hk,p⟩:=GPost.opt q;clear q
 ·have hk:=Y5 hk
  cases l0 with
  | nil=>exact p.elim
  | cons u l =>
   have p:EPost c f J s_1 cm_1 (if l.length<=100000 then .ok u (H_1.set j (.lst l)) else .stuck) Q E:=p;obtain⟨hlen,p⟩:=GPost.ite p
   ·obtain⟨hp2,xs0,m0,e0,z0⟩:=Wy i_1 hp hk
    obtain⟨val,xs,rfl,rv,z⟩:=z0;have hxl:=QL z;refine⟨"list","list.pop",PySem.F.plainAttrs_list,PySem.F.slot_list_pop,PySem.F.type_list_pop,⟨_,e0,rfl⟩,λa q=>by cases q; exact⟨_,e0,rfl⟩,?_⟩;refine method1_meetsIn PySem.F.slot_list_pop PySem.F.entry_list_pop (wpAny_Constant_int ?_);refine⟨⟨_,e0,rfl⟩,PySem.F.args_list_pop_2 _ _,_,Meets.inModel (MeetsSeq.list_pop_at pp.1 (val::xs).toArray m0 0 s_1.toks 0 val (by decide) (by simp[seqIndex?]) (by simp) (by rw[List.size_toArray,sizeLine_eq]; simp; lia)) P0 c.w,e0,?_⟩;have q:=ZD (l:=u::l) (l':=l) (g:=λxs=>xs.eraseIdxIfInBounds 0) (xs:=val::xs) (xs':=xs) (m:=m0) i_1 hp hp2 e0 (by simp[Array.eraseIdxIfInBounds]) (λrr=>Cx.reps_mono rr (.refl _) z) (s_1.toks+1);exact p _ _ cm_1 q.2 q.1 (q.2.rep i_1.base rv)
set_option tactic.hygienic true in
theorem uc {a b:PE}(ha:SE c k n C a)(hb:SE c k n C b):SE c k n C (.dget a b):=λf hcd x h=>by
 replace h:=Wx h
 obtain⟨y,m,ys0,ap,pos,rfl,hl,_,h0,h⟩:=h
 replace h:=Q3 h
 obtain⟨z,rfl,h⟩:=h;simp only[Bool.and_eq_true,beq_iff_eq] at h;obtain⟨⟨⟨rfl,h1⟩,h2⟩,h3⟩:=h;refine Qm rfl λA rm J s H cm i Q E p=>wpAny_Call_method1_late (Y7 h0) hl (Gs h3) ?_
 refine bindG (λQ=>(ha f hcd y h1).1 A rm J s H cm i Q E) p λv H_1 w s_1 cm_1 _ n_1 i_1 r_1 p1=>?_
 clear p;have p:=wK p1;clear p1;obtain⟨⟨ks,vs⟩,rfl,p⟩:=p;obtain⟨a,o,kvs,rfl,e,lo,d,zr⟩:=Wt i_1 (v:=.dct ks vs) r_1 rfl;have hm0:s_1.heap.DictOf (strKind P0 c.w) a kvs:=Heap.dictOf_iff.mpr ⟨o,e,d⟩;refine⟨"dict","dict.get",PySem.F.plainAttrs_dict,PySem.F.slot_dict_get,PySem.F.type_dict_get,hm0.typeIs,hm0.mapOf.noDict,wpAny_dict_get1 (knd:=strKind P0 c.w) lo ?_⟩;refine bindG (λQ=>(hb f hcd z h2).1 A rm J s_1 H_1 cm_1 i_1 Q E) p λu H_2 t s_2 cm_2 _ n_2 i_2 r_2 p1=>?_
 clear p;have p:=U4 p1;clear p1;obtain⟨key,rfl,p⟩:=p;have p:EPost c f J s_2 cm_2 (.ok ((keyAt ks vs key).getD .none) H_2) Q E:=p;obtain⟨tk,rfl⟩:=r_2;have r1':=n_2.rep i_1.base r_1;obtain⟨a',o',kvs',ea,e',lo',d',zr'⟩:=Wt i_2 (v:=.dct ks vs) r1' rfl;cases ea;have hm:s_2.heap.DictOf (strKind P0 c.w) a kvs':=Heap.dictOf_iff.mpr ⟨o',e',d'⟩;refine⟨_,_,strKind_is P0 c.w _ tk,hm.mapOf,?_⟩;obtain⟨_,_,v1,v2⟩:=Zn key zr';cases hu:keyAt ks vs key with
 | none=>rw[v2 hu]; rw[hu] at p; exact EPost.end p i_2 (Grow.toks _ _) rfl
 | some u=>obtain⟨val,hv,rv⟩:=v1 u hu; rw[hv]; rw[hu] at p; exact EPost.end p i_2 (Grow.toks _ _) rv
theorem ud {a:PE}(ha:SE c k n C a):SE c k n C (.frz a):=λf hcd x h=>by
 rw[show chkE k (.frz a) f.sc f.σ x=(plainT x&&chkE k a f.sc f.σ x) from rfl,Bool.and_eq_true] at h;have hs:=ha f hcd x h.2;have ev:EvOk c n C (.frz a) f x:=λA rm J s H cm i Q E p=>by
  refine bindG (λQ=>hs.1 A rm J s H cm i Q E) p λv H_1 z s_1 cm_1 _ n_1 i_1 r_1 p=>?_
  unfold pFrz at p;cases hv:v.cell? with
  | none=>rw[hv] at p; exact EPost.here p i_1 r_1
  | some j =>
   rw[hv] at p;cases cell_eq hv;obtain⟨pp,hp,rfl⟩:=r_1;obtain⟨y,hk,p⟩:=GPost.opt p
   ·obtain⟨iv,nx⟩:=i_1.kill hp
    have hR:∀a o,a∈pp.2->s_1.heap.get? a=some o->stab o=true->Rr f.FX (cm_1.set j (pp.1,[])) s_1.heap a o:=λa o ha e st =>
     ⟨e,st,λq=>i_1.base.dj a q (Qz hp ha),wM i_1.base.nd hp ha⟩
    have cz:=i_1.base.cells j pp y hp hk;obtain⟨p1,p2⟩:=pp;cases y with
    | lst l =>
     obtain⟨hn,p⟩:=GPost.ite p
     ·obtain⟨rfl,xs,o,m,e,r1,r2,_,_,z⟩:=cz
      exact p _ s_1 _ nx iv ⟨p1,o,xs,m,rfl,hR _ _ (.head _) e (by simp[stab,r2]),r1,r2,Zh _ l xs hn (Cx.reps_mono (nx.rr i_1.base) nx.cms z)⟩
    | dct ks l =>
     obtain⟨hn,p⟩:=GPost.ite p
     ·obtain⟨rfl,o,kvs,e,r1,_,z⟩:=cz
      have hd:∃es ep,o.data=.dict es ep:=(by obtain⟨es,ep,_,hd,_⟩:=r1; exact⟨es,ep,hd⟩);obtain⟨es,ep,hd⟩:=hd;refine p _ s_1 _ nx iv ⟨p1,o,kvs,rfl,hR _ _ (.head _) e (by simp[stab,hd]),λq=>?_,r1,wJ _ ks l kvs hn (Cx.repk_mono (nx.rr i_1.base) nx.cms z)⟩;have:=(i_1.base.lo p1 (.inr (Qz hp (.head _)))).1;rw[q] at this;exact c.one this
    | obj D ks l =>
     obtain⟨hn,p⟩:=GPost.ite p
     ·obtain⟨d,rfl,hne,ds,m,e,e2,_,ac,z⟩:=cz
      exact p _ s_1 _ nx iv ⟨p1,d,ds,m,rfl,hR _ _ (.head _) e rfl,hR _ _ (.tail _ (.head _)) e2 rfl,ac,U3 _ ks l ds hn (Cx.repd_mono (nx.rr i_1.base) nx.cms z)⟩
    | dead=>exact p.elim
 exact Qm h.1 ev
theorem ue {a:PE}(ha:SE c k n C a):SE c k n C (.fmt a):=λf hcd x h=>by
 replace h:=kY h
 obtain⟨y,pos,rfl,h⟩:=h;refine Qm rfl λA rm J s H cm i Q E p=>wpAny_FormattedValue_plain ?_
 refine bindG (λQ=>(ha f hcd y h).1 A rm J s H cm i Q E) p λv H_1 z s_1 cm_1 _ n_1 i_1 r_1 p=>?_
 replace p:=Q0 p
 obtain⟨j,rfl,p⟩:=p;obtain⟨t,rfl⟩:=r_1;obtain⟨hl,p⟩:=GPost.ite p;exact wpAny_formatField_int (Gl hl) (EPost.end p i_1 (Grow.toks _ _) ⟨_,rfl⟩)
theorem uf:SE c k n C .bad:=λf hcd x h=>⟨λA rm J s H cm i Q E p=>False.elim p,λA rm J s H cm i Q E p=>False.elim p⟩
theorem ug (ok:CkOk c k){a:PE}{nm:String}{D:Nat}(ha:SE c k n C a):SE c k n C (.isinst a nm D):=λf hcd x h=>by
 replace h:=N5 h
 obtain⟨y,z,w0,q,pos,rfl,h⟩:=h
 replace h:=QR h
 obtain⟨u,up,rfl,h⟩:=h;simp only[Bool.and_eq_true] at h;obtain⟨⟨⟨⟨h0,h1⟩,h2⟩,h3⟩,h4⟩:=h;cases J1 h0;refine Qm rfl λA rm J s H cm i Q E p=>Zz i h0 (v9 _) xF (.inl ⟨_,rfl⟩) (by simp only[List.all_cons,h2]; rfl) (by decide) ?_
 refine wpAny_items_cons ?_ (Jg h2);refine bindG (λQ=>(ha f hcd z h1).1 A rm J s H cm i Q E) p λv H_1 y s_1 cm_1 e_1 n_1 i_1 r_1 p=>?_
 refine wpAny_items_cons ?_ (Jg rfl);cases J1 h3;obtain⟨_,val,e,gv⟩:=ok.g nm _ h4;cases gv;refine Y6 i_1 h3 e (wpAny_items_nil ?_);obtain⟨⟨D',ks,vs⟩,ho,p⟩:=GPost.opt p;obtain⟨hD,p'⟩:=GPost.ite p;clear p;have hD:D'=D:=hD;subst hD;obtain⟨a',d,ds,m,rfl,e1,e2,_,_⟩:=ZC i_1 r_1 ho;exact isi_call i_1.base.X (λM=>InstAt.type (od:=dictOf ds m) ⟨e1,rfl,rfl,e2⟩) (by simp[isIn]) (by nofun) (EPost.here p' i_1 rfl)
theorem uh (rm:Room f A n)(hcd:FrOk k f.env)(l:List PE)(hs:∀e∈l,SE c k n C e)(ys:List PX)(h:chkL k l f.sc f.σ ys=true)(acc:String)(ha:acc.length<=100000)(s:Shared)(H:AH)(cm:CM)(i:Inv c f s J H cm)
  (p:EPost c f J s cm (evJ C J l acc H) Q E):Joins (model P0 c.w) A E (evalEach ys f.env) (Str.ofString acc) (λout s_1=>out.length<=sizeLine/\Q (.str out s_1.toks) {s_1 with toks:=s_1.toks+1}) s:=by
 induction l generalizing ys acc s H cm with
 | nil =>
  cases JM h;exact⟨by simp only[Str.ofString_len,sizeLine_eq]; exact Nat.le_trans ha (by decide),EPost.end p i (Grow.toks _ _) ⟨_,rfl⟩⟩
 | cons a l ih =>
  obtain⟨y,r,rfl,_,h1,h2⟩:=Jf h;refine bindG (λQ=>(hs a (.head _) f hcd y h1).1 A rm J s H cm i Q E) p λv H_1 z s_1 cm_1 e_1 n_1 i_1 r_1 p=>?_
  replace p:=U4 p
  obtain⟨t,rfl,p⟩:=p;obtain⟨tk,rfl⟩:=r_1;obtain⟨hl,p⟩:=GPost.ite p;refine⟨_,tk,rfl,?_,?_⟩
  ·rw[<-Str.ofString_append,Str.ofString_len,sizeLine_eq]; exact Nat.le_trans hl (by decide)
  ·rw[<-Str.ofString_append]
   exact ih (λe he=>hs e (.tail _ he)) r h2 _ hl s_1 H_1 cm_1 i_1 p
theorem ul {l:List PE}(hl:∀e∈l,SE c k n C e):SE c k n C (.fstr l):=λf hcd x h=>by
 replace h:=kJ h
 obtain⟨ys,pos,rfl,h⟩:=h;simp only[Bool.and_eq_true,decide_eq_true_eq] at h;obtain⟨h0,h1⟩:=h
 match ys,h0,h1 with
 | y1::y2::r,_,h1 =>
  refine Qm rfl λA rm J s H cm i Q E p=>wpAny_JoinedStr ?_
  exact uh rm hcd l hl _ h1 "" (by decide) s H cm i p
section
section
variable {d:Addr}
theorem Q6:∀a,a∈f.FX->a∈(f.wide d).FX:=λa h=>Qt.mpr (.inr h)
theorem ExcF.sub {fl:Option Value}{e:Value}(hs:∀a,a∈FX->a∈FX')(x:ExcF c h0 FX' cm h fl e m):ExcF c h0 FX cm h fl e m:=by
 obtain⟨a,o,dd,vs,ds,n,h1,h2,h3,h4,h5,h6,h7,h8,h9,h10,h11⟩:=x;refine⟨a,o,dd,vs,ds,n,h1,h2,h3,h4,h5,h6,λq=>h7 (hs a q),h8,Rr.sub hs _ _ h9,Cx.repd_mono (Rr.sub hs) (.refl _) h10,?_⟩;cases fl with
 | none=>exact h11
 | some v=>obtain⟨T,oT,ts,q1,q2,q3,q0,q4,q5,q6,q7,q8⟩:=h11; exact⟨T,oT,ts,q1,q2,q3,q0,q4,q5,q6,λq=>q7 (hs T q),q8⟩
theorem ExcAt.sub {e:Value}(hs:∀a,a∈FX->a∈FX')(x:ExcAt c h0 FX' cm h e m):ExcAt c h0 FX cm h e m:=x.imp (·.sub hs) (·.sub hs)
theorem wideG {α_1 β_1 α' β':Type}{rp:CM->Heap->α_1->β_1->Prop}{rp':CM->Heap->α'->β'->Prop}{o:Out α_1}{k:α_1->AH->Out α'}{K:β_1->Shared->Prop}{Q:β'->Shared->Prop}(g:Nx f.FA f.FO s cm s' cm')
  (h:GPost c rp' f J s cm (o.bind k) Q E) (hk:∀v H_1 x s_1 cm_1,o=.ok v H_1->Nx f.FA f.FO s' cm' s_1 cm_1->Inv c (f.wide d) s_1 J H_1 cm_1->rp cm_1 s_1.heap v x->GPost c rp' f J s cm (k v H_1) Q E->K x s_1) :
  GPost c rp (f.wide d) J s' cm' o K E:=by
 cases o with
 | ok v H=>exact λx s_1 cm_1 n i r=>hk v H x s_1 cm_1 rfl n i r h
 | exc m H=>exact λe s_1 cm_1 n i r=>h e s_1 cm_1 (g.trans n) i.narrow ((r.sub Q6).older g.alive)
 | stuck=>exact h.elim
theorem Rr.zcell:∀a o,Rr (f.wide d).FX cm h a o->Rr f.FX (cm++[(d,[d])]) h a o:=λa o q70=>by obtain⟨e,st,n1,n2⟩:=q70; exact (
 ⟨e,st,λq=>n1 (Q6 a q),λq=>by
  rw[Jl] at q;rcases maD q with q | q
  ·exact n2 q
  ·exact n1 (Qt.mpr (.inl (msD q)))⟩)
theorem Inv.zcell {x:AC}(i:Inv c (f.wide d) s J H cm)(hd:d ∉ f.FX)(z:cellOk c f.FX (cm++[(d,[d])]) s.heap (d,[d]) x):Inv c f s J (H++[x]) (cm++[(d,[d])]):=by
 have hdw:d∈(f.wide d).FX:=Qt.mpr (.inl rfl);have b:=i.base;have hR:=Rr.zcell (f:=f) (d:=d) (cm:=cm) (h:=s.heap);refine⟨⟨by simp[b.len],λj p y e1 e2=>?_,λa h=>?_,λa h h'=>?_,?_,b.old,b.gens,b.os,b.tab.mono (λ_ e=>e) hR⟩,
  λa h=>⟨(i.dj a h).1,λq=>(i.dj a h).2 (.tail _ q)⟩,λa h q=>i.dj2 a h (.tail _ q),
  let ⟨m,n,z⟩:=i.ns; ⟨m,n,λx k e1 e2=>(z x k e1 e2).mono hR (.snoc _ _)⟩,
  λx k kd a e1 e2 e3 e4=>by obtain⟨o,ov,e,dd,z⟩:=i.cl x k kd a e1 e2 e3 e4; exact⟨o,ov,e,dd,z.mono hR (.snoc _ _)⟩,i.frs⟩
 ·by_cases hj:j<cm.length
  ·rw[List.getElem?_append_left hj] at e1
   rw[List.getElem?_append_left (by rw[<-b.len]; exact hj)] at e2;exact QM (λ_ _ _ e=>e) hR (.snoc _ _) (b.cells j p y e1 e2)
  ·have hj':j=cm.length:=by have:=(List.getElem?_eq_some_iff.mp e1).1; simp at this; lia
   subst hj'
   replace e1:=(List.getElem?_concat_length) ▸ e1
   rw[b.len,List.getElem?_concat_length] at e2;cases e1; cases e2;exact z
 ·rcases h with h | h
  ·exact b.lo a (.inl (Q6 a h))
  ·rw[Jl] at h
   rcases maD h with h | h
   ·exact b.lo a (.inr h)
   ·cases msD h; exact b.lo _ (.inl hdw)
 ·rw[Jl] at h'
  rcases maD h' with h' | h'
  ·exact b.dj a (Q6 a h) h'
  ·exact hd (msD h' ▸ h)
 ·rw[Jl]
  exact List.nodup_append.mpr ⟨b.nd,by simp,λx hx y hy q=>b.dj d hdw (by cases msD hy; exact q ▸ hx)⟩
theorem Nx.zcell (x:Nx FA FO s cm s_1 cm_1)(h0:s.heap.get? d=none):Nx FA FO s cm s_1 (cm_1++[(d,[d])]) where
 keep:=x.keep
 outer:=x.outer
 cms:=x.cms.trans (.snoc _ _)
 alive:=x.alive
 new a h:=by
  simp only[Jl] at h;rcases maD h with h | h
  ·exact x.new a h
  ·cases msD h; exact .inr (.inl h0)
theorem EPost.endZ {xc:AC}(h:EPost c f J s cm (.ok (.cell H.length) (H++[xc])) Q E)(x:Nx f.FA f.FO s cm s_1 cm_1)(i:Inv c (f.wide d) s_1 J H cm_1)(hd:d ∉ f.FX)(h0:s.heap.get? d=none)(z:cellOk c f.FX (cm_1++[(d,[d])]) s_1.heap (d,[d]) xc):Q (.ref d) s_1 :=
 h _ s_1 _ (x.zcell h0) (i.zcell hd z) ⟨(d,[d]),by simp only[<-i.base.len,List.getElem?_concat_length],rfl⟩
theorem EPost.endN {y:Value}(h:EPost c f J s cm (.ok v H) Q E)(x:Nx f.FA f.FO s cm s_1 cm_1)(i:Inv c (f.wide d) s_1 J H cm_1)(r:c.rep f.FX cm_1 s_1.heap v y):Q y s_1:=h _ s_1 _ x i.narrow r
theorem Inv.fresh (i:Inv c f s J H cm)(h0:s.heap.get? d=none):d ∉ f.FX:=λq=>(i.base.lo d (.inl q)).2 h0
end
theorem Room.wide {d:Addr}(r:Room f A n):Room (f.wide d) A n:=⟨r.hh,r.depth,r.units,r.frames⟩
theorem um {o:Obj}{kvs:List (Str × Value)}(h:o.IsDictOf (strKind P0 w) kvs):stab o=true:=by
 obtain⟨es,ep,_,hd,_⟩:=h;simp[stab,hd]
theorem uo {ks:List String}{l:List PE}{mu:Bool}(hl:∀e∈l,SE c k n C e):SE c k n C (.dct ks l mu):=λf hcd x h=>by
 obtain⟨zs,ys,pos,rfl,h⟩:=km h;obtain⟨h1,h5⟩:=anD h;clear h;refine Qm rfl λA rm J s H cm i Q E p=>?_
 have hd:s.heap.objs.size ∉ f.FX:=i.fresh (Qk _);have g0:Grow s {s with heap:=s.heap.push {cls:=.type "dict",data:=.dict #[]}}:=Grow.push s _ s.toks;have hn:({s with heap:=s.heap.push {cls:=.type "dict",data:=.dict #[]}}:Shared).heap.get? s.heap.objs.size=some {cls:=.type "dict",data:=.dict #[]}:=Heap.get?_push_size _ rfl;have i0:=i.wider (d:=s.heap.objs.size) g0 (Qk _) (by rw[hn]; nofun);have hwd:s.heap.objs.size∈(f.wide s.heap.objs.size).FX:=Qt.mpr (.inl rfl);cases vf h1 with
 | nil =>
  cases l with
  | cons=>exact nf h5
  | nil =>
   refine wpAny_Dict_empty ?_;obtain⟨o,ho,hz⟩:=Heap.dictOf_iff.mp (Heap.DictOf.new (knd:=strKind P0 c.w) s.heap);have p:EPost c f J s cm (.ok (.cell H.length) (H++[.dct [] []])) Q E:=by
    have p:EPost c f J s cm (if ([]:List String).length=([]:LA).length/\([]:List String).Nodup then .ok (.cell H.length) (H++[.dct [] []]) else .stuck) Q E:=p;rw[if_pos ⟨rfl,.nil⟩] at p;exact p
   exact EPost.endZ p g0.nx i0 hd (Qk _) ⟨rfl,o,[],ho,hz,by decide,rfl,rfl⟩
 | one key kk pp y =>
  obtain⟨e,rfl,hc⟩:∃e,l=[e]/\chkE k e f.sc f.σ y=true:=by
   cases l with
   | nil=>exact nf h5
   | cons e r =>
    cases r with
    | nil=>obtain⟨_,_,e1,_,hc,_⟩:=Jf h5; cases e1; exact⟨e,rfl,hc⟩
    | cons=>obtain⟨_,_,e1,_,_,h6⟩:=Jf h5; cases e1; exact nf h6
  ·skip
   refine wpAny_Dict_pairs (knd:=strKind P0 c.w) (pairs:=[(eval (.Constant (.str (Str.ofString key)) kk pp) f.env,do let x <-eval y f.env; standAt pos; pure x)]) rfl (by simp) (by simp) ?_
   refine evalPairs_cons (wpAny_Constant_str (wpAny_bind ?_));have p':EPost c f J s cm ((evE C J e H).bind λv H=>.ok (.dct [key] [v]) H) Q E:=by
    have p:EPost c f J s cm (((evE C J e H).bind λv H=>.ok [v] H).bind λvs H=>if [key].length=vs.length/\[key].Nodup then .ok (.dct [key] vs) H else .stuck) Q E:=p;cases h1:evE C J e H with
    | ok v H_1 =>
     rw[h1] at p;have p:EPost c f J s cm (if [key].length=[v].length/\[key].Nodup then .ok (.dct [key] [v]) H_1 else .stuck) Q E:=p;rw[if_pos ⟨rfl,by simp⟩] at p;exact p
    | exc m H_1=>rw[h1] at p; exact p
    | stuck=>replace p:=h1 ▸ p; exact p
   have g1:=g0.trans (Grow.toks _ (s.toks+1));refine (hl e (.head _) (f.wide _) hcd y hc).1 A rm.wide J _ H cm ((Grow.toks _ _).inv i0) _ E (wideG g1.nx p' λv H_1 x s_1 cm_1 e_1 n_1 i_1 r_1 p=>?_);refine wpAny_bind (wpAny_standAt (wpAny_pure (evalPairs_nil ?_)));refine⟨[(Str.ofString key,x)],⟨strKind_is P0 c.w _ _,rfl,trivial⟩,?_,λh' hm hs=>?_⟩
   ·have q:=i0.base
    refine Heap.dictOf_iff.mpr ?_;obtain⟨o,ho,hz⟩:=Heap.dictOf_iff.mp (Heap.DictOf.new (knd:=strKind P0 c.w) s.heap);refine⟨o,n_1.keep _ _ ho (λq=>?_) (λq=>(i0.dj _ q).2 (.head _)) (λq=>i0.dj2 _ q (.head _)) (i0.base.dj _ hwd),hz⟩;have:=(i0.base.lo _ (.inl hwd)).1;rw[q] at this;exact c.glow this
   ·obtain⟨o,ho,hz⟩:=Heap.dictOf_iff.mp hm
    have i2:=i_1.zmod (s':={s_1 with heap:=h',toks:=s_1.toks+1}) (λa o ha e=>(hs.2 a ha).trans e) (by show h'.get? _≠none; rw[ho]; nofun) rfl rfl;have n2:=(g1.nx (cm:=cm)).trans n_1;refine EPost.endN p (n2.mod (Qk _) λa o ha e=>(hs.2 a ha).trans e) i2 ?_;refine⟨_,o,[(Str.ofString key,x)],rfl,⟨ho,um hz,hd,i_1.base.dj _ hwd⟩,λq=>?_,hz,key,[],x,[],rfl,rfl,?_,rfl,rfl⟩
    ·have:=(i0.base.lo _ (.inl hwd)).1
     rw[q] at this;exact c.one this
    ·refine Cx.rep_mono (λa o q70=>by obtain⟨e,st,n1,n2⟩:=q70; exact⟨(hs.2 a (λq=>n1 (q ▸ hwd))).trans e,st,λq=>n1 (Q6 a q),n2⟩) (.refl _) r_1
end
structure Tn (c:Cx)(f:Fm)(cm:CM)(h0:Heap)(s s':Shared):Prop where
 keep:∀b o,(stab o=true\/b∈f.FX\/b∈adr cm\/h0.get? b≠none)->b ∉ f.FA->b ∉ f.FO->s.heap.get? b=some o->s'.heap.get? b=some o
 own:∀b o,(b∈f.FA\/b∈f.FO)->s.heap.get? b=some o->∃sl,s'.heap.get? b=some {o with slots:=sl}
 alive:∀b,s.heap.get? b≠none->s'.heap.get? b≠none
 gens:s'.gens=s.gens
 os:s'.os=s.os
theorem Tn.trans (x:Tn c f cm h0 s s_1)(y:Tn c f cm h0 s_1 s_2):Tn c f cm h0 s s_2 :=
 ⟨λb o h h1 h2 e=>y.keep b o h h1 h2 (x.keep b o h h1 h2 e),λb o h e=>let ⟨_,e1⟩:=x.own b o h e; let ⟨sl,e2⟩:=y.own b _ h e1; ⟨sl,e2⟩,λb h=>y.alive b (x.alive b h),y.gens.trans x.gens,y.os.trans x.os⟩
theorem Tn.refl (s:Shared):Tn c f cm h0 s s:=⟨λ_ _ _ _ _ e=>e,λ_ o _ e=>⟨o.slots,e⟩,λ_ h=>h,rfl,rfl⟩
theorem Grow.tn (g:Grow s s'):Tn c f cm h0 s s':=⟨λ_ _ _ _ _ e=>g.keep _ _ e,λ_ o _ e=>⟨o.slots,g.keep _ _ e⟩,λ_ h=>g.some h,g.gens,g.os⟩
theorem Tn.rr (x:Tn c f cm h0 s s'):∀a o,Rr f.FX cm s.heap a o->Rr f.FX cm s'.heap a o:=λa o q70=>by obtain⟨e,st,n1,n2⟩:=q70; exact (
 ⟨x.keep a o (.inl st) (λq=>n1 (Ql (.inl q))) (λq=>n1 (Ql (.inr q))) e,st,n1,n2⟩)
theorem Tn.base (x:Tn c f cm h0 s s')(hh:∀b,c.h_1.get? b≠none->h0.get? b≠none)(b:Base c f.FX s H cm):Base c f.FX s' H cm where
 len:=b.len
 cells j p y e1 e2:=QM (λa o ha e=>x.keep a o (.inr (.inr (.inl (Qz e1 ha)))) (λq=>b.dj a (Ql (.inl q)) (Qz e1 ha)) (λq=>b.dj a (Ql (.inr q)) (Qz e1 ha)) e) x.rr (.refl _) (b.cells j p y e1 e2)
 lo a h:=⟨(b.lo a h).1,x.alive a (b.lo a h).2⟩
 dj:=b.dj
 nd:=b.nd
 old a o n e:=by
  have hn:c.h_1.get? a≠none:=by rw[e]; nofun
  exact x.keep a o (.inr (.inr (.inr (hh a hn)))) (λq=>hn (b.lo a (.inl (Ql (.inl q)))).1) (λq=>hn (b.lo a (.inl (Ql (.inr q)))).1) (b.old a o n e)
 gens:=x.gens.trans b.gens
 os:=x.os.trans b.os
 tab:=by
  refine b.tab.mono (λ_ e=>?_) x.rr;exact x.keep _ _ (.inr (.inr (.inr (hh _ c.glow)))) (λq=>c.glow (b.lo _ (.inl (Ql (.inl q)))).1) (λq=>c.glow (b.lo _ (.inl (Ql (.inr q)))).1) e
theorem Tn.nx (x:Tn c f cm_1 s_0.heap s s')(n:Nx f.FA f.FO s_0 cm_0 s cm_1):Nx f.FA f.FO s_0 cm_0 s' cm_1 where
 keep a o e q0 q1 q2 q3:=x.keep a o (.inr (.inr (.inr (by rw[e]; nofun)))) q1 q2 (n.keep a o e q0 q1 q2 q3)
 outer a o e h:=let ⟨_,e1⟩:=n.outer a o e h; let ⟨sl,e2⟩:=x.own a _ (.inr h) e1; ⟨sl,e2⟩
 cms:=n.cms
 new:=n.new
 alive a h:=x.alive a (n.alive a h)
theorem Tn.inv (x:Tn c f cm h0 s s')(hh:∀b,c.h_1.get? b≠none->h0.get? b≠none)(i:Inv c f s J H cm):Inv c f s' J H cm:=by
 have b:=i.base;refine⟨x.base hh b,i.dj,i.dj2,?_,?_,?_⟩
 ·obtain⟨m,⟨o,es,ep,e,r⟩,z⟩:=i.ns
  obtain⟨sl,e'⟩:=x.own _ _ (.inl f.ok.loc) e;exact⟨m,⟨_,es,ep,e',r⟩,λy k e1 e2=>(z y k e1 e2).mono x.rr (.refl _)⟩
 ·intro y k kd a e1 e2 e3 e4
  obtain⟨a',h1,_,h2,_⟩:=f.ok.cell y k kd e1 e2 e3;obtain⟨o,ov,e,d,z⟩:=i.cl y k kd a e1 e2 e3 e4;obtain rfl:a'=a:=Option.some.inj (h1.symm.trans e4);obtain⟨sl,e'⟩:=x.own _ _ h2 e;exact⟨_,ov,e',d,z.mono x.rr (.refl _)⟩
 ·intro e he
  obtain⟨h1,L,o,h2,h3,h4,h5⟩:=i.frs e he;obtain⟨sl,e'⟩:=x.own _ _ h5 h3;exact⟨h1,L,_,h2,e',h4,h5⟩
theorem ExcF.free {fl:Option Value}(x:ExcF c h0 f.FX cm s.heap fl (.ref a) m):h0.get? a=none/\a ∉ f.FX/\a ∉ adr cm/\(∀o,s.heap.get? a=some o->stab o=false):=by
 obtain⟨a',o,d,vs,ds,n,e1,h2,h3,h4,h5,h6,h7,h8,_⟩:=x;cases e1;refine⟨h6,h7,h8,λo' e=>?_⟩
 replace e:=h2 ▸ e
 cases e;simp[stab,h5,h3]
theorem ZF {o:Obj}{g:Obj->Obj}(e:s.heap.get? a=some o)(hf:(g o).isFreed=false)(h1:h0.get? a=none)(h2:a ∉ f.FX)(h3:a ∉ adr cm)(h4:stab o=false):Tn c f cm h0 s {s with heap:=s.heap.update a g} where
 keep b o' h _ _ eb:=by
  have hb:b≠a:=λq=>by
   subst q;rcases h with h | h | h | h
   ·replace eb:=e ▸ eb; cases eb; replace h:=h4 ▸ h; cases h
   ·exact h2 h
   ·exact h3 h
   ·exact h h1
  exact (Heap.get?_update_ne _ _ _ _ hb).trans eb
 own b o' h eb:=by
  have hb:b≠a:=λq=>h2 (q ▸ Ql h)
  exact⟨o'.slots,(Heap.get?_update_ne _ _ _ _ hb).trans eb⟩
 alive b h:=by
  by_cases hb:b=a
  ·subst hb
   show (s.heap.update b g).get? b≠none;rw[Heap.get?_update_self g e hf]; nofun
  ·show (s.heap.update a g).get? b≠none
   rw[Heap.get?_update_ne _ _ _ _ hb]; exact h
 gens:=rfl
 os:=rfl
theorem uq {l:List Addr}{h':Heap}(hl:∀a,a∈l->a∈f.FA\/a∈f.FO)(x:Heap.SlotsOnly l s.heap h'):Tn c f cm h0 s {s with heap:=h'} where
 keep b o _ q1 q2 e:=(x.2.1 b λq=>(hl b q).elim q1 q2).trans e
 own b o _ e:=x.2.2 b o e
 alive b h:=by
  cases e:s.heap.get? b with
  | none=>exact absurd e h
  | some o=>obtain⟨sl,e'⟩:=x.2.2 b o e; refine e' ▸ ?_; nofun
 gens:=rfl
 os:=rfl
theorem Inv.funFrames (i:Inv c f s J H cm):s.heap.FunFrames (hideAll s.heap (f.FA++f.FO)) f.fs:=by
 have:∀l:List Env,(∀e∈l,FrsP s.heap e f.FA f.FO)->s.heap.FunFrames (hideAll s.heap (f.FA++f.FO)) l:=by
  intro l
  induction l with
  | nil=>intro _; trivial
  | cons e r ih =>
   intro h;obtain⟨h1,L,o,h2,h3,h4,h5⟩:=h e (.head _);exact⟨h1,⟨L,o,h2,hideAll_none _ (List.mem_append.mpr h5),h3,h4⟩,ih λe he=>h e (.tail _ he)⟩
 exact this _ i.frs
theorem Inv.frames_mem (i:Inv c f s J H cm):∀a,a∈f.fs.filterMap (·.frame)->a∈f.FA\/a∈f.FO:=λa h=>by
 obtain⟨e,he,hf⟩:=List.mem_filterMap.mp h;obtain⟨_,L,-,h2,_,_,h5⟩:=i.frs e he
 replace h2:=hf ▸ h2; cases h2; exact h5
theorem Tn.exc {fl:Option Value}{e:Value}{a:Addr}{o:Obj}{vs:Array Value}{d:Addr}{ds:List DictEntry}(x:Tn c f cm h0 s s')(r:Rr f.FX cm s.heap d (dictOf ds n))(z:c.repd f.FX cm s.heap ["message"] [m] ds) :
  Rr f.FX cm s'.heap d (dictOf ds n)/\c.repd f.FX cm s'.heap ["message"] [m] ds:=⟨x.rr _ _ r,Cx.repd_mono x.rr (.refl _) z⟩
section
theorem ur (o:Obj)(g):(o.mapFields g).dict=o.dict:=by obtain⟨c,d,dt,sl⟩:=o; cases dt<;>rfl
section
variable {e:Value}
theorem newEntryF {a d n:Nat}{o:Obj}{vs:Array Value}{ds:List DictEntry}{head:Value}{hadNext:Bool}{Q:Unit->Shared->Prop}(hfr:A.frames=some (env::outer))(hfs:f.fs=env::outer)(hf:env.frame=some L)(i:Inv c f s J H cm)
  (hn:h0.get? s.heap.objs.size=none)
  (he:s.heap.get? a=some o) (h1:o.cls=.ref 51) (h2:o.dict=some d) (h3:o.data=.fields vs) (h3s:1<vs.size) (h4:h0.get? a=none) (h5:a ∉ f.FX) (h6:a ∉ adr cm) (h7:Rr f.FX cm s.heap d (dictOf ds n)) (h8:c.repd f.FX cm s.heap ["message"] [m] ds)
  (h:∀s',Tn c f cm h0 s s'->ExcF c h0 f.FX cm s'.heap (some (rawInt L)) (.ref a) m->Q () s') :
  wpAny M A (do let fr <-frameOf env; let pl <-entryPlaceOf L hadNext; let b <-EntryCells.newEntry head fr .none (rawInt L) .none pl; setField (.ref a) 1 b) Q E s:=by
 have hst:stab o=false:=by simp[stab,h3,h1]
 have hsize:s.heap.objs.size ∉ f.FX/\s.heap.objs.size ∉ adr cm:=⟨λq=>(i.base.lo _ (.inl q)).2 (Qk _),λq=>(i.base.lo _ (.inr q)).2 (Qk _)⟩;have hl:=hfs ▸ i.funFrames;have hm:=hfs ▸ i.frames_mem;refine wpAny_bind (wpAny_frameOf_fun hfr hl hf λhp hs_1=>?_);have t1:Tn c f cm h0 s {s with heap:=hp}:=uq hm hs_1;refine wpAny_bind (wpAny_entryPlaceOf λpl hpl=>?_);refine wpAny_bind (wpAny_newObj_type ?_ (hpl.sizeOk5 _ _ _ _ _));have hT0:=Heap.get?_push_size hp (o:={cls:=.type "traceback",dict:=none,data:=.fields ([head,.ref L,.none,rawInt L,.none]++(if pl.isEmpty then List.replicate 6 Value.none else pl)).toArray}) rfl;have he_1:hp.get? a=some o:=(hs_1.2.1 a λq=>h5 (Ql (hm a q))).trans he;have he_2:=Heap.get?_push_of_some (h:=hp) {cls:=.type "traceback",dict:=none,data:=.fields ([head,.ref L,.none,rawInt L,.none]++(if pl.isEmpty then List.replicate 6 Value.none else pl)).toArray} he_1
 have t2:Tn c f cm h0 {s with heap:=hp} _:=(Grow.push {s with heap:=hp} {cls:=.type "traceback",dict:=none,data:=.fields ([head,.ref L,.none,rawInt L,.none]++(if pl.isEmpty then List.replicate 6 Value.none else pl)).toArray} s.toks).tn;refine wpAny_setField he_2 h3 h3s ?_;have hTa:hp.objs.size≠a:=Nat.ne_of_gt (Heap.lt_size he_1);have hd_3:=Obj.data_mapFields h3 (·.setIfInBounds 1 (Value.ref hp.objs.size));have hfr3:=Obj.isFreed_of_fields hd_3;have t3:Tn c f cm h0 _ _:=ZF (c:=c) (f:=f) (cm:=cm) (h0:=h0) (s:={s with heap:=hp.push {cls:=.type "traceback",dict:=none,data:=.fields ([head,.ref L,.none,rawInt L,.none]++(if pl.isEmpty then List.replicate 6 Value.none else pl)).toArray}}) he_2 hfr3 h4 h5 h6 hst;have tt:=(t1.trans t2).trans t3;refine h _ tt ?_;have he_3:=Heap.get?_update_self (Obj.mapFields (·.setIfInBounds 1 (Value.ref hp.objs.size))) he_2 hfr3
 have hT_3:=(Heap.get?_update_other (hp.push {cls:=.type "traceback",dict:=none,data:=.fields ([head,.ref L,.none,rawInt L,.none]++(if pl.isEmpty then List.replicate 6 Value.none else pl)).toArray})
  (Obj.mapFields (·.setIfInBounds 1 (Value.ref hp.objs.size))) (Ne.symm hTa)).trans hT0
 have hsz:hp.objs.size=s.heap.objs.size:=hs_1.1;refine⟨a,_,d,_,ds,n,rfl,he_3,(Obj.cls_mapFields _ _).trans h1,(ur _ _).trans h2,hd_3,h4,h5,h6,tt.rr _ _ h7,Cx.repd_mono tt.rr (.refl _) h8,?_⟩;refine⟨hp.objs.size,_,_,by simp[h3s],hTa,hT_3,rfl,rfl,rfl,by rw[hsz]; exact hn,by rw[hsz]; exact hsize.1,by simp only[hsz]; exact hsize.2⟩
theorem Gu (hh:∀b,h0.get? b≠none->s.heap.get? b≠none):h0.get? s.heap.objs.size=none:=Decidable.byContradiction λq=>hh _ q (Qk _)
theorem noteF {Q:Unit->Shared->Prop}(hfr:A.frames=some (env::outer))(hfs:f.fs=env::outer)(hf:env.frame=some L)(i:Inv c f s J H cm)(hh:∀b,c.h_1.get? b≠none->h0.get? b≠none)(hn:∀b,h0.get? b≠none->s.heap.get? b≠none)(x:ExcAt c h0 f.FX cm s.heap e m)
  (h:∀s',Tn c f cm h0 s s'->ExcF c h0 f.FX cm s'.heap (some (rawInt L)) e m->Q () s'):wpAny M A (noteFrame e env) Q E s:=by
 rcases x with x | x
 ·obtain⟨a,o,d,vs,ds,n,rfl,h2,h3,h4,h5,h6,h7,h8,h9,h10,h11⟩:=x
  have hs:1<vs.size:=(Array.getElem?_eq_some_iff.mp h11).1;unfold noteFrame;refine hf ▸ ?_;refine wpAny_bind (wpAny_field h2 h5 h11 ?_);exact newEntryF hfr hfs hf i (Gu hn) h2 h3 h4 h5 hs h6 h7 h8 h9 h10 h
 ·obtain⟨a,o,d,vs,ds,n,rfl,h2,h3,h4,h5,h6,h7,h8,h9,h10,T,oT,ts,q1,q2,q3,q0,q4,q5,q6,q7,q8⟩:=x
  have hts:3<ts.size:=(Array.getElem?_eq_some_iff.mp q5).1;have hs:1<vs.size:=(Array.getElem?_eq_some_iff.mp q1).1;unfold noteFrame;refine hf ▸ ?_;refine wpAny_bind (wpAny_field h2 h5 q1 ?_);refine wpAny_bind (wpAny_field q3 q4 q5 ?_);have hd_3:=Obj.data_mapFields q4 (·.setIfInBounds 3 Value.none);refine wpAny_bind (wpAny_setField q3 q4 hts ?_);have hstT:stab oT=false:=by simp[stab,q4,q0]
  have t1:Tn c f cm h0 s _:=ZF (g:=Obj.mapFields (·.setIfInBounds 3 Value.none)) q3 (Obj.isFreed_of_fields hd_3) q6 q7 q8 hstT;have he':(s.heap.update T (Obj.mapFields (·.setIfInBounds 3 Value.none))).get? a=some o:=(Heap.get?_update_other _ _ q2).trans h2;refine newEntryF (s:={s with heap:=s.heap.update T (Obj.mapFields (·.setIfInBounds 3 Value.none))}) hfr hfs hf (t1.inv hh i) (Gu λb q=>t1.alive b (hn b q)) he' h3 h4 h5 hs h6 h7 h8 (t1.rr _ _ h9) (Cx.repd_mono t1.rr (.refl _) h10) λs' t x=>h s' (t1.trans t) x
theorem flightF {v:Value}{Q:Unit->Shared->Prop}(hh:∀b,c.h_1.get? b≠none->h0.get? b≠none)(x:ExcF c h0 f.FX cm s.heap (some v) e m)(fl:Option Addr)
  (h:∀s',Tn c f cm h0 s s'->ExcF c h0 f.FX cm s'.heap (some (fl.elim .none λf=>rawInt f)) e m->Q () s'):wpAny M A (setFlight e fl) Q E s:=by
 obtain⟨a,o,d,vs,ds,n,rfl,h2,h3,h4,h5,h6,h7,h8,h9,h10,T,oT,ts,q1,q2,q3,q0,q4,q5,q6,q7,q8⟩:=x;have hts:3<ts.size:=(Array.getElem?_eq_some_iff.mp q5).1;refine wpAny_bind (wpAny_field h2 h5 q1 ?_);refine (if_pos (show (Value.ref T != Value.none)=true from rfl)) ▸ ?_;refine wpAny_setField q3 q4 hts ?_;have hd_3:=Obj.data_mapFields q4 (·.setIfInBounds 3 (fl.elim Value.none λf=>rawInt f));have hstT:stab oT=false:=by simp[stab,q4,q0]
 have t1:Tn c f cm h0 s _:=ZF (g:=Obj.mapFields (·.setIfInBounds 3 (fl.elim Value.none λf=>rawInt f))) q3 (Obj.isFreed_of_fields hd_3) q6 q7 q8 hstT;refine h _ t1 ⟨a,o,d,vs,ds,n,rfl,(Heap.get?_update_other _ _ q2).trans h2,h3,h4,h5,h6,h7,h8,t1.rr _ _ h9,Cx.repd_mono t1.rr (.refl _) h10,T,_,_,q1,q2,Heap.get?_update_self _ q3 (Obj.isFreed_of_fields hd_3),(Obj.cls_mapFields _ _).trans q0,hd_3,by simp[hts],q6,q7,q8⟩
theorem leaveF {Q:Unit->Shared->Prop}(hfr:A.frames=some (env::outer))(hfs:f.fs=env::outer)(hf:env.frame=some L)(i:Inv c f s J H cm)(hh:∀b,c.h_1.get? b≠none->h0.get? b≠none)(hn:∀b,h0.get? b≠none->s.heap.get? b≠none)(x:ExcAt c h0 f.FX cm s.heap e m)
  (h:∀s',Tn c f cm h0 s s'->ExcAt c h0 f.FX cm s'.heap e m->Q () s'):wpAny M A (leaving env e) Q E s:=by
 exact wpAny_bind (noteF hfr hfs hf i hh hn x λs_1 t_1 x_1=>flightF hh x_1 none λs_2 t_2 x_2=>h s_2 (t_1.trans t_2) (.inr x_2))
end
end
noncomputable def plainP (p:Arguments):Bool:=p.posonlyargs.isEmpty&&p.vararg.isNone&&p.kwonlyargs.isEmpty&&p.kwarg.isNone
theorem ZG {xs:List Str}{vs:List β}{x:Str}(nd:xs.Nodup)(h:xs[i]?=some x):(xs.zip vs).lookup x=vs[i]?:=by
 induction xs generalizing vs i with
 | nil=>exact no h
 | cons y xs ih =>
  cases vs with
  | nil=>rfl
  | cons v vs =>
   have nd:=List.nodup_cons.mp nd;simp only[List.zip_cons_cons,List.lookup_cons];cases i with
   | zero=>cases h; rw[beq_self_eq_true]; rfl
   | succ i =>
    rw[bN λq:x=y=>nd.1 (q ▸ List.mem_of_getElem? h)];exact ih nd.2 h
theorem ut (g:Str->Option β)(xs:List Str)(vs:List β)(h:xs.length=vs.length)(hg:∀(i:Nat) x,xs[i]?=some x->g x=vs[i]?):xs.filterMap (λn=>(g n).map (n,·))=xs.zip vs:=by
 induction xs generalizing vs with
 | nil=>rfl
 | cons x xs ih =>
  cases vs with
  | nil=>cases h
  | cons v vs =>
   simp only[List.filterMap_cons,show g x=some v from hg 0 x rfl,List.zip_cons_cons,<-ih vs (Nat.succ.inj h) λi=>hg (i+1)];rfl
theorem ZJ (x:Str)(l r:List (Str × β)):(l++r).lookup x=(l.lookup x).or (r.lookup x):=by
 induction l with
 | nil=>rfl
 | cons y l ih =>
  rw[List.cons_append,List.lookup_cons,List.lookup_cons,ih];cases x==y.1<;>rfl
theorem uv {p:Str × β->Bool}{x:Str}(hp:∀v,p (x,v)=true)(l:List (Str × β)):(l.filter p).lookup x=l.lookup x:=by
 induction l with
 | nil=>rfl
 | cons y l ih =>
  rw[List.filter_cons,List.lookup_cons];cases h:x==y.1 with
  | true =>
   cases (eqD h:x=y.1);rw[if_pos (hp y.2),List.lookup_cons,h]
  | false =>
   by_cases q:p y=true
   ·rw[if_pos q,List.lookup_cons,h]; exact ih
   ·rw[if_neg q]; exact ih
theorem uw (f:Str × Value->List (Str × Value)->Sem (ForInStep (List (Str × Value))))(hf:∀p s,f p s=if (s.lookup p.1).isNone=true then pure (.yield (s++[(p.1,p.2)])) else pure (.yield s))
  (ps sl:List (Str × Value)) (nd:(ps.map (·.1)).Nodup):forIn ps sl f=pure (sl++ps.filter λp=>(sl.lookup p.1).isNone):=by
 induction ps generalizing sl with
 | nil=>exact congrArg Sem.pure (List.append_nil sl).symm
 | cons p ps ih =>
  have nd:=List.nodup_cons.mp nd;simp only[List.forIn_cons,hf,List.filter_cons];by_cases h:(sl.lookup p.1).isNone=true
  ·rw[if_pos h,if_pos h]
   refine (ih _ nd.2).trans (congrArg Sem.pure ?_);simp only[List.append_assoc,List.singleton_append];refine congrArg (sl++p::·) (List.filter_congr λq hq=>?_);have hne:q.1≠p.1:=λe=>nd.1 (List.mem_map.mpr ⟨q,hq,e⟩)
   simp only[ZJ,List.lookup_cons,bN hne];show (Option.or _ none).isNone=_;rw[Option.or_none]
  ·rw[if_neg h,if_neg h]
   exact ih _ nd.2
theorem ux {m:Sem α}{a:α}{f:α->Sem β}{r:Sem β}(h:m=pure a)(g:f a=r):m >>= f=r:=by subst h; exact g
theorem Jh {p:Bool}{x y r:α}(h:p=false)(g:y=r):(if p=true then x else y)=r:=by subst h; exact g
theorem ar0 {x v d:Nat}(h:v<=x)(h2:x<=v+d):x=v+(d-(v+d-x)):=by
 simp only[Nat.add_comm v d,<-Nat.sub_sub_right d h,Nat.sub_sub_self (Nat.sub_le_of_le_add (Nat.add_comm v d ▸ h2)),Nat.add_sub_of_le h]
theorem ar1 {i x v d:Nat}(h:v<=i)(h1:d<=x)(h2:x<=v+d):i-(x-d)=v+d-x+(i-v):=by
 simp only[<-Nat.sub_sub_right v h1,Nat.add_comm,Nat.sub_add_sub_cancel h (Nat.sub_le_of_le_add h2)]
inductive BindF (xs:List Str)(vals ds D:List Value):Prop where
 | mk (S:List (Str × Value))(a:(!((xs.take (xs.length-D.length)).filter λn=>((xs.zip vals).lookup n).isNone).isEmpty)=false)
  (b:forIn ((xs.drop (xs.length-D.length)).zip D) (xs.zip vals) (λ(p:Str × Value) (s:List (Str × Value))=>if (s.lookup p.1).isNone=true then (pure (.yield (s++[(p.1,p.2)])):Sem (ForInStep (List (Str × Value)))) else pure (.yield s))=pure S)
  (c:(xs++[]).filterMap (λn=>(S.lookup n).map (n,·))=xs.zip (vals++ds.drop (vals.length+ds.length-xs.length)))
theorem uy {xs:List Str}{vals ds D:List Value}(hD:D=ds)(nd:xs.Nodup)(hl:vals.length<=xs.length)(q1:ds.length<=xs.length)(q2:xs.length<=vals.length+ds.length):BindF xs vals ds D:=by
 subst hD;have e0:∀(i:Nat) x,xs[i]?=some x->(xs.zip vals).lookup x=vals[i]?:=λi x e=>ZG nd e
 have hm:((xs.take (xs.length-D.length)).filter λn=>((xs.zip vals).lookup n).isNone)=[]:=by
  rw[List.filter_eq_nil_iff];intro x hx;obtain⟨i,hi⟩:=List.mem_iff_getElem?.mp hx;rw[List.getElem?_take] at hi;split at hi
  ·rename_i h1
   rw[e0 i x hi,List.getElem?_eq_getElem (Nat.lt_of_lt_of_le h1 (Nat.sub_le_of_le_add q2))]
   nofun
  ·exact no hi
 have hl2:(xs.drop (xs.length-D.length)).length<=D.length:=by rw[List.length_drop]; exact Nat.sub_le_of_le_add (Nat.le_of_eq (Nat.add_sub_of_le q1).symm)
 have hnd2:(((xs.drop (xs.length-D.length)).zip D).map (·.1)).Nodup:=by
  rw[List.map_fst_zip hl2];exact nd.sublist (List.drop_sublist _ _)
 refine⟨_,by rw[hm]; rfl,uw _ (λ_ _=>rfl) _ _ hnd2,?_⟩;rw[List.append_nil];have hl3:xs.length=(vals++D.drop (vals.length+D.length-xs.length)).length:=by simp only[List.length_append,List.length_drop]; exact ar0 hl q2
 refine ut _ xs _ hl3 λi x e=>?_
 rw[ZJ,e0 i x e];by_cases hv:i<vals.length
 ·rw[List.getElem?_append_left hv,List.getElem?_eq_getElem hv]; rfl
 ·have hn:vals[i]?=none:=List.getElem?_eq_none (Nat.le_of_not_lt hv)
  rw[hn,Option.none_or,uv (λv=>by rw[e0 i x e,hn]; rfl)];have hk:(xs.drop (xs.length-D.length))[i-(xs.length-D.length)]?=some x:=by
   simp only[List.getElem?_drop,Nat.add_sub_of_le (Nat.le_trans (Nat.sub_le_of_le_add q2) (Nat.le_of_not_lt hv))]; exact e
  rw[ZG (nd.sublist (List.drop_sublist _ _)) hk,List.getElem?_append_right (Nat.le_of_not_lt hv),List.getElem?_drop];exact congrArg (D[·]?) (ar1 (Nat.le_of_not_lt hv) q1 q2)
inductive BindOk (b:Sem (List (Str × Value)))(dv:Value)(xs:List Str)(vals:List Value):Prop where
 | mk (k:Option (Array Value)->Sem (List (Str × Value)))(e:b=seqItems? dv >>= k)
  (h:∀d:Option (Array Value),(d.getD #[]).toList.length<=xs.length->xs.length<=vals.length+(d.getD #[]).toList.length->k d=pure (xs.zip (vals++(d.getD #[]).toList.drop (vals.length+(d.getD #[]).toList.length-xs.length))))
theorem uA {p:Arguments}(hp:plainP p=true):p=⟨[],p.args,none,[],p.kw_defaults,none,p.defaults⟩:=by
 obtain⟨po,_,va,ko,_,kw,_⟩:=p;simp only[plainP,Bool.and_eq_true,List.isEmpty_iff,Option.isNone_iff_eq_none] at hp;rw[hp.1.1.1,hp.1.1.2,hp.1.2,hp.2]
theorem uB {fd:FuncData}{vals:List Value}(hp:plainP fd.params=true)(nd:(fd.params.args.map (·.arg)).Nodup)(hl:vals.length<=(fd.params.args.map (·.arg)).length):BindOk (bindArgs fd ⟨vals,[]⟩) fd.defaults (fd.params.args.map (·.arg)) vals:=by
 obtain⟨_,_,p,_,_,_,_,_,_,_,_,_,_,_,_⟩:=fd;have e:p=_:=uA hp;clear hp;generalize p.args=ar at e nd hl
 generalize p.kw_defaults=x1 at e
 generalize p.defaults=x2 at e
 subst e;exact⟨_,rfl,λd q1 q2=>let ⟨S,a,b,c⟩:=uy (D:=(d.getD #[]).toList.drop ((d.getD #[]).toList.length-(ar.map (·.arg)).length)) (by rw[Nat.sub_eq_zero_of_le q1]; rfl) nd hl q1 q2
  Jh (p:=decide (vals.length>(ar.map (·.arg)).length)&&(none:Option Arg).isNone) (by simp only[decide_eq_false (Nat.not_lt.mpr hl)]; rfl) (Jh a (ux b (congrArg Sem.pure c)))⟩
noncomputable def flOk (c:Cx)(FX:List Addr)(cm:CM)(h:Heap):Fl->Flow->Prop
 | .next,x=>x=.next
 | .cont,x=>x=.cont
 | .ret v,x=>∃y,x=.ret y/\c.rep FX cm h v y
noncomputable def SPost (c:Cx)(f:Fm)(s:Shared)(cm:CM)(o:OS)(Q:Flow->Shared->Prop)(E:VS):Prop:=match o with
 | .ok fl J H=>∀x s' cm',Nx f.FA f.FO s cm s' cm'->Inv c f s' J H cm'->flOk c f.FX cm' s'.heap fl x->Q x s'
 | .exc m J H=>∀e s' cm',Nx f.FA f.FO s cm s' cm'->Inv c f s' J H cm'->ExcAt c s.heap f.FX cm' s'.heap e m->E e s'
 | .stuck=>False
theorem SPost.opt {o:Option α}{k:α->OS}{Q:Flow->Shared->Prop}(p:SPost c f s cm (obT o k) Q E):OptR o λa=>SPost c f s cm (k a) Q E:=by
 cases o with
 | none=>exact p.elim
 | some a=>exact⟨a,rfl,p⟩
theorem ZK {Q:Flow->Shared->Prop}{p:Prop}{_:Decidable p}{o:OS}(h:SPost c f s cm (if p then o else .stuck) Q E):p/\SPost c f s cm o Q E:=by
 by_cases q:p
 ·rw[if_pos q] at h; exact⟨q,h⟩
 ·rw[if_neg q] at h; exact h.elim
theorem Base.alive (b:Base c FX s H cm):∀a,c.h_1.get? a≠none->s.heap.get? a≠none:=λa h=>by
 by_cases hg:a=Internal.gh
 ·obtain⟨ps,e,_⟩:=b.tab; rw[hg,e]; nofun
 ·cases e:c.h_1.get? a with
  | none=>exact absurd e h
  | some o=>refine (b.old a o hg e) ▸ ?_; nofun
theorem Base.sub (hs:∀a,a∈FX->a∈FX')(b:Base c FX' s H cm):Base c FX s H cm :=
 ⟨b.len,λj p x e1 e2=>QM (λ_ _ _ e=>e) (Rr.sub hs) (.refl _) (b.cells j p x e1 e2),λa h=>b.lo a (h.imp (hs a) id),λa h=>b.dj a (hs a h),b.nd,b.old,b.gens,b.os,b.tab.mono (λ_ e=>e) (Rr.sub hs)⟩
structure Callee (f g:Fm)(s s_1:Shared)(Z:List Addr):Prop where
 grow:Grow s s_1
 fresh:∀a,a∈g.FA->s.heap.get? a=none/\s_1.heap.get? a≠none
 FO:g.FO=f.FO++f.FA
 FZ:g.FZ=f.FZ++Z
theorem Callee.mem (x:Callee f g s s_1 Z):a∈g.FX↔a∈g.FA\/a∈f.FX\/a∈Z:=by
 simp only[Fm.FX,x.FO,x.FZ,List.mem_append];constructor
 ·rintro (h | (h | h) | h | h)
  ·exact .inl h
  ·exact .inr (.inl (.inr (.inl h)))
  ·exact .inr (.inl (.inl h))
  ·exact .inr (.inl (.inr (.inr h)))
  ·exact .inr (.inr h)
 ·rintro (h | (h | h | h) | h)
  ·exact .inl h
  ·exact .inr (.inl (.inr h))
  ·exact .inr (.inl (.inl h))
  ·exact .inr (.inr (.inl h))
  ·exact .inr (.inr (.inr h))
theorem Callee.rr (x:Callee f g s s_1 []):∀a o,Rr f.FX cm s.heap a o->Rr g.FX cm s_1.heap a o:=λa o q70=>by obtain⟨e,st,n1,n2⟩:=q70; exact (
 ⟨x.grow.keep a o e,st,(λq=>by
  rcases x.mem.mp q with q | q | q
  ·rw[(x.fresh a q).1] at e; exact no e
  ·exact n1 q
  ·cases q),n2⟩)
theorem Callee.rrP (x:Callee f g s s_1 (adr cm)):∀a o,Rr f.FX cm s.heap a o->Rr g.FX [] s_1.heap a o:=λa o ⟨e,st,n1,n2⟩ =>
 ⟨x.grow.keep a o e,st,(λq=>by
  rcases x.mem.mp q with q | q | q
  ·rw[(x.fresh a q).1] at e; exact no e
  ·exact n1 q
  ·exact n2 q),nofun⟩
theorem Base.h1_none (b:Base c FX s H cm)(h:s.heap.get? a=none):c.h_1.get? a=none:=Decidable.byContradiction λq=>b.alive a q h
theorem Base.callee (x:Callee f g s s_1 [])(b:Base c f.FX s H cm):Base c g.FX s_1 H cm where
 len:=b.len
 cells j p y e1 e2:=QM (λa o _ e=>x.grow.keep a o e) x.rr (.refl _) (b.cells j p y e1 e2)
 lo a h:=by
  rcases h with h | h
  ·rcases x.mem.mp h with h | h | h
   ·exact⟨b.h1_none (x.fresh a h).1,(x.fresh a h).2⟩
   ·exact⟨(b.lo a (.inl h)).1,x.grow.some (b.lo a (.inl h)).2⟩
   ·cases h
  ·exact⟨(b.lo a (.inr h)).1,x.grow.some (b.lo a (.inr h)).2⟩
 dj a h q:=by
  rcases x.mem.mp h with h | h | h
  ·exact (b.lo a (.inr q)).2 (x.fresh a h).1
  ·exact b.dj a h q
  ·cases h
 nd:=b.nd
 old a o n e:=x.grow.keep _ _ (b.old a o n e)
 gens:=x.grow.gens.trans b.gens
 os:=x.grow.os.trans b.os
 tab:=b.tab.mono (λ_ e=>x.grow.keep _ _ e) x.rr
theorem Base.calleeP (x:Callee f g s s_1 (adr cm))(b:Base c f.FX s H cm):Base c g.FX s_1 [] [] where
 len:=rfl
 cells j p y e1 e2:=by simp at e1
 lo a h:=by
  rcases h with h | h
  ·rcases x.mem.mp h with h | h | h
   ·exact⟨b.h1_none (x.fresh a h).1,(x.fresh a h).2⟩
   ·exact⟨(b.lo a (.inl h)).1,x.grow.some (b.lo a (.inl h)).2⟩
   ·exact⟨(b.lo a (.inr h)).1,x.grow.some (b.lo a (.inr h)).2⟩
  ·cases h
 dj a h q:=by cases q
 nd:=.nil
 old a o n e:=x.grow.keep _ _ (b.old a o n e)
 gens:=x.grow.gens.trans b.gens
 os:=x.grow.os.trans b.os
 tab:=b.tab.mono (λ_ e=>x.grow.keep _ _ e) x.rrP
theorem Callee.dj {Z:List Addr}(x:Callee f g s s_1 Z)(i:Inv c f s J H cm)(hZ:∀a,a∈Z->a∈adr cm):(∀a,a∈g.FA->a ∉ g.FO/\a ∉ g.FZ)/\(∀a,a∈g.FO->a ∉ g.FZ):=by
 have b:=i.base;constructor
 ·intro a h
  have hn:=(x.fresh a h).1;rw[x.FO,x.FZ];constructor
  ·intro q
   exact (b.lo a (.inl (Ql ((maD q).symm)))).2 hn
  ·intro q
   rcases maD q with q | q
   ·exact (b.lo a (.inl (List.mem_append_right _ (List.mem_append_right _ q)))).2 hn
   ·exact (b.lo a (.inr (hZ a q))).2 hn
 ·intro a h q
  rw[x.FO] at h;rw[x.FZ] at q;have hF:a∈f.FA\/a∈f.FO:=(maD h).symm;rcases maD q with q | q
  ·exact hF.elim (λh=>(i.dj a h).2 q) λh=>i.dj2 a h q
  ·exact b.dj a (Ql hF) (hZ a q)
theorem Inv.back (x:Callee f g s s_1 [])(i:Inv c f s J H cm)(n:Nx g.FA g.FO s_1 cm s' cm')(j:Inv c g s' J' H' cm'):Inv c f s' J H' cm'/\Nx f.FA f.FO s cm s' cm':=by
 have hno:∀a o,s.heap.get? a=some o->a ∉ g.FA:=λa o e q=>by rw[(x.fresh a q).1] at e; exact no e
 have hFO:∀a,a∈g.FO↔a∈f.FO\/a∈f.FA:=λa=>by rw[x.FO,List.mem_append]
 have nx:Nx f.FA f.FO s cm s' cm':=⟨λa o e h0 h1 h2 h3=>n.keep a o (x.grow.keep a o e) h0 (hno a o e) (λq=>((hFO a).mp q).elim h2 h1) h3,
  λa o e h=>n.outer a o (x.grow.keep a o e) ((hFO a).mpr (.inl h)),n.cms,λa h=>by
   rcases n.new a h with h | h | h | h | h
   ·exact .inl h
   ·exact .inr (.inl (Decidable.byContradiction λq=>x.grow.some q h))
   ·exact .inr (.inr (.inl h))
   ·exact .inr (.inl (x.fresh a h).1)
   ·exact ((hFO a).mp h).elim (λh=>.inr (.inr (.inr (.inr h)))) λh=>.inr (.inr (.inr (.inl h))),λa h=>n.alive a (x.grow.some h)⟩
 exact⟨i.moveS nx (λa o h e=>n.outer a o (x.grow.keep a o e) ((hFO a).mpr (.inr h))) (j.base.sub λa h=>x.mem.mpr (.inr (.inl h))),nx⟩
theorem Inv.backP (x:Callee f g s s_1 (adr cm))(i:Inv c f s J H cm)(n:Nx g.FA g.FO s_1 [] s' cm')(j:Inv c g s' J' H' cm'):Inv c f s' J H cm/\Nx f.FA f.FO s cm s' cm:=by
 have hno:∀a o,s.heap.get? a=some o->a ∉ g.FA:=λa o e q=>by rw[(x.fresh a q).1] at e; exact no e
 have hFO:∀a,a∈g.FO↔a∈f.FO\/a∈f.FA:=λa=>by rw[x.FO,List.mem_append]
 have nx:Nx f.FA f.FO s cm s' cm:=⟨λa o e h0 h1 h2 h3=>n.keep a o (x.grow.keep a o e) h0 (hno a o e) (λq=>((hFO a).mp q).elim h2 h1) nofun,
  λa o e h=>n.outer a o (x.grow.keep a o e) ((hFO a).mpr (.inl h)),.refl _,λa h=>.inl h,λa h=>n.alive a (x.grow.some h)⟩
 have b:=i.base;have hg:∀a,c.h_1.get? a=none->a≠gh:=λa h q=>c.glow (by rw[<-q]; exact h)
 have hR:∀a o,Rr f.FX cm s.heap a o->Rr f.FX cm s'.heap a o:=nx.rr b;refine⟨i.moveS nx (λa o h e=>n.outer a o (x.grow.keep a o e) ((hFO a).mpr (.inr h))) ⟨b.len,λj p y e1 e2=>QM (λa o ha e=>?_) hR (.refl _) (b.cells j p y e1 e2),λa h=>⟨(b.lo a h).1,nx.alive a (b.lo a h).2⟩,b.dj,b.nd,j.base.old,j.base.gens,j.base.os,j.base.tab.mono (λ_ e=>e) λa o ⟨e,st,n1,n2⟩=>⟨e,st,λq=>n1 (x.mem.mpr (.inr (.inl q))),λq=>n1 (x.mem.mpr (.inr (.inr q)))⟩⟩,nx⟩;have hm:=Qz e1 ha;exact n.keep a o (x.grow.keep a o e) (hg a (b.lo a (.inr hm)).1) (hno a o e) (λq=>b.dj a (Ql ((hFO a).mp q).symm) hm) nofun
theorem Callee.rrBack {Z:List Addr}(x:Callee f g s s_1 Z):∀a o,Rr g.FX cm' s'.heap a o->Rr f.FX cm' s'.heap a o:=Rr.sub λa h=>x.mem.mpr (.inr (.inl h))
theorem Callee.rrBackP (x:Callee f g s s_1 (adr cm)):∀a o,Rr g.FX cm' s'.heap a o->Rr f.FX cm s'.heap a o:=λa o ⟨e,st,n1,n2⟩ =>
 ⟨e,st,λq=>n1 (x.mem.mpr (.inr (.inl q))),λq=>n1 (x.mem.mpr (.inr (.inr q)))⟩
theorem Callee.excP (x:Callee f g s s_1 (adr cm)){e:Value}(hm:m.nc=true)(r:ExcAt c s_1.heap g.FX cm' s'.heap e m):ExcAt c s.heap f.FX cm s'.heap e m:=by
 have key:∀fl,ExcF c s_1.heap g.FX cm' s'.heap fl e m->ExcF c s.heap f.FX cm s'.heap fl e m:=λfl r=>by
  obtain⟨a,o,d,vs,ds,n,h1,h2,h3,h4,h5,h6,h7,h8,h9,h10,h11⟩:=r;have nn:∀{a},s_1.heap.get? a=none->s.heap.get? a=none:=λ{a} q=>Decidable.byContradiction λz=>x.grow.some z q
  refine⟨a,o,d,vs,ds,n,h1,h2,h3,h4,h5,nn h6,λq=>h7 (x.mem.mpr (.inr (.inl q))),λq=>h7 (x.mem.mpr (.inr (.inr q))),x.rrBackP _ _ h9,
   Internal.repd_mono x.rrBackP (.refl _) _ _ _ (U3 cm _ _ _ (by simp[hm]) h10),?_⟩
  cases fl with
  | none=>exact h11
  | some v =>
   obtain⟨T,oT,ts,q1,q2,q3,q0,q4,q5,q6,q7,q8⟩:=h11;exact⟨T,oT,ts,q1,q2,q3,q0,q4,q5,nn q6,λq=>q7 (x.mem.mpr (.inr (.inl q))),λq=>q7 (x.mem.mpr (.inr (.inr q)))⟩
 exact r.imp (key _) (key _)
noncomputable def sigma (xs:List Str):Sl:=xs.zipIdx
theorem Wz {xs:List Str}{x:Str}{k:Nat}(h:(sigma xs).lookup x=some k):xs[k]?=some x:=by
 have:=mem_of_lookup h;rw[sigma,List.mem_zipIdx_iff_getElem?] at this;exact this
noncomputable def chkR (fd:FuncData)(np ns:Nat)(xs:List Str):Bool :=
 fd.closure.isEmpty&&fd.globals==mainGlobals&&fd.builtins==builtinsNs&&fd.scope.kind==.function&&!fd.scope.isGenerator&&!fd.scope.isCoroutine&&plainP fd.params&&decide xs.Nodup&&decide (xs.length<=ns)&&decide (np<=xs.length) &&
 (fd.params.args.map (·.arg)==xs.take np)&&fd.params.args.length==np&&xs.all (λx=>fd.scope.names.lookup x==some .local||fd.scope.names.lookup x==some .cell)
structure ChkR (fd:FuncData)(np ns:Nat)(xs:List Str):Prop where
 h1:fd.closure=[]
 h2:fd.globals=mainGlobals
 h3:fd.builtins=builtinsNs
 h4:fd.scope.kind=.function
 h5:fd.scope.isGenerator=false
 h6:fd.scope.isCoroutine=false
 h7:plainP fd.params=true
 h8:xs.Nodup
 h9:xs.length<=ns
 h10:np<=xs.length
 h11:fd.params.args.map (·.arg)=xs.take np
 h12:fd.params.args.length=np
 h13:∀x∈xs,fd.scope.names.lookup x=some .local\/fd.scope.names.lookup x=some .cell
theorem Ju {fd:FuncData}{np ns:Nat}{xs:List Str}(h:chkR fd np ns xs=true):ChkR fd np ns xs:=by
 simp only[chkR,Bool.and_eq_true,beq_iff_eq,decide_eq_true_eq,List.all_eq_true,Bool.or_eq_true,List.isEmpty_iff,Bool.not_eq_true'] at h;obtain⟨h,h13⟩:=h; obtain⟨h,h12⟩:=h; obtain⟨h,h11⟩:=h; obtain⟨h,h10⟩:=h; obtain⟨h,h9⟩:=h; obtain⟨h,h8⟩:=h; obtain⟨h,h7⟩:=h; obtain⟨h,h6⟩:=h; obtain⟨h,h5⟩:=h; obtain⟨h,h4⟩:=h; obtain⟨h,h3⟩:=h; obtain⟨h1,h2⟩:=h;exact⟨h1,h2,h3,h4,h5,h6,h7,h8,h9,h10,h11,h12,h13⟩
theorem ZL (names:List (Str × NameKind))(n:Nat)(acc:List (Str × Addr))(x:Str)(h:names.lookup x=some .cell\/(acc.lookup x).isSome=true):((cellsFrom n names acc).lookup x).isSome=true:=by
 induction names generalizing n acc with
 | nil=>exact h.elim nofun id
 | cons y r ih =>
  unfold cellsFrom;rw[List.lookup_cons] at h;by_cases k:(y.2==.cell)=true
  ·rw[if_pos k]
   refine ih _ _ ?_;rw[List.lookup_cons];cases hx:x==y.1 with
   | true=>exact .inr rfl
   | false=>replace h:=hx ▸ h; exact h
  ·rw[if_neg k]
   refine ih _ _ (h.imp (λq=>?_) id);cases hx:x==y.1 with
   | true=>rw[hx] at q; exact absurd (beq_iff_eq.mpr (Option.some.inj q)) k
   | false=>rw[hx] at q; exact q
theorem uC {x:Str}{v:Value}{r:List (Str × Value)}(nd:x ∉ r.map (·.1)):r.lookup x=none:=by
 cases q:r.lookup x with
 | none=>rfl
 | some v'=>exact absurd (List.mem_map_of_mem (f:=(·.1)) (mem_of_lookup q)) nd
theorem Gv {x y:Str}{v:Value}{r:List (Str × Value)}{m:Str->Option Value}(nd:y ∉ r.map (·.1)):(r.lookup x).or (if x=y then some v else m x)=(((y,v)::r).lookup x).or (m x):=by
 simp only[List.lookup_cons];by_cases e:x=y
 ·subst e
  simp only[if_pos rfl,beq_self_eq_true,uC (v:=v) nd]; rfl
 ·rw[if_neg e,bN e]
theorem Gw {x y:Str}{v:Value}{r:List (Str × Value)}{m:Option Value}(e:x≠y):(r.lookup x).or m=(((y,v)::r).lookup x).or m:=by
 simp only[List.lookup_cons,bN e]
theorem uD {ko:Str->Option NameKind}{x:Str}(hx:ko x=some .local)(bs:List (Str × Value))(m:Str->Option Value)(nd:(bs.map (·.1)).Nodup):bindL ko bs m x=(bs.lookup x).or (m x):=by
 induction bs generalizing m with
 | nil=>rfl
 | cons y r ih =>
  have nd:=List.nodup_cons.mp nd;unfold bindL;rw[ih _ nd.2];by_cases k:ko y.1=some .local
  ·rw[if_pos k]; exact Gv nd.1
  ·rw[if_neg k]; exact Gw λe=>k (e ▸ hx)
theorem uE {ko:Str->Option NameKind}{x:Str}(hx:ko x≠some .local)(bs:List (Str × Value))(m:Str->Option Value)(nd:(bs.map (·.1)).Nodup):bindC ko bs m x=(bs.lookup x).or (m x):=by
 induction bs generalizing m with
 | nil=>rfl
 | cons y r ih =>
  have nd:=List.nodup_cons.mp nd;unfold bindC;rw[ih _ nd.2];by_cases k:ko y.1=some .local
  ·rw[if_pos k]; exact Gw λe=>hx (e ▸ k)
  ·rw[if_neg k]; exact Gv nd.1
noncomputable def cellAddrs (cs:List (Str × Addr))(xs:List Str):List Addr:=xs.filterMap λx=>cs.lookup x
theorem uF {fd:FuncData}{np ns:Nat}{xs:List Str}{L r:Addr}(h:chkR fd np ns xs=true){m cmm:Str->Option Value}(x:InCallC s (callEnvC fd L r).locals m (callEnvC fd L r).cells cmm s_1) :
  EnvS (callEnvC fd L r) fd.scope.names (sigma xs) (λ_=>true) (L::cellAddrs (callEnvC fd L r).cells xs) FO:=by
 have z:=Ju h;refine⟨rfl,z.h4,z.h2,z.h3,.head _,λa b cc e1 e2=>name_of_addr x.apart (mem_of_lookup e1) (mem_of_lookup e2),λy k kd e1 e2 e3=>?_,λy z k ky kz e1 e2 _ _=>?_⟩
 ·have hy:=Wz e1
  have hm:=List.mem_of_getElem? hy;have hk:=z.h13 y hm;rw[e2] at hk;have hc:kd=.cell:=by
   rcases e3 with e3 | e3
   ·exact e3
   ·subst e3; simp at hk
  subst hc;obtain⟨cc,hcc⟩:=Option.isSome_iff_exists.mp (ZL fd.scope.names (L+1) [] y (.inl e2));have hcc':(callEnvC fd L r).cells.lookup y=some cc:=hcc;have hab:=x.above y cc (mem_of_lookup hcc');have hin:cc∈L::cellAddrs (callEnvC fd L r).cells xs:=.tail _ (List.mem_filterMap.mpr ⟨y,hm,hcc'⟩);exact⟨cc,hcc',Nat.ne_of_gt hab,.inl hin,λ_=>hin⟩
 ·have a:=Wz e1
  have b:=Wz e2;rw[a] at b;exact Option.some.inj b
theorem Gx:∀k,c.reps FX cm h (List.replicate k .none) (List.replicate k .none)
 | 0=>rfl
 | k+1=>⟨.none,List.replicate k .none,rfl,rfl,Gx k⟩
structure RoomY (fs:List Env)(A:Around)(x y:Nat):Prop where
 hh:A.handled=none
 depth:A.depth+x<=900
 units:A.units+y<=9000
 frames:A.frames=some fs
abbrev RoomX (f:Fm)(A:Around)(x y:Nat):Prop:=RoomY f.fs A x y
structure Cal (g:Fm)(s s_1:Shared)(FO FZ:List Addr):Prop where
 grow:Grow s s_1
 fresh:∀a,a∈g.FA->s.heap.get? a=none/\s_1.heap.get? a≠none
 FO:g.FO=FO
 FZ:g.FZ=FZ
theorem Gy {a b:Nat}(h:a+b<=900):a<recursionLimit:=Nat.lt_of_le_of_lt (Nat.le_trans (Nat.le_add_right a b) h) (by decide)
theorem RoomC.toX (r:RoomC f A (n+1)):RoomX f A (3*n+10+1) (40*n+100+3):=⟨r.hh,r.depth,Nat.le_trans (Nat.add_le_add_left (Nat.add_le_add_left (by decide:103<=120) (40*n)) A.units) r.units,r.frames⟩
theorem RoomX.toR (r:RoomX f A (3*n+10) (40*n+100)):Room f A n:=⟨r.hh,(Nat.add_assoc ..) ▸ r.depth,(Nat.add_assoc ..) ▸ r.units,r.frames⟩
structure DefOk (s:Shared)(fd:FuncData)(d:FD)(xs:List Str)(kd:Nat):Prop where
 chk:chkR fd d.np d.ns xs=true
 code:s.heap.CodeRec fd.code fd.qualname
 df:d.dflt=List.replicate kd .none
 le:kd<=d.np
 dv:(fd.defaults=.none/\kd=0)\/∃T oT m,fd.defaults=.ref T/\s.heap.get? T=some oT/\oT.data=.seq (List.replicate kd Value.none).toArray m
structure FrN (fd:FuncData)(xs:List Str)(fs:List Env)(g:Fm):Prop where
 sc:g.sc=fd.scope.names
 σ:g.σ=sigma xs
 ow:g.ow=λ_=>true
 fs:g.fs=g.env::fs
 fr:g.env.frame=some g.env.locals
 cd:g.env.code=fd.code/\g.env.qual=fd.qualname++".<locals>."
inductive DefB (s:Shared)(fd:FuncData)(d:FD)(xs:List Str)(as:LA)(vals:List Value)(J:LA):Prop where
 | mk (q:Nat)(b:BindsTo s fd ⟨vals,[]⟩ ((xs.take d.np).zip (vals++List.replicate q .none)))(e:J=as++List.replicate q .none++List.replicate (d.ns-d.np) .unset)(l:as.length+q=d.np)
theorem ar2 {a k p:Nat}(h:a<=p)(h2:p<=a+k):a+(k-(a+k-p))=p:=(ar0 h h2).symm
theorem uG {fd:FuncData}{d:FD}{xs:List Str}{kd:Nat}{as:LA}{vals:List Value}(dk:DefOk s fd d xs kd)(hvl:vals.length=as.length)(hf:d.frame as=some J):DefB s fd d xs as vals J:=by
 have z:=Ju dk.chk;unfold FD.frame at hf;by_cases hl:as.length<=d.np/\d.np<=as.length+d.dflt.length
 ·replace hf:=(if_pos hl) ▸ hf
  cases hf;rw[dk.df,List.length_replicate] at hl;rw[dk.df,List.length_replicate,List.drop_replicate];have hxl:(xs.take d.np).length=d.np:=by rw[List.length_take]; exact Nat.min_eq_left z.h10
  obtain⟨k,hk1,hk2⟩:=uB (vals:=vals) z.h7 (by rw[z.h11]; exact z.h8.sublist (List.take_sublist _ _)) (by rw[z.h11,hxl,hvl]; exact hl.1);rw[z.h11,hxl,hvl] at hk2;refine⟨_,?_,rfl,ar2 hl.1 hl.2⟩;rcases dk.dv with ⟨q1,q2⟩ | ⟨T,oT,m,q1,q2,q3⟩
  ·refine BindsTo.of_eq ?_
   rw[hk1,q1];subst q2;exact (hk2 none (Nat.zero_le _) hl.2).trans (by rw[Nat.zero_sub]; exact congrArg _ (congrArg (λl=>(xs.take d.np).zip (vals++l)) List.drop_nil))
  ·refine BindsTo.of_defaults q1 q2 q3 hk1 ((hk2 (some (List.replicate kd Value.none).toArray) (Nat.le_trans (Nat.le_of_eq List.length_replicate) dk.le) (Nat.le_trans hl.2 (Nat.add_le_add_left (Nat.le_of_eq List.length_replicate.symm) _))).trans ?_)
   show pure (List.zip _ (vals++(List.replicate kd Value.none).drop (as.length+(List.replicate kd Value.none).length-d.np)))=_;rw[List.length_replicate,List.drop_replicate]
 ·replace hf:=(if_neg hl) ▸ hf; cases hf
theorem Gz {xs:List Str}{r0:LA}{W:List Value}{m np y k}(nd:xs.Nodup)(rW:c.reps FX cm h r0 W)(hl:r0.length=np)(e:(sigma xs).lookup y=some k) :
  slotIs c FX cm h (r0++List.replicate m .unset) k (((xs.take np).zip W).lookup y):=λav e2 hav=>by
 by_cases hk:k<np
 ·rw[List.getElem?_append_left (hl ▸ hk)] at e2
  obtain⟨v,hv,rv⟩:=UW rW e2;exact⟨v,(ZG (nd.sublist (List.take_sublist _ _)) (by rw[List.getElem?_take,if_pos hk]; exact Wz e)).trans hv,rv⟩
 ·rw[List.getElem?_append_right (hl ▸ Nat.le_of_not_lt hk),List.getElem?_replicate] at e2
  by_cases q:k-r0.length<m
  ·replace e2:=(if_pos q) ▸ e2; cases e2; exact absurd rfl hav
  ·replace e2:=(if_neg q) ▸ e2; cases e2
theorem slotIs.or {k:Nat}{v w:Option Value}(x:slotIs c FX cm h J k v):slotIs c FX cm h J k (v.or w):=λav e n=>(by obtain⟨z,q,r⟩:=x av e n; exact⟨z,by rw[q]; rfl,r⟩)
theorem GC {fd:FuncData}{d:FD}{xs:List Str}{r:Addr}{kd rx ry:Nat}{as:LA}{vals:List Value}{FO FZ:List Addr}{fs:List Env}{P:Env->Shared->Prop}{Ex:VS}{A':Around}(dk:DefOk s fd d xs kd)
  (rm:RoomY fs A (rx+1) (ry+3)) (nl:s.heap.NoLimit) (hvl:vals.length=as.length) (hf:d.frame as=some J')
  (hfs:∀e∈fs,e.scope.kind≠.module/\∃L o,e.frame=some L/\s.heap.get? L=some o/\(∀vs,o.data≠.fields vs)/\L∈FO)
  (hB:∀g s_1,Cal g s s_1 FO FZ->Base c g.FX s_1 H' cm'/\c.reps g.FX cm' s_1.heap as vals/\(∀a,a∈g.FA->a ∉ g.FO/\a ∉ g.FZ)/\(∀a,a∈g.FO->a ∉ g.FZ))
  (h:∀g s_1,Cal g s s_1 FO FZ->FrN fd xs fs g->Inv c g s_1 J' H' cm'->RoomX g (A.deeper g.env) rx ry->P g.env s_1) :
  wpAny (model P0 c.w) A' (bindArgs fd ⟨vals,[]⟩) (λbinds s_1=>wpAny (model P0 c.w) A' (newFunctionEnv fd.scope fd.globals fd.closure binds (fd.qualname++".<locals>.") (some r) fd.code none fd.builtins)
    (λenv s_2=>s_2.heap.NoLimit/\P env s_2) Ex s_1) Ex s:=by
 obtain⟨q,hbind,rfl,hl⟩:=uG dk hvl hf;have z:=Ju dk.chk;refine hbind _ _ _ _ ?_;refine z.h1 ▸ ?_;have hfst:((xs.take d.np).zip (vals++List.replicate q .none)).map (·.1)=xs.take d.np:=List.map_fst_zip (by rw[List.length_take,List.length_append,List.length_replicate,hvl,hl]; exact Nat.min_le_left _ _);have nd':=z.h8.sublist (List.take_sublist d.np xs);refine wpAny_newFunctionEnv_cells z.h4 (λy hy=>(z.h13 y.1 (List.mem_of_mem_take (List.of_mem_zip hy).1)).imp id λq=>⟨q,ZL _ _ _ _ (.inl q)⟩) λenv he s_1 x=>?_
 obtain rfl:env=callEnvC fd s.heap.objs.size r:=he;refine⟨nl.keeps x.toInCall.keep,?_⟩;have cal:Cal {env:=callEnvC fd s.heap.objs.size r,sc:=fd.scope.names,σ:=sigma xs,ow:=λ_=>true,FA:=s.heap.objs.size::cellAddrs (callEnvC fd s.heap.objs.size r).cells xs,FO:=FO,FZ:=FZ,fs:=callEnvC fd s.heap.objs.size r::fs,ok:=uF dk.chk x} s s_1 FO FZ:=by
  refine⟨?_,λa ha=>?_,rfl,rfl⟩
  ·obtain⟨hh,tk,e⟩:=x.toInCall.same
   exact⟨x.toInCall.keep,by rw[e],by rw[e]⟩
  ·rcases mcD ha with ha | ha
   ·subst ha
    obtain⟨o',_,_,e,_⟩:=x.toInCall.ns;exact⟨Qk _,λq=>by cases e.symm.trans q⟩
   ·obtain⟨y,_,hy⟩:=List.mem_filterMap.mp ha
    obtain⟨o',e,_⟩:=x.cell y a hy;exact⟨Heap.get?_none_of_le (Nat.le_of_lt (x.above y a (mem_of_lookup hy))),by rw[e]; nofun⟩
 obtain⟨hbase,hreps,hd1,hd2⟩:=hB _ s_1 cal;have rW:=Wq hreps (Gx (c:=c) q);have hl2:(as++List.replicate q AV.none).length=d.np:=by rw[List.length_append,List.length_replicate]; exact hl
 refine h _ s_1 cal ⟨rfl,rfl,rfl,rfl,rfl,rfl,rfl⟩ ⟨hbase,hd1,hd2,⟨_,x.toInCall.ns,λy k e1 e2=>?_⟩,λy k kdd a e1 e2 e3 e4=>?_,λe he=>?_⟩ ⟨rm.hh,?_,?_,Around.frames_deeper rm.frames⟩
 ·rw[uD (ko:=(callEnvC fd s.heap.objs.size r).kindOf) e2 _ _ (by rw[hfst]; exact nd')]
  exact (Gz z.h8 rW hl2 e1).or
 ·obtain⟨o',e5,e6⟩:=x.cell y a e4
  refine⟨o',_,e5,e6,?_⟩;have e2':(callEnvC fd s.heap.objs.size r).kindOf y=some kdd:=e2;rw[uE (by rw[e2']; rcases e3 with rfl | rfl<;>nofun) _ _ (by rw[hfst]; exact nd')]
  exact (Gz z.h8 rW hl2 e1).or
 ·rcases mcD he with he | he
  ·subst he
   obtain⟨o',es,ep,e,hdd,_⟩:=x.toInCall.ns;exact⟨λq=>(nomatch z.h4.symm.trans q),s.heap.objs.size,o',rfl,e,(λvs q=>(nomatch hdd.symm.trans q)),.inl (.head _)⟩
  ·obtain⟨q1,L,o',q2,q3,q4,q5⟩:=hfs e he
   exact⟨q1,L,o',q2,cal.grow.keep _ _ q3,q4,.inr q5⟩
 ·exact Nat.le_trans (Nat.le_of_eq (Nat.add_right_comm A.depth 1 rx)) rm.depth
 ·exact Nat.le_trans (Nat.le_of_eq (Nat.add_right_comm A.units 3 ry)) rm.units
theorem GD {fd:FuncData}{d:FD}{xs:List Str}{r:Addr}{kd rx ry:Nat}{as:LA}{vals:List Value}{Z:List Addr}{P:Env->Shared->Prop}{Ex:VS}{A':Around}(dk:DefOk s fd d xs kd)
  (rm:RoomX f A (rx+1) (ry+3)) (i:Inv c f s J H cm) (ra:c.reps f.FX cm s.heap as vals) (hf:d.frame as=some J')
  (hZ:∀a,a∈Z->a∈adr cm) (hB:∀g s_1,Callee f g s s_1 Z->Base c g.FX s_1 H' cm'/\c.reps g.FX cm' s_1.heap as vals)
  (h:∀g s_1,Callee f g s s_1 Z->FrN fd xs f.fs g->Inv c g s_1 J' H' cm'->RoomX g (A.deeper g.env) rx ry->P g.env s_1) :
  wpAny (model P0 c.w) A' (bindArgs fd ⟨vals,[]⟩) (λbinds s_1=>wpAny (model P0 c.w) A' (newFunctionEnv fd.scope fd.globals fd.closure binds (fd.qualname++".<locals>.") (some r) fd.code none fd.builtins)
    (λenv s_2=>s_2.heap.NoLimit/\P env s_2) Ex s_1) Ex s:=GC (FO:=f.FO++f.FA) (FZ:=f.FZ++Z) dk rm i.base.nolim (QL ra) hf
  (λe he=>(i.frs e he).casesOn λq1 L o' q2 q3 q4 q5=>⟨q1,L,o',q2,q3,q4,List.mem_append.mpr q5.symm⟩)
  (λg s_1 cal=>have cal':Callee f g s s_1 Z:=⟨cal.grow,cal.fresh,cal.FO,cal.FZ⟩; ⟨(hB g s_1 cal').1,(hB g s_1 cal').2,cal'.dj i hZ⟩)
  λg s_1 cal=>h g s_1 ⟨cal.grow,cal.fresh,cal.FO,cal.FZ⟩
theorem GF {fd:FuncData}{body:List Stmt}{d:FD}{xs:List Str}{r:Addr}{o:Obj}{kd rx ry:Nat}{as:LA}{vals:List Value}{Z:List Addr}(dk:DefOk s fd d xs kd)
  (ho:s.heap.get? r=some o) (hd:o.data=.func fd) (hb:fd.body=.stmts body)
  (rm:RoomX f A (rx+1) (ry+3)) (i:Inv c f s J H cm) (ra:c.reps f.FX cm s.heap as vals) (hf:d.frame as=some J')
  (hZ:∀a,a∈Z->a∈adr cm) (hB:∀g s_1,Callee f g s s_1 Z->Base c g.FX s_1 H' cm'/\c.reps g.FX cm' s_1.heap as vals)
  (h:∀g s_1,Callee f g s s_1 Z->FrN fd xs f.fs g->Inv c g s_1 J' H' cm'->RoomX g (A.deeper g.env) rx ry ->
   wpAny (model P0 c.w) (A.deeper g.env) (execs body g.env) (λfl s'=>R (.ok (.ret (match fl with | .ret v=>v | _=>.none))) s')
    (λe s'=>wpAny (model P0 c.w) (A.deeper g.env) (leaving g.env e) (λ_ s''=>R (.error e) s'') (λe' s''=>R (.error e') s'') s') s_1) :
  codeAny (model P0 c.w) A (.call (.ref r) ⟨vals,[]⟩) R s :=
 codeAny_call_function (Gy rm.depth) ho hd (Ju dk.chk).h6 (Ju dk.chk).h5 hb dk.code
  (GD dk rm i ra hf hZ hB λg s_1 a1 a2 a8 a9=>codeAny_func (h g s_1 a1 a2 a8 a9))
theorem GJ {fd:FuncData}{body:List Stmt}{d:FD}{xs:List Str}{r:Addr}{o:Obj}{kd n:Nat}{as:LA}{vals:List Value}{Z:List Addr}(dk:DefOk s fd d xs kd)
  (ho:s.heap.get? r=some o) (hd:o.data=.func fd) (hb:fd.body=.stmts body)
  (rm:RoomC f A (n+1)) (i:Inv c f s J H cm) (ra:c.reps f.FX cm s.heap as vals) (hf:d.frame as=some J')
  (hZ:∀a,a∈Z->a∈adr cm) (hB:∀g s_1,Callee f g s s_1 Z->Base c g.FX s_1 H' cm'/\c.reps g.FX cm' s_1.heap as vals)
  (h:∀g s_1,Callee f g s s_1 Z->FrN fd xs f.fs g->Inv c g s_1 J' H' cm'->Room g (A.deeper g.env) n ->
   wpAny (model P0 c.w) (A.deeper g.env) (execs body g.env) (λfl s'=>R (.ok (.ret (match fl with | .ret v=>v | _=>.none))) s')
    (λe s'=>wpAny (model P0 c.w) (A.deeper g.env) (leaving g.env e) (λ_ s''=>R (.error e) s'') (λe' s''=>R (.error e') s'') s') s_1) :
  codeAny (model P0 c.w) A (.call (.ref r) ⟨vals,[]⟩) R s :=
 GF dk ho hd hb rm.toX i ra hf hZ hB λg s_1 a1 a2 a8 a9=>h g s_1 a1 a2 a8 a9.toR
theorem uH {fd:FuncData}{body:PX}{d:FD}{xs:List Str}{r:Addr}{o:Obj}{kd n:Nat}{as:LA}{vals:List Value}{Z:List Addr}(dk:DefOk s fd d xs kd)
  (ho:s.heap.get? r=some o) (hd:o.data=.func fd) (hb:fd.body=.expr body)
  (rm:RoomC f A (n+1)) (i:Inv c f s J H cm) (ra:c.reps f.FX cm s.heap as vals) (hf:d.frame as=some J')
  (hZ:∀a,a∈Z->a∈adr cm) (hB:∀g s_1,Callee f g s s_1 Z->Base c g.FX s_1 H' cm'/\c.reps g.FX cm' s_1.heap as vals)
  (h:∀g s_1,Callee f g s s_1 Z->FrN fd xs f.fs g->Inv c g s_1 J' H' cm'->Room g (A.deeper g.env) n ->
   wpAny (model P0 c.w) (A.deeper g.env) (eval body g.env) (λv s'=>R (.ok (.ret v)) s')
    (λe s'=>wpAny (model P0 c.w) (A.deeper g.env) (leaving g.env e) (λ_ s''=>R (.error e) s'') (λe' s''=>R (.error e') s'') s') s_1) :
  codeAny (model P0 c.w) A (.call (.ref r) ⟨vals,[]⟩) R s :=
 kla_callFunE (Gy rm.toX.depth) ho hd (Ju dk.chk).h6 (Ju dk.chk).h5 hb dk.code
  (GD dk rm.toX i ra hf hZ hB λg s_1 a1 a2 a8 a9=>kla_codeExpr (h g s_1 a1 a2 a8 a9.toR))
structure OSnd (c:Cx)(n:Nat)(C:Orc):Prop where
 f:∀fa as H f A,RoomC f A n->∀J s cm vals,Inv c f s J H cm->c.reps f.FX cm s.heap as vals->∀R:Result->Shared->Prop,
  EPost c f J s cm (C.f fa as H) (λv s'=>R (.ok (.ret v)) s') (λe s'=>R (.error e) s')->codeAny (model P0 c.w) A (.call (.ref fa) ⟨vals,[]⟩) R s
 l:∀k as H f A,RoomC f A n->∀J s cm vals r,Inv c f s J H cm->c.rep f.FX cm s.heap (.lam k) (.ref r)->c.reps f.FX cm s.heap as vals->∀R:Result->Shared->Prop,
  EPost c f J s cm (C.l k as H) (λv s'=>R (.ok (.ret v)) s') (λe s'=>R (.error e) s')->codeAny (model P0 c.w) A (.call (.ref r) ⟨vals,[]⟩) R s
 k:∀fa as H,C.f fa as H≠.stuck->∃o fd,(KX c.w.params).lookup fa=some o/\o.data=.func fd
noncomputable def BodyOk (c:Cx)(n:Nat)(C:Orc)(sc:Sc)(σ:Sl)(code:Value)(qual:Str)(b:List PS)(body:List Stmt):Prop :=
 ∀g:Fm,g.sc=sc->g.σ=σ->g.ow=(λ_=>true)->(g.env.code=code/\g.env.qual=qual)->g.env.frame=some g.env.locals->(∃r,g.fs=g.env::r)->∀A,Room g A n->∀J s H cm,Inv c g s J H cm->∀Q E,SPost c g s cm (evSs C b J H) Q E->wpAny (model P0 c.w) A (execs body g.env) Q E s
structure FunK (P:Params)(fa:Nat)(d:FD)(fd:FuncData)(body:List Stmt)(xs:List Str)(kd:Nat):Prop where
 o:∃o,(KX P).lookup fa=some o/\o.data=.func fd
 b:fd.body=.stmts body
 chk:chkR fd d.np d.ns xs=true
 code:∃c' oc vs t,fd.code=.ref c'/\(KX P).lookup c'=some oc/\oc.data=.fields vs/\vs[1]?=some (.str fd.qualname t)
 df:d.dflt=List.replicate kd .none
 le:kd<=d.np
 dv:(fd.defaults=.none/\kd=0)\/∃T oT m,fd.defaults=.ref T/\(KX P).lookup T=some oT/\oT.data=.seq (List.replicate kd Value.none).toArray m
theorem FunK.def {fa:Nat}{d:FD}{fd:FuncData}{body:List Stmt}{xs:List Str}{kd:Nat}(x:FunK c.w.params fa d fd body xs kd)(X:(KX c.w.params).In s.heap):DefOk s fd d xs kd where
 chk:=x.chk
 code:=by obtain⟨c',oc,vs,t,e1,e2,e3,e4⟩:=x.code; exact⟨c',oc,vs,t,e1,X _ _ e2,e3,e4⟩
 df:=x.df
 le:=x.le
 dv:=x.dv.imp id λq=>by obtain⟨T,oT,m,e1,e2,e3⟩:=q; exact⟨T,oT,m,e1,X _ _ e2,e3⟩
structure Tabs (c:Cx)(T:Nat->Option (Bool × FD))(U:Nat->Option FD):Prop where
 f:∀fa p d,T fa=some (p,d)->∃fd body xs kd,FunK c.w.params fa d fd body xs kd/\∀n C,OSnd c n C->BodyOk c n C fd.scope.names (sigma xs) fd.code (fd.qualname++".<locals>.") d.body body
 l:∀k d,U k=some d->∀fd,c.LO k fd->∃e pe xs,fd.body=.expr e/\d.body=[.ret pe]/\chkR fd d.np d.ns xs=true/\d.dflt=[]/\fd.defaults=.none /\
  ∀n C,OSnd c n C->∀g:Fm,g.sc=fd.scope.names->g.σ=sigma xs->EvOk c n C pe g e
theorem Fl.val {fl:Fl}{x:Flow}(hf:flOk c FX cm h fl x):∃v,(OS.ok fl J H).out=.ok v H/\c.rep FX cm h v (match (motive:=Flow->Value) x with | .ret v=>v | _=>.none):=by
 cases fl with
 | next=>cases hf; exact⟨.none,rfl,rfl⟩
 | cont=>cases hf; exact⟨.none,rfl,rfl⟩
 | ret v=>obtain⟨y,rfl,r⟩:=hf; exact⟨v,rfl,r⟩
theorem uI (x:Callee f g s s_1 [])(hfs:g.fs=g.env::f.fs)(hfr:g.env.frame=some g.env.locals)(i:Inv c f s J H cm)(i_1:Inv c g s_1 J' H cm)(rm:(A.deeper g.env).frames=some g.fs){o:OS}
  (p:EPost c f J s cm o.out (λv s'=>R (.ok (.ret v)) s') (λe s'=>R (.error e) s')) :
  SPost c g s_1 cm o (λfl s'=>R (.ok (.ret (match fl with | .ret v=>v | _=>.none))) s')
    (λe s'=>wpAny (model P0 c.w) (A.deeper g.env) (leaving g.env e) (λ_ s''=>R (.error e) s'') (λe' s''=>R (.error e') s'') s'):=by
 cases o with
 | ok fl J_2 H_2 =>
  intro y s' cm' nx iv hfl;obtain⟨v,e,r⟩:=Fl.val (J:=J_2) (H:=H_2) hfl;rw[e] at p;obtain⟨b1,b2⟩:=Inv.back x i nx iv;exact p _ s' cm' b2 b1 (Cx.rep_mono x.rrBack (.refl _) r)
 | exc m J_2 H_2 =>
  intro e s' cm' nx iv ex;have hh:∀b,c.h_1.get? b≠none->s_1.heap.get? b≠none:=i_1.base.alive;refine leaveF (rm.trans (congrArg some hfs)) hfs hfr iv hh nx.alive ex λs'' tn ex''=>?_
  obtain⟨b1,b2⟩:=Inv.back x i (tn.nx nx) (tn.inv hh iv);exact p e s'' cm' b2 b1 ((ex''.sub λa h=>x.mem.mpr (.inr (.inl h))).older λ_=>x.grow.some)
 | stuck=>exact p.elim
theorem GK (x:Callee f g s s_1 (adr cm))(hfs:g.fs=g.env::f.fs)(hfr:g.env.frame=some g.env.locals)(i:Inv c f s J H cm)(i_1:Inv c g s_1 J' [] [])(rm:(A.deeper g.env).frames=some g.fs){o:OS}
  (p:EPost c f J s cm (pureOut H o.out) (λv s'=>R (.ok (.ret v)) s') (λe s'=>R (.error e) s')) :
  SPost c g s_1 [] o (λfl s'=>R (.ok (.ret (match fl with | .ret v=>v | _=>.none))) s')
    (λe s'=>wpAny (model P0 c.w) (A.deeper g.env) (leaving g.env e) (λ_ s''=>R (.error e) s'') (λe' s''=>R (.error e') s'') s'):=by
 cases o with
 | ok fl J_2 H_2 =>
  intro y s' cm' nx iv hfl;obtain⟨v,e,r⟩:=Fl.val (J:=J_2) (H:=H_2) hfl;rw[e] at p
  replace p:EPost c f J s cm (if v.nc=true then .ok v H else .stuck) (λv s'=>R (.ok (.ret v)) s') (λe s'=>R (.error e) s'):=p
  by_cases hv:v.nc=true
  ·rw[if_pos hv] at p
   obtain⟨b1,b2⟩:=Inv.backP x i nx iv;exact p _ s' cm b2 b1 (Internal.rep_mono x.rrBackP (.refl _) _ _ (wI cm _ _ hv r))
  ·rw[if_neg hv] at p; exact p.elim
 | exc m J_2 H_2 =>
  intro e s' cm' nx iv ex;have p':EPost c f J s cm (if m.nc=true then .exc m H else .stuck) (λv s'=>R (.ok (.ret v)) s') (λe s'=>R (.error e) s'):=p;by_cases hv:m.nc=true
  ·rw[if_pos hv] at p'
   have hh:∀b,c.h_1.get? b≠none->s_1.heap.get? b≠none:=i_1.base.alive;refine leaveF (rm.trans (congrArg some hfs)) hfs hfr iv hh nx.alive ex λs'' tn ex''=>?_
   obtain⟨b1,b2⟩:=Inv.backP x i (tn.nx nx) (tn.inv hh iv);exact p' e s'' cm b2 b1 (x.excP hv ex'')
  ·rw[if_neg hv] at p'; exact p'.elim
 | stuck=>exact p.elim
theorem uJ (T U):OSnd c 0 (run T U 0):=⟨λ_ _ _ _ _ _ _ _ _ _ _ _ _ p=>p.elim,λ_ _ _ _ _ _ _ _ _ _ _ _ _ _ _ p=>p.elim,λ_ _ _ h=>absurd rfl h⟩
theorem uK {T U}(tb:Tabs c T U)(ih:OSnd c n (run T U n)):OSnd c (n+1) (run T U (n+1)):=by
 refine⟨λfa as H f A rm J s cm vals i ra R p=>?_,λk as H f A rm J s cm vals r i rl ra R p=>?_,λfa as H h=>?_⟩
 ·obtain⟨⟨b,d⟩,hT,p⟩:=GPost.opt p
  ·obtain⟨fd,body,xs,kd,fk,hbody⟩:=tb.f fa b d hT
   have hB:=hbody n _ ih;obtain⟨o,ho,hd⟩:=fk.o;cases b with
   | true =>
    obtain⟨hnc,p⟩:=GPost.ite (show EPost c f J s cm (if AV.ncs as=true then pureOut H (runF (run T U n) d as []) else .stuck) _ _ from p)
    ·cases hf:d.frame as with
     | none=>simp only[runF,hf] at p; exact p.elim
     | some J' =>
      simp only[runF,hf] at p;refine GJ (Z:=adr cm) (H':=[]) (cm':=[]) (fk.def i.base.X) (i.base.X _ _ ho) hd fk.b rm i ra hf (λ_ h=>h) (λg s_1 cal=>⟨Base.calleeP cal i.base,Internal.reps_mono cal.rrP (.refl _) _ _ (Zh [] _ _ hnc ra)⟩) λg s_1 cal fr i_1 rm_1=>?_
      exact hB g fr.sc fr.σ fr.ow fr.cd fr.fr ⟨_,fr.fs⟩ _ rm_1 J' s_1 [] [] i_1 _ _ (GK cal fr.fs fr.fr i i_1 rm_1.frames p)
   | false =>
    obtain⟨J',hf,p⟩:=GPost.opt p
    ·refine GJ (Z:=[]) (H':=H) (cm':=cm) (fk.def i.base.X) (i.base.X _ _ ho) hd fk.b rm i ra hf nofun (λg s_1 cal=>⟨Base.callee cal i.base,Cx.reps_mono cal.rr (.refl _) ra⟩) λg s_1 cal fr i_1 rm_1=>?_
     exact hB g fr.sc fr.σ fr.ow fr.cd fr.fr ⟨_,fr.fs⟩ _ rm_1 J' s_1 H cm i_1 _ _ (uI cal fr.fs fr.fr i i_1 rm_1.frames p)
 ·obtain⟨d,hU,p⟩:=GPost.opt p
  ·obtain⟨hnc,p⟩:=GPost.ite (show EPost c f J s cm (if AV.ncs as=true then pureOut H (runF (run T U n) d as []) else .stuck) _ _ from p)
   ·cases hf:d.frame as with
    | none=>simp only[runF,hf] at p; exact p.elim
    | some J' =>
     rw[runF,hf] at p;obtain⟨r',o,e,hR,fd,c',oc,vs,t,q1,q2,q3,q4,q5,q6⟩:=rl;cases e;obtain⟨ex,pe,xs,z1,z2,z3,z4,z5,z6⟩:=tb.l k d hU fd q6;rw[z2] at p;have dk:DefOk s fd d xs 0:=⟨z3,⟨c',oc,vs,t,q2,q3.1,q4,q5⟩,z4,Nat.zero_le _,.inl ⟨z5,rfl⟩⟩;refine uH (Z:=adr cm) (H':=[]) (cm':=[]) dk hR.1 q1 z1 rm i ra hf (λ_ h=>h) (λg s_1 cal=>⟨Base.calleeP cal i.base,Internal.reps_mono cal.rrP (.refl _) _ _ (Zh [] _ _ hnc ra)⟩) λg s_1 cal fr i_1 rm_1=>?_
     refine z6 n _ ih g fr.sc fr.σ _ rm_1 J' s_1 [] [] i_1 _ _ ?_;have key:=GK (A:=A) cal fr.fs fr.fr i i_1 rm_1.frames p;have key:SPost c g s_1 [] (((evE (run T U n) J' pe []).st J' λv H=>.ok (.ret v) J' H).bind (Fl.nx (evSs (run T U n) []))) _ _:=key;cases hv:evE (run T U n) J' pe [] with
     | ok v H_2=>rw[hv] at key; exact λy s' cm' nx iv rv=>key (.ret y) s' cm' nx iv ⟨y,rfl,rv⟩
     | exc m H_2=>rw[hv] at key; exact λe s' cm' nx iv ex=>key e s' cm' nx iv ex
     | stuck=>rw[hv] at key; exact key.elim
 ·have h:Out.opt (T fa) (runO (run T U n) as H)≠.stuck:=h
  cases hT:T fa with
  | none=>replace h:=hT ▸ h; exact absurd rfl h
  | some q =>
   obtain⟨b,d⟩:=q;obtain⟨fd,body,xs,kd,fk,_⟩:=tb.f fa b d hT;obtain⟨o,ho,hd⟩:=fk.o;exact⟨o,fd,ho,hd⟩
theorem GP {T U}(tb:Tabs c T U):∀n,OSnd c n (run T U n)
 | 0=>uJ T U
 | n+1=>uK tb (GP tb n)
noncomputable def FnAt (a:Addr)(h:Heap):Prop:=∃o fd,h.get? a=some o/\o.data=.func fd
theorem GQ:∀h,FnAt a h->∃k,(k=Keeper.frame\/k=Keeper.machine\/k=Keeper.boundFrame)/\Looks M h (keeperOf (.ref a)) k:=λh q70=>by
 obtain⟨o,fd,e,d⟩:=q70;obtain⟨oc,od,dt,sl⟩:=o;cases d;exact⟨.frame,.inl rfl,(Looks.ld (part:=none) e).andThen .now⟩
theorem WD {fv:Value}{ys:List PX}{pos:Pos}{Q:Args->Shared->Prop}(hs:ys.all noStar=true)
  (h:wpAny (model P0 c.w) A (spliced (backTo pos (starEach ys env))) (λvs s'=>Q ⟨vs,[]⟩ s') E s):wpAny (model P0 c.w) A (evalArgs fv true (backTo pos (starEach ys env)) (backToKw pos (keywordEach [] env))) Q E s:=by
 cases ys with
 | nil =>
  refine wpAny_bind (wpAny_mono h (λvs s' h'=>?_) λ_ _ x=>x);refine wpAny_holding ?_;exact wpAny_bind (wpAny_pure (wpAny_bind (wpAny_pure (wpAny_pure h'))))
 | cons y r =>
  simp only[List.all_cons,Bool.and_eq_true] at hs;rw[Jg hs.1] at h ⊢;exact Calls.evalArgs_plain h
theorem WF {l:List PE}:∀{ys:List PX} {sc:Sc} {σ:Sl},chkL k l sc σ ys=true->ys.all noStar=true:=by
 induction l with
 | nil =>
  intro ys sc σ h;cases JM h; rfl
 | cons a l ih =>
  intro ys sc σ h;obtain⟨y,r,rfl,h0,_,h2⟩:=Jf h; simp[h0,ih h2]
theorem WK {ys:List PX}{pos:Pos}(h:ys.all noStar=true):((backTo pos (starEach ys env)).any (·.1)||(backToKw pos (keywordEach [] env)).any (·.1.isNone))=false:=by
 rw[Zy h]; rfl
theorem ZM {fv:Value}{vs:List Value}{o:Out AV}
  (h:∀R:Result->Shared->Prop,EPost c f J s cm o (λv s'=>R (.ok (.ret v)) s') (λe s'=>R (.error e) s')->codeAny (model P0 c.w) A (.call fv ⟨vs,[]⟩) R s)
  (p:EPost c f J s cm o Q E):wpAny (model P0 c.w) A (call fv vs) Q E s:=wpAny_call (h _ p)
theorem uL (os:OSnd c n C){a:PE}{l:List PE}(ha:SE c k n C a)(hl:∀e∈l,SE c k n C e):SE c k n C (.call a l):=λf hcd x h=>by
 replace h:=Zt h
 obtain⟨y0,ys,ks,pos,rfl,h⟩:=h;simp only[Bool.and_eq_true] at h;obtain⟨⟨⟨hk,hy⟩,h1⟩,h2⟩:=h
 replace hy:=QR hy
 cases ieD hk;obtain⟨y,p,rfl,_⟩:=hy;have hns:=WF h2;refine Qm rfl λA rm J s H cm i Q E p=>wpAny_Call_Name_kw ?_
 refine bindG (λQ=>(ha f hcd _ h1).1 A rm J s H cm i Q E) p λv H_1 z s_1 cm_1 e_1 n_1 i_1 r_1 p=>?_
 have key:∀vs H_2 xs s_2 cm_2,Nx f.FA f.FO s_1 cm_1 s_2 cm_2->Inv c f s_2 J H_2 cm_2->c.reps f.FX cm_2 s_2.heap vs xs->EPost c f J s_2 cm_2 (callV C v vs H_2) Q E->∃r,z=.ref r/\FnAt r s_2.heap/\wpAny (model P0 c.w) A (call z xs) Q E s_2:=by
  intro vs H_2 xs s_2 cm_2 n_2 i_2 r_2 p;have rv:=n_2.rep i_1.base r_1;cases v with
  | kref a =>
   obtain rfl:z=.ref a:=r_1;obtain⟨o,fd,ho,hd⟩:=os.k a vs H_2 (λq=>by
    have p':EPost c f J s_2 cm_2 (C.f a vs H_2) Q E:=p;rw[q] at p'; exact p')
   exact⟨a,rfl,⟨o,fd,i_2.base.X _ _ ho,hd⟩,ZM (λR pp=>os.f a vs H_2 f A rm.call J s_2 cm_2 xs i_2 r_2 R pp) p⟩
  | lam m =>
   obtain⟨r,o,e,hR,fd,c',oc,ws,t,q1,q2,q3,q4,q5,q6⟩:=rv;subst e;exact⟨r,rfl,⟨o,fd,hR.1,q1⟩,ZM (λR pp=>os.l m vs H_2 f A rm.call J s_2 cm_2 xs r i_2 ⟨r,o,rfl,hR,fd,c',oc,ws,t,q1,q2,q3,q4,q5,q6⟩ r_2 R pp) p⟩
  | _=>exact p.elim
 have hz:(∃r,z=.ref r)/\EPost c f J s_1 cm_1 ((evL C J l H_1).bind λvs H=>callV C v vs H) Q E:=by
  cases v<;>first | exact p.elim | skip
  ·exact⟨⟨_,r_1⟩,p⟩
  ·obtain⟨r,_,e,_⟩:=r_1; exact⟨⟨r,e⟩,p⟩
 obtain⟨⟨r,rfl⟩,p⟩:=hz;refine callWith_of (WK hns) GQ (WD hns ?_);refine bindG (rp:=c.reps f.FX) (λQ=>Yn l hl f hcd ys h2 pos A rm J s_1 H_1 cm_1 i_1 Q E) p λvs H_2 xs s_2 cm_2 _ n_2 i_2 r_2 p=>?_
 obtain⟨r',e,h3,h4⟩:=key vs H_2 xs s_2 cm_2 n_2 i_2 r_2 p;cases e;exact⟨h3,h4⟩
theorem mtK (P:Params):mtL.all (λp=>findIn (KX P) (.ref p.1) "__getattribute__"==some (some (.builtin "object.__getattribute__"))&&findIn (KX P) (.ref p.1) "__getattr__"==some none&&findIn (KX P) (.ref p.1) (Str.ofString p.2.1)==some (some (.ref p.2.2))&&typeIn (KX P) (.ref p.2.2)==some (.type "function")&&fnIn (KX P) p.2.2&&!attrC p.1 p.2.1)=true:=by kernel_rfl
theorem initK (P:Params):initL.all (λp=>makesIn (KX P) p.1&&keepIn (KX P) (.ref p.1)&&findIn (KX P) (.ref p.1) "__init__"==some (some (.ref p.2))&&typeIn (KX P) (.ref p.2)==some (.type "function"))=true:=by kernel_rfl
theorem uM {K:Frag}(h:fnIn K a=true):∃o fd,K.lookup a=some o/\o.data=.func fd:=by
 unfold fnIn at h;cases e:K.lookup a with
 | none=>rw[e] at h; exact nf h
 | some o =>
  rw[e] at h;obtain⟨cls,dict,data,slots⟩:=o;cases data with
  | func fd=>exact⟨_,fd,rfl,rfl⟩
  | _=>exact nf h
theorem uN {P:Params}(h:fnIn (KX P) a=true)(X:(KX P).In s.heap):FnAt a s.heap:=by
 obtain⟨o,fd,e,d⟩:=uM h;exact⟨o,fd,X _ _ e,d⟩
theorem uO (ok:CkOk c k)(os:OSnd c n C){a:PE}{D:Nat}{nm:String}{fa:Nat}{l:List PE}(ha:SE c k n C a)(hl:∀e∈l,SE c k n C e):SE c k n C (.meth a D nm fa l):=λf hcd x h=>by
 replace h:=Wx h
 obtain⟨y,m,ys,ap,pos,rfl,hln,h20,h0,h⟩:=h;simp only[Bool.and_eq_true,beq_iff_eq] at h;obtain⟨⟨⟨rfl,h1⟩,h2⟩,h3⟩:=h;have hns:=WF h3;have hm:=aaD (mtK c.w.params) _ (ok.mt _ _ _ h1);simp only[Bool.and_eq_true,beq_iff_eq,Bool.not_eq_true'] at hm;obtain⟨⟨⟨⟨⟨m1,m2⟩,m3⟩,m4⟩,m5⟩,m6⟩:=hm;refine Qm rfl λA rm J s H cm i Q E p=>?_
 rw[arm_eval_Call,Y7 h0];refine wpAny_bind (bindG (λQ=>(ha f hcd y h2).1 A rm J s H cm i Q E) p λv H_1 z s_1 cm_1 e_1 n_1 i_1 r_1 p=>?_);obtain⟨⟨D',ks,vs⟩,ho,p⟩:=GPost.opt p;obtain⟨hD,p⟩:=GPost.ite p
 ··have hD:D'=D:=hD
   obtain⟨x0,d,ds,mm,rfl,ea,ed,ac,z⟩:=ZC i_1 r_1 ho;rw[hD] at ea ac;refine wpAny_bind (wpAny_standAt ?_);have hform:methodCallForm (ys.length+([]:List Keyword).length) (backTo pos (starEach ys f.env)) (backToKw pos (keywordEach [] f.env))=true:=by
    have q1:=Zy (pos:=pos) (env:=f.env) hns;have q2:(backTo pos (starEach ys f.env)).all (λx=>!x.1)=true:=by
     rw[List.all_eq_true]; intro t ht;have:=List.any_eq_false.mp q1 t ht;simpa using this
    show ((backTo pos (starEach ys f.env)).all (λx=>!x.1)&&true&&decide (ys.length+0+0<30))=true;rw[q2]; simp; lia
   have hpos:methodCallPos true y f.env ap pos=pure pos:=by unfold methodCallPos; simp[hln]
   unfold methodCall;refine hform ▸ ?_;refine wpAny_bind (wpAny_holding (method_fn (C:=D) (od:=some (dictOf ds mm)) i_1.base.X ⟨ea,rfl,rfl,ed⟩ m1 m2 m3 m4 ?_ ?_))
   ·show (lookIn (Str.ofString nm) (dictOf ds mm)).map (·.isSome)=some false
    rw[lookIn_dict,(Y8 nm z).2.1 λq=>by have:=ac nm q; rw[m6] at this; cases this];rfl
   refine wpAny_bind (wpAny_of_eq hpos ?_);refine callWith_of (WK hns) GQ (WD hns ?_);refine bindG (rp:=c.reps f.FX) (λQ=>Yn l hl f hcd ys h3 pos A rm J s_1 H_1 cm_1 i_1 Q E) p λws H_2 xs s_2 cm_2 _ n_2 i_2 r_2 p=>?_
   exact⟨uN m5 i_2.base.X,ZM (λR pp=>os.f fa (v::ws) H_2 f A rm.call J s_2 cm_2 (.ref x0::xs) i_2 ⟨_,_,rfl,n_2.rep i_1.base r_1,r_2⟩ R pp) p⟩
theorem GR {xs:List Value}(r:Room f A n):RoomC f (A.under (.builtin "type.__call__" ⟨.ref D::xs,[]⟩)) n:=by
 have e1:(Code.builtin "type.__call__" ⟨.ref D::xs,[]⟩).weight=1:=by kernel_rfl
 have e2:(Code.builtin "type.__call__" ⟨.ref D::xs,[]⟩).cUnits=1:=by kernel_rfl
 have e3:(Code.builtin "type.__call__" ⟨.ref D::xs,[]⟩).envs=[]:=by kernel_rfl
 refine⟨r.hh,?_,?_,?_⟩
 ·show A.depth+_+_+_<=_; rw[e1,Nat.add_right_comm A.depth]; exact Nat.le_of_succ_le r.depth
 ·show A.units+_+_+_<=_; rw[e2,Nat.add_right_comm A.units]; exact Nat.le_trans (Nat.add_le_add_left (by decide:81<=100) _) r.units
 ·simp only[Around.under,e3,r.frames]; rfl
theorem uP (ok:CkOk c k)(os:OSnd c n C){nm:String}{D fi:Nat}{l:List PE}(hl:∀e∈l,SE c k n C e):SE c k n C (.new nm D fi l):=λf hcd x h=>by
 replace h:=Zv h
 obtain⟨y,ys,q,pos,rfl,h⟩:=h;simp only[Bool.and_eq_true] at h;obtain⟨⟨⟨h0,h1⟩,h2⟩,h3⟩:=h;have hns:=WF h3;have hm:=aaD (initK c.w.params) _ (ok.init _ _ h2);simp only[Bool.and_eq_true,beq_iff_eq] at hm;obtain⟨⟨⟨m1,m2⟩,m3⟩,m4⟩:=hm;obtain⟨_,val,e,gv⟩:=ok.g nm _ h1;cases J1 h0;cases gv;refine Qm rfl λA rm J s H cm i Q E p=>wpAny_Call_Name_kw (Y6 i h0 e ?_)
 refine callWith_of (WK hns) (keeps_K m2) (WD hns ?_);refine bindG (rp:=c.reps f.FX) (λQ=>Yn l hl f hcd ys h3 pos A rm J s H cm i Q E) p λws H_1 xs s_1 cm_1 _ n_1 i_1 r_1 p=>?_
 refine⟨i_1.base.X,wpAny_call ?_⟩;have X:=i_1.base.X;obtain⟨hh,gg,dd,tt,oo⟩:=s_1;refine make_core (makes_of X m1) (looks_findIn X m3) (λself=>bind_fn X self m4) (.inl rfl) ?_;have g1:Grow ⟨hh,gg,dd,tt,oo⟩ ⟨(hh.push emptyDict).push (instObj D hh.objs.size),gg,dd,tt,oo⟩:=(Grow.push ⟨hh,gg,dd,tt,oo⟩ emptyDict tt).trans (Grow.push ⟨hh.push emptyDict,gg,dd,tt,oo⟩ _ tt);have ex:((hh.push emptyDict).push (instObj D hh.objs.size)).get? (hh.objs.size+1)=some (instObj D hh.objs.size):=by
  have:=Heap.get?_push_size (hh.push emptyDict) (o:=instObj D hh.objs.size) rfl
  rwa [Heap.size_push] at this
 have ed:((hh.push emptyDict).push (instObj D hh.objs.size)).get? hh.objs.size=some emptyDict:=Heap.get?_push_of_some _ (Heap.get?_push_size _ rfl);have i_2:=i_1.addCell (a:=hh.objs.size+1) (l:=[hh.objs.size+1,hh.objs.size]) (x:=.obj D [] []) g1 (by simp) (λa ha=>by
  rcases mcD ha with ha | ha
  ·subst ha; exact⟨Heap.get?_none_of_le (Nat.le_succ _),by show ((hh.push emptyDict).push _).get? _≠none; rw[ex]; nofun⟩
  ·cases msD ha; exact⟨Qk _,by show ((hh.push emptyDict).push _).get? _≠none; rw[ed]; nofun⟩)
  ⟨hh.objs.size,rfl,Nat.succ_ne_self _,[],0,ex,ed,by simp,nofun,rfl,rfl⟩
 have nx0:Nx f.FA f.FO ⟨hh,gg,dd,tt,oo⟩ cm_1 ⟨(hh.push emptyDict).push (instObj D hh.objs.size),gg,dd,tt,oo⟩ (cm_1++[(hh.objs.size+1,[hh.objs.size+1,hh.objs.size])]):=g1.nxAdd (λa ha=>by
  rcases mcD ha with ha | ha
  ·subst ha; exact Heap.get?_none_of_le (Nat.le_succ _)
  ·cases msD ha; exact Qk _)
 have hc:(cm_1++[(hh.objs.size+1,[hh.objs.size+1,hh.objs.size])])[H_1.length]?=some (hh.objs.size+1,[hh.objs.size+1,hh.objs.size]):=by simp only[<-i_1.base.len,List.getElem?_concat_length]
 refine os.f fi (.cell H_1.length::ws) (H_1++[.obj D [] []]) f _ (GR rm) J _ _ (.ref (hh.objs.size+1)::xs) i_2 ⟨_,_,rfl,⟨_,hc,rfl⟩,nx0.reps i_1.base r_1⟩ _ ?_;cases hr:C.f fi (.cell H_1.length::ws) (H_1++[.obj D [] []]) with
 | ok v H_2 =>
  rw[hr] at p;intro y s' cm' nx iv rv;cases v<;>first | exact p.elim | skip
  obtain rfl:y=.none:=rv;obtain⟨p',hp',hp1,_⟩:=nx.cms _ _ hc;exact⟨rfl,p _ s' cm' (nx0.trans nx) iv ⟨p',hp',by rw[hp1]⟩⟩
 | exc m H_2 =>
  rw[hr] at p;intro e s' cm' nx iv ex;exact p e s' cm' (nx0.trans nx) iv (ex.older nx0.alive)
 | stuck=>replace p:=hr ▸ p; exact p.elim
theorem uQ {pos pos':Pos}{c cv:Value}(l:List Value)(h:TriplesOk l)(hn:codeAmong pos' (l++[rawInt pos.line,rawInt pos.col,c])=some cv):codeAmong pos' l=some cv\/cv=c:=by
 fun_induction TriplesOk l with
 | case1 =>
  dsimp only[List.nil_append,codeAmong,rawInt] at hn;split at hn
  ·cases hn; exact .inr rfl
  ·exact no hn
 | case2 a t b u x rest ih =>
  dsimp only[List.cons_append,codeAmong] at hn ⊢;split at hn
  ·rename_i q; rw[if_pos q]; exact .inl hn
  ·rename_i q; rw[if_neg q]; exact ih h hn
 | case3=>exact h.elim
theorem uR {pos:Pos}{c:Value}(l:List Value)(h:TriplesOk l):TriplesOk (l++[rawInt pos.line,rawInt pos.col,c]):=by
 fun_induction TriplesOk l with
 | case1=>trivial
 | case2 a t b u x rest ih=>exact ih h
 | case3=>exact h.elim
theorem uT {M:Model}{A:Around}{E:VS}{name qual:Str}{params:Arguments}{body:PX}{scope:Scope}{ca P:Addr}{ps:Array Value}{pos:Pos}{firstLine:Nat}{mg:Str->Option Value}
  (hcl:closureFor scope env=pure []) (hge0:env.globals=mainGlobals) (hg:s.heap.Ns mainGlobals mg) (hcode:env.code=.ref ca) (C:CodeHd s.heap ca P) (hP:s.heap.get? P=some (tabObj ps)) (ht:TriplesOk ps.toList)
  (hnf:codeAmong pos ps.toList=none) (hgP:mainGlobals≠P) (hb:s.heap.BuiltinsAt mg P)
  (h:∀c' h' tk,Heap.ExtBut P s.heap h'->s.heap.objs.size<=c'->c'<h'.objs.size->h'.CodeRec (.ref c') qual->(∃o,h'.get? c'=some o/\o.cls=.type "code")->h'.get? P=some (tabObj (ps++#[rawInt pos.line,rawInt pos.col,.ref c'])) ->
   Q (.ref h'.objs.size) {s with heap:=h'.push (kla_obj name qual params body scope [] ((mg "__name__").getD .none) c' .none),toks:=tk}) :
  wpAny M A (makeFunction name qual params (.expr body) scope env [] [] [] pos firstLine) Q E s:=by
 rw[makeFunction_eq];simp only[List.zip_nil_right,List.filterMap_nil,List.isEmpty_nil,if_true,pure_bind];obtain⟨bm,ob,hbm,hne0,_,hneP,hbo,hcls,hdict,hdata⟩:=hb;unfold makeTail;rw[hcl,hge0];refine wpAny_bind (wpAny_pure ?_);refine wpAny_bind (wpAny_pure ?_);refine wpAny_bind (wpAny_functionCodeX hcode (C.code hP ht) (C.tab hP) hnf λc' h' tk hx hge hlt _ hrec htb hcc=>?_);have hg':=hg.extBut hx hgP;refine wpAny_bind (wpAny_builtinsFor hg' hbm hne0 (hx _ _ hneP hbo) hcls hdict hdata ?_);refine wpAny_bind (wpAny_nsGet hg' ?_);obtain⟨_,_,_,⟨o,_,e1,e2,_⟩,_⟩:=hcc;exact wpAny_bind (wpAny_pure (wpAny_newObj_type (h c' h' tk hx hge hlt hrec ⟨o,e1,e2⟩ htb.2) (by size_fits)))
theorem uU (ok:CkOk c k){m:Nat}:SE c k n C (.lam m):=λf hcd x h=>by
 replace h:=kE h
 obtain⟨a,bd,sc,p,rfl,h⟩:=h;obtain⟨⟨ca,q1,q2⟩,q3,q4,q5,q6⟩:=ok.lm m a bd sc p h;refine Qm rfl λA rm J s H cm i Q E pp=>kla_eval (q4 _) ?_
 have X:=i.base.X;obtain⟨ps,eP,tok,hcodes⟩:=i.base.tab;have hgl:=i.base.ns c.T.g (by decide);have hlq:f.env.qual++Str.ofString "<lambda>"=c.lq:=by rw[hcd.2]; exact q3
 have hbl:s.heap.BuiltinsAt c.mg gh:=by
  obtain⟨bm,ob,b1,b2,b3,b4,b5,b6⟩:=c.blt;exact⟨bm,ob,b1,b2,b3,b4,i.base.old _ _ b4 b5,b6⟩
 cases hf:codeAmong p ps.toList with
 | some cv =>
  obtain⟨c',oc,vs,t,rfl,hR,hd,hv⟩:=hcodes p cv hf;refine kla_makeFunctionHit (mg:=c.mg) (q5 _) f.ok.globals hgl (hcd.1.trans q1) (q2 _ X) eP tok hf hbl λctv h' tk hk hsz=>?_
  have g1:Grow s {s with heap:=h',toks:=tk}:=Grow.of hk;have i1:=g1.inv i;have g2:=g1.trans (Grow.push {s with heap:=h',toks:=tk} {cls:=.type "function",data:=.func (kla_fn "<lambda>" (f.env.qual++"<lambda>") a bd sc [] ((c.mg "__name__").getD .none) (.ref c') ctv)} tk);refine EPost.end pp i g2 ⟨_,_,rfl,i1.base.rr_new (Heap.get?_push_size _ rfl) rfl (Qk _),_,c',oc,vs,t,rfl,rfl,g2.rr _ _ hR,hd,?_,q6 _ rfl rfl rfl rfl rfl rfl rfl⟩;rw[hv,<-hlq]
 | none =>
  refine uT (mg:=c.mg) (q5 _) f.ok.globals hgl (hcd.1.trans q1) (q2 _ X) eP tok hf (by decide) hbl λc' h' tk hx hge hlt hrec hcc htb=>?_
  obtain⟨c2,oc,vs,t,e1,hoc,hd,hv⟩:=hrec;cases e1
  replace hv:vs[1]?=some (.str (f.env.qual++Str.ofString "<lambda>") t):=hv
  have hnew:s.heap.get? c'=none:=Heap.get?_none_of_le hge;have b:=i.base;have hgF:gh ∉ f.FX/\gh ∉ adr cm:=⟨λq=>c.glow (b.lo _ (.inl q)).1,λq=>c.glow (b.lo _ (.inr q)).1⟩;have stT:∀ps,stab (tabObj ps)=false:=λps=>rfl
  have hR:∀a o,Rr f.FX cm s.heap a o->Rr f.FX cm h' a o:=λa o q70=>by obtain⟨e,st,n1,n2⟩:=q70; exact⟨hx a o (λq=>by rw[q,eP] at e; cases e; rw[stT] at st; cases st) e,st,n1,n2⟩
  have hocs:oc.cls=.type "code":=by obtain⟨o,e1,e2⟩:=hcc; rw[hoc] at e1; cases e1; exact e2
  have hRc:Rr f.FX cm h' c' oc:=b.rr_new hoc (by simp[stab,hd,hocs]) hnew;have hgh:h'.get? gh=some (tabObj (ps++#[rawInt p.line,rawInt p.col,.ref c'])):=htb;have b1:Base c f.FX {s with heap:=h',toks:=tk} H cm:=by
   refine⟨b.len,λj q y e1 e2=>QM (λa o ha e=>hx a o (λq=>hgF.2 (q ▸ Qz e1 ha)) e) hR (.refl _) (b.cells j q y e1 e2),λa h=>⟨(b.lo a h).1,?_⟩,b.dj,b.nd,λa o ne e=>hx a o ne (b.old a o ne e),b.gens,b.os,⟨_,hgh,?_,λpos' cv hq=>?_⟩⟩
   ·cases e:s.heap.get? a with
    | none=>exact absurd e (b.lo a h).2
    | some o=>show h'.get? a≠none; refine (hx a o (λq=>h.elim (λh=>hgF.1 (q ▸ h)) λh=>hgF.2 (q ▸ h)) e) ▸ ?_; nofun
   ·rw[Array.toList_append]; exact uR _ tok
   ·rw[Array.toList_append] at hq
    rcases uQ _ tok hq with hq | hq
    ·obtain⟨c3,o3,v3,t3,z1,z2,z3⟩:=hcodes pos' cv hq
     exact⟨c3,o3,v3,t3,z1,hR _ _ z2,z3⟩
    ·exact⟨c',oc,vs,t,hq,hRc,hd,by rw[hv]; rw[show f.env.qual++Str.ofString "<lambda>"=c.lq from hlq]⟩
  have hal:∀a,s.heap.get? a≠none->h'.get? a≠none:=λa h=>by
   by_cases hg:a=gh
   ·rw[hg,hgh]; nofun
   ·cases e:s.heap.get? a with
    | none=>exact absurd e h
    | some o=>rw[hx a o hg e]; nofun
  have hno:∀a,a∈f.FA\/a∈f.FO->a≠gh:=λa h q=>hgF.1 (q ▸ Ql h)
  have nx1:Nx f.FA f.FO s cm {s with heap:=h',toks:=tk} cm:=⟨λa o e h0 _ _ _=>hx a o h0 e,λa o e h=>⟨o.slots,hx a o (hno a (.inr h)) e⟩,.refl _,λ_ h=>.inl h,hal⟩;have i1:=i.move nx1 (λa o h e=>hx a o (hno a (.inl h)) e) b1;have g2:=Grow.push {s with heap:=h',toks:=tk} (kla_obj "<lambda>" (f.env.qual++"<lambda>") a bd sc [] ((c.mg "__name__").getD .none) c' .none) tk;refine pp _ _ _ (nx1.trans g2.nx) (g2.inv i1) ⟨_,_,rfl,i1.base.rr_new (Heap.get?_push_size _ rfl) rfl (Qk _),_,c',oc,vs,t,rfl,rfl,g2.rr _ _ hRc,hd,hv,q6 _ rfl rfl rfl rfl rfl rfl rfl⟩
structure OwnTurn (f:Fm)(a:Addr)(s s':Shared):Prop where
 own:a∈f.FA
 same:∀b,b≠a->s'.heap.get? b=s.heap.get? b
 here:s'.heap.get? a≠none
 gens:s'.gens=s.gens
 os:s'.os=s.os
theorem OwnTurn.nx (x:OwnTurn f a s s')(i:Inv c f s J H cm):Nx f.FA f.FO s cm s' cm where
 keep b o e _ h1 _ _:=(x.same b λq=>h1 (q ▸ x.own)).trans e
 outer b o e h:=⟨o.slots,(x.same b λq=>(i.dj a x.own).1 (q ▸ h)).trans e⟩
 cms:=.refl _
 new _ h:=.inl h
 alive b h:=by
  by_cases q:b=a
  ·rw[q]; exact x.here
  ·rw[x.same b q]; exact h
theorem OwnTurn.base (x:OwnTurn f a s s')(i:Inv c f s J H cm):Base c f.FX s' H cm:=by
 have b:=i.base;have hF:a∈f.FX:=Ql (.inl x.own);have hne:∀y,y∈adr cm->y≠a:=λy h q=>b.dj a hF (q ▸ h)
 have rr:=(x.nx i).rr b;have hold:∀y o,c.h_1.get? y=some o->y≠a:=λy o e q=>by rw[q,(b.lo a (.inl hF)).1] at e; exact no e
 exact⟨b.len,λj p y e1 e2=>QM (λy o hy e=>(x.same y (hne y (Qz e1 hy))).trans e) rr (.refl _) (b.cells j p y e1 e2),λy h=>⟨(b.lo y h).1,(x.nx i).alive y (b.lo y h).2⟩,b.dj,b.nd,
  λy o n e=>(x.same y (hold y o e)).trans (b.old y o n e),x.gens.trans b.gens,x.os.trans b.os,
  b.tab.mono (λo e=>(x.same gh λq=>c.glow (by rw[q]; exact (b.lo a (.inl hF)).1)).trans e) rr⟩
theorem OwnTurn.frs (x:OwnTurn f a s s')(i:Inv c f s J H cm)(hn:∀o,s'.heap.get? a=some o->∀vs,o.data≠.fields vs):∀e∈f.fs,FrsP s'.heap e f.FA f.FO:=by
 intro e he;obtain⟨h1,L,o,h2,h3,h4,h5⟩:=i.frs e he;by_cases q:L=a
 ·cases e2:s'.heap.get? a with
  | none=>exact absurd e2 x.here
  | some o'=>exact⟨h1,L,o',h2,by rw[q]; exact e2,hn o' e2,h5⟩
 ·exact⟨h1,L,o,h2,(x.same L q).trans h3,h4,h5⟩
theorem slot_set {h h':Heap}{k j:Nat}{av:AV}{v:Option Value}(hj:j≠k)(rr:∀a o,Rr FX cm h a o->Rr FX cm h' a o)(z:slotIs c FX cm h J j v):slotIs c FX cm h' (J.set k av) j v:=λav' e n=>by
 rw[List.getElem?_set_ne (Ne.symm hj)] at e;obtain⟨x,e1,r⟩:=z av' e n;exact⟨x,e1,Cx.rep_mono rr (.refl _) r⟩
theorem GX {k:Nat}{av:AV}{v:Value}(r:c.rep FX cm h av v):slotIs c FX cm h (J.set k av) k (some v):=λav' e n=>by
 replace e:=(List.getElem?_set) ▸ e
 simp only[if_true] at e;split at e
 ·cases e; exact⟨v,rfl,r⟩
 ·exact no e
theorem Jv {y:Str}{k:Nat}{kd:NameKind}{av:AV}{v:Value}{Q:Unit->Shared->Prop}(h1:f.σ.lookup y=some k)(h2:f.sc.lookup y=some kd)(h3:kd=.local\/kd=.cell)(how:f.ow y=true)(i:Inv c f s J H cm)(r:c.rep f.FX cm s.heap av v)
  (hQ:∀s',Nx f.FA f.FO s cm s' cm->Inv c f s' (J.set k av) H cm->Q () s'):wpAny M A (storeName f.env y v) Q E s:=by
 have hk:f.env.kindOf y=some kd:=Jt.trans h2;rcases h3 with rfl | rfl
 ·obtain⟨m,hns,z⟩:=i.ns
  refine wpAny_storeName_local hk hns (λh' hn' hs'=>?_) (by rw[f.ok.kind]; rfl);obtain⟨on,es,ep,e1,e2,-⟩:=id hn';have t:OwnTurn f f.env.locals s {s with heap:=h',toks:=s.toks+1}:=⟨f.ok.loc,λb hb=>hs'.2 b hb,by show h'.get? _≠none; rw[e1]; nofun,rfl,rfl⟩;have rr:=(t.nx i).rr i.base;refine hQ _ (t.nx i) ⟨t.base i,i.dj,i.dj2,⟨_,hn',λx j q1 q2=>?_⟩,λx j kd' c' q1 q2 q3 q4=>?_,t.frs i λo e vs=>by
   have e':h'.get? f.env.locals=some o:=e;rw[e1] at e'; cases e'; rw[e2]; nofun⟩
  ·by_cases hj:j=k
   ·subst hj
    have:=f.ok.slots x y j _ _ q1 h1 q2 h2;subst this;simpa using GX (Cx.rep_mono rr (.refl _) r)
   ·have hxy:x≠y:=λq=>hj (by rw[q,h1] at q1; exact (Option.some.inj q1).symm)
    rw[if_neg hxy];exact slot_set hj rr (z x j q1 q2)
  ·obtain⟨o,ov,e,d,zz⟩:=i.cl x j kd' c' q1 q2 q3 q4
   obtain⟨c'',w1,w2,_⟩:=f.ok.cell x j kd' q1 q2 q3
   replace w1:=q4 ▸ w1; cases w1
   have hj:j≠k:=λq=>by
    subst q;have:=f.ok.slots x y j _ _ q1 h1 q2 h2;subst this
    replace q2:=h2 ▸ q2; cases q2; rcases q3 with q3 | q3<;>cases q3
   exact⟨o,ov,(hs'.2 c' w2).trans e,d,slot_set hj rr zz⟩
 ·obtain⟨ca,w1,w2,-,w4⟩:=f.ok.cell y k _ h1 h2 (.inl rfl)
  obtain⟨o,ov,e,d,zz⟩:=i.cl y k _ ca h1 h2 (.inl rfl) w1;refine wpAny_storeName_cell f.ok.kind hk w1 ⟨o,e,d⟩ λh' hc' hs'=>?_
  obtain⟨on,e1,e2⟩:=id hc';have t:OwnTurn f ca s {s with heap:=h'}:=⟨w4 how,λb hb=>hs'.2 b hb,by show h'.get? _≠none; rw[e1]; nofun,rfl,rfl⟩;have rr:=(t.nx i).rr i.base;refine hQ _ (t.nx i) ⟨t.base i,i.dj,i.dj2,?_,λx j kd' c' q1 q2 q3 q4=>?_,t.frs i λo e vs=>by
   have e':h'.get? ca=some o:=e;rw[e1] at e'; cases e'; rw[e2]; nofun⟩
  ·obtain⟨m,hns,z⟩:=i.ns
   refine⟨m,hns.sameBut hs' (Ne.symm w2),λx j q1 q2=>?_⟩;have hj:j≠k:=λq=>by
    subst q;have:=f.ok.slots x y j _ _ q1 h1 q2 h2;subst this
    replace q2:=h2 ▸ q2; cases q2
   exact slot_set hj rr (z x j q1 q2)
  ·by_cases hca:c'=ca
   ·subst hca
    have:=f.ok.inj x y c' q4 w1;subst this;rw[h1] at q1; cases q1;exact⟨on,_,e1,e2,GX (Cx.rep_mono rr (.refl _) r)⟩
   ·obtain⟨o',ov',e',d',zz'⟩:=i.cl x j kd' c' q1 q2 q3 q4
    have hj:j≠k:=λq=>by
     subst q;have:=f.ok.slots x y j _ _ q1 h1 q2 h2;subst this;rw[w1] at q4; exact hca (Option.some.inj q4).symm
    exact⟨o',ov',(hs'.2 c' hca).trans e',d',slot_set hj rr zz'⟩
theorem uV {a b:LA}:(AV.lst a=AV.lst b)=(a=b):=propext ⟨λh=>by cases h; rfl,λh=>h ▸ rfl⟩
theorem ZP {a b:String}:(AV.str a=AV.str b)=(a=b):=propext ⟨λh=>by cases h; rfl,λh=>h ▸ rfl⟩
theorem uW {a b:Int}:(AV.int a=AV.int b)=(a=b):=propext ⟨λh=>by cases h; rfl,λh=>h ▸ rfl⟩
noncomputable def rngL (a:Int)(n:Nat):LA:=(List.range n).map λi=>.int (a+(i:Nat))
theorem GZ (a:Int)(n:Nat):rngL a (n+1)=.int a::rngL (a+1) n:=by
 unfold rngL;rw[List.range_succ_eq_map,List.map_cons,List.map_map];congr 1
 ·simp
 ·apply List.map_congr_left
  intro i _;rw[Function.comp,uW]
  lia
inductive ItP (R:Rl)(k:String)(I:Addr->Nat->Prop)(Q:List Value->Prop):Prop where
 | mk (a:Addr)(o:Obj)(xs:List Value)(n i:Nat)(r:R a o)(hc:o.cls=.type k)(d:o.data=.seq (List.toArray xs) n)(it:I a i)(q:Q (xs.drop i))
noncomputable def IterAt (c:Cx)(FX:List Addr)(cm:CM)(h:Heap)(it:Addr)(l:LA):Prop :=
 it ∉ FX/\it ∉ adr cm/\c.h_1.get? it=none/\(∃o,h.get? it=some o/\stab o=false) /\
 (ItP (Rr FX cm h) "list" (h.IsListIter it) (c.reps FX cm h l) \/
 ItP (Rr FX cm h) "tuple" (h.IsTupleIter it) (c.reps FX cm h l) \/
 (∃a left,IsRangeIter h it a left 1/\l=rngL a left.toNat))
theorem IterAt.mono {h h':Heap}(x:IterAt c FX cm h it l)(k:∀o,h.get? it=some o->h'.get? it=some o)(n1:it ∉ FX')(n2:it ∉ adr cm')(rr:∀a o,Rr FX cm h a o->Rr FX' cm' h' a o)(cs:CMle cm cm'):IterAt c FX' cm' h' it l:=by
 obtain⟨h1,h2,h3,⟨o,h4,h5⟩,h6⟩:=x;refine⟨n1,n2,h3,⟨o,k o h4,h5⟩,?_⟩;rcases h6 with ⟨a,o,xs,n,i,q1,q2,q3,⟨oi,q4,q5⟩,q6⟩ | ⟨a,o,xs,n,i,q1,q2,q3,⟨oi,q4,q5⟩,q6⟩ | ⟨a,left,q1,q2⟩
 ·exact .inl ⟨a,o,xs,n,i,rr _ _ q1,q2,q3,⟨oi,k _ q4,q5⟩,Cx.reps_mono rr cs q6⟩
 ·exact .inr (.inl ⟨a,o,xs,n,i,rr _ _ q1,q2,q3,⟨oi,k _ q4,q5⟩,Cx.reps_mono rr cs q6⟩)
 ·exact .inr (.inr ⟨a,left,k _ q1,q2⟩)
theorem IterAt.nx (x:IterAt c f.FX cm s.heap it l)(b:Base c f.FX s H cm)(n:Nx f.FA f.FO s cm s' cm'):IterAt c f.FX cm' s'.heap it l:=by
 have hg:it≠gh:=λq=>c.glow (by rw[<-q]; exact x.2.2.1)
 obtain⟨o,e,_⟩:=x.2.2.2.1;have hk:∀o,s.heap.get? it=some o->s'.heap.get? it=some o:=λo e=>n.keep it o e hg (λq=>x.1 (Ql (.inl q))) (λq=>x.1 (Ql (.inr q))) x.2.1
 exact x.mono hk x.1 (n.out e hg (λq=>x.1 (Ql (.inl q))) (λq=>x.1 (Ql (.inr q))) x.2.1) (n.rr b) n.cms
structure ItTurn (it:Addr)(s s':Shared):Prop where
 keep:∀b o,b≠it->s.heap.get? b=some o->s'.heap.get? b=some o
 gens:s'.gens=s.gens
 os:s'.os=s.os
theorem ItTurn.rr (x:ItTurn it s s')(y:IterAt c FX cm s.heap it l):∀a o,Rr FX cm s.heap a o->Rr FX cm s'.heap a o:=λa o q70=>by obtain⟨e,st,n1,n2⟩:=q70; exact (⟨x.keep a o (λq=>by
 obtain⟨oi,e1,e2⟩:=y.2.2.2.1;rw[q,e1] at e; cases e; replace st:=e2 ▸ st; cases st) e,st,n1,n2⟩)
theorem ItTurn.inv (x:ItTurn it s s')(y:IterAt c f.FX cm s.heap it l)(i:Inv c f s J H cm):Inv c f s' J H cm:=by
 have rr:=x.rr y;have b:=i.base;have ne1:∀q,q∈f.FX->q≠it:=λq h e=>y.1 (e ▸ h)
 have ne2:∀q,q∈adr cm->q≠it:=λq h e=>y.2.1 (e ▸ h)
 have some':∀q,q≠it->s.heap.get? q≠none->s'.heap.get? q≠none:=λq hq h=>by
  cases e:s.heap.get? q with
  | none=>exact absurd e h
  | some o=>rw[x.keep q o hq e]; nofun
 refine⟨⟨b.len,λj p z e1 e2=>QM (λq o hq e=>x.keep q o (ne2 q (Qz e1 hq)) e) rr (.refl _) (b.cells j p z e1 e2),λq h=>⟨(b.lo q h).1,some' q (h.elim (ne1 q) (ne2 q)) (b.lo q h).2⟩,b.dj,b.nd,
  λq o n e=>x.keep q o (λw=>by simp only[w,y.2.2.1] at e; cases e) (b.old q o n e),x.gens.trans b.gens,x.os.trans b.os,b.tab.mono (λo e=>x.keep gh o (λw=>c.glow (by rw[w]; exact y.2.2.1)) e) rr⟩,i.dj,i.dj2,?_,?_,?_⟩
 ·obtain⟨m,⟨o,es,ep,e,r⟩,z⟩:=i.ns
  exact⟨m,⟨o,es,ep,x.keep _ _ (ne1 _ (Ql (.inl f.ok.loc))) e,r⟩,λq k e1 e2=>(z q k e1 e2).mono rr (.refl _)⟩
 ·intro q k kd a e1 e2 e3 e4
  obtain⟨o,ov,e,d,z⟩:=i.cl q k kd a e1 e2 e3 e4;obtain⟨a',w1,_,w2,_⟩:=f.ok.cell q k kd e1 e2 e3;obtain rfl:a'=a:=Option.some.inj (w1.symm.trans e4);exact⟨o,ov,x.keep _ _ (ne1 _ (Ql w2)) e,d,z.mono rr (.refl _)⟩
 ·intro e he
  obtain⟨h1,L,o,h2,h3,h4,h5⟩:=i.frs e he;exact⟨h1,L,o,h2,x.keep _ _ (ne1 _ (Ql h5)) h3,h4,h5⟩
theorem ItTurn.nx (x:ItTurn it s_1 s_2)(n:Nx f.FA f.FO s cm s_1 cm_1)(h0:s.heap.get? it=none):Nx f.FA f.FO s cm s_2 cm_1:=n.mod h0 λa o ha e=>x.keep a o ha e
theorem G3 {x:Int}(h:x.natAbs<1000000):-1000000<x/\x<1000000:=⟨Int.neg_lt_of_neg_lt (Int.lt_of_le_of_lt (Int.le_natAbs (a:=-x)) (by rw[Int.natAbs_neg]; exact Int.ofNat_lt.mpr h)),Int.lt_of_le_of_lt Int.le_natAbs (Int.ofNat_lt.mpr h)⟩
theorem fit {x:Int}(h:-1000000<x/\x<1000000):-9223372036854775808<=x/\x<9223372036854775808:=⟨Int.le_of_lt (Int.lt_trans (by decide) h.1),Int.lt_trans h.2 (by decide)⟩
theorem uX {a b:Int}(h:-1000000<a)(h2:b<1000000):0<=(if a<b then b-a else 0)/\(if a<b then b-a else 0)<2000000:=by
 by_cases q:a<b
 ·rw[if_pos q]; exact⟨Int.le_of_lt (Int.sub_pos_of_lt q),Int.add_lt_add h2 (Int.neg_lt_neg h)⟩
 ·refine (if_neg q) ▸ ?_; decide
theorem uY {a b:Int}:((if a<b then b-a else 0).toNat)=(b-a).toNat:=by
 by_cases q:a<b
 ·rw[if_pos q]
 ·rw[if_neg q,Int.toNat_of_nonpos (Int.sub_nonpos_of_le (Int.not_lt.mp q))]; rfl
set_option tactic.hygienic true in
theorem WL {x:Value}(hv:itemsOf v=some l)(r:c.rep f.FX cm s.heap v x)(i:Inv c f s J H cm)
  (hQ:∀s',Grow s s'->s.heap.get? s.heap.objs.size=none->IterAt c f.FX cm s'.heap s.heap.objs.size l->Q (.ref s.heap.objs.size) s'):wpAny (model P0 c.w) A (pyIter x) Q E s:=by
 have n1:s.heap.objs.size ∉ f.FX:=i.fresh (Qk _);have n2:s.heap.objs.size ∉ adr cm:=λq=>(i.base.lo _ (.inr q)).2 (Qk _)
 have n3:=i.base.h1_none (Qk s.heap);cases v<;>first | (exact no hv) | skip
 ·cases hv
  obtain⟨a,o,xs,n,rfl,q1,q2,q3,q4⟩:=r;refine wpAny_pyIter_tuple ⟨o,q1.1,q2,n,q3⟩ ?_;have g:=Grow.push s {cls:=.type "tuple_iterator",data:=.fields #[.ref a,.int 0 0]} s.toks;exact hQ _ g (Qk _) ⟨n1,n2,n3,⟨_,Heap.get?_push_size _ rfl,rfl⟩,.inr (.inl ⟨a,o,xs,n,0,g.rr _ _ q1,q2,q3,⟨_,Heap.get?_push_size _ rfl,rfl,rfl⟩,Cx.reps_mono g.rr (.refl _) q4⟩)⟩
 ·cases hv
  obtain⟨a,o,xs,n,rfl,q1,q2,q3,q4⟩:=r;refine wpAny_pyIter_list ⟨o,q1.1,q2,n,q3⟩ ?_;have g:=Grow.push s {cls:=.type "list_iterator",data:=.fields #[.ref a,.int 0 0]} s.toks;exact hQ _ g (Qk _) ⟨n1,n2,n3,⟨_,Heap.get?_push_size _ rfl,rfl⟩,.inl ⟨a,o,xs,n,0,g.rr _ _ q1,q2,q3,⟨_,Heap.get?_push_size _ rfl,rfl,rfl⟩,Cx.reps_mono g.rr (.refl _) q4⟩⟩
 ·rename_i lo hi
  obtain⟨a,t,u,w,rfl,q1,q2,q3⟩:=r;have hsz:Builtin.Range.rangeSize lo hi 1=if lo<hi then hi-lo else 0:=by
   unfold Builtin.Range.rangeSize;simp
  refine wpAny_pyIter_range (a:=lo) (b:=hi) (c:=1) (t:=t) (u:=u) (v:=w) q1.1 ?_ ?_
  ·have e63:(2:Int) ^ 63=9223372036854775808:=rfl
   unfold Builtin.Range.small Builtin.Range.rangeFitsLong;rw[hsz,e63];simp only[Bool.and_eq_true,decide_eq_true_eq,Bool.or_eq_true,beq_iff_eq,show (1:Int)>0 by decide,if_true];have f1:=G3 q2; have f2:=G3 q3; have z:=uX f1.1 f2.2;refine⟨⟨⟨⟨fit f1,fit f2⟩,by decide⟩,⟨Int.le_trans (by decide) z.1,Int.lt_trans z.2 (by decide)⟩⟩,.inr ?_⟩;rw[Int.sub_self,Int.add_zero]; exact fit f2
  ·have g:=Grow.push s {cls:=.type "range_iterator",data:=.fields #[rawInt lo,rawInt (Builtin.Range.rangeSize lo hi 1),rawInt 1]} s.toks
   refine hQ _ g (Qk _) ⟨n1,n2,n3,⟨_,Heap.get?_push_size _ rfl,rfl⟩,.inr (.inr ⟨lo,Builtin.Range.rangeSize lo hi 1,Heap.get?_push_size _ rfl,?_⟩)⟩;cases hv;rw[hsz];unfold rngL;rw[uY]
theorem G4 {n:Int}(h:0<n):∃m:Nat,n.toNat=m+1/\(n-1).toNat=m:=by
 obtain⟨k,rfl⟩:=Int.eq_succ_of_zero_lt h;exact⟨k,rfl,by rw[Int.add_sub_cancel]; rfl⟩
theorem G5 {xs:List Value}{v:Value}{r:List Value}(e:xs.drop i=v::r):xs.toArray[i]?=some v/\xs.drop (i+1)=r:=by
 have h:(xs.drop i)[0]?=some v:=by rw[e]; rfl
 have k:(xs.drop i).drop 1=r:=by rw[e]; rfl
 simp only[List.getElem?_drop,Nat.add_zero] at h;rw[List.drop_drop] at k;exact⟨by simp only[List.getElem?_toArray]; exact h,k⟩
theorem G6 {xs:List Value}(e:xs.drop i=[]):xs.toArray[i]?=none:=by
 rw[List.getElem?_toArray]; exact List.getElem?_eq_none (List.drop_eq_nil_iff.mp e)
theorem ZQ {x:AV}{Q:Option Value->Shared->Prop}(y:IterAt c f.FX cm s.heap it (x::l))(b:Base c f.FX s H cm)(hQ:∀v s',ItTurn it s s'->c.rep f.FX cm s'.heap x v->IterAt c f.FX cm s'.heap it l->Q (some v) s'):wpAny (model P0 c.w) A (pyNext (.ref it)) Q E s:=by
 obtain⟨h1,h2,h3,h4,h6⟩:=id y;rcases h6 with ⟨a,o,xs,n,i,q1,q2,q3,q4,q6⟩ | ⟨a,o,xs,n,i,q1,q2,q3,q4,q6⟩ | ⟨a,left,q1,q2⟩
 ·obtain⟨v,r,e,rv,rl⟩:=q6
  obtain⟨hx,hr⟩:=G5 e;refine wpAny_pyNext_list_item q4 ⟨o,q1.1,q2,n,q3⟩ hx λh' hi hs=>?_
  have t:ItTurn it s {s with heap:=h'}:=⟨λb o hb e=>(hs.2 b hb).trans e,rfl,rfl⟩;have rr:=t.rr y;obtain⟨oi,z1,z2,z3⟩:=id hi;refine hQ v _ t (Cx.rep_mono rr (.refl _) rv) ⟨h1,h2,h3,⟨oi,z1,by simp[stab,z3,z2]⟩,.inl ⟨a,o,xs,n,i+1,rr _ _ q1,q2,q3,hi,?_⟩⟩;rw[hr];exact Cx.reps_mono rr (.refl _) rl
 ·obtain⟨v,r,e,rv,rl⟩:=q6
  obtain⟨hx,hr⟩:=G5 e;refine wpAny_pyNext_tuple_item q4 ⟨o,q1.1,q2,n,q3⟩ hx λh' hi hs=>?_
  have t:ItTurn it s {s with heap:=h'}:=⟨λb o hb e=>(hs.2 b hb).trans e,rfl,rfl⟩;have rr:=t.rr y;obtain⟨oi,z1,z2,z3⟩:=id hi;refine hQ v _ t (Cx.rep_mono rr (.refl _) rv) ⟨h1,h2,h3,⟨oi,z1,by simp[stab,z3,z2]⟩,.inr (.inl ⟨a,o,xs,n,i+1,rr _ _ q1,q2,q3,hi,?_⟩)⟩;rw[hr];exact Cx.reps_mono rr (.refl _) rl
 ·have hl:0<left:=by
   by_cases h:0<left
   ·exact h
   ·replace q2:=(Int.toNat_of_nonpos (Int.not_lt.mp h)) ▸ q2; cases q2
  obtain⟨m,hm,hm2⟩:=G4 hl;rw[hm,GZ] at q2;cases q2;refine wpAny_pyNext_range_item q1 hl λh' hi hs=>?_
  have t:ItTurn it s {s with heap:=h',toks:=s.toks+1}:=⟨λb o hb e=>(hs.2 b hb).trans e,rfl,rfl⟩;refine hQ _ _ t ⟨_,rfl⟩ ⟨h1,h2,h3,⟨_,hi,rfl⟩,.inr (.inr ⟨a+1,left-1,hi,?_⟩)⟩;rw[hm2]
theorem ZR {Q:Option Value->Shared->Prop}(hh:A.handled=none)(y:IterAt c f.FX cm s.heap it [])(hQ:∀s',ItTurn it s s'->Q none s'):wpAny (model P0 c.w) A (pyNext (.ref it)) Q E s:=by
 obtain⟨h1,h2,h3,h4,h6⟩:=id y;rcases h6 with ⟨a,o,xs,n,i,q1,q2,q3,q4,q6⟩ | ⟨a,o,xs,n,i,q1,q2,q3,q4,q6⟩ | ⟨a,left,q1,q2⟩
 ·have hx:xs.toArray[i]?=none:=G6 q6
  exact wpAny_pyNext_list_end hh q4 ⟨o,q1.1,q2,n,q3⟩ hx λh' he=>hQ _ ⟨λb o hb e=>he b o hb e,rfl,rfl⟩
 ·have hx:xs.toArray[i]?=none:=G6 q6
  exact wpAny_pyNext_tuple_end hh q4 ⟨o,q1.1,q2,n,q3⟩ hx λh' he=>hQ _ ⟨λb o hb e=>he b o hb e,rfl,rfl⟩
 ·have hl:left<=0:=by
   by_cases h:left<=0
   ·exact h
   ·obtain⟨m,hm,_⟩:=G4 (Int.not_le.mp h)
    simp only[hm,GZ] at q2; cases q2
  exact wpAny_pyNext_range_end hh q1 hl λh' he=>hQ _ ⟨λb o hb e=>he b o hb e,rfl,rfl⟩
set_option tactic.hygienic true in
theorem let_go {v:Value}{Q:Unit->Shared->Prop}(y:IterAt c FX cm s.heap it l)(h:Q () s):wpAny M A (letOwnedTupleGo x (.ref it) v) Q E s:=by
 have key:wpAny M A (do
   let (.ref r,.ref a):=(Value.ref it,v) | return
   let o <-load r
   match o.cls,o.data with
   | .type n,.fields vs =>
    if ["enumerate","zip","dict_itemiterator","dict_reverseitemiterator","odict_iterator","itertools.zip_longest","itertools.pairwise"].contains n&&vs[0]?==some (rawInt a) then
     rule "for.unpacks-the-owned-tuple"
     updateField r 0 .none
   | _,_=>pure ():Sem Unit) Q E s:=by
  cases v<;>first | exact wpAny_pure h | skip
  rename_i a;obtain⟨-,-,-,-,h6⟩:=y;rcases h6 with ⟨_,_,_,_,_,_,_,_,⟨o,e,h1,h2⟩,_⟩ | ⟨_,_,_,_,_,_,_,_,⟨o,e,h1,h2⟩,_⟩ | ⟨_,_,e,_⟩
  ·refine wpAny_bind (wpAny_load e ?_)
   rw[h1,h2];exact wpAny_pure h
  ·refine wpAny_bind (wpAny_load e ?_)
   rw[h1,h2];dsimp only;exact wpAny_pure h
  ·refine wpAny_bind (wpAny_load e ?_)
   exact wpAny_pure h
 cases x<;>first | exact wpAny_pure h | exact key
theorem uZ {l:List PX}:∀{xs:List Str},names? l=some xs->∃ps,l=(xs.zip ps).map (λq=>PySem.Expr.Name q.1 q.2)/\ps.length=xs.length:=by
 induction l with
 | nil =>
  intro xs h;cases h; exact⟨[],rfl,rfl⟩
 | cons x l ih =>
  intro xs h;obtain⟨y,hy,h⟩:=obD (show (nameOf x).bind _=some xs from h);obtain⟨p,rfl⟩:=N7 hy;obtain⟨r,hr,rfl⟩:=omD h;obtain⟨ps,rfl,h2⟩:=ih hr;exact⟨p::ps,rfl,by simp[h2]⟩
noncomputable def tokT (sc:Sc)(σ:Sl)(ow:Str->Bool)(x:Str)(k:Nat):Prop:=σ.lookup x=some k/\ow x=true/\(sc.lookup x=some .local\/sc.lookup x=some .cell)
theorem G7 {sc:Sc}{σ:Sl}{ow:Str->Bool}{x:Str}{k:Nat}(h:tokT sc σ ow x k):∃kd,sc.lookup x=some kd/\(kd=.local\/kd=.cell):=h.2.2.elim (λh=>⟨_,h,.inl rfl⟩) λh=>⟨_,h,.inr rfl⟩
theorem u0 (xs:List Str)(ps:List Pos)(ts:List Nat)(l:LA)(vs:List Value)(J:LA)(s:Shared)(Q:Unit->Shared->Prop)(h1:ps.length=xs.length)(hc:∀q∈xs.zip ts,tokT f.sc f.σ f.ow q.1 q.2)(h2:xs.length=ts.length)(hs:Jk ts l J=some J')
  (i:Inv c f s J H cm) (r:c.reps f.FX cm s.heap l vs) (hQ:∀s',Nx f.FA f.FO s cm s' cm->Inv c f s' J' H cm->Q () s') :
  wpAny M A (assignInOrder ((assignEach ((xs.zip ps).map λq=>PySem.Expr.Name q.1 q.2) f.env).map (·.2)) vs) Q E s:=by
 induction xs generalizing ps ts l vs J s with
 | nil =>
  cases ts with
  | cons=>cases h2
  | nil =>
   cases l with
   | nil=>cases hs; exact wpAny_pure (hQ s (Nx.refl ..) i)
   | cons _ _=>exact no hs
 | cons x xs ih =>
  cases ts with
  | nil=>cases h2
  | cons t ts =>
   cases ps with
   | nil=>cases h1
   | cons p ps =>
    cases l with
    | nil=>exact no hs
    | cons v l =>
     obtain⟨w,ws,rfl,rv,rl⟩:=r;have ht:tokT f.sc f.σ f.ow x t:=hc (x,t) (.head _);obtain⟨kd,hk1,hk2⟩:=G7 ht;exact wpAny_bind (wpAny_holding (wpAny_assign_Name (Jv ht.1 hk1 hk2 ht.2.1 i rv λs' n i' =>
      ih ps ts l ws _ s' (Nat.succ.inj h1) (λq hq=>hc q (.tail _ hq)) (Nat.succ.inj h2) hs i' (n.reps i.base rl) λs'' n' i''=>hQ s'' (n.trans n') i'')))
theorem u5 (xs:List Str)(ps:List Pos)(env:Env)(h:ps.length=xs.length):(assignEach ((xs.zip ps).map λq=>PySem.Expr.Name q.1 q.2) env).length=xs.length/\(assignEach ((xs.zip ps).map λq=>PySem.Expr.Name q.1 q.2) env).findIdx? (·.1)=none:=by
 induction xs generalizing ps with
 | nil=>exact⟨rfl,rfl⟩
 | cons x xs ih =>
  cases ps with
  | nil=>cases h
  | cons p ps =>
   obtain⟨h1,h2⟩:=ih ps (Nat.succ.inj h);constructor
   ·show (((false,_):Bool × (Value->Sem Unit))::assignEach ((xs.zip ps).map λq=>PySem.Expr.Name q.1 q.2) env).length=_
    rw[List.length_cons,h1]; rfl
   ·show (((false,_):Bool × (Value->Sem Unit))::assignEach ((xs.zip ps).map λq=>PySem.Expr.Name q.1 q.2) env).findIdx? _=none
    rw[List.findIdx?_cons,h2]; rfl
theorem u6 {ts:List Nat}(h:Jk ts l J=some J'):l.length=ts.length:=by
 induction ts generalizing l J with
 | nil =>
  cases l with
  | nil=>rfl
  | cons=>exact no h
 | cons t ts ih =>
  cases l with
  | nil=>exact no h
  | cons v l=>exact congrArg (·+1) (ih h)
set_option tactic.hygienic true in
theorem G8 {t:List Nat}{one:Bool}{av:AV}{v:Value}{Q:Unit->Shared->Prop}(hc:chkT f.sc f.σ f.ow t one x=true)(hh:A.handled=none)(hb:bindT t one av J=some J')(i:Inv c f s J H cm)(r:c.rep f.FX cm s.heap av v)
  (hQ:∀s',Nx f.FA f.FO s cm s' cm->Inv c f s' J' H cm->Q () s'):wpAny (model P0 c.w) A (assign x f.env v) Q E s:=by
 unfold chkT at hc;split at hc
 ·rename_i b xs hx
  simp only[Bool.and_eq_true,beq_iff_eq,List.all_eq_true,decide_eq_true_eq,Bool.or_eq_true] at hc;obtain⟨⟨⟨hb1,hlen⟩,hall⟩,hnd⟩:=hc;subst hb1;have htok:∀q∈xs.zip t,tokT f.sc f.σ f.ow q.1 q.2:=λq hq=>by
   obtain⟨⟨⟨q1,q2⟩,q3⟩,_⟩:=hall q hq;exact⟨q1,q2,q3⟩
  rcases kZ hx with ⟨y,p,rfl,rfl,rfl⟩ | ⟨elts,q,p,rfl,rfl,hy⟩
  ·cases t with
   | nil=>cases hlen
   | cons k t =>
    cases t with
    | cons=>cases hlen
    | nil =>
     have ht:=htok (y,k) (.head _);cases hb;obtain⟨kd,hk1,hk2⟩:=G7 ht;exact wpAny_assign_Name (Jv ht.1 hk1 hk2 ht.2.1 i r hQ)
  ·obtain⟨ps,rfl,hps⟩:=uZ hy
   cases av with
   | tup l =>
    obtain⟨a,o,vs,n,rfl,q1,q2,q3,q4⟩:=r;obtain⟨e1,e2⟩:=u5 xs ps f.env hps;have hb:Jk t l J=some J':=hb;refine wpAny_assign_Tuple hh ⟨o,q1.1,q2,n,q3⟩ (by simp only[e1,hlen,<-u6 hb,<-QL q4]; rfl) e2 λh' he=>?_
    have gr:Grow s {s with heap:=h'}:=⟨λa o e=>he a o (Nat.ne_of_lt (Heap.lt_size e)) e,rfl,rfl⟩;exact u0 xs ps t l vs J _ Q hps htok hlen hb (gr.inv i) (Cx.reps_mono gr.rr (.refl _) q4) λs' n' i'=>hQ s' (gr.nx.trans n') i'
   | _=>exact no hb
 ·exact nf hc
noncomputable def innerW (w:World)(A:Around)(e elt:PX)(gens:List Comprehension)(d:Nat)(acc:Value)(env:Env)(E:VS)(K:Shared->Prop)(s:Shared):Prop :=
 match gens[d+1]? with
 | some g'=>wpAny (model P0 w) A (eval g'.iter env) (λx s_1=>wpAny (model P0 w) A (pyIter x) (λit s_2=>wpAny (model P0 w) A (runOwn (.compStart e (d+1) it acc env) env) (λ_ s_3=>K s_3) E s_2) E s_1) E s
 | none=>wpAny (model P0 w) A (eval elt env) (λx s_1=>wpAny (model P0 w) A (call (.builtin "list.append") [acc,x]) (λ_ s_2=>K s_2) E s_1) E s
theorem ZS {e:PX}{x:Value}(h:noSet e=true):foldedSetIterable e env x=pure x:=by
 cases e<;>first | rfl | exact nf h
theorem u9 {elt target iter:PX}{gens:List Comprehension}{ifs:List PX}{scope:Scope}{pos:Pos}{d:Nat}{it acc:Value}(hg:gens[d]?=some ⟨target,iter,ifs,0⟩)(hgs:gens.all (λg=>g.is_async==0&&noSet g.iter)=true)(I:Nat->Shared->Prop)
  (turn:∀n s,I n s->∀E,wpAny (model P0 w) A (pyNext it) (λr s_1=>match r with
   | none=>R (.ok .next) s_1
   | some v=>wpAny (model P0 w) A (letOwnedTupleGo target it v) (λ_ s_1=>wpAny (model P0 w) A (assign target env v) (λ_ s_2 =>
     wpAny (model P0 w) A (forIn ifs true λc r=>if r=true then do let ok <-isTrue c env (eval c env); pure (ForInStep.yield ok) else pure (ForInStep.yield r)) (λok s_3 =>
      if ok=true then innerW w A (.ListComp elt gens scope pos) elt gens d acc env E (λs₅=>∃m,m<n/\I m s₅) s_3
      else ∃m,m<n/\I m s_3) E s_2) E s_1) E s_1) E s)
  (n:Nat) (h:I n s):codeAny (model P0 w) A (.compLoop (.ListComp elt gens scope pos) d it acc env) R s:=by
 refine codeAny_loop rfl I (λn s hI=>?_) n h;show wpAny _ A ((compTurn (.ListComp elt gens scope pos) d it acc env).onRaise (λx=>do noteFrame x env; theTreesLotGoes x)) _ _ s;refine wpAny_noted ?_;unfold compTurn;simp only[hg];refine wpAny_bind (wpAny_standAt ?_);rw[if_neg (by decide)];refine wpAny_bind (wpAny_mono (turn n s hI _) (λr s_1 h_1=>?_) λ_ _ h'=>h');cases r with
 | none=>exact wpAny_pure h_1
 | some v =>
  refine wpAny_bind (wpAny_mono h_1 (λ_ s_1 h_1=>wpAny_bind (wpAny_mono h_1 (λ_ s_2 h_2=>wpAny_bind (wpAny_mono h_2 (λok s_3 h_3=>?_) λ_ _ h'=>h')) λ_ _ h'=>h')) λ_ _ h'=>h');cases ok with
  | false =>
   rw[if_neg (by decide)];exact wpAny_pure ⟨rfl,h_3⟩
  | true =>
   rw[if_pos rfl]
   replace h_3:innerW w A _ elt gens d acc env _ (λs₅=>∃m,m<n/\I m s₅) s_3:=h_3
   unfold innerW at h_3;cases hq:gens[d+1]? with
   | none =>
    rw[hq] at h_3;dsimp only at h_3 ⊢;refine wpAny_bind (wpAny_bind (wpAny_mono h_3 (λx s₄ h₄=>wpAny_bind (wpAny_mono h₄ (λ_ s₅ h₅=>wpAny_pure (wpAny_pure ⟨rfl,h₅⟩)) λ_ _ h'=>h')) λ_ _ h'=>h'))
   | some g' =>
    rw[hq] at h_3;dsimp only at h_3 ⊢;have hm:=aaD hgs g' (List.mem_of_getElem? hq);simp only[Bool.and_eq_true,beq_iff_eq] at hm;have h0:¬(g'.is_async != 0)=true:=by rw[hm.1]; decide
    refine wpAny_bind (wpAny_mono h_3 (λx s₄ h₄=>wpAny_bind (wpAny_standAt ?_)) λ_ _ h'=>h');simp only[h0,ZS hm.2,pure_bind];rw[if_neg Bool.false_ne_true];refine wpAny_bind (wpAny_holding ?_);rw[if_neg Bool.false_ne_true];exact wpAny_mono h₄ (λit' s₅ h₅=>wpAny_bind (wpAny_mono h₅ (λ_ s₆ h₆=>wpAny_pure ⟨rfl,h₆⟩) λ_ _ h'=>h')) λ_ _ h'=>h'
theorem G9 {elt target iter:PX}{gens:List Comprehension}{ifs:List PX}{scope:Scope}{pos:Pos}{d:Nat}{it acc:Value}(hg:gens[d]?=some ⟨target,iter,ifs,0⟩)
  (h0:codeAny (model P0 w) A (.compLoop (.ListComp elt gens scope pos) d it acc env) R s)
  (h:∀E,wpAny (model P0 w) A (pyIter it) (λit' s'=>codeAny (model P0 w) A (.compLoop (.ListComp elt gens scope pos) d it' acc env) R s') E s) :
  codeAny (model P0 w) A (.compStart (.ListComp elt gens scope pos) d it acc env) R s:=by
 refine codeAny_of_tree ?_;show wpAny _ _ ((compStart (.ListComp elt gens scope pos) d it acc env).onRaise (λx=>do noteFrame x env; standAt theWindowsPlace)) _ _ s;refine wpAny_notedAt ?_;unfold compStart;have hc:(clausesOf (.ListComp elt gens scope pos))[d]?=some ⟨target,iter,ifs,0⟩:=hg;refine hc ▸ ?_;show wpAny _ _ (ask >>= _) _ _ s;refine wpAny_bind (wpAny_askSetting (wpAny_ite ?_));split
 ·first
   | exact wpAny_bind (wpAny_pure (wpAny_pure (And.intro rfl h0)))
   | exact wpAny_pure (And.intro rfl h0)
 ·first
   | exact wpAny_bind (wpAny_rule (wpAny_bind (wpAny_standAt (wpAny_bind (wpAny_mono (h _) (λit' s' h'=>wpAny_pure (And.intro rfl h')) λ_ _ x=>x)))))
   | (refine wpAny_bind (wpAny_rule ?_); show wpAny _ _ (standAt iter.pos >>= _) _ _ s; exact wpAny_bind (wpAny_standAt (wpAny_bind (wpAny_mono (h _) (λit' s' h'=>wpAny_pure (And.intro rfl h')) λ_ _ x=>x))))
noncomputable def AccAt (c:Cx)(FX:List Addr)(cm:CM)(h:Heap)(D:Addr)(acc:LA):Prop :=
 ∃xs n,h.get? D=some {cls:=.type "list",dict:=none,data:=.seq (List.toArray xs) n,slots:=#[]}/\c.reps FX cm h acc xs
noncomputable def AccPost (c:Cx)(g:Fm)(J:LA)(s:Shared)(cm:CM)(D:Addr)(o:Out (LA))(K:Shared->Prop):Prop:=match o with
 | .ok acc H=>∀s' cm',Nx (D::g.FA) g.FO s cm s' cm'->Inv c g s' J H cm'->AccAt c g.FX cm' s'.heap D acc->K s'
 | _=>False
theorem Nx.more {FA':List Addr}(h:∀a,a∈FA->a∈FA')(x:Nx FA FO s cm s' cm'):Nx FA' FO s cm s' cm' :=
 ⟨λa o e h0 h1 h2 h3=>x.keep a o e h0 (λq=>h1 (h a q)) h2 h3,x.outer,x.cms,λa q=>by
  rcases x.new a q with q | q | q | q | q
  ·exact .inl q
  ·exact .inr (.inl q)
  ·exact .inr (.inr (.inl q))
  ·exact .inr (.inr (.inr (.inl (h a q))))
  ·exact .inr (.inr (.inr (.inr q))),x.alive⟩
theorem AccAt.nx (x:AccAt c g.FX cm s.heap D acc)(hD:D∈g.FZ)(i:Inv c g s J H cm)(n:Nx g.FA g.FO s cm s' cm'):AccAt c g.FX cm' s'.heap D acc:=by
 obtain⟨xs,m,e,r⟩:=x;have hX:D∈g.FX:=List.mem_append_right _ (List.mem_append_right _ hD);exact⟨xs,m,n.keep D _ e (λq=>c.glow (by rw[<-q]; exact (i.base.lo D (.inl hX)).1)) (λq=>(i.dj D q).2 hD) (λq=>i.dj2 D q hD) (i.base.dj D hX),n.reps i.base r⟩
theorem oh {x:Value}(hD:D∈g.FZ)(i:Inv c g s J H cm)(y:AccAt c g.FX cm s.heap D acc)(r:c.rep g.FX cm s.heap v x)(hl:acc.length<=100000)
  (hQ:∀s',Nx (D::g.FA) g.FO s cm s' cm->Inv c g s' J H cm->AccAt c g.FX cm s'.heap D (acc++[v])->Q .none s'):wpAny (model P0 c.w) A (call (.builtin "list.append") [.ref D,x]) Q E s:=by
 obtain⟨xs,m,e,rs⟩:=y;have hX:D∈g.FX:=List.mem_append_right _ (List.mem_append_right _ hD);have hxl:=QL rs;refine call_meets PySem.F.slot_list_append ⟨_,e,rfl⟩ PySem.F.entry_list_append (PySem.F.args_list_append_2 _ _) (AutoListH.list_append_list_val_0 D xs.toArray m x (by rw[List.size_toArray,sizeLine_eq]; lia)) ⟨e,?_⟩;have hn:=Heap.get?_update_self (Obj.mapSeq λx_1=>x_1.push x) e rfl;have hb:∀a o,a≠D->s.heap.get? a=some o->(s.heap.update D (Obj.mapSeq λx_1=>x_1.push x)).get? a=some o:=λa o ha e=>(Heap.get?_update_ne _ _ _ _ ha).trans e
 have nx:Nx (D::g.FA) g.FO s cm {s with heap:=s.heap.update D (Obj.mapSeq λx_1=>x_1.push x)} cm:=⟨λa o e _ h1 _ _=>hb a o (λq=>h1 (by rw[q]; exact .head _)) e,λa o e h=>⟨o.slots,hb a o (λq=>i.dj2 a h (q ▸ hD)) e⟩,.refl _,λ_ h=>.inl h,λa h=>by
  by_cases q:a=D
  ·subst q; show (s.heap.update a _).get? a≠none; rw[hn]; nofun
  ·cases e2:s.heap.get? a with
   | none=>exact absurd e2 h
   | some o=>show (s.heap.update D _).get? a≠none; refine (hb a o q e2) ▸ ?_; nofun⟩
 have rr:∀a o,Rr g.FX cm s.heap a o->Rr g.FX cm (s.heap.update D (Obj.mapSeq λx_1=>x_1.push x)) a o:=λa o q70=>by obtain⟨e,st,n1,n2⟩:=q70; exact⟨hb a o (λq=>n1 (q ▸ hX)) e,st,n1,n2⟩
 refine hQ _ nx (i.zmodF hD hb (by show (s.heap.update D _).get? D≠none; rw[hn]; nofun) rfl rfl) ⟨xs++[x],(if (xs.toArray.push x).size==xs.toArray.size then m else m+1),?_,Wq (Cx.reps_mono rr (.refl _) rs) (U0 (Cx.rep_mono rr (.refl _) r))⟩
 have e2:(xs++[x]).toArray=xs.toArray.push x:=by simp
 rw[e2];exact hn
theorem bindA {t:Sem β}{o:Out α}{kk:α->AH->Out (LA)}{Q:β->Shared->Prop}(ih:∀Q E,GPost c rp g J' s cm o Q E->wpAny M A t Q E s)(h:AccPost c g J s_0 cm_0 D (o.bind kk) K)
  (hk:∀v H_1 x s_1 cm_1,o=.ok v H_1->Nx g.FA g.FO s cm s_1 cm_1->Inv c g s_1 J' H_1 cm_1->rp cm_1 s_1.heap v x->AccPost c g J s_0 cm_0 D (kk v H_1) K->Q x s_1):wpAny M A t Q E s:=by
 refine ih Q E ?_;cases o with
 | ok v H=>exact λx s_1 cm_1 n i r=>hk v H x s_1 cm_1 rfl n i r h
 | exc m H=>exact h.elim
 | stuck=>exact h.elim
theorem oA (zs:List PX)(env:Env):forIn zs false (λc r=>if r=true then do let ok <-isTrue c env (eval c env); pure (ForInStep.yield ok) else pure (ForInStep.yield r))=(pure false:Sem Bool):=by
 induction zs with
 | nil=>rfl
 | cons z zs ih=>rw[List.forIn_cons]; exact ih
theorem oE (e:PE)(l:List PE):evIfs C J (e::l) H=(evT C J e H).bind λb H=>if b=true then evIfs C J l H else .ok false H:=by
 show (evE C J e H).bind _=((evE C J e H).bind _).bind _;cases evE C J e H with
 | ok v H_1 =>
  show Out.opt (pTruth v) _=(Out.ofOpt (pTruth v) H_1).bind _;cases pTruth v with
  | none=>rfl
  | some b=>cases b<;>rfl
 | _=>rfl
theorem oF (rm:Room g A n)(hcd:FrOk k g.env)(l:List PE)(hs:∀e∈l,SE c k n C e)(zs:List PX)(h:chkL k l g.sc g.σ zs=true)(s:Shared)(H:AH)(cm:CM)(Q:Bool->Shared->Prop)(E:VS)(i:Inv c g s J H cm)(p:TPost c g J s cm (evIfs C J l H) Q E) :
  wpAny (model P0 c.w) A (forIn zs true λc r=>if r=true then do let ok <-isTrue c g.env (eval c g.env); pure (ForInStep.yield ok) else pure (ForInStep.yield r)) Q E s:=by
 induction l generalizing zs s H cm with
 | nil=>cases JM h; exact wpAny_pure (p true s cm (Nx.refl ..) i rfl)
 | cons e l ih =>
  obtain⟨y,r,rfl,_,h1,h2⟩:=Jf h;rw[oE] at p;rw[List.forIn_cons,if_pos rfl];refine wpAny_bind (wpAny_bind (bindG (rp:=λ_ _ (a b:Bool)=>a=b) (rp':=λ_ _ (a b:Bool)=>a=b) (λQ=>(hs e (.head _) g hcd y h1).2 A rm J s H cm i Q E) p λv H_1 z s_1 cm_1 _ n_1 i_1 r_1 p=>wpAny_pure ?_));subst r_1;cases v with
  | true=>exact ih (λe he=>hs e (.tail _ he)) r h2 s_1 H_1 cm_1 i_1 p
  | false=>dsimp only; rw[oA]; exact wpAny_pure (p false s_1 cm_1 (Nx.refl ..) i_1 rfl)
theorem Inv.forget (h:∀(j:Nat) (av:AV),J[j]?=some av->av≠.unset->J'[j]?=some av)(i:Inv c f s J' H cm):Inv c f s J H cm:=by
 have hs:∀{FX:List Addr} {hh:Heap} {j:Nat} {v:Option Value},slotIs c FX cm hh J' j v->slotIs c FX cm hh J j v:=λz av e n=>z av (h _ av e n) n
 exact⟨i.base,i.dj,i.dj2,let ⟨m,n,z⟩:=i.ns; ⟨m,n,λx j e1 e2=>hs (z x j e1 e2)⟩,λx j kd a e1 e2 e3 e4=>let ⟨o,ov,e,d,z⟩:=i.cl x j kd a e1 e2 e3 e4; ⟨o,ov,e,d,hs z⟩,i.frs⟩
noncomputable def unsetAt (J:LA)(j:Nat):Prop:=∀av:AV,J[j]?=some av->av=.unset
theorem qg {ts:List Nat}(h:Jk ts l J=some J')(j:Nat)(hj:j ∉ ts):J'[j]?=J[j]?:=by
 induction ts generalizing l J with
 | nil=>cases l with | nil=>cases h; rfl | cons _ _=>exact no h
 | cons t ts ih =>
  cases l with
  | nil=>exact no h
  | cons v l=>exact (ih h (λq=>hj (.tail _ q))).trans (List.getElem?_set_ne (λq=>hj (by rw[q]; exact .head _)))
theorem oG {t:List Nat}{one:Bool}{x:AV}(h:bindT t one x J=some J'):∀j,j ∉ t->J'[j]?=J[j]?:=by
 cases one with
 | true=>exact qg h
 | false=>cases x with | tup l=>exact qg h | _=>exact no h
theorem qi (y:IterAt c FX cm s.heap it l)(h:Q (.ref it) s):wpAny (model P0 c.w) A (pyIter (.ref it)) Q E s:=by
 obtain⟨_,_,_,_,h6⟩:=y;rcases h6 with ⟨a,o,xs,n,i,q1,q2,q3,q4,q6⟩ | ⟨a,o,xs,n,i,q1,q2,q3,q4,q6⟩ | ⟨a,left,q1,q2⟩
 ·exact wpAny_pyIter_listiter q4 h
 ·exact wpAny_pyIter_tupleiter q4 h
 ·exact wpAny_pyIter_rangeiter q1 h
noncomputable def gsl:List PG->List Nat
 | []=>[]
 | .mk t _ _ _::gs=>t++gsl gs
noncomputable def SG (c:Cx)(k:Ck)(n:Nat)(C:Orc):List PG->Prop
 | []=>True
 | .mk _ _ it ifs::gs=>SE c k n C it/\(∀e∈ifs,SE c k n C e)/\SG c k n C gs
theorem IterAt.nxD (x:IterAt c g.FX cm s.heap it l)(hD:D∈g.FX)(b:Base c g.FX s H cm)(n:Nx (D::g.FA) g.FO s cm s' cm'):IterAt c g.FX cm' s'.heap it l:=by
 have hg:it≠gh:=λq=>c.glow (by rw[<-q]; exact x.2.2.1)
 obtain⟨o,e,_⟩:=x.2.2.2.1;have h1:it ∉ D::g.FA:=λq=>x.1 ((mcD q).elim (λq=>q ▸ hD) λq=>Ql (.inl q))
 have h2:it ∉ g.FO:=λq=>x.1 (Ql (.inr q))
 refine x.mono (λo e=>n.keep it o e hg h1 h2 x.2.1) x.1 (n.out e hg h1 h2 x.2.1) (Rr.keeps n (λa h=>h.elim (λh=>(mcD h).elim (λq=>q ▸ hD) λq=>Ql (.inl q)) λh=>Ql (.inr h)) b.gh) n.cms
theorem AccAt.turn (x:AccAt c g.FX cm s.heap D acc)(hD:D∈g.FX)(y:IterAt c g.FX cm s.heap it l)(t:ItTurn it s s'):AccAt c g.FX cm s'.heap D acc:=by
 obtain⟨xs,m,e,r⟩:=x;exact⟨xs,m,t.keep D _ (λq=>y.1 (q ▸ hD)) e,Cx.reps_mono (t.rr y) (.refl _) r⟩
theorem Nx.toD (x:Nx g.FA g.FO s cm s' cm'):Nx (D::g.FA) g.FO s cm s' cm':=x.more λ_ h=>.tail _ h
inductive ClP (c:Cx)(g:Fm)(D it:Addr)(s_0:Shared)(cm_0:CM)(J:LA)(F:AV->LA->AH->Out (LA))(K:Shared->Prop)(m:Nat)(s:Shared):Prop where
 | mk (l acc:LA)(H:AH)(cm:CM)(e:m=l.length)(nx:Nx (D::g.FA) g.FO s_0 cm_0 s cm)(iv:Inv c g s J H cm)(itr:IterAt c g.FX cm s.heap it l)(ac:AccAt c g.FX cm s.heap D acc)(p:AccPost c g J s_0 cm_0 D (loopO F l acc H) K)
theorem qj {elt e x y:PX}{pe:PE}{gens:List Comprehension}{zs:List PX}{scope:Scope}{pos:Pos}{d:Nat}{t:List Nat}{one:Bool}{ifs:List PE}{gs:List PG}(hg:gens[d]?=some ⟨x,y,zs,0⟩)(hgs:gens.all (λg=>g.is_async==0&&noSet g.iter)=true)
  (hD:D∈g.FZ) (hcd:FrOk k g.env) (hx:chkT g.sc g.σ g.ow t one x=true) (hz:chkL k ifs g.sc g.σ zs=true) (hi:∀e∈ifs,SE c k n C e) (nd:(t++gsl gs).Nodup) (rm:Room g A n)
  (hrest:∀J s_0 cm_0 s H cm acc K E,(∀j∈gsl gs,unsetAt J j)->Nx (D::g.FA) g.FO s_0 cm_0 s cm->Inv c g s J H cm->AccAt c g.FX cm s.heap D acc->AccPost c g J s_0 cm_0 D (evG C (λJ H=>evE C J pe H) gs J acc H) K->innerW c.w A (.ListComp elt gens scope pos) elt gens d (.ref D) g.env E K s)
  {R:Result->Shared->Prop} (hR:∀fl s',K s'->R (.ok fl) s') (hu:∀j∈t++gsl gs,unsetAt J j) (h0:s_0.heap.get? it=none)
  (nx:Nx (D::g.FA) g.FO s_0 cm_0 s cm) (iv:Inv c g s J H cm) (itr:IterAt c g.FX cm s.heap it l) (ac:AccAt c g.FX cm s.heap D acc)
  (p:AccPost c g J s_0 cm_0 D (loopO (λx acc H=>.opt (bindT t one x J) λJ'=>(evIfs C J' ifs H).bind λb H=>if b=true then evG C (λJ H=>evE C J pe H) gs J' acc H else .ok acc H) l acc H) K) :
  codeAny (model P0 c.w) A (.compLoop (.ListComp elt gens scope pos) d (.ref it) (.ref D) g.env) R s:=by
 have hX:D∈g.FX:=List.mem_append_right _ (List.mem_append_right _ hD);refine u9 hg hgs (ClP c g D it s_0 cm_0 J _ K) ?_ l.length ⟨l,acc,H,cm,rfl,nx,iv,itr,ac,p⟩
 rintro m s ⟨l,acc,H,cm,rfl,nx,iv,itr,ac,p⟩ E
 cases l with
 | nil =>
  refine ZR rm.hh itr λs' tt=>hR _ _ ?_
  exact p s' cm (nx.mod h0 λa o ha e=>tt.keep a o ha e) (tt.inv itr iv) (ac.turn hX itr tt)
 | cons x0 l =>
  have p:AccPost c g J s_0 cm_0 D (Out.lp (.opt (bindT t one x0 J) _) _) K:=p;refine ZQ itr iv.base λv s_1 tt rv itr_1=>?_
  have iv_1:=tt.inv itr iv;have ac_1:=ac.turn hX itr tt;have nx_1:Nx (D::g.FA) g.FO s_0 cm_0 s_1 cm:=nx.mod h0 λa o ha e=>tt.keep a o ha e
  refine let_go itr_1 ?_;cases hb:bindT t one x0 J with
  | none=>rw[hb] at p; exact p.elim
  | some J' =>
   simp only[hb] at p;have p:AccPost c g J s_0 cm_0 D (Out.lp ((evIfs C J' ifs H).bind _) _) K:=p;refine G8 hx rm.hh hb iv_1 rv λs_2 nx_2 iv_2=>?_
   have itr_2:=itr_1.nx iv_1.base nx_2;have ac_2:=ac_1.nx hD iv_1 nx_2;have hkeep:=oG hb;have hfor:∀(j:Nat) (av:AV),J[j]?=some av->av≠.unset->J'[j]?=some av:=λj av e hn=>by
    have hj:j ∉ t:=λq=>hn (hu j (List.mem_append_left _ q) av e)
    refine (hkeep j hj) ▸ ?_; exact e
   have hu':∀j∈gsl gs,unsetAt J' j:=λj hj av e=>by
    have hjt:j ∉ t:=λq=>(List.nodup_append.mp nd).2.2 j q j hj rfl
    rw[hkeep j hjt] at e;exact hu j (List.mem_append_right _ hj) av e
   refine oF rm hcd ifs hi zs hz s_2 H cm _ E iv_2 ?_;cases hif:evIfs C J' ifs H with
   | exc m H_3=>replace p:=hif ▸ p; exact p.elim
   | stuck=>replace p:=hif ▸ p; exact p.elim
   | ok b H_3 =>
    replace p:=hif ▸ p
    have p:AccPost c g J s_0 cm_0 D (Out.lp (if b=true then evG C (λJ H=>evE C J pe H) gs J' acc H_3 else .ok acc H_3) _) K:=p;intro b' s_3 cm_3 nx_3 iv_3 eb;subst eb;have itr_3:=itr_2.nx iv_2.base nx_3;have ac_3:=ac_2.nx hD iv_2 nx_3;have nx03:=(nx_1.trans nx_2.toD).trans (nx_3.toD (D:=D));cases b with
    | false =>
     exact⟨l.length,Nat.lt_succ_self _,l,acc,H_3,cm_3,rfl,nx03,iv_3.forget hfor,itr_3,ac_3,p⟩
    | true =>
     refine hrest J' s_3 cm_3 s_3 H_3 cm_3 acc _ E hu' (Nx.refl ..) iv_3 ac_3 ?_;cases hev:evG C (λJ H=>evE C J pe H) gs J' acc H_3 with
     | exc m H₄=>replace p:=hev ▸ p; exact p.elim
     | stuck=>replace p:=hev ▸ p; exact p.elim
     | ok acc' H₄ =>
      replace p:=hev ▸ p
      intro s₄ cm₄ nx₄ iv₄ ac₄;exact⟨l.length,Nat.lt_succ_self _,l,acc',H₄,cm₄,rfl,nx03.trans nx₄,iv₄.forget hfor,itr_3.nxD hX iv_3.base nx₄,ac₄,p⟩
theorem Room.mark (r:Room g A n):Room g (A.mark none) n:=⟨r.hh,r.depth,r.units,r.frames⟩
theorem oH {elt:PX}{pe:PE}{gens:List Comprehension}{scope:Scope}{pos:Pos}(hgs:gens.all (λg=>g.is_async==0&&noSet g.iter)=true)(hD:D∈g.FZ)(hcd:FrOk k g.env)(he:SE c k n C pe)(helt:chkE k pe g.sc g.σ elt=true) :
  ∀(gs:List PG),SG c k n C gs->∀d cs,gens.drop (d+1)=cs->chkG k gs g.sc g.σ g.sc g.σ g.ow cs=true->(gsl gs).Nodup->∀A,Room g A n->∀J s_0 cm_0 s H cm acc K E,(∀j∈gsl gs,unsetAt J j)->Nx (D::g.FA) g.FO s_0 cm_0 s cm->Inv c g s J H cm->AccAt c g.FX cm s.heap D acc ->
   AccPost c g J s_0 cm_0 D (evG C (λJ H=>evE C J pe H) gs J acc H) K->innerW c.w A (.ListComp elt gens scope pos) elt gens d (.ref D) g.env E K s:=by
 intro gs
 induction gs with
 | nil =>
  intro _ d cs hdr hck _ A rm J s_0 cm_0 s H cm acc K E hu nx iv ac p;have hck:cs.isEmpty=true:=hck;have hq:gens[d+1]?=none:=by
   simp only[ieD hck] at hdr;simpa using List.drop_eq_nil_iff.mp hdr
  unfold innerW;refine hq ▸ ?_;refine bindA (λQ E=>(he g hcd elt helt).1 A rm J s H cm iv Q E) p λv H_1 x s_1 cm_1 _ n_1 i_1 r_1 p=>?_
  by_cases hl:acc.length<=100000
  ·rw[if_pos hl] at p
   exact oh hD i_1 (ac.nx hD iv n_1) r_1 hl λs' n' i' a'=>p s' cm_1 ((nx.trans n_1.toD).trans n') i' a'
  ·rw[if_neg hl] at p; exact p.elim
 | cons pg gs ih =>
  obtain⟨t,one,it,ifs⟩:=pg;intro sg d cs hdr hck hnd A rm J s_0 cm_0 s H cm acc K E hu nx iv ac p;obtain⟨⟨x,y,zs,a⟩,r,rfl,hck⟩:=Zw hck;obtain⟨sit,sifs,srest⟩:=sg
  replace hck:(a==0&&noSet y&&chkE k it g.sc g.σ y&&chkT g.sc g.σ g.ow t one x&&chkL k ifs g.sc g.σ zs&&chkG k gs g.sc g.σ g.sc g.σ g.ow r)=true:=hck
  ·simp only[Bool.and_eq_true,beq_iff_eq] at hck
   obtain⟨⟨⟨⟨⟨rfl,_⟩,h1⟩,h2⟩,h3⟩,h4⟩:=hck;have hq:gens[d+1]?=some ⟨x,y,zs,0⟩:=by
    have:(gens.drop (d+1))[0]?=some ⟨x,y,zs,0⟩:=by rw[hdr]; rfl
    rw[List.getElem?_drop] at this;simpa using this
   have hr:gens.drop (d+1+1)=r:=by
    have:(gens.drop (d+1)).drop 1=r:=by rw[hdr]; rfl
    rwa [List.drop_drop] at this
   unfold innerW;refine hq ▸ ?_;refine bindA (λQ E=>(sit g hcd y h1).1 A rm J s H cm iv Q E) p λv H_1 xv s_1 cm_1 _ n_1 i_1 r_1 p=>?_
   cases hit:itemsOf v with
   | none=>rw[hit] at p; exact p.elim
   | some l =>
    replace p:=hit ▸ p
    refine WL hit r_1 i_1 λs_2 gr hnew itr=>wpAny_runOwn ?_
    have nx2:=(nx.trans n_1.toD).trans (gr.nx (FA:=D::g.FA) (FO:=g.FO) (cm:=cm_1));have i_2:=gr.inv i_1;have ac_2:AccAt c g.FX cm_1 s_2.heap D acc:=(ac.nx hD iv n_1).nx hD i_1 gr.nx;have h00:s_0.heap.get? s_1.heap.objs.size=none:=Decidable.byContradiction λq=>((nx.trans n_1.toD).alive _ q) hnew
    have loop:=qj (elt:=elt) (e:=elt) (scope:=scope) (pos:=pos) hq hgs hD hcd h2 h3 sifs hnd rm.mark
     (λJ s_0 cm_0 s H cm acc K E hu nx iv ac p=>ih srest (d+1) r hr h4 (List.nodup_append.mp hnd).2.1 (A.mark none) rm.mark J s_0 cm_0 s H cm acc K E hu nx iv ac p)
     (R:=λr s'=>match r with | .ok f=>K s' | .error e=>cameBackBy (model P0 c.w) A g.env E e s') (λ_ _ h=>h) hu h00 nx2 i_2 itr ac_2 p
    exact G9 hq loop λE=>qi itr loop
noncomputable def closL (cells:List (Str × Addr)):List (Str × NameKind)->List (Str × Addr)->List (Str × Addr)
 | [],acc=>acc
 | (n,k)::r,acc=>if k==.free then closL cells r (match cells.lookup n with | some a=>(n,a)::acc | none=>acc) else closL cells r acc
theorem oJ {scope:Scope}(h:∀n,(n,NameKind.free)∈scope.names->(env.cells.lookup n).isSome=true):closureFor scope env=pure (closL env.cells scope.names []):=by
 have key:∀(names:List (Str × NameKind)) (acc:List (Str × Addr)),(∀n,(n,NameKind.free)∈names->(env.cells.lookup n).isSome=true) ->
   forIn names acc (λ(p:Str × NameKind) cs=>if p.2==.free then do let a <-cellOf env p.1; pure (ForInStep.yield ((p.1,a)::cs)) else pure (ForInStep.yield cs))=(pure (closL env.cells names acc):Sem _):=by
  intro names
  induction names with
  | nil=>intro acc _; rfl
  | cons q r ih =>
   obtain⟨n,k⟩:=q;intro acc h;rw[List.forIn_cons];show _=(pure (ite _ _ _):Sem _);by_cases hk:(k==.free)=true
   ·have hk':=eqD hk
    subst hk';obtain⟨a,ha⟩:=Option.isSome_iff_exists.mp (h n (.head _));simp only[cellOf,ha,beq_self_eq_true,if_true,pure_bind];exact ih _ λm hm=>h m (.tail _ hm)
   ·simp only[hk,if_false,pure_bind,Bool.false_eq_true]
    exact ih _ λm hm=>h m (.tail _ hm)
 have:=key scope.names [] h;unfold closureFor;show (forIn scope.names [] _ >>= λr=>pure r:Sem _)=_;rw[show ∀t:Sem (List (Str × Addr)),(t >>= λr=>pure r)=t from λt=>LawfulMonad.bind_pure_comp (f:=id) (x:=t) ▸ id_map t];exact this
set_option tactic.hygienic true in
theorem ql (cells:List (Str × Addr))(x:Str)(names:List (Str × NameKind)):∀(acc:List (Str × Addr)),(names.map (·.1)).Nodup->acc.lookup x=none ->
  (closL cells names acc).lookup x=if names.lookup x=some .free then cells.lookup x else none:=by
 have hr:∀(r:List (Str × NameKind)) (acc':List (Str × Addr)),x ∉ r.map (·.1)->(closL cells r acc').lookup x=acc'.lookup x:=by
  intro r
  induction r with
  | nil=>intro acc' _; rfl
  | cons q r ih =>
   obtain⟨n',k'⟩:=q;intro acc' hm;have hne:x≠n':=λe=>hm (by rw[e]; exact .head _)
   have ih':=λacc=>ih acc λq=>hm (.tail _ q)
   show (ite _ _ _:List (Str × Addr)).lookup x=_;by_cases hk:(k'==.free)=true
   ·rw[if_pos hk,ih']
    cases cells.lookup n' with
    | none=>exact rfl
    | some a=>show List.lookup x ((n',a)::acc')=_; rw[List.lookup_cons,bN hne]
   ·rw[if_neg hk,ih']
 induction names with
 | nil=>exact λacc _ h=>h
 | cons q r ih =>
  obtain⟨n,k⟩:=q;intro acc nd h;have nd':=List.nodup_cons.mp (show (n::r.map (·.1)).Nodup from nd);show (ite _ _ _:List (Str × Addr)).lookup x=_;rw[List.lookup_cons];cases hx:x==n with
  | true =>
   obtain rfl:=eqD hx;rw[show (ite (k==.free) (closL cells r (match cells.lookup x with | some a=>(x,a)::acc | none=>acc)) (closL cells r acc):List (Str × Addr))=closL cells r (if (k==.free)=true then (match cells.lookup x with | some a=>(x,a)::acc | none=>acc) else acc) from (apply_ite (closL cells r) _ _ _).symm,hr _ _ nd'.1]
   by_cases hk:(k==.free)=true
   ·rw[if_pos hk,if_pos (congrArg some (eqD hk))]
    cases cells.lookup x with
    | none=>exact h
    | some a=>show List.lookup x ((x,a)::acc)=_; rw[List.lookup_cons,hx]
   ·rw[if_neg hk,if_neg (λq=>hk (by cases q; rfl)),h]
  | false =>
   by_cases hk:(k==.free)=true
   ·rw[if_pos hk]
    refine ih _ nd'.2 ?_;cases cells.lookup n with
    | none=>exact h
    | some a=>show List.lookup x ((n,a)::acc)=_; rw[List.lookup_cons,hx]; exact h
   ·rw[if_neg hk]; exact ih acc nd'.2 h
theorem WM (names:List (Str × NameKind)):∀(n:Nat) (acc:List (Str × Addr)),cellsFrom n names acc=cellsFrom n names []++acc:=by
 induction names with
 | nil=>exact λn acc=>rfl
 | cons q__ r ih =>
  obtain⟨x,k⟩:=q__;intro n acc;unfold cellsFrom;split
  ·simp only[ih (n+1) ((x,n)::acc),ih (n+1) [(x,n)],List.append_assoc]; rfl
  ·exact ih n acc
theorem qm (names:List (Str × NameKind)):∀(n:Nat) (x:Str) (a:Addr),(x,a)∈cellsFrom n names []->(x,NameKind.cell)∈names:=by
 induction names with
 | nil =>
  intro n x a h;cases h
 | cons q__ r ih =>
  intro n x a h;unfold cellsFrom at h;split at h
  ·rename_i hk
   rw[WM] at h;rcases maD h with h | h
   ·exact .tail _ (ih _ x a h)
   ·cases msD h
    refine (eqD hk) ▸ ?_; exact .head _
  ·exact .tail _ (ih _ x a h)
theorem lookup_mem {l:List (Str × β)}(nd:(l.map (·.1)).Nodup){x:Str}{v:β}(h:(x,v)∈l):l.lookup x=some v:=by
 induction l with
 | nil=>cases h
 | cons q r ih =>
  obtain⟨y,u⟩:=q;have nd':(y::r.map (·.1)).Nodup:=nd;simp only[List.lookup_cons];rcases mcD h with h | h
  ·cases h; simp
  ·have hne:x≠y:=λq=>(List.nodup_cons.mp nd').1 (q ▸ List.mem_map_of_mem (f:=(·.1)) h)
   refine (bN hne) ▸ ?_;exact ih (List.nodup_cons.mp nd').2 h
theorem J3 (x:Str)(l r:List (Str × β)):(l++r).lookup x=(l.lookup x).or (r.lookup x):=ZJ x l r
theorem qp {names:List (Str × NameKind)}{cells:List (Str × Addr)}(nd:(names.map (·.1)).Nodup){x:Str}(h:(cellsFrom n names (closL cells names [])).lookup x=some a) :
  (names.lookup x=some .cell/\(cellsFrom n names []).lookup x=some a)\/(names.lookup x=some .free/\cells.lookup x=some a):=by
 rw[WM,J3] at h;cases h1:(cellsFrom n names []).lookup x with
 | some b =>
  replace h:=h1 ▸ h
  cases h;exact .inl ⟨lookup_mem nd (qm names n x _ (mem_of_lookup h1)),rfl⟩
 | none =>
  simp only[h1,Option.none_or,ql cells x names [] nd rfl] at h;split at h
  ·rename_i hf; exact .inr ⟨hf,h⟩
  ·cases h
theorem qt (sc:Sc)(x:Str)(names:Sc):(relab sc names).lookup x=(names.lookup x).map λk=>if (k==.free&&sc.lookup x==some .cell)=true then .cell else k:=by
 induction names with
 | nil=>exact rfl
 | cons q r ih =>
  obtain⟨n,k⟩:=q;show List.lookup x ((if (k==.free&&sc.lookup n==some .cell)=true then (n,NameKind.cell) else (n,k))::relab sc r)=_;rw[List.lookup_cons];by_cases hc:(k==.free&&sc.lookup n==some .cell)=true
  ·rw[if_pos hc,List.lookup_cons]
   cases hx:x==n with
   | true=>obtain rfl:=eqD hx; exact (congrArg some (if_pos hc)).symm
   | false=>exact ih
  ·rw[if_neg hc,List.lookup_cons]
   cases hx:x==n with
   | true=>obtain rfl:=eqD hx; exact (congrArg some (if_neg hc)).symm
   | false=>exact ih
structure CompS (sc:Sc)(σ:Sl)(own:Sl)(s:Scope):Prop where
 kind:s.kind=.function
 nd:(s.names.map (·.1)).Nodup
 free:∀x,s.names.lookup x=some .free->(σ.lookup x).isSome=true/\(sc.lookup x=some .cell\/sc.lookup x=some .free)/\own.lookup x=none
 cell:∀x,s.names.lookup x=some .cell->(own.lookup x).isSome=true
 loc:∀x,s.names.lookup x=some .local->σ.lookup x=none\/(own.lookup x).isSome=true
 glob:∀x,s.names.lookup x=some .globalImplicit->own.lookup x=none/\σ.lookup x=none
 kinds:∀x kd,s.names.lookup x=some kd->kd=.free\/kd=.cell\/kd=.local\/kd=.globalImplicit
 mine:∀x k,own.lookup x=some k->(s.names.lookup x=some .local\/s.names.lookup x=some .cell)/\∀y j,σ.lookup y=some j->j≠k
 ndo:(own.map (·.2)).Nodup
theorem oK {sc:Sc}{σ own:Sl}{s:Scope}(h:compScope sc σ own s=true):CompS sc σ own s:=by
 simp only[compScope,Bool.and_eq_true,beq_iff_eq,decide_eq_true_eq,List.all_eq_true,Bool.not_eq_true',Bool.or_eq_true,bne_iff_ne] at h;obtain⟨⟨⟨⟨⟨⟨⟨h1,h2⟩,h3⟩,h4⟩,h5⟩,h6⟩,h7⟩,h8⟩:=h;have key:∀x kd,s.names.lookup x=some kd->csK sc σ own x kd=true:=λx kd e=>h5 (x,kd) (mem_of_lookup e)
 refine⟨h1,h4,λx e=>?_,λx e=>?_,λx e=>?_,λx e=>?_,λx kd e=>?_,λx k e=>?_,h7⟩
 ·have:=key x _ e
  change (_&&(_||_)&&_)=true at this
  simp only[Bool.and_eq_true,Option.isNone_iff_eq_none,Bool.or_eq_true,beq_iff_eq] at this;exact⟨this.1.1,this.1.2,this.2⟩
 ·exact key x _ e
 ·have:=key x _ e
  change (_||_)=true at this
  simpa using this
 ·have:=key x _ e
  change (_&&_)=true at this
  simpa using this
 ·have:=key x _ e
  cases kd<;>first | exact nf this | simp
 ·obtain⟨q1,q2⟩:=h6 (x,k) (mem_of_lookup e)
  exact⟨q1,λy j e'=>q2 (y,j) (mem_of_lookup e')⟩
theorem oM {own:Sl}{sc:Scope}(hc:CompS f.sc f.σ own sc)(hfr:∀x a,(f.sc.lookup x=some .cell\/f.sc.lookup x=some .free)->(f.σ.lookup x).isSome=true->f.env.cells.lookup x=some a->a<L)
  (he:env={compEnvC sc (cellsFrom (L+1) sc.names (closL f.env.cells sc.names [])) L f.env with builtins:=f.env.builtins}) (hge:∀x a,(cellsFrom (L+1) sc.names []).lookup x=some a->L<a) (hap:(cellsFrom (L+1) sc.names []).Pairwise λx y=>x.2≠y.2) :
  EnvS env (relab f.sc sc.names) (own++f.σ) (λx=>(own.lookup x).isSome) (L::(cellsFrom (L+1) sc.names []).map (·.2)) (f.FO++f.FA):=by
 subst he;have hk:∀x,f.env.kindOf x=f.sc.lookup x:=λx=>Jt
 have hsc:∀x kd,(relab f.sc sc.names).lookup x=some kd->∃k0,sc.names.lookup x=some k0/\kd=if (k0==.free&&f.sc.lookup x==some .cell)=true then .cell else k0:=λx kd e=>by
  rw[qt] at e;obtain⟨k0,e1,e2⟩:=omD e;exact⟨k0,e1,e2.symm⟩
 have hlk:∀x a,(cellsFrom (L+1) sc.names (closL f.env.cells sc.names [])).lookup x=some a->(sc.names.lookup x=some .cell/\(cellsFrom (L+1) sc.names []).lookup x=some a)\/(sc.names.lookup x=some .free/\f.env.cells.lookup x=some a):=λx a e=>qp hc.nd e
 have hcell:∀x k kd,(own++f.σ).lookup x=some k->(relab f.sc sc.names).lookup x=some kd->(kd=.cell\/kd=.free)->(sc.names.lookup x=some .cell/\own.lookup x=some k)\/(sc.names.lookup x=some .free/\own.lookup x=none/\f.σ.lookup x=some k):=by
  intro x k kd e1 e2 e3;obtain⟨k0,q1,q2⟩:=hsc x kd e2;rw[J3] at e1;rcases hc.kinds x k0 q1 with rfl | rfl | rfl | rfl
  ·obtain⟨_,_,z⟩:=hc.free x q1
   simp only[z,Option.none_or] at e1;exact .inr ⟨q1,z,e1⟩
  ·obtain⟨k',hk'⟩:=Option.isSome_iff_exists.mp (hc.cell x q1)
   replace e1:=hk' ▸ e1
   cases e1;exact .inl ⟨q1,hk'⟩
  ·rw[if_neg (by simp)] at q2; subst q2; rcases e3 with e3 | e3<;>cases e3
  ·rw[if_neg (by simp)] at q2; subst q2; rcases e3 with e3 | e3<;>cases e3
 refine⟨?_,hc.kind,f.ok.globals,f.ok.builtins,.head _,λx y a e1 e2=>?_,λx k kd e1 e2 e3=>?_,λx y k kx ky e1 e2 e3 e4=>?_⟩
 ·show sc.names.map _=sc.names.map _
  refine List.map_congr_left λq _=>?_
  obtain⟨m,kd⟩:=q;dsimp only;rw[hk m,f.ok.kind];simp
 ·rcases hlk x a e1 with ⟨q1,q2⟩ | ⟨q1,q2⟩<;>rcases hlk y a e2 with ⟨q3,q4⟩ | ⟨q3,q4⟩
  ·exact name_of_addr hap (mem_of_lookup q2) (mem_of_lookup q4)
  ·obtain⟨hs,hf,_⟩:=hc.free y q3
   exact absurd (hge x a q2) (Nat.lt_asymm (hfr y a hf hs q4))
  ·obtain⟨hs,hf,_⟩:=hc.free x q1
   exact absurd (hge y a q4) (Nat.lt_asymm (hfr x a hf hs q2))
  ·exact f.ok.inj x y a q2 q4
 ·rcases hcell x k kd e1 e2 e3 with ⟨q1,q2⟩ | ⟨q1,q2,q3⟩
  ·obtain⟨a,ha⟩:=Option.isSome_iff_exists.mp (ZL sc.names (L+1) [] x (.inl q1))
   have hm:a∈L::(cellsFrom (L+1) sc.names []).map (·.2):=.tail _ (List.mem_map_of_mem (f:=(·.2)) (mem_of_lookup ha));have ha':(cellsFrom (L+1) sc.names (closL f.env.cells sc.names [])).lookup x=some a:=by rw[WM,J3,ha]; rfl
   exact⟨a,ha',Nat.ne_of_gt (hge x a ha),.inl hm,λ_=>hm⟩
  ·obtain⟨hs,hf,_⟩:=hc.free x q1
   obtain⟨j,hj⟩:=Option.isSome_iff_exists.mp hs;obtain⟨kd0,hkd0,hkk⟩:∃kd0,f.sc.lookup x=some kd0/\(kd0=.cell\/kd0=.free):=hf.elim (λh=>⟨_,h,.inl rfl⟩) λh=>⟨_,h,.inr rfl⟩
   obtain⟨a,w1,w2,w3,_⟩:=f.ok.cell x j kd0 hj hkd0 hkk;have hnc:(cellsFrom (L+1) sc.names []).lookup x=none:=by
    cases h:(cellsFrom (L+1) sc.names []).lookup x with
    | none=>rfl
    | some b =>
     have:=lookup_mem hc.nd (qm _ _ x b (mem_of_lookup h))
     replace this:=q1 ▸ this; cases this
   refine⟨a,?_,Nat.ne_of_lt (hfr x a hf hs w1),.inr (List.mem_append.mpr w3.symm),λh=>?_⟩
   ·show (cellsFrom (L+1) sc.names (closL f.env.cells sc.names [])).lookup x=some a
    rw[WM,J3,hnc,Option.none_or,ql _ x sc.names [] hc.nd rfl,if_pos q1];exact w1
   ·rw[q2] at h; exact nf h
 ·have hx:∀z kz,(own++f.σ).lookup z=some k->(relab f.sc sc.names).lookup z=some kz->own.lookup z=some k\/(f.σ.lookup z=some k/\∃kd,f.sc.lookup z=some kd):=by
   intro z kz h1 h2;rw[J3] at h1;cases ho:own.lookup z with
   | some j=>replace h1:=ho ▸ h1; cases h1; exact .inl rfl
   | none =>
    simp only[ho,Option.none_or] at h1;obtain⟨k0,q1,-⟩:=hsc z kz h2;rcases hc.kinds z k0 q1 with rfl | rfl | rfl | rfl
    ·obtain⟨_,hf,_⟩:=hc.free z q1
     exact .inr ⟨h1,hf.elim (λh=>⟨_,h⟩) λh=>⟨_,h⟩⟩
    ·have:=hc.cell z q1; rw[ho] at this; exact nf this
    ·rcases hc.loc z q1 with hz | hz
     ·rw[hz] at h1; exact no h1
     ·rw[ho] at hz; exact nf hz
    ·have:=(hc.glob z q1).2; rw[this] at h1; exact no h1
  rcases hx x kx e1 e3 with q1 | ⟨q1,kd1,q2⟩<;>rcases hx y ky e2 e4 with q3 | ⟨q3,kd2,q4⟩
  ·have nd:=hc.ndo
   clear hx hcell hlk hsc hk hap hge hfr e1 e2 e3 e4;have key:∀(l:Sl),(l.map (·.2)).Nodup->(x,k)∈l->(y,k)∈l->x=y:=by
    intro l
    induction l with
    | nil=>intro _ h; cases h
    | cons q r ih =>
     intro nd h1 h2;have nd':(q.2::r.map (·.2)).Nodup:=nd;rcases mcD h1 with h1 | h1<;>rcases mcD h2 with h2 | h2
     ·simp only[<-h1] at h2; exact (Prod.mk.inj h2).1.symm
     ·exact absurd (by rw[<-h1]; exact List.mem_map_of_mem (f:=(·.2)) h2) (List.nodup_cons.mp nd').1
     ·exact absurd (by rw[<-h2]; exact List.mem_map_of_mem (f:=(·.2)) h1) (List.nodup_cons.mp nd').1
     ·exact ih (List.nodup_cons.mp nd').2 h1 h2
   exact key own nd (mem_of_lookup q1) (mem_of_lookup q3)
  ·exact absurd rfl ((hc.mine x k q1).2 y k q3)
  ·exact absurd rfl ((hc.mine y k q3).2 x k q1)
  ·exact f.ok.slots x y k kd1 kd2 q1 q3 q2 q4
theorem oO {own:Sl}{sc:Scope}{Q:Env->Shared->Prop}(hc:CompS f.sc f.σ own sc)(i:Inv c f s J H cm)(hu:∀x k,own.lookup x=some k->unsetAt J k)
  (h:∀g s_1 cenv,Callee f g s s_1 []->g.sc=relab f.sc sc.names->g.σ=own++f.σ->g.ow=(λx=>(own.lookup x).isSome)->g.fs=f.fs->g.env={cenv with scope:=relabel sc f.env}->cenv.locals∈g.FA->Inv c g s_1 J H cm->g.env.code=f.env.code->g.env.qual=f.env.qual->Q cenv s_1) :
  wpAny M A (newFunctionEnv sc f.env.globals (closL f.env.cells sc.names []) [] f.env.qual none .none (some f.env)) Q E s:=by
 simp only[newFunctionEnv,Option.isSome_some,if_true];refine wpAny_bind (wpAny_alloc ?_);refine wpAny_bind (wpAny_layCells _ (λname kind cells=>by cases hkc:kind==NameKind.cell<;>simp[hkc]) _ _ _ _ ?_);have ok:=cellsFrom_ok sc.names (s.heap.push {cls:=.type "dict",data:=.dict #[]}) (s.heap.objs.size+1) [] ⟨λ_ _ hm=>(nomatch hm),List.Pairwise.nil⟩ (by rw[Heap.size_push]; exact Nat.le_refl _);rw[Heap.size_push] at ok;rw[show ({s with heap:=s.heap.push {cls:=.type "dict",data:=.dict #[]}}:Shared).heap.objs.size=s.heap.objs.size+1 from Heap.size_push ..];simp only[List.forIn_nil];refine wpAny_bind (wpAny_pure (wpAny_pure ?_));have hge:∀x a,(cellsFrom (s.heap.objs.size+1) sc.names []).lookup x=some a->s.heap.objs.size<a:=λx a e=>(ok.empty x a (mem_of_lookup e)).2
 have hfr:∀x a,(f.sc.lookup x=some .cell\/f.sc.lookup x=some .free)->(f.σ.lookup x).isSome=true->f.env.cells.lookup x=some a->a<s.heap.objs.size:=λx a e1 e2 e3=>by
  obtain⟨j,hj⟩:=Option.isSome_iff_exists.mp e2;obtain⟨kd,h1,h2⟩:∃kd,f.sc.lookup x=some kd/\(kd=.cell\/kd=.free):=e1.elim (λh=>⟨_,h,.inl rfl⟩) λh=>⟨_,h,.inr rfl⟩
  obtain⟨o,ov,e,_⟩:=i.cl x j kd a hj h1 h2 e3;exact Heap.lt_size e
 have eok:=oM (f:=f) (own:=own) (sc:=sc) (L:=s.heap.objs.size) hc hfr rfl hge ok.apart
 let g:Fm:={env:={compEnvC sc (cellsFrom (s.heap.objs.size+1) sc.names (closL f.env.cells sc.names [])) s.heap.objs.size f.env with builtins:=f.env.builtins},sc:=relab f.sc sc.names,σ:=own++f.σ,ow:=(λx=>(own.lookup x).isSome),FA:=s.heap.objs.size::(cellsFrom (s.heap.objs.size+1) sc.names []).map (·.2),FO:=f.FO++f.FA,FZ:=f.FZ++[],fs:=f.fs,ok:=eok}
 have hkeep:∀b o,s.heap.get? b=some o->(pushCells (s.heap.push {cls:=.type "dict",data:=.dict #[]}) sc.names).get? b=some o:=λb o e=>pushCells_keeps _ _ b o (Heap.get?_push_of_some _ e)
 have hL:(pushCells (s.heap.push {cls:=.type "dict",data:=.dict #[]}) sc.names).get? s.heap.objs.size=some {cls:=.type "dict",data:=.dict #[]}:=pushCells_keeps _ _ _ _ (Heap.get?_push_size _ rfl);have gr:Grow s {s with heap:=pushCells (s.heap.push {cls:=.type "dict",data:=.dict #[]}) sc.names}:=⟨hkeep,rfl,rfl⟩;have cal:Callee f g s {s with heap:=pushCells (s.heap.push {cls:=.type "dict",data:=.dict #[]}) sc.names} []:=by
  refine⟨gr,λa ha=>?_,rfl,rfl⟩;rcases mcD ha with ha | ha
  ·subst ha
   exact⟨Qk _,by show (pushCells _ _).get? _≠none; rw[hL]; nofun⟩
  ·obtain⟨q,hq,rfl⟩:=mmD ha
   obtain⟨⟨o,e,_⟩,hlt⟩:=ok.empty q.1 q.2 hq;exact⟨Heap.get?_none_of_le (Nat.le_of_lt hlt),by show (pushCells _ _).get? _≠none; rw[e]; nofun⟩
 have hdj:=cal.dj i nofun;have hns:(pushCells (s.heap.push {cls:=.type "dict",data:=.dict #[]}) sc.names).Ns s.heap.objs.size (λ_=>none):=(Heap.Ns.new s.heap (.type "dict")).keeps (pushCells_keeps _ _);refine h g _ _ cal rfl rfl rfl rfl rfl (.head _) ⟨Base.callee cal i.base,hdj.1,hdj.2,⟨_,hns,λx j q1 q2 av q3 q4=>?_⟩,λx j kd a q1 q2 q3 q4=>?_,λe he=>?_⟩ rfl rfl
 ·exfalso
  have q1':(own++f.σ).lookup x=some j:=q1;rw[J3] at q1';have q2':(relab f.sc sc.names).lookup x=some .local:=q2;rw[qt] at q2';obtain⟨k0,w1,w2⟩:=omD q2';have hk0:k0=.local:=by
   split at w2
   ·cases w2
   ·exact w2
  subst hk0;cases ho:own.lookup x with
  | some j'=>rw[ho] at q1'; cases q1'; exact q4 (hu x _ ho av q3)
  | none =>
   rw[ho,Option.none_or] at q1';rcases hc.loc x w1 with z | z
   ·replace q1':=z ▸ q1'; cases q1'
   ·rw[ho] at z; cases z
 ·have q4':(cellsFrom (s.heap.objs.size+1) sc.names (closL f.env.cells sc.names [])).lookup x=some a:=q4
  have q1':(own++f.σ).lookup x=some j:=q1;rw[J3] at q1';rcases qp hc.nd q4' with ⟨w1,w2⟩ | ⟨w1,w2⟩
  ·obtain⟨⟨o,e1,e2⟩,_⟩:=ok.empty x a (mem_of_lookup w2)
   refine⟨o,none,e1,e2,λav q5 q6=>?_⟩;obtain⟨j',hj'⟩:=Option.isSome_iff_exists.mp (hc.cell x w1)
   replace q1':=hj' ▸ q1'; cases q1'
   exact absurd (hu x _ hj' av q5) q6
  ·obtain⟨hs,hf,ho⟩:=hc.free x w1
   rw[ho,Option.none_or] at q1';obtain⟨kd0,h1,h2⟩:∃kd,f.sc.lookup x=some kd/\(kd=.cell\/kd=.free):=hf.elim (λh=>⟨_,h,.inl rfl⟩) λh=>⟨_,h,.inr rfl⟩
   obtain⟨o,ov,e,d,z⟩:=i.cl x j kd0 a q1' h1 h2 w2;exact⟨o,ov,hkeep a o e,d,z.mono cal.rr (.refl _)⟩
 ·obtain⟨q1,L,o,q2,q3,q4,q5⟩:=i.frs e he
  exact⟨q1,L,o,q2,hkeep _ _ q3,q4,.inr (by show L∈f.FO++f.FA; exact List.mem_append.mpr q5.symm)⟩
theorem oR (h:AV.isU v=true):v=.unset:=by
 cases v with
 | unset=>rfl
 | _=>exact nf h
theorem oU {gs:List PG}(h:clrOk gs J=true)(j:Nat)(hj:j∈gsl gs):unsetAt J j:=by
 induction gs with
 | nil=>cases hj
 | cons g gs ih =>
  obtain⟨t,one,it,ifs⟩:=g;obtain⟨h1,h2⟩:=anD (show (t.all (λk=>J[k]?.all AV.isU)&&clrOk gs J)=true from h);rcases maD (show j∈t++gsl gs from hj) with hj | hj
  ·intro av e
   have:=aaD h1 j hj;rw[e] at this;exact oR this
  ·exact ih h2 hj
theorem oV {gs:List PG}{cs:List Comprehension}{own:Sl}(h:gslots gs cs=some own)(sc' σ' ow sc σ)(hc:chkG k gs sc σ sc' σ' ow cs=true):own.map (·.2)=gsl gs:=by
 induction gs generalizing cs own sc σ with
 | nil=>rw[show gslots [] cs=_ from if_pos hc] at h; cases h; rfl
 | cons g gs ih =>
  obtain⟨t,one,it,ifs⟩:=g;obtain⟨⟨x,y,zs,a⟩,cs,rfl,hc⟩:=Zw hc;obtain⟨⟨b,xs⟩,hx,h⟩:=obD (show ((tgt x).bind λp=>(gslots gs cs).map λr=>p.2.zip t++r)=some own from h);obtain⟨r,hr,rfl⟩:=omD h;obtain⟨hc,h4⟩:=anD hc;have hT:=(anD (anD hc).1).2;have h2:=ih hr sc' σ' h4;unfold chkT at hT;rw[show tgt x=_ from hx] at hT;simp only[Bool.and_eq_true,beq_iff_eq] at hT;have hl:xs.length=t.length:=hT.1.1.2;show ((xs.zip t)++r).map (·.2)=t++gsl gs;rw[List.map_append,h2,List.map_snd_zip (Nat.le_of_eq hl.symm)]
theorem comp_back {s_3 s₄:Shared}(i_1:Inv c f s_1 J H cm_1)(gr:Grow s_1 s_3)(hD1:s_1.heap.get? D=none)(hD3:s_3.heap.get? D≠none)(cal:Callee (f.wide D) g s_3 s₄ [])(hL:L∈g.FA)(hf:True)
  (nx:Nx (D::g.FA) g.FO s_1 cm_1 s' cm') (iv:Inv c g s' J' H' cm'):Inv c ((f.wide D).wide L) s' J H' cm'/\Nx f.FA f.FO s_1 cm_1 s' cm':=by
 have hFO:∀a,a∈g.FO↔a∈f.FO\/a∈f.FA:=λa=>by rw[cal.FO,List.mem_append]; rfl
 have hn1:∀a,a∈g.FA->s_1.heap.get? a=none:=λa h=>Decidable.byContradiction λq=>gr.some q (cal.fresh a h).1
 have hno:∀a,s_1.heap.get? a≠none->a ∉ D::g.FA:=λa h q=>(mcD q).elim (λq=>h (q ▸ hD1)) λq=>h (hn1 a q)
 have hal:∀a,a∈f.FX->s_1.heap.get? a≠none:=λa h=>(i_1.base.lo a (.inl h)).2
 have hXs:∀a,a∈((f.wide D).wide L).FX->a∈g.FX:=λa h=>by
  rcases Qt.mp h with h | h
  ·subst h; exact cal.mem.mpr (.inl hL)
  ·exact cal.mem.mpr (.inr (.inl h))
 have nx':Nx f.FA f.FO s_1 cm_1 s' cm':=⟨λa o e h0 h1 h2 h3=>nx.keep a o e h0 (hno a (by rw[e]; nofun)) (λq=>((hFO a).mp q).elim h2 h1) h3,λa o e h=>nx.outer a o e ((hFO a).mpr (.inl h)),nx.cms,λa h=>by
  rcases nx.new a h with h | h | h | h | h
  ·exact .inl h
  ·exact .inr (.inl h)
  ·exact .inr (.inr (.inl h))
  ·exact .inr (.inl ((mcD h).elim (λq=>q ▸ hD1) (hn1 a)))
  ·exact ((hFO a).mp h).elim (λh=>.inr (.inr (.inr (.inr h)))) λh=>.inr (.inr (.inr (.inl h))),nx.alive⟩
 have hR:∀a o,Rr f.FX cm_1 s_1.heap a o->Rr ((f.wide D).wide L).FX cm' s'.heap a o:=λa o r=>by
  have r':=nx'.rr i_1.base a o r;obtain⟨e,st,n1,n2⟩:=r;refine⟨r'.1,st,λq=>?_,r'.2.2.2⟩;have ha:s_1.heap.get? a≠none:=by rw[e]; nofun
  rcases Qt.mp q with q | q
  ·exact hno a ha (.tail _ (q ▸ hL))
  ·rcases Qt.mp q with q | q
   ·exact hno a ha (by simp only[q]; exact .head _)
   ·exact n1 q
 have own:∀a o,a∈f.FA\/a∈f.FO->s_1.heap.get? a=some o->∃sl,s'.heap.get? a=some {o with slots:=sl}:=λa o h e=>nx.outer a o e ((hFO a).mpr h.symm)
 have hnz:∀a,a∈f.FA\/a∈f.FO->a≠L/\a≠D:=λa h=>⟨λq=>hno a (hal a (Ql h)) (.tail _ (q ▸ hL)),λq=>hno a (hal a (Ql h)) (by rw[q]; exact .head _)⟩
 refine⟨⟨iv.base.sub hXs,λa h=>⟨(i_1.dj a h).1,λq=>?_⟩,λa h q=>?_,?_,?_,?_⟩,nx'⟩
 ·rcases mcD q with q | q
  ·exact (hnz a (.inl h)).1 q
  ·rcases mcD q with q | q
   ·exact (hnz a (.inl h)).2 q
   ·exact (i_1.dj a h).2 q
 ·rcases mcD q with q | q
  ·exact (hnz a (.inr h)).1 q
  ·rcases mcD q with q | q
   ·exact (hnz a (.inr h)).2 q
   ·exact i_1.dj2 a h q
 ·obtain⟨m,⟨o,es,ep,e,r⟩,z⟩:=i_1.ns
  obtain⟨sl,e'⟩:=own _ _ (.inl f.ok.loc) e;exact⟨m,⟨_,es,ep,e',r⟩,λy k e1 e2=>(z y k e1 e2).mono hR nx.cms⟩
 ·intro y k kd a e1 e2 e3 e4
  obtain⟨a',w1,_,w2,_⟩:=f.ok.cell y k kd e1 e2 e3;obtain⟨o,ov,e,d,z⟩:=i_1.cl y k kd a e1 e2 e3 e4;obtain rfl:a'=a:=Option.some.inj (w1.symm.trans e4);obtain⟨sl,e'⟩:=own _ _ w2 e;exact⟨_,ov,e',d,z.mono hR nx.cms⟩
 ·intro e he
  obtain⟨h1,L',o,h2,h3,h4,h5⟩:=i_1.frs e he;obtain⟨sl,e'⟩:=own _ _ h5 h3;exact⟨h1,L',_,h2,e',h4,h5⟩
theorem oW (f:AV->α->AH->Out α)(l:LA)(a:α)(H:AH)(m:AV)(H':AH):loopO f l a H≠.exc m H':=by
 induction l generalizing a H with
 | nil=>exact λq=>by cases q
 | cons x l ih =>
  show (f x a H).lp _≠_;cases f x a H with
  | ok a H=>exact ih a H
  | _=>exact λq=>by cases q
theorem qu {elt x y:PX}{pe it0:PE}{zs:List PX}{aa:Int}{r:List Comprehension}{scope:Scope}{pos pp:Pos}{t:List Nat}{one:Bool}{ifs:List PE}{gs:List PG}{own:Sl}{use:Option (Value->Sem Unit)}
  (hgs:gslots (.mk t one it0 ifs::gs) (⟨x,y,zs,aa⟩::r)=some own) (hcs:compScope f.sc f.σ own scope=true)
  (hck:chkG k (.mk t one it0 ifs::gs) f.sc f.σ (relab f.sc scope.names) (own++f.σ) (λn=>(own.lookup n).isSome) (⟨x,y,zs,aa⟩::r)=true) (helt:chkE k pe (relab f.sc scope.names) (own++f.σ) elt=true)
  (hall:(⟨x,y,zs,aa⟩::r).all (λg=>g.is_async==0&&noSet g.iter)=true) (sg:SG c k n C (.mk t one it0 ifs::gs)) (he:SE c k n C pe) (rm:Room f A n) (hcd:FrOk k f.env) (i:Inv c f s J H cm) (hclr:clrOk (.mk t one it0 ifs::gs) J=true)
  (hS:evG C (λJ H=>evE C J pe H) (.mk t one it0 ifs::gs) J [] H≠.stuck)
  (hE:∀m H',evG C (λJ H=>evE C J pe H) (.mk t one it0 ifs::gs) J [] H=.exc m H'->∀e s' cm',Nx f.FA f.FO s cm s' cm'->Inv c f s' J H' cm'->ExcAt c s.heap f.FX cm' s'.heap e m->E e s')
  (hK:∀vs H' D L s' cm',evG C (λJ H=>evE C J pe H) (.mk t one it0 ifs::gs) J [] H=.ok vs H'->s.heap.get? D=none->s.heap.get? L=none->D≠L->Nx f.FA f.FO s cm s' cm'->Inv c ((f.wide D).wide L) s' J H' cm'->(∃m,s'.heap.Ns L m)->AccAt c ((f.wide D).wide L).FX cm' s'.heap D vs ->
   compPost (model P0 c.w) A E use Q (.ref D) L (.ok .next) s') :
  wpAny (model P0 c.w) A (comprehension (.ListComp elt (⟨x,y,zs,aa⟩::r) scope pos) scope f.env pp (newList []) false (eval y f.env) use) Q E s:=by
 have hc:=oK hcs;obtain⟨sit,sifs,srest⟩:=sg;have hck':=hck
 replace hck':(aa==0&&noSet y&&chkE k it0 f.sc f.σ y&&chkT (relab f.sc scope.names) (own++f.σ) (λn=>(own.lookup n).isSome) t one x&&chkL k ifs (relab f.sc scope.names) (own++f.σ) zs&&chkG k gs (relab f.sc scope.names) (own++f.σ) (relab f.sc scope.names) (own++f.σ) (λn=>(own.lookup n).isSome) r)=true:=hck'
 simp only[Bool.and_eq_true,beq_iff_eq] at hck';obtain⟨⟨⟨⟨⟨rfl,hns⟩,h1⟩,h2⟩,h3⟩,h4⟩:=hck';have hsl:=oV hgs _ _ _ _ _ hck;have hnd:(t++gsl gs).Nodup:=by
  have:=hc.ndo;rw[hsl] at this;exact this
 have hu:=oU hclr;refine wpAny_comprehension_free rfl (λ_=>ZS hns) (oJ λm hm=>?_) hc.kind (λq hq hl=>lookup_mem hc.nd (by obtain⟨a,b⟩:=q; cases hl; exact hq)) ?_
 ·have q1:=lookup_mem hc.nd hm
  obtain⟨hs,hf,_⟩:=hc.free m q1;obtain⟨j,hj⟩:=Option.isSome_iff_exists.mp hs;obtain⟨kd,w1,w2⟩:∃kd,f.sc.lookup m=some kd/\(kd=.cell\/kd=.free):=hf.elim (λh=>⟨_,h,.inl rfl⟩) λh=>⟨_,h,.inr rfl⟩
  obtain⟨a,w3,_⟩:=f.ok.cell m j kd hj w1 w2;rw[w3]; rfl
 ·refine (sit f hcd y h1).1 A rm J s H cm i _ E ?_
  cases ho:evE C J it0 H with
  | stuck=>exact hS (congrArg (Out.bind · _) ho)
  | exc m H_1=>exact λe s' cm' nx iv ex=>hE m H_1 (congrArg (Out.bind · _) ho) e s' cm' nx iv ex
  | ok v H_1 =>
   intro xv s_1 cm_1 n_1 i_1 r_1;have hev:evG C (λJ H=>evE C J pe H) (.mk t one it0 ifs::gs) J [] H=.opt (itemsOf v) λl=>loopO (λx acc H=>.opt (bindT t one x J) λJ'=>(evIfs C J' ifs H).bind λb H=>if b=true then evG C (λJ H=>evE C J pe H) gs J' acc H else .ok acc H) l [] H_1 :=
    congrArg (Out.bind · _) ho
   cases hit:itemsOf v with
   | none=>rw[hit] at hev; exact absurd hev hS
   | some l =>
    rw[hit,Jc] at hev;refine WL hit r_1 i_1 λs_2 gr hnew itr=>?_
    refine wpAny_newObj_type (hd:=by size_fits) ?_;have i_2:=gr.inv i_1;have g3:Grow s_2 {s_2 with heap:=s_2.heap.push {cls:=.type "list",dict:=none,data:=.seq ([]:List Value).toArray}}:=Grow.push s_2 _ s_2.toks;have hDo:(s_2.heap.push {cls:=.type "list",dict:=none,data:=.seq ([]:List Value).toArray}).get? s_2.heap.objs.size=some {cls:=.type "list",dict:=none,data:=.seq ([]:List Value).toArray}:=Heap.get?_push_size _ rfl;have i0:=i_2.wider (d:=s_2.heap.objs.size) g3 (Qk _) (by show (s_2.heap.push _).get? _≠none; rw[hDo]; nofun);have hD1:s_1.heap.get? s_2.heap.objs.size=none:=Decidable.byContradiction λq=>gr.some q (Qk _)
    refine oO (f:=f.wide s_2.heap.objs.size) hc i0 (λz j hz=>hu j (by rw[show gsl (.mk t one it0 ifs::gs)=own.map (·.2) from hsl.symm]; exact List.mem_map_of_mem (f:=(·.2)) (mem_of_lookup hz))) λg s₄ cenv cal e1 e2 e3 e4 e5 e6 i₄ e7 e8=>?_
    have e5':({cenv with scope:=relabel scope f.env}:Env)=g.env:=e5.symm;refine e5' ▸ ?_;have e1':g.sc=relab f.sc scope.names:=e1;have e2':g.σ=own++f.σ:=e2;have hDz:s_2.heap.objs.size∈g.FZ:=by rw[cal.FZ]; exact List.mem_append_left _ (.head _)
    have hcd':FrOk k g.env:=⟨e7.trans hcd.1,e8.trans hcd.2⟩;have rmg:Room g A n:=⟨rm.hh,rm.depth,rm.units,by rw[rm.frames,e4]; rfl⟩;have g4:=gr.trans (g3.trans cal.grow);obtain⟨oi,hoi,hoi2⟩:=itr.2.2.2.1;have hit3:=g3.keep _ _ hoi;have hXi:s_1.heap.objs.size ∉ g.FX:=λq=>by
     rcases cal.mem.mp q with q | q | q
     ·rw[(cal.fresh _ q).1] at hit3; exact no hit3
     ·rcases Qt.mp q with q | q
      ·rw[q,Qk] at hoi; exact no hoi
      ·exact itr.1 q
     ·cases q
    have rr4:∀a o,Rr f.FX cm_1 s_2.heap a o->Rr g.FX cm_1 s₄.heap a o:=λa o q70=>by obtain⟨e,st,n1,n2⟩:=q70; exact (⟨cal.grow.keep _ _ (g3.keep _ _ e),st,(λq=>by
     rcases cal.mem.mp q with q | q | q
     ·have:=(cal.fresh _ q).1; replace this:=(g3.keep _ _ e) ▸ this; cases this
     ·rcases Qt.mp q with q | q
      ·rw[q,Qk] at e; exact no e
      ·exact n1 q
     ·cases q),n2⟩)
    have itr4:IterAt c g.FX cm_1 s₄.heap s_1.heap.objs.size l:=itr.mono (λo e=>cal.grow.keep _ _ (g3.keep _ _ e)) hXi itr.2.1 rr4 (.refl _);have ac4:AccAt c g.FX cm_1 s₄.heap s_2.heap.objs.size []:=⟨[],0,cal.grow.keep _ _ hDo,rfl⟩;have loop:codeAny (model P0 c.w) A (.compLoop (.ListComp elt (⟨x,y,zs,0⟩::r) scope pos) 0 (.ref s_1.heap.objs.size) (.ref s_2.heap.objs.size) g.env) (compPost (model P0 c.w) A E use Q (.ref s_2.heap.objs.size) cenv.locals) s₄:=by
     refine qj (e:=elt) (k:=k) (n:=n) (C:=C) (K:=λs'=>compPost (model P0 c.w) A E use Q (.ref s_2.heap.objs.size) cenv.locals (.ok .next) s') rfl hall hDz hcd' (by rw[e1',e2',e3]; exact h2) (by rw[e1',e2']; exact h3) sifs hnd rmg
      (λJ s_0 cm_0 s H cm acc K E hu nx iv ac p=>oH hall hDz hcd' he (by rw[e1',e2']; exact helt) gs srest 0 r rfl (by rw[e1',e2',e3]; exact h4) (List.nodup_append.mp hnd).2.1 A rmg J s_0 cm_0 s H cm acc K E hu nx iv ac p)
      (λfl s' h=>by cases use<;>exact h) (s_0:=s_1) (cm_0:=cm_1) hu hnew g4.nx i₄ itr4 ac4 ?_
     have fin:AccPost c g J s_1 cm_1 s_2.heap.objs.size (evG C (λJ H=>evE C J pe H) (.mk t one it0 ifs::gs) J [] H) (λs'=>compPost (model P0 c.w) A E use Q (.ref s_2.heap.objs.size) cenv.locals (.ok .next) s'):=by
      cases hv:evG C (λJ H=>evE C J pe H) (.mk t one it0 ifs::gs) J [] H with
      | stuck=>exact hS hv
      | exc m H_2=>rw[hv] at hev; exact absurd hev.symm (oW _ _ _ _ _ _)
      | ok vs H_2 =>
       intro s' cm' nx iv ac;obtain⟨b1,b2⟩:=comp_back (L:=cenv.locals) i_1 (gr.trans g3) hD1 (by show (s_2.heap.push _).get? _≠none; rw[hDo]; nofun) cal e6 trivial nx iv;have hloc:g.env.locals=cenv.locals:=by rw[<-e5']
       obtain⟨xs,m,ea,ra⟩:=ac;refine hK vs H_2 s_2.heap.objs.size cenv.locals s' cm' hv (Decidable.byContradiction λq=>n_1.alive _ q hD1) (Decidable.byContradiction λq=>(gr.trans g3).some (n_1.alive _ q) (cal.fresh _ e6).1) (λq=>(iv.dj _ e6).2 (q ▸ hDz)) (n_1.trans b2) b1 ?_ ⟨xs,m,ea,Cx.reps_mono (Rr.sub λa h=>?_) (.refl _) ra⟩
       ·obtain⟨m',hns',_⟩:=iv.ns
        rw[hloc] at hns';exact⟨m',hns'⟩
       ·rcases Qt.mp h with h | h
        ·subst h; exact cal.mem.mpr (.inl e6)
        ·exact cal.mem.mpr (.inr (.inl h))
     rw[hev] at fin;exact fin
    exact G9 (d:=0) rfl loop λE=>qi itr4 loop
theorem Inv.zdrop {d:Addr}(i:Inv c (f.wide d) s J H cm)(hdf:d ∉ f.FX)(hb:∀a o,a≠d->s.heap.get? a=some o->s'.heap.get? a=some o)(hg:s'.gens=s.gens)(ho:s'.os=s.os):Inv c f s' J H cm:=by
 have hd:d∈(f.wide d).FX:=Qt.mpr (.inl rfl);have b:=i.base;have hR:∀a o,Rr (f.wide d).FX cm s.heap a o->Rr f.FX cm s'.heap a o:=λa o q70=>by obtain⟨e,st,n1,n2⟩:=q70; exact⟨hb a o (λq=>n1 (q ▸ hd)) e,st,λq=>n1 (Q6 a q),n2⟩
 have hne:∀a o,c.h_1.get? a=some o->a≠d:=λa o e q=>by rw[q,(b.lo d (.inl hd)).1] at e; exact no e
 have hgd:gh≠d:=λq=>c.glow (by rw[q]; exact (b.lo d (.inl hd)).1)
 have hFA:∀a,a∈f.FA->a≠d:=λa h q=>(i.dj a h).2 (by rw[q]; exact .head _)
 have hFO:∀a,a∈f.FO->a≠d:=λa h q=>i.dj2 a h (by rw[q]; exact .head _)
 have hZ:∀a,a∈adr cm->a≠d:=λa h q=>b.dj d hd (q ▸ h)
 have hsome:∀a,a≠d->s.heap.get? a≠none->s'.heap.get? a≠none:=λa h q=>by
  cases e:s.heap.get? a with
  | none=>exact absurd e q
  | some o=>rw[hb a o h e]; nofun
 have hXd:∀a,a∈f.FX->a≠d:=λa h q=>hdf (q ▸ h)
 refine⟨⟨b.len,λj p x e1 e2=>QM (λa o ha e=>hb a o (hZ a (Qz e1 ha)) e) hR (.refl _) (b.cells j p x e1 e2),λa h=>⟨(b.lo a (h.imp (Q6 a) id)).1,hsome a (h.elim (hXd a) (hZ a)) (b.lo a (h.imp (Q6 a) id)).2⟩,λa h=>b.dj a (Q6 a h),b.nd,
  λx o n e=>hb x o (hne x o e) (b.old x o n e),hg.trans b.gens,ho.trans b.os,b.tab.mono (λ_ e=>hb _ _ hgd e) hR⟩,λa h=>⟨(i.dj a h).1,λq=>(i.dj a h).2 (.tail _ q)⟩,λa h q=>i.dj2 a h (.tail _ q),?_,?_,?_⟩
 ·obtain⟨m,⟨o,es,ep,e,r⟩,z⟩:=i.ns
  exact⟨m,⟨o,es,ep,hb _ _ (hFA _ f.ok.loc) e,r⟩,λx k e1 e2=>(z x k e1 e2).mono hR (.refl _)⟩
 ·intro x k kd a e1 e2 e3 e4
  obtain⟨o,ov,e,dd,z⟩:=i.cl x k kd a e1 e2 e3 e4;refine⟨o,ov,hb a o ?_ e,dd,z.mono hR (.refl _)⟩;obtain⟨a',q1,_,q2,_⟩:=f.ok.cell x k kd e1 e2 e3;obtain rfl:a'=a:=Option.some.inj (q1.symm.trans e4);exact q2.elim (hFA _) (hFO _)
 ·intro e he
  obtain⟨h1,L,o,h2,h3,h4,h5⟩:=i.frs e he;exact⟨h1,L,o,h2,hb L o (h5.elim (hFA _) (hFO _)) h3,h4,h5⟩
theorem qw {gs:List PG}{cs:List Comprehension}{sc σ sc' σ' ow}(h:chkG k gs sc σ sc' σ' ow cs=true):cs.all (λg=>g.is_async==0&&noSet g.iter)=true:=by
 induction gs generalizing cs sc σ with
 | nil=>refine (ieD (show cs.isEmpty=true from h)) ▸ ?_; rfl
 | cons g gs ih =>
  obtain⟨t,one,it,ifs⟩:=g;obtain⟨x,cs,rfl,h⟩:=Zw h;obtain⟨h,h4⟩:=anD h;exact Bool.and_eq_true_iff.mpr ⟨(anD (anD (anD h).1).1).1,ih h4⟩
theorem oX {mu:Bool}{vs:LA}{H_1:AH}(p:EPost c f J s cm (newC H_1 mu vs) Q E)(h0:s.heap.get? D=none)(hd:D ∉ f.FX)(nx:Nx f.FA f.FO s cm s' cm')(iv:Inv c (f.wide D) s' J H_1 cm')(ac:AccAt c (f.wide D).FX cm' s'.heap D vs):Q (.ref D) s':=by
 obtain⟨xs,m,e,r⟩:=ac;cases mu with
 | true=>exact EPost.endZ p nx iv hd h0 ⟨rfl,xs,_,m,e,rfl,rfl,rfl,rfl,Cx.reps_mono Rr.zcell (.snoc _ _) r⟩
 | false=>exact EPost.endN p nx iv ⟨D,_,xs,m,rfl,⟨e,rfl,hd,iv.base.dj D (Qt.mpr (.inl rfl))⟩,rfl,rfl,Cx.reps_mono (Rr.sub Q6) (.refl _) r⟩
theorem oY {gs:List PG}{mu:Bool}(he:SE c k n C e)(sg:SG c k n C gs):SE c k n C (.comp e gs mu):=λf hcd x h=>by
 replace h:=Zu h
 obtain⟨y,cs,sc,pos,rfl,h⟩:=h
 replace h:=Qp h
 obtain⟨own,hown,h⟩:=h;simp only[Bool.and_eq_true] at h;obtain⟨⟨⟨h0,h1⟩,h2⟩,h3⟩:=h
 match gs,cs,h0,h2,hown,sg with
 | .mk t one it0 ifs::gs,⟨x0,y0,zs,aa⟩::r,_,h2,hown,sg =>
  have hall:=qw h2;have haa:aa=0:=by
   simp only[List.all_cons,Bool.and_eq_true,beq_iff_eq] at hall;exact hall.1.1
  subst haa;refine Qm rfl λA rm J s H cm i Q E p=>?_
  change EPost _ _ _ _ _ (ite _ _ _) _ _ at p
  split at p
  ·rename_i hclr
   refine qu (use:=none) hown h1 h2 h3 hall sg he rm hcd i hclr (λq=>by rw[q] at p; exact p.elim) (λm H' q e s' cm' nx iv ex=>by rw[q] at p; exact p e s' cm' nx iv ex) λvs H' D L s' cm' hv hD hL hDL nx iv ⟨m,hm⟩ ac=>⟨m,hm,λh' hs=>?_⟩
   rw[hv] at p;have hb:∀a o,a≠L->s'.heap.get? a=some o->h'.get? a=some o:=λa o ha e=>(hs.2 a ha).trans e
   have iv':=iv.zdrop (s':={s' with heap:=h'}) (λq=>(Qt.mp q).elim (λq=>hDL q.symm) (i.fresh hL)) hb rfl rfl;obtain⟨xs,q,e1,e2⟩:=ac;exact oX p hD (i.fresh hD) (nx.mod hL hb) iv' ⟨xs,q,hb D _ hDL e1,Cx.reps_mono (λa o ⟨e,st,n1,n2⟩=>⟨hb a o (λq=>n1 (Qt.mpr (.inl q))) e,st,λq=>n1 (Q6 a q),n2⟩) (.refl _) e2⟩
  ·exact p.elim
theorem QS (ok:CkOk c k)(os:OSnd c n C)(e:PE):SE c k n C e :=
 PE.rec (motive_1:=λe=>SE c k n C e) (motive_2:=λg=>SG c k n C [g]) (motive_3:=λl=>∀e∈l,SE c k n C e) (motive_4:=SG c k n C)
  vh (λb=>vm) (λi=>vo) (λs=>vq) (λm=>vy) (λm v=>vB ok) (λo a b=>vC) (λa=>vD) (λo a b=>vG) (λa=>se_nt) (λl=>vL) (λl=>se_or)
  (λt a b=>vN) (λf as=>uL os) (λ_ _ _ as=>uP ok os) (λo _ _ _ as=>uO ok os) (λo x=>xY) (λo=>xZ) (λo x=>uc) (λo _=>xW) (λo i=>vU) (λo i=>vW) (λo i=>vX)
  (λo m _=>xT) (λa b=>xR) (λa=>xG) (λa=>xH) (λa=>xP) (λa b=>xJ) (λa=>xK) (λa=>xM) (λa b=>xO) (λa=>xN) (λa _=>xQ) (λa _ _=>ug ok)
  (λl _=>vQ) (λl=>vO) (λ_ l _=>uo) (λe gs _=>oY) (λm=>uU ok) (λl=>ul) (λa=>ue) (λa=>ud) uf
  (λ_ _ it ifs h1 h2=>⟨h1,h2,trivial⟩) (λ_ h=>(List.not_mem_nil h).elim) (λa l h1 h2 e h=>(mcD h).elim (λq=>q ▸ h1) (h2 e)) trivial (λg gs h1 h2=>by cases g; exact⟨h1.1,h1.2.1,h2⟩) e
theorem oZ (ok:CkOk c k)(os:OSnd c n C)(l:List PE):∀e∈l,SE c k n C e:=λe _=>QS ok os e
theorem o6 (ok:CkOk c k)(os:OSnd c n C)(gs:List PG):SG c k n C gs:=by
 induction gs with
 | nil=>trivial
 | cons g gs ih=>cases g; exact⟨QS ok os _,oZ ok os _,ih⟩
noncomputable def okName (sc:Sc)(σ:Sl)(m:Nat)(y:Str):Bool:=σ.lookup y==some m&&(sc.lookup y==some .local||sc.lookup y==some .cell)&&!(y==Str.ofString "__debug__")
noncomputable def noComp (x:PX):Bool:=!(x.ctorIdx==8||x.ctorIdx==9||x.ctorIdx==10)
noncomputable def isTL (x:PX):Bool:=x.ctorIdx==25||x.ctorIdx==24
noncomputable def asgA (x v:PX):Bool:=noStar x&&noComp v&&(!(v.ctorIdx==25)||!isTL x)
noncomputable def asgB (e:PE)(x v:PX):Bool:=onComp v (λ_ _ _ _=>true)&&onName x (λ_ _=>true)&&(e.ctorIdx==38)
noncomputable def asgB' (x v:PX):Bool:=onComp v (λ_ _ _ _=>true)&&!(x.ctorIdx==23)&&noStar x
noncomputable def asgC (x v:PX):Bool:=onTup x λts _ _=>on2 ts λa b=>onName a λy1 _=>onName b λy2 _=>onTup v λvs _ _=>y1 != y2&&vs.length==2&&vs.all noStar&&!(vs.all (foldedForSure 8))&&!(vs.all (constantsAlone 8))
noncomputable def asgD (x v:PX):Bool:=onTup x λts _ _=>on2 ts λa b=>onSub a (λ_ _ _=>true)&&onSub b (λ_ _ _=>true)&&onTup v λ_ _ _=>true
noncomputable def asgForm (e:PE)(x v:PX):Bool:=asgA x v||(asgB e x v||(asgB' x v||(asgC x v||asgD x v)))
noncomputable def stRet (x:Stmt)(P:Option PX->Pos->Bool):Bool:=if h:x.ctorIdx=3 then Stmt.Return.elim (motive_2:=λ_=>Bool) x h P else false
noncomputable def stAsg (x:Stmt)(P:List PX->PX->Pos->Bool):Bool:=if h:x.ctorIdx=5 then Stmt.Assign.elim (motive_2:=λ_=>Bool) x h P else false
noncomputable def stAug (x:Stmt)(P:PX->Operator->PX->Pos->Bool):Bool:=if h:x.ctorIdx=7 then Stmt.AugAssign.elim (motive_2:=λ_=>Bool) x h P else false
noncomputable def stFor (x:Stmt)(P:PX->PX->List Stmt->List Stmt->Pos->Bool):Bool:=if h:x.ctorIdx=9 then Stmt.For.elim (motive_2:=λ_=>Bool) x h P else false
noncomputable def stWhl (x:Stmt)(P:PX->List Stmt->List Stmt->Pos->Bool):Bool:=if h:x.ctorIdx=11 then Stmt.While.elim (motive_2:=λ_=>Bool) x h P else false
noncomputable def stIte (x:Stmt)(P:PX->List Stmt->List Stmt->Pos->Bool):Bool:=if h:x.ctorIdx=12 then Stmt.If.elim (motive_2:=λ_=>Bool) x h P else false
noncomputable def stRai (x:Stmt)(P:Option PX->Option PX->Pos->Bool):Bool:=if h:x.ctorIdx=16 then Stmt.Raise.elim (motive_2:=λ_=>Bool) x h P else false
noncomputable def stTry (x:Stmt)(P:List Stmt->List ExceptHandler->List Stmt->List Stmt->Pos->Bool):Bool:=if h:x.ctorIdx=17 then Stmt.Try.elim (motive_2:=λ_=>Bool) x h P else false
noncomputable def stExp (x:Stmt)(P:PX->Pos->Bool):Bool:=if h:x.ctorIdx=24 then Stmt.Expr.elim (motive_2:=λ_=>Bool) x h P else false
noncomputable def stPas (x:Stmt)(P:Pos->Bool):Bool:=if h:x.ctorIdx=25 then Stmt.Pass.elim (motive_2:=λ_=>Bool) x h P else false
noncomputable def stCon (x:Stmt)(P:Pos->Bool):Bool:=if h:x.ctorIdx=27 then Stmt.Continue.elim (motive_2:=λ_=>Bool) x h P else false
noncomputable def onH (x:ExceptHandler)(P:PX->Str->List Stmt->Bool):Bool:=match x with | .ExceptHandler a b l _=>onS a λa=>onS b λb=>P a b l
theorem qx {st:Stmt}{P}(h:stRet st P=true):∃v p,st=.Return v p/\P v p=true:=by have e:=dinv h; revert h; exact Stmt.Return.elim st e λv p h=>⟨v,p,rfl,h⟩
theorem qy {st:Stmt}{P}(h:stAsg st P=true):∃l v p,st=.Assign l v p/\P l v p=true:=by have e:=dinv h; revert h; exact Stmt.Assign.elim st e λl v p h=>⟨l,v,p,rfl,h⟩
theorem o7 {st:Stmt}{P}(h:stAug st P=true):∃x o v p,st=.AugAssign x o v p/\P x o v p=true:=by have e:=dinv h; revert h; exact Stmt.AugAssign.elim st e λx o v p h=>⟨x,o,v,p,rfl,h⟩
theorem o8 {st:Stmt}{P}(h:stFor st P=true):∃x y u e p,st=.For x y u e p/\P x y u e p=true:=by have e:=dinv h; revert h; exact Stmt.For.elim st e λx y u e p h=>⟨x,y,u,e,p,rfl,h⟩
theorem o9 {st:Stmt}{P}(h:stWhl st P=true):∃x u e p,st=.While x u e p/\P x u e p=true:=by have e:=dinv h; revert h; exact Stmt.While.elim st e λx u e p h=>⟨x,u,e,p,rfl,h⟩
theorem Qaa {st:Stmt}{P}(h:stIte st P=true):∃x u v p,st=.If x u v p/\P x u v p=true:=by have e:=dinv h; revert h; exact Stmt.If.elim st e λx u v p h=>⟨x,u,v,p,rfl,h⟩
theorem Qab {st:Stmt}{P}(h:stRai st P=true):∃a b p,st=.Raise a b p/\P a b p=true:=by have e:=dinv h; revert h; exact Stmt.Raise.elim st e λa b p h=>⟨a,b,p,rfl,h⟩
theorem Qac {st:Stmt}{P}(h:stTry st P=true):∃u l e v p,st=.Try u l e v p/\P u l e v p=true:=by have e:=dinv h; revert h; exact Stmt.Try.elim st e λu l e v p h=>⟨u,l,e,v,p,rfl,h⟩
theorem Qad {st:Stmt}{P}(h:stExp st P=true):∃v p,st=.Expr v p/\P v p=true:=by have e:=dinv h; revert h; exact Stmt.Expr.elim st e λv p h=>⟨v,p,rfl,h⟩
theorem Qae {st:Stmt}{P}(h:stPas st P=true):∃p,st=.Pass p/\P p=true:=by have e:=dinv h; revert h; exact Stmt.Pass.elim st e λp h=>⟨p,rfl,h⟩
theorem Qaf {st:Stmt}{P}(h:stCon st P=true):∃p,st=.Continue p/\P p=true:=by have e:=dinv h; revert h; exact Stmt.Continue.elim st e λp h=>⟨p,rfl,h⟩
theorem on_h {x:ExceptHandler}{P}(h:onH x P=true):∃a b l p,x=.ExceptHandler (some a) (some b) l p/\P a b l=true:=by
 cases x
 replace h:=Qp h
 obtain⟨_,rfl,h⟩:=h;obtain⟨_,rfl,h⟩:=Qp h;exact⟨_,_,_,_,rfl,h⟩
mutual
noncomputable def chkA (k:Ck):PT->Sc->Sl->PX->Bool
 | .loc m,sc,σ,x=>onName x λy _=>okName sc σ m y
 | .attr o n,sc,σ,x=>onAttr x λy m _=>m==Str.ofString n&&chkE k o sc σ y
 | .sub o i,sc,σ,x=>onSub x λy z _=>!isSl z&&chkE k o sc σ y&&chkE k i sc σ z
 | .tup ts,sc,σ,x=>onTup x λl _ _=>chkAs k ts sc σ l
noncomputable def chkAs (k:Ck):List PT->Sc->Sl->List PX->Bool
 | [],_,_,l=>l.isEmpty
 | t::ts,sc,σ,l=>match l with
  | x::r=>noStar x&&chkA k t sc σ x&&chkAs k ts sc σ r
  | []=>false
end
noncomputable def ckT3 (sc:Sc)(σ:Sl)(m ek:Nat)(w:Str)(l:List PX)(v:PX):Bool:=on1 l λx=>onName x λz _=>onAttr v λo a _=>onName o λw' _ =>
 w==w'&&a==Str.ofString "message"&&okName sc σ m z&&okName sc σ ek w&&sc.lookup w==some .local&&m != ek
noncomputable def ckT2 (sc:Sc)(σ:Sl)(m ek:Nat)(w:Str)(b0:Stmt):Bool:=stAsg b0 λl v _=>ckT3 sc σ m ek w l v
noncomputable def ckT1 (sc:Sc)(σ:Sl)(m ek:Nat)(h:ExceptHandler):Bool:=onH h λty w bd=>onName ty λy _=>glb sc "Refusal" y&&on1 bd (ckT2 sc σ m ek w)
mutual
noncomputable def chkS (k:Ck):PS->Sc->Sl->Stmt->Bool
 | .asg t e,sc,σ,st=>stAsg st λl v _=>on1 l λx=>asgForm e x v&&chkA k t sc σ x&&chkE k e sc σ v
 | .aug m o e,sc,σ,st=>stAug st λx p v _=>onName x λy _=>okName sc σ m y&&visL sc y&&!(y==Str.ofString "__classdict__")&&p==opOf o&&chkE k e sc σ v
 | .exp e,sc,σ,st=>stExp st λv _=>noComp v&&chkE k e sc σ v
 | .ret e,sc,σ,st=>stRet st λv _=>onS v λv=>chkE k e sc σ v
 | .ret0,sc,σ,st=>stRet st λv _=>v.isNone
 | .ite t a b,sc,σ,st=>stIte st λx u v _=>chkE k t sc σ x&&chkSs k a sc σ u&&chkSs k b sc σ v
 | .whl t b,sc,σ,st=>stWhl st λx u e _=>e.isEmpty&&(chkE k t sc σ x&&chkSs k b sc σ u)
 | .for_ t one it b,sc,σ,st=>stFor st λx y u e _=>e.isEmpty&&(noSet y&&chkE k it sc σ y&&chkT sc σ (λ_=>true) t one x&&chkSs k b sc σ u)
 | .cont,sc,σ,st=>stCon st λ_=>true
 | .pass,sc,σ,st=>stPas st λ_=>true
 | .raise e,sc,σ,st=>stRai st λa b _=>b.isNone&&onS a λa=>onCall1 a λy z=>glb sc "Refusal" y&&noStar z&&chkE k e sc σ z
 | .tryR b m ek,sc,σ,st=>stTry st λu hs e g _=>e.isEmpty&&g.isEmpty&&chkSs k b sc σ u&&on1 hs (ckT1 sc σ m ek)
 | .bad,_,_,_=>true
noncomputable def chkSs (k:Ck):List PS->Sc->Sl->List Stmt->Bool
 | [],_,_,l=>l.isEmpty
 | p::ps,sc,σ,l=>match l with
  | x::r=>chkS k p sc σ x&&chkSs k ps sc σ r
  | []=>false
end
section
structure FrD (k:Ck)(f:Fm):Prop where
 cd:FrOk k f.env
 ow:f.ow=λ_=>true
 fs:∃r,f.fs=f.env::r
 fr:f.env.frame=some f.env.locals
section
variable (c:Cx)(k:Ck)(n:Nat)(C:Orc)
noncomputable def SS (p:PS):Prop:=∀f,FrD k f->∀st,chkS k p f.sc f.σ st=true->∀A,Room f A n->∀J s H cm,Inv c f s J H cm->∀Q E,SPost c f s cm (evS C p J H) Q E->wpAny (model P0 c.w) A (exec st f.env) Q E s
noncomputable def SSs (l:List PS):Prop:=∀f,FrD k f->∀st,chkSs k l f.sc f.σ st=true->∀A,Room f A n->∀J s H cm,Inv c f s J H cm->∀Q E,SPost c f s cm (evSs C l J H) Q E->wpAny (model P0 c.w) A (execs st f.env) Q E s
end
section
variable {Q:Flow->Shared->Prop}
theorem SPost.from {o:OS}(h:SPost c f s cm o Q E)(x:Nx f.FA f.FO s cm s' cm'):SPost c f s' cm' o Q E:=by
 cases o with
 | ok fl J H=>exact λy s'' cm'' n=>h y s'' cm'' (x.trans n)
 | exc m J H=>exact λy s'' cm'' n i r=>h y s'' cm'' (x.trans n) i (r.older x.alive)
 | stuck=>exact h
theorem bindT' {t:Sem β}{o:Out α}{kk:α->AH->OS}{K:β->Shared->Prop}(ih:∀Q,GPost c rp f J s cm o Q E->wpAny M A t Q E s)(h:SPost c f s cm (o.st J kk) Q E)
  (hk:∀v H_1 x s_1 cm_1,o=.ok v H_1->Nx f.FA f.FO s cm s_1 cm_1->Inv c f s_1 J H_1 cm_1->rp cm_1 s_1.heap v x->SPost c f s_1 cm_1 (kk v H_1) Q E->K x s_1):wpAny M A t K E s:=by
 refine ih K ?_;cases o with
 | ok v H=>exact λx s_1 cm_1 n i r=>hk v H x s_1 cm_1 rfl n i r (SPost.from h n)
 | exc m H=>exact λe s_1 cm_1 n i r=>h e s_1 cm_1 n i r
 | stuck=>exact h.elim
theorem bindSS {t:Sem Flow}{o:OS}{kk:Fl->LA->AH->OS}{K:Flow->Shared->Prop}(ih:∀Q,SPost c f s cm o Q E->wpAny M A t Q E s)(h:SPost c f s cm (o.bind kk) Q E)
  (hk:∀fl J_1 H_1 x s_1 cm_1,o=.ok fl J_1 H_1->Nx f.FA f.FO s cm s_1 cm_1->Inv c f s_1 J_1 H_1 cm_1->flOk c f.FX cm_1 s_1.heap fl x->SPost c f s_1 cm_1 (kk fl J_1 H_1) Q E->K x s_1):wpAny M A t K E s:=by
 refine ih K ?_;cases o with
 | ok fl J_1 H_1=>exact λx s_1 cm_1 n i r=>hk fl J_1 H_1 x s_1 cm_1 rfl n i r (SPost.from h n)
 | exc m J_1 H_1=>exact λe s_1 cm_1 n i r=>h e s_1 cm_1 n i r
 | stuck=>exact h.elim
theorem SPost.here {fl:Fl}{x:Flow}(h:SPost c f s cm (.ok fl J H) Q E)(i:Inv c f s J H cm)(r:flOk c f.FX cm s.heap fl x):Q x s:=h x s cm (Nx.refl ..) i r
theorem Qag:SS c k n C .bad:=λf fd st h A rm J s H cm i Q E p=>False.elim p
theorem Qah:SS c k n C .pass:=λf fd st h A rm J s H cm i Q E p=>by
 replace h:=Qae h
 obtain⟨pos,rfl,h⟩:=h;exact wpAny_bind (wpAny_standAt (wpAny_pure (SPost.here p i rfl)))
theorem Qai:SS c k n C .cont:=λf fd st h A rm J s H cm i Q E p=>by
 replace h:=Qaf h
 obtain⟨pos,rfl,h⟩:=h;exact wpAny_bind (wpAny_standAt (wpAny_pure (SPost.here p i rfl)))
theorem Qaj:SS c k n C .ret0:=λf fd st h A rm J s H cm i Q E p=>by
 replace h:=qx h
 obtain⟨v,pos,rfl,h⟩:=h;cases Option.isNone_iff_eq_none.mp h;exact wpAny_bind (wpAny_standAt (wpAny_pure (SPost.here p i ⟨_,rfl,rfl⟩)))
theorem Qak (he:SE c k n C e):SS c k n C (.ret e):=λf fd st h A rm J s H cm i Q E p=>by
 replace h:=qx h
 obtain⟨v,pos,rfl,h⟩:=h
 replace h:=Qp h
 obtain⟨v,rfl,h⟩:=h;simp only[exec_Return_some];exact wpAny_bind (wpAny_standAt (wpAny_bind (bindT' (λQ=>(he f fd.cd v h).1 A rm J s H cm i Q E) p λw H_1 x s_1 cm_1 _ n_1 i_1 r_1 p=>wpAny_pure (SPost.here p i_1 ⟨_,rfl,r_1⟩))))
theorem Qal (he:SE c k n C e):SS c k n C (.exp e):=λf fd st h A rm J s H cm i Q E p=>by
 replace h:=Qad h
 simp only[Bool.and_eq_true] at h;obtain⟨v,pos,rfl,h⟩:=h;have hi:interactive f.env=false:=by unfold interactive; rw[f.ok.kind]; rfl
 have hs:swapsWith v none pos.line f.env=pure false:=by
  have h1:=h.1;cases v<;>first | rfl | (exact nf h1)
 refine (exec_Expr _ v pos hi hs) ▸ ?_;refine wpAny_bind (wpAny_standAt (wpAny_bind (bindT' (λQ=>(he f fd.cd v h.2).1 A rm J s H cm i Q E) p λw H_1 x s_1 cm_1 _ n_1 i_1 r_1 p=>?_)));cases w<;>first | exact p.elim | skip
 ·obtain rfl:x=.none:=r_1
  rw[dropValue_plain (by nofun)];exact wpAny_pure (SPost.here p i_1 rfl)
 ·obtain⟨t,rfl⟩:=r_1
  rw[dropValue_plain (by nofun)];exact wpAny_pure (SPost.here p i_1 rfl)
theorem Qam {a:PS}{l:List PS}{sc:Sc}{σ:Sl}{ys:List Stmt}(h:chkSs k (a::l) sc σ ys=true):∃y r,ys=y::r/\chkS k a sc σ y=true/\chkSs k l sc σ r=true:=by
 cases ys with
 | nil=>exact nf h
 | cons y r=>exact⟨y,r,rfl,anD h⟩
theorem Yq (l:List PS)(hs:∀p∈l,SS c k n C p):SSs c k n C l:=by
 induction l with
 | nil=>intro f fd st h A rm J s H cm i Q E p; refine (ieD h) ▸ ?_; exact wpAny_pure (SPost.here p i rfl)
 | cons a l ih =>
  intro f fd st h A rm J s H cm i Q E p;obtain⟨y,r,rfl,h1,h2⟩:=Qam h;refine wpAny_bind (bindSS (λQ=>hs a (.head _) f fd y h1 A rm J s H cm i Q E) p λfl J_1 H_1 x s_1 cm_1 _ n_1 i_1 r_1 p=>?_);cases fl with
  | next=>obtain rfl:=r_1; exact ih (λq hq=>hs q (.tail _ hq)) f fd r h2 A rm J_1 s_1 H_1 cm_1 i_1 Q E p
  | cont=>obtain rfl:=r_1; exact wpAny_pure (SPost.here p i_1 rfl)
  | ret v=>obtain⟨z,rfl,rz⟩:=r_1; exact wpAny_pure (SPost.here p i_1 ⟨z,rfl,rz⟩)
theorem Qan {t:PE}{a b:List PS}(ht:SE c k n C t)(ha:SSs c k n C a)(hb:SSs c k n C b):SS c k n C (.ite t a b):=λf fd st h A rm J s H cm i Q E p=>by
 replace h:=Qaa h
 obtain⟨x,u,v,pos,rfl,h⟩:=h;simp only[Bool.and_eq_true] at h;obtain⟨⟨h1,h2⟩,h3⟩:=h;refine wpAny_bind (wpAny_standAt (wpAny_bind (bindT' (rp:=λ_ _ (a b:Bool)=>a=b) (λQ=>(ht f fd.cd x h1).2 A rm J s H cm i Q E) p λw H_1 z s_1 cm_1 _ n_1 i_1 r_1 p=>?_)));subst r_1;cases w with
 | true=>exact ha f fd u h2 A rm J s_1 H_1 cm_1 i_1 Q E p
 | false=>exact hb f fd v h3 A rm J s_1 H_1 cm_1 i_1 Q E p
end
end
section
section
variable {Q:Flow->Shared->Prop}
theorem J4 {sc:Sc}{σ:Sl}{m:Nat}{y:Str}(h:okName sc σ m y=true):σ.lookup y=some m/\(∃kd,sc.lookup y=some kd/\(kd=.local\/kd=.cell))/\(y==Str.ofString "__debug__")=false:=by
 simp only[okName,Bool.and_eq_true,beq_iff_eq,Bool.or_eq_true,Bool.not_eq_true'] at h;exact⟨h.1.1,h.1.2.elim (λq=>⟨_,q,.inl rfl⟩) λq=>⟨_,q,.inr rfl⟩,h.2⟩
theorem Qao {m:Nat}{o:Op}(he:SE c k n C e):SS c k n C (.aug m o e):=λf fd st h A rm J s H cm i Q E p=>by
 replace h:=o7 h
 obtain⟨x,op,v,pos,rfl,h⟩:=h
 replace h:=QR h
 obtain⟨y,yp,rfl,h⟩:=h;simp only[Bool.and_eq_true,beq_iff_eq,Bool.not_eq_true'] at h;obtain⟨⟨⟨⟨h1,h2⟩,h3⟩,rfl⟩,h5⟩:=h;obtain⟨q1,⟨kd,q2,q3⟩,q4⟩:=J4 h1;have hl:∀Q:VS,EPost c f J s cm (evE C J (.loc m) H) Q E->wpAny (model P0 c.w) A (loadName f.env y) Q E s:=λQ p=>N8 q1 h2 h3 i p
 refine wpAny_bind (wpAny_standAt (wpAny_bind (bindT' hl p λa H_1 x s_1 cm_1 _ n_1 i_1 r_1 p=>wpAny_bind (wpAny_holding (bindT' (λQ=>(he f fd.cd v h5).1 A rm J s_1 H_1 cm_1 i_1 Q E) p λb H_2 z s_2 cm_2 _ n_2 i_2 r_2 p=>?_)))));cases hb:pBin o a b with
 | none=>rw[hb] at p; exact p.elim
 | some u =>
  rw[hb] at p;refine wpAny_bind (wpAny_standAt (wpAny_bind (wpAny_operateT ?_)));refine (U9 i_2 (n_2.rep i_1.base r_1) r_2 ?_).2;rw[hb];intro w s_3 cm_3 n_3 i_3 r_3;refine wpAny_bind (wpAny_standAt (wpAny_bind (wpAny_bindName (Jv q1 q2 q3 (by rw[fd.ow]) i_3 r_3 λs₄ n₄ i₄=>wpAny_pure ?_))))
  exact p _ s₄ cm_3 (n_3.trans n₄) i₄ rfl
inductive WhP (c:Cx)(f:Fm)(s_0:Shared)(cm_0:CM)(T:LA->AH->Out Bool)(B:LA->AH->OS)(Q:Flow->Shared->Prop)(m:Nat)(s:Shared):Prop where
 | mk (J:LA)(H:AH)(cm:CM)(nx:Nx f.FA f.FO s_0 cm_0 s cm)(iv:Inv c f s J H cm)(p:SPost c f s_0 cm_0 (whileN T B m J H) Q (λ_ _=>False))
theorem Qap {t:PE}{b:List PS}{u:List Stmt}(fd:FrD k f)(ht:SE c k n C t)(hb:SSs c k n C b)(h1:chkE k t f.sc f.σ x=true)(h2:chkSs k b f.sc f.σ u=true)(rm:Room f A n)
  {R:Result->Shared->Prop} (hR:∀fl s',Q fl s'->R (.ok fl) s') (N:Nat) (s:Shared) (J:LA) (H:AH) (cm:CM) (nx:Nx f.FA f.FO s_0 cm_0 s cm) (iv:Inv c f s J H cm)
  (p:SPost c f s_0 cm_0 (whileN (λJ H=>evT C J t H) (λJ H=>evSs C b J H) N J H) Q (λ_ _=>False)):codeAny (model P0 c.w) A (.whileLoop x u [] f.env) R s:=by
 refine codeAny_whileLoop (WhP c f s_0 cm_0 _ _ Q) ?_ N ⟨J,H,cm,nx,iv,p⟩
 rintro m s ⟨J,H,cm,nx,iv,p⟩
 cases m with
 | zero=>exact p.elim
 | succ m =>
  have p:SPost c f s_0 cm_0 (whK (evT C J t H) J (λJ H=>evSs C b J H) _) Q _:=p;refine (ht f fd.cd x h1).2 A rm J s H cm iv _ _ ?_;cases hev:evT C J t H with
  | exc _ _=>replace p:=hev ▸ p; exact p.elim
  | stuck=>replace p:=hev ▸ p; exact p.elim
  | ok bb H_1 =>
   replace p:=hev ▸ p
   intro b' s_1 cm_1 n_1 i_1 eb;subst eb;cases bb with
   | false =>
    exact wpAny_pure (hR _ _ (p _ s_1 cm_1 (nx.trans n_1) i_1 rfl))
   | true =>
    have p:SPost c f s_0 cm_0 (OS.lp (evSs C b J H_1) _) Q _:=p;refine hb f fd u h2 A rm J s_1 H_1 cm_1 i_1 _ _ ?_;cases hbv:evSs C b J H_1 with
    | exc _ _ _=>replace p:=hbv ▸ p; exact p.elim
    | stuck=>replace p:=hbv ▸ p; exact p.elim
    | ok fl J_2 H_2 =>
     replace p:=hbv ▸ p
     intro y s_2 cm_2 n_2 i_2 hfl;cases fl with
     | next=>cases hfl; exact⟨m,Nat.lt_succ_self _,J_2,H_2,cm_2,(nx.trans n_1).trans n_2,i_2,p⟩
     | cont=>cases hfl; exact⟨m,Nat.lt_succ_self _,J_2,H_2,cm_2,(nx.trans n_1).trans n_2,i_2,p⟩
     | ret v=>obtain⟨z,rfl,rz⟩:=hfl; exact hR _ _ (p _ s_2 cm_2 ((nx.trans n_1).trans n_2) i_2 ⟨z,rfl,rz⟩)
theorem ZV {o:OS}{K:LA->AH->OS}(h:∀J H,K J H≠.exc m J' H'):o.lp K≠.exc m J' H':=by
 cases o with
 | ok fl J H=>cases fl<;>first | exact h J H | exact λq=>by cases q
 | _=>exact λq=>by cases q
theorem Qaq (t:LA->AH->Out Bool)(b:LA->AH->OS)(N:Nat)(J:LA)(H:AH)(m:AV)(J':LA)(H':AH):whileN t b N J H≠.exc m J' H':=by
 induction N generalizing J H with
 | zero=>exact λq=>by cases q
 | succ N ih =>
  show whK (t J H) J b _≠_;cases t J H with
  | ok c H_1=>cases c<;>first | exact ZV λJ H=>ih J H | exact λq=>by cases q
  | _=>exact λq=>by cases q
theorem SPost.noexc {o:OS}(h:SPost c f s cm o Q E)(hn:∀m J' H',o≠.exc m J' H'):SPost c f s cm o Q (λ_ _=>False):=by
 cases o with
 | ok _ _ _=>exact h
 | exc m J' H'=>exact absurd rfl (hn m J' H')
 | stuck=>exact h
theorem Qar {t:PE}{b:List PS}(ht:SE c k n C t)(hb:SSs c k n C b):SS c k n C (.whl t b):=λf fd st h A rm J s H cm i Q E p=>by
 replace h:=o9 h
 obtain⟨x,u,e0,pos,rfl,h⟩:=h;rw[Bool.and_eq_true] at h;obtain⟨he,h⟩:=h;cases ieD he;simp only[Bool.and_eq_true] at h;have p:SPost c f s cm (whileO (λJ H=>evT C J t H) (λJ H=>evSs C b J H) J H) Q E:=p;unfold whileO at p;by_cases hN:∃N,whileN (λJ H=>evT C J t H) (λJ H=>evSs C b J H) N J H≠.stuck
 ·rw[dif_pos hN] at p
  exact wpAny_While (Qap fd ht hb h.1 h.2 rm (λ_ _ h=>h) _ s J H cm (Nx.refl ..) i (p.noexc (Qaq _ _ _ _ _)))
 ·rw[dif_neg hN] at p; exact p.elim
end
end
section
theorem Qas {target:PX}{it:Value}{body:List Stmt}(I:Nat->Shared->Prop)
  (turn:∀n s,I n s->∀E,wpAny (model P0 w) A (pyNext it) (λr s_1=>match r with
   | none=>R (.ok .next) s_1
   | some v=>wpAny (model P0 w) A (letOwnedTupleGo target it v) (λ_ s_1=>wpAny (model P0 w) A (assign target env v) (λ_ s_2=>wpAny (model P0 w) A (execs body env) (λf s_3=>match f with
     | .next | .cont=>∃m,m<n/\I m s_3
     | .brk=>R (.ok .next) s_3
     | .ret v=>R (.ok (.ret v)) s_3) E s_2) E s_1) E s_1) E s)
  (n:Nat) (h:I n s):codeAny (model P0 w) A (.forLoop target it body [] env) R s:=by
 refine codeAny_loop' rfl I (λn s hI=>?_) n h;show wpAny _ _ ((forTurn target it body [] env).onRaise (λx=>do noteFrame x env; theTreesLotGoes x)) _ _ s;refine wpAny_noted ?_;refine wpAny_bind (wpAny_standAt (wpAny_bind (wpAny_onRaise (wpAny_mono (turn n s hI _) (λr s_1 h_1=>?_) λ_ _ h'=>wpAny_standAt h'))));cases r with
 | none=>exact wpAny_pure (.inr ⟨rfl,codeAny_block (wpAny_pure h_1)⟩)
 | some v =>
  refine wpAny_bind (wpAny_mono h_1 (λ_ s_2 h_2=>wpAny_bind (wpAny_mono h_2 (λ_ s_3 h_3=>wpAny_bind (wpAny_mono h_3 (λf s₄ h₄=>?_) λ_ _ h'=>h')) λ_ _ h'=>h')) λ_ _ h'=>h');cases f with
  | next=>exact wpAny_pure (.inl ⟨rfl,h₄⟩)
  | cont=>exact wpAny_pure (.inl ⟨rfl,h₄⟩)
  | brk=>exact wpAny_pure h₄
  | ret v=>exact wpAny_pure h₄
section
variable {Q:Flow->Shared->Prop}
inductive FoP (c:Cx)(f:Fm)(it:Addr)(s_0:Shared)(cm_0:CM)(F:AV->LA->AH->OS)(Q:Flow->Shared->Prop)(m:Nat)(s:Shared):Prop where
 | mk (l J:LA)(H:AH)(cm:CM)(e:m=l.length)(nx:Nx f.FA f.FO s_0 cm_0 s cm)(iv:Inv c f s J H cm)(itr:IterAt c f.FX cm s.heap it l)(p:SPost c f s_0 cm_0 (loopS F l J H) Q (λ_ _=>False))
theorem Qat {t:List Nat}{one:Bool}{b:List PS}{u:List Stmt}(fd:FrD k f)(hb:SSs c k n C b)(h1:chkT f.sc f.σ (λ_=>true) t one x=true)(h2:chkSs k b f.sc f.σ u=true)(rm:Room f A n)
  {R:Result->Shared->Prop} (hR:∀fl s',Q fl s'->R (.ok fl) s') (h0:s_0.heap.get? it=none) (s:Shared) (J:LA) (H:AH) (cm:CM) (nx:Nx f.FA f.FO s_0 cm_0 s cm) (iv:Inv c f s J H cm) (itr:IterAt c f.FX cm s.heap it l)
  (p:SPost c f s_0 cm_0 (loopS (λx J H=>obT (bindT t one x J) λJ=>evSs C b J H) l J H) Q (λ_ _=>False)):codeAny (model P0 c.w) A (.forLoop x (.ref it) u [] f.env) R s:=by
 refine Qas (FoP c f it s_0 cm_0 _ Q) ?_ l.length ⟨l,J,H,cm,rfl,nx,iv,itr,p⟩
 rintro m s ⟨l,J,H,cm,rfl,nx,iv,itr,p⟩ E
 cases l with
 | nil =>
  refine ZR rm.hh itr λs' tt=>hR _ _ (p _ s' cm (nx.mod h0 λa o ha e=>tt.keep a o ha e) (tt.inv itr iv) rfl)
 | cons x0 l =>
  have p:SPost c f s_0 cm_0 (OS.lp (obT (bindT t one x0 J) λJ=>evSs C b J H) _) Q _:=p;refine ZQ itr iv.base λv s_1 tt rv itr_1=>?_
  have iv_1:=tt.inv itr iv;have nx_1:Nx f.FA f.FO s_0 cm_0 s_1 cm:=nx.mod h0 λa o ha e=>tt.keep a o ha e
  refine let_go itr_1 ?_;cases hbt:bindT t one x0 J with
  | none=>rw[hbt] at p; exact p.elim
  | some J' =>
   rw[hbt] at p;have p:SPost c f s_0 cm_0 (OS.lp (evSs C b J' H) _) Q _:=p;refine G8 (by rw[fd.ow]; exact h1) rm.hh hbt iv_1 rv λs_2 nx_2 iv_2=>?_
   have itr_2:=itr_1.nx iv_1.base nx_2;refine hb f fd u h2 A rm J' s_2 H cm iv_2 _ E ?_;cases hbv:evSs C b J' H with
   | exc _ _ _=>replace p:=hbv ▸ p; exact p.elim
   | stuck=>replace p:=hbv ▸ p; exact p.elim
   | ok fl J_2 H_2 =>
    replace p:=hbv ▸ p
    intro y s_3 cm_3 n_3 i_3 hfl;have nx_3:=(nx_1.trans nx_2).trans n_3;have itr_3:=itr_2.nx iv_2.base n_3;cases fl with
    | next=>cases hfl; exact⟨l.length,Nat.lt_succ_self _,l,J_2,H_2,cm_3,rfl,nx_3,i_3,itr_3,p⟩
    | cont=>cases hfl; exact⟨l.length,Nat.lt_succ_self _,l,J_2,H_2,cm_3,rfl,nx_3,i_3,itr_3,p⟩
    | ret v=>obtain⟨z,rfl,rz⟩:=hfl; exact hR _ _ (p _ s_3 cm_3 nx_3 i_3 ⟨z,rfl,rz⟩)
theorem Qau (ff:AV->LA->AH->OS)(l:LA)(J:LA)(H:AH)(m:AV)(J':LA)(H':AH):loopS ff l J H≠.exc m J' H':=by
 cases l with
 | nil=>exact λq=>by cases q
 | cons x l =>
  refine ZV λJ H=>?_
  induction l generalizing J H with
  | nil=>exact λq=>by cases q
  | cons x l ih=>exact ZV ih
theorem Qav {t:List Nat}{one:Bool}{it:PE}{b:List PS}(hi:SE c k n C it)(hb:SSs c k n C b):SS c k n C (.for_ t one it b):=λf fd st h A rm J s H cm i Q E p=>by
 replace h:=o8 h
 obtain⟨x,y,u,e0,pos,rfl,h⟩:=h;rw[Bool.and_eq_true] at h;obtain⟨he,h⟩:=h;cases ieD he;simp only[Bool.and_eq_true] at h;obtain⟨⟨⟨h0,h1⟩,h2⟩,h3⟩:=h;refine wpAny_For ?_ (λ_=>ZS h0);refine bindT' (λQ=>(hi f fd.cd y h1).1 A rm J s H cm i Q E) p λv H_1 xv s_1 cm_1 _ n_1 i_1 r_1 p=>?_
 cases hit:itemsOf v with
 | none=>simp only[hit] at p; exact p.elim
 | some l =>
  simp only[hit] at p;exact WL hit r_1 i_1 λs_2 gr hnew itr=>Qat fd hb h2 h3 rm (λ_ _ h=>h) hnew s_2 J H_1 cm_1 gr.nx (gr.inv i_1) itr (p.noexc (Qau _ _ _ _))
end
end
theorem ItTurn.trans (x:ItTurn it s s_1)(y:ItTurn it s_1 s_2):ItTurn it s s_2:=⟨λb o h e=>y.keep b o h (x.keep b o h e),y.gens.trans x.gens,y.os.trans x.os⟩
theorem Qaw (l:LA):∀(s:Shared) (Q:List Value->Shared->Prop),Inv c f s J H cm->IterAt c f.FX cm s.heap it l->(∀vs s',ItTurn it s s'->c.reps f.FX cm s'.heap l vs->IterAt c f.FX cm s'.heap it []->Q vs s')->wpAny (model P0 c.w) A (draw (.ref it) l.length) Q E s:=by
 induction l with
 | nil =>
  intro s Q i y hQ;exact wpAny_pure (hQ [] s ⟨λ_ _ _ e=>e,rfl,rfl⟩ rfl y)
 | cons x l ih =>
  intro s Q i y hQ;refine wpAny_bind (ZQ y i.base λv s_1 t rv y_1=>?_);refine wpAny_bind (wpAny_holding (ih s_1 _ (t.inv y i) y_1 λvs s_2 t_2 rvs y_2=>wpAny_pure ?_));exact hQ (v::vs) s_2 (t.trans t_2) ⟨v,vs,rfl,Cx.rep_mono (t_2.rr y_1) (.refl _) rv,rvs⟩ y_2
theorem qz {x:Value}{Q:List Value->Shared->Prop}(hh:A.handled=none)(hv:v.sq?=some l)(r:c.rep f.FX cm s.heap v x)(i:Inv c f s J H cm)
  (hQ:∀vs s',Nx f.FA f.FO s cm s' cm->Inv c f s' J H cm->c.reps f.FX cm s'.heap l vs->Q vs s'):wpAny (model P0 c.w) A (unpackItems x l.length none) Q E s:=by
 have hit:itemsOf v=some l:=by cases v<;>first | exact hv | exact no hv
 have hni:∀K:Bool->Shared->Prop,K false s->wpAny (model P0 c.w) A (notIterableAtAll x) K E s:=λK h=>by
  cases v<;>first | (exact no hv) | skip
  ·obtain⟨a,o,xs,n,rfl,q1,q2,q3,q4⟩:=r
   exact wpAny_bind (wpAny_specialOf (⟨o,q1.1,q2⟩:s.TypeIs (.ref a) "tuple") F.slot_tuple_iter.lookup (wpAny_pure h))
  ·obtain⟨a,o,-,-,rfl,q1,q2,-,-⟩:=r
   exact wpAny_bind (wpAny_specialOf (⟨o,q1.1,q2⟩:s.TypeIs (.ref a) "list") slot_list_iter.lookup (wpAny_pure h))
 refine wpAny_bind (hni _ ?_);refine wpAny_bind (wpAny_holding (WL hit r i λs_1 gr hnew y=>?_));have i_1:=gr.inv i;refine wpAny_bind (wpAny_holding (Qaw l s_1 _ i_1 y λvs s_2 t rvs y_2=>?_));have i_2:=t.inv y i_1;have hl:=QL rvs;rw[if_neg (by lia)];refine wpAny_bind (wpAny_holding (ZR hh y_2 λs_3 t_3=>?_));have tt:=t.trans t_3;exact wpAny_pure (hQ vs s_3 ((gr.nx (cm:=cm)).mod hnew λa o ha e=>tt.keep a o ha e) (t_3.inv y_2 i_2) (Cx.reps_mono (t_3.rr y_2) (.refl _) rvs))
section
section
variable (c:Cx)(k:Ck)(n:Nat)(C:Orc)
noncomputable def AS (t:PT):Prop:=∀f,FrD k f->∀x,chkA k t f.sc f.σ x=true->∀A,Room f A n->∀J s H cm,Inv c f s J H cm->∀av y,c.rep f.FX cm s.heap av y->∀(Q:Unit->Shared->Prop) E,SPost c f s cm (asg C t av J H) (λ_ s'=>Q () s') E->wpAny (model P0 c.w) A (assign x f.env y) Q E s
end
theorem Qax {m:Nat}:AS c k n C (.loc m):=λf fd x h A rm J s H cm i av y r Q E p=>by
 replace h:=QR h
 obtain⟨z,pos,rfl,h⟩:=h;obtain⟨q1,⟨kd,q2,q3⟩,q4⟩:=J4 h;exact wpAny_assign_Name (Jv q1 q2 q3 (by rw[fd.ow]) i r λs' nx iv=>p _ s' cm nx iv rfl)
theorem WN {r:List PX}(h:noStar x=true):assignEach (x::r) env=(false,assign x env)::assignEach r env:=by
 cases x<;>first | rfl | exact nf h
inductive ChkAC (k:Ck)(t:PT)(ts:List PT)(sc:Sc)(σ:Sl)(xs:List PX):Prop where
 | mk (x:PX)(xr:List PX)(e:xs=x::xr)(h1:noStar x=true)(h2:chkA k t sc σ x=true)(h3:chkAs k ts sc σ xr=true)
theorem qC {t:PT}{ts:List PT}{sc:Sc}{σ:Sl}{xs:List PX}(h:chkAs k (t::ts) sc σ xs=true):ChkAC k t ts sc σ xs:=by
 cases xs with
 | nil=>exact nf h
 | cons x xr =>
  obtain⟨h1,h3⟩:=anD (show (noStar x&&chkA k t sc σ x&&chkAs k ts sc σ xr)=true from h);obtain⟨h1,h2⟩:=anD h1;exact⟨x,xr,rfl,h1,h2,h3⟩
theorem as_list (ts:List PT)(hs:∀t∈ts,AS c k n C t)(f:Fm)(fd:FrD k f)(rm:Room f A n)(xs:List PX)(h:chkAs k ts f.sc f.σ xs=true)(J:LA)(s:Shared)(H:AH)(cm:CM)(i:Inv c f s J H cm)(l:LA)(vs:List Value)(r:c.reps f.FX cm s.heap l vs)(hl:l.length=ts.length)(Q:Unit->Shared->Prop)
  (p:SPost c f s cm (asgs C ts l J H) (λ_ s'=>Q () s') E):wpAny (model P0 c.w) A (assignInOrder ((assignEach xs f.env).map (·.2)) vs) Q E s:=by
 induction ts generalizing xs J s H cm l vs with
 | nil =>
  cases ieD (show xs.isEmpty=true from h);cases l with
  | cons=>cases hl
  | nil =>
   exact wpAny_pure (p .next s cm (Nx.refl ..) i rfl)
 | cons t ts ih =>
  obtain⟨x,xr,rfl,h1,h2,h3⟩:=qC h;cases l with
  | nil=>cases hl
  | cons v l =>
   have p:SPost c f s cm ((asg C t v J H).bind λ_ J H=>asgs C ts l J H) (λ_ s'=>Q () s') E:=p;obtain⟨w,ws,rfl,rv,rl⟩:=r;refine (WN h1) ▸ ?_;refine wpAny_bind (wpAny_holding (hs t (.head _) f fd x h2 A rm J s H cm i v w rv _ E ?_));cases ha:asg C t v J H with
   | stuck=>rw[ha] at p; exact p.elim
   | exc m J_1 H_1=>rw[ha] at p; exact λe s' cm' nx iv ex=>p e s' cm' nx iv ex
   | ok fl J_1 H_1 =>
    rw[ha] at p;exact λy s_1 cm_1 nx iv hf=>ih (λt ht=>hs t (.tail _ ht)) xr h3 J_1 s_1 H_1 cm_1 iv l ws (nx.reps i.base rl) (Nat.succ.inj hl) (SPost.from p nx)
theorem Qay {ts:List PT}{xs:List PX}{sc:Sc}{σ:Sl}(env:Env)(h:chkAs k ts sc σ xs=true):(assignEach xs env).length=ts.length/\(assignEach xs env).findIdx? (·.1)=none:=by
 induction ts generalizing xs with
 | nil=>cases ieD (show xs.isEmpty=true from h); exact⟨rfl,rfl⟩
 | cons t ts ih =>
  obtain⟨x,xr,rfl,h1,_,h3⟩:=qC h;obtain⟨e1,e2⟩:=ih h3;rw[WN h1];exact⟨congrArg (·+1) e1,by rw[List.findIdx?_cons,e2]; rfl⟩
theorem Qaz {ts:List PT}{av:AV}{Q:Flow->Shared->Prop}(p:SPost c f s cm (asg C (.tup ts) av J H) Q E):OptR av.sq? λl=>l.length=ts.length/\SPost c f s cm (asgs C ts l J H) Q E:=by
 obtain⟨l,e,p⟩:=SPost.opt p;exact⟨l,e,ZK p⟩
theorem QaA {ts:List PT}(hs:∀t∈ts,AS c k n C t):AS c k n C (.tup ts):=λf fd x h A rm J s H cm i av y r Q E p=>by
 replace h:=Ym h
 obtain⟨xs,ct,pos,rfl,h⟩:=h;obtain⟨e1,e2⟩:=Qay (k:=k) f.env h;obtain⟨l,hv,hl,p⟩:=Qaz p;refine wpAny_bind (wpAny_standAt ?_);unfold unpack;simp only[e1,e2,<-hl];refine wpAny_bind (wpAny_holding (qz rm.hh hv r i λvs s' nx iv rv=>?_));exact as_list ts hs f fd rm xs h J s' H cm iv l vs rv hl Q (SPost.from p nx)
end
theorem QaB {w:World}{A:Around}{E:VS}{l:Addr}{o:Obj}{ne:Nat}{items:Array Value}{k:Int}{t:Tok}{v:Value}{Q:Unit->Shared->Prop}(ho:s.heap.get? l=some o)(hc:o.cls=.type "list")(hd:o.data=.seq items ne)
  (h0:0<=k) (hfit:k<2 ^ 63) (hn:k<items.size)
  (hQ:Q () {s with heap:=s.heap.update l (Obj.mapSeq (·.setIfInBounds k.toNat v))}) :
  wpAny (model P0 w) A (setItem (.ref l) (.int k t) v) Q E s:=by
 have hl:s.heap.IsList l items:=⟨o,ho,hc,ne,hd⟩;unfold setItem
 try with_reducible refine wpAny_holding ?_
 first | refine wpAny_bind (wpAny_pure ?_) | skip
 refine wpAny_bind (wpAny_sequenceKey hl.typeIs (by decide) ?_);refine wpAny_bind (wpAny_callSpecial?_slot (name:=Str.ofString "__setitem__") hl.typeIs slot_list_setitem
  (wpAny_call_entry slot_list_setitem hl.typeIs entry_list_setitem ?_ (args_list_setitem _ _ _)))
 show wpAny _ _ (Builtin.List.listSubscript? (.int k t) >>= _) _ _ s;refine wpAny_bind (wpAny_listSubscript_int (fitsIndex_of h0 hfit) ?_);clear hfit;obtain⟨j,rfl⟩:=Int.eq_ofNat_of_zero_le h0;have hj:j<items.size:=by lia
 have hx':items[j]?=some items[j]:=Array.getElem?_eq_getElem hj;show wpAny _ _ ((seqItemAt l j >>= λr=>pure (r.map (j,·))) >>= _) _ _ s;refine wpAny_bind (wpAny_bind (wpAny_seqItemAt ho hd (wpAny_pure ?_)));refine hx' ▸ ?_;refine wpAny_bind (wpAny_setSeqItemAt ho hd ?_)
 first
  | exact wpAny_bind (wpAny_pure (wpAny_pure ⟨.none,rfl,wpAny_pure hQ⟩))
  | exact wpAny_pure ⟨.none,rfl,wpAny_pure hQ⟩
theorem QaC {kv:Str × Value}{r:List (Str × Value)}{k:Str}{v:Value}(h:kv.1≠k):stored (kv::r) k v=kv::stored r k v:=by
 unfold stored;simp only[List.any_cons,h,decide_false,Bool.false_or];split
 ·rw[List.map_cons,if_neg h]
 ·rfl
theorem WP {k:String}{ks:List String}{v x:AV}{vs:LA}:Qj (k::ks) (v::vs) k x=(k::ks,x::vs):=if_pos rfl
theorem WQ {k n:String}{ks:List String}{v x:AV}{vs:LA}(h:k≠n):Qj (k::ks) (v::vs) n x=(k::(Qj ks vs n x).1,v::(Qj ks vs n x).2):=if_neg h
theorem qD (nm:String)(x:AV)(ks:List String)(l:LA):(Qj ks l nm x).1.length<=ks.length+1:=by
 induction ks generalizing l with
 | nil=>exact Nat.le_refl 1
 | cons k ks ih =>
  cases l with
  | nil=>exact Nat.le_add_left 1 _
  | cons v l =>
   by_cases h:k=nm
   ·rw[h,WP]; exact Nat.le_succ _
   ·rw[WQ h]; exact Nat.succ_le_succ (ih l)
theorem QaD (nm:String){x:AV}{v:Value}{ks:List String}{kvs:List (Str × Value)}(nd:(kvs.map (·.1)).Nodup)(z:c.repk FX cm h ks l kvs)(r:c.rep FX cm h x v):c.repk FX cm h (Qj ks l nm x).1 (Qj ks l nm x).2 (stored kvs (Str.ofString nm) v):=by
 induction l generalizing ks kvs with
 | nil =>
  obtain⟨rfl,rfl⟩:=z;exact⟨nm,[],v,[],rfl,rfl,r,rfl,rfl⟩
 | cons y l ih =>
  obtain⟨k',ks',v',kr,rfl,rfl,z1,z2⟩:=z;have nd:=List.nodup_cons.mp nd;by_cases hk:k'=nm
  ·subst hk
   have hs:stored ((Str.ofString k',v')::kr) (Str.ofString k') v=(Str.ofString k',v)::kr:=by
    unfold stored;simp only[List.any_cons,decide_true,Bool.true_or,if_true,List.map_cons];refine congrArg (_::·) ((List.map_congr_left λq hq=>?_).trans (List.map_id kr));exact if_neg λe:q.1=Str.ofString k'=>nd.1 (List.mem_map.mpr ⟨q,hq,e⟩)
   simp only[hs,WP];exact⟨k',ks',v,kr,rfl,rfl,r,z2⟩
  ·rw[WQ hk,QaC (λq=>hk (Str.ofString_inj q))]
   exact⟨k',_,v',_,rfl,rfl,z1,ih nd.2 z2⟩
theorem QaE {o i v:AV}{ov iv y:Value}{Q:Unit->Shared->Prop}(inv:Inv c f s J H cm)(ro:c.rep f.FX cm s.heap o ov)(ri:c.rep f.FX cm s.heap i iv)(rv:c.rep f.FX cm s.heap v y)(h:setSub H o i v=some H')
  (hQ:∀s',Nx f.FA f.FO s cm s' cm->Inv c f s' J H' cm->Q () s'):wpAny (model P0 c.w) A (setItem ov iv y) Q E s:=by
 obtain⟨j,hj,h⟩:=obD h;cases cell_eq hj;obtain⟨p,hp,rfl⟩:=ro;cases i with
 | int kk =>
  obtain⟨t,rfl⟩:=ri;obtain⟨l,hk,h⟩:=obD (show (H[j]?.bind AC.lst?).bind _=_ from h);have hk:=Y5 hk;obtain⟨hb,h⟩:=Yp h
  ··cases h
    obtain⟨hp2,xs,m,e,z⟩:=Wy inv hp hk;have hxl:=QL z;refine QaB e rfl rfl hb.1 (Int.lt_of_lt_of_le hb.2.1 (Int.le_trans (Int.ofNat_le.mpr hb.2.2) (by decide))) (by rw[List.size_toArray,hxl]; exact hb.2.1) ?_
    obtain⟨a,b⟩:=ZD (l:=l) (l':=l.set kk.toNat v) (g:=λx=>x.setIfInBounds kk.toNat y) (xs':=xs.set kk.toNat y) inv hp hp2 e (by simp) (λrr=>wG _ (Cx.reps_mono rr (.refl _) z) (Cx.rep_mono rr (.refl _) rv)) s.toks
    exact hQ _ b a
 | str ss =>
  obtain⟨t,rfl⟩:=ri;obtain⟨⟨ks,vs⟩,hk,h⟩:=obD (show (H[j]?.bind AC.dct?).bind _=_ from h);have hk:H[j]?=some (.dct ks vs):=bd_of hk;obtain⟨hks,h⟩:=Yp h
  ·replace hks:ks.length<=100:=hks
   obtain⟨p1,p2⟩:=p;cases h;obtain⟨rfl,od,kvs,e,hd,hlen,z⟩:=inv.base.cells j _ _ hp hk;have hD:s.heap.DictOf (strKind P0 c.w) p1 kvs:=Heap.dictOf_iff.mpr ⟨od,e,hd⟩;have hnd:(kvs.map (·.1)).Nodup:=let ⟨_,_,_,_,_,_,q⟩:=hd; q;have hkl:kvs.length<=1000:=by
    have:∀{ks:List String} {vs:LA} {kvs:List (Str × Value)},c.repk f.FX cm s.heap ks vs kvs->kvs.length=ks.length:=by
     intro ks vs
     induction vs generalizing ks with
     | nil=>intro kvs z; obtain⟨rfl,rfl⟩:=z; rfl
     | cons y l ih=>intro kvs z; obtain⟨_,_,_,_,rfl,rfl,_,z2⟩:=z; simp[ih z2]
    rw[this z]; lia
   refine wpAny_setItem_pairs (knd:=strKind P0 c.w) (strKind_is P0 c.w _ t) hD (λh' hm hs=>?_) (by simp only[sizeLine_eq]; lia);obtain⟨o2,e2,d2⟩:=Heap.dictOf_iff.mp hm;obtain⟨a,b⟩:=inv.set (s':={s with heap:=h',toks:=s.toks+1}) (x':=.dct (Qj ks vs ss v).1 (Qj ks vs ss v).2) hp ⟨λa o ha ea=>(hs.2 a λq=>ha (by rw[q]; exact .head _)).trans ea,rfl,rfl⟩ (λa ha=>by
    cases msD ha;refine e2 ▸ ?_; nofun) λrr=>⟨rfl,o2,_,e2,d2,Nat.le_trans (qD ss v ks vs) (Nat.le_trans (Nat.succ_le_succ hks) (by decide)),QaD ss hnd (Cx.repk_mono rr (.refl _) z) (Cx.rep_mono rr (.refl _) rv)⟩
   exact hQ _ b a
 | _=>exact no h
set_option tactic.hygienic true in
theorem QaF {prog:Program}{A:Around}{K:Frag}{x C dx:Addr}{ox od od':Obj}{name:Str}{tk:Tok}{v:Value}{es:List DictEntry}(X:K.In s.heap)
  (I:InstAt s.heap x ox C (some od)) (hd:ox.dict=some dx) (hp:plainOver K C=true) (ht:takerIn K C name=some none) (hh:(clsIn K C).any (·.hasDict)=true) (D:s.heap.get? dx=some od)
  (hl:(lookIn name od).isSome=true) (D':(s.heap.update dx (Obj.putName name (PyData.keyHash w.params name) (.str name s.toks) v)).get? dx=some od') (e':od'.data=.dict es.toArray n) (hz:es.length<=1000)
  (h:R (.ok (.ret .none)) {s with heap:=s.heap.update dx (Obj.putName name (PyData.keyHash w.params name) (.str name s.toks) v),toks:=s.toks+1}) :
  codeAny (model prog w) A (.call (.builtin "object.__setattr__") ⟨[.ref x,.str name tk,v],[]⟩) R s:=by
 refine osa_open X I hp ht λb=>?_
 obtain⟨cd,hc,hd'⟩:=any_some hh;obtain⟨hx,hcl,-,-⟩:=I;obtain⟨oc,odi,oda,osl⟩:=ox;dsimp only at hcl hd;subst hcl hd;refine wpAny_bind (wpAny_pure (wpAny_bind (wpAny_bind (wpAny_loadPart hx (wpAny_bind ((looks_clsIn X hc).here ?_))))));rw[hd'];refine wpAny_pure (a:=some dx) (wpAny_bind (wpAny_pure (wpAny_bind ?_)));refine wpAny_bind (wpAny_bind (wpAny_askSetting (wpAny_pure (wpAny_bind (wpAny_mkText (wpAny_bind (wpAny_loadPart D ?_)))))));unfold lookIn at hl;split at hl
 ·rename_i es_0 n_0 q
  rw[q];dsimp only;have c:(!es_0.any (·.key.isStr name)&&es_0.any (·.refKey))=false:=by
   rw[<-Array.any_toList,<-Array.any_toList];split at hl
   ·rename_i en he
    rw[List.any_eq_true.mpr ⟨en,List.mem_of_find?_eq_some he,List.find?_some he⟩]; rfl
   ·split at hl
    ·exact nf hl
    ·rename_i z; rw[Bool.not_eq_true] at z; rw[z,Bool.and_false]
  rw[aRefKeyMayBeTheName_at,c];refine wpAny_updatePart D ?_;refine wpAny_bind (wpAny_lookBehind D' (by rw[e']; exact pastItsLine_dict (by rw[List.size_toArray,sizeLine_eq]; lia)) ?_)
  exact wpAny_pure h
 ·exact nf hl
theorem QaG (nm:String)(tk:Tok){x:AV}{v:Value}{ks:List String}{ds:List DictEntry}(z:c.repd FX cm h ks l ds)(r:c.rep FX cm h x v) :
  c.repd FX cm h (Qj ks l nm x).1 (Qj ks l nm x).2 (putL (Str.ofString nm) (PyData.keyHash c.w.params (Str.ofString nm)) (.str (Str.ofString nm) tk) v ds):=by
 induction l generalizing ks ds with
 | nil =>
  obtain⟨rfl,rfl⟩:=z;exact⟨nm,[],v,tk,[],rfl,rfl,r,rfl,rfl⟩
 | cons y l ih =>
  obtain⟨k',ks',v',t',dr,rfl,rfl,z1,z2⟩:=z;have hs:(Value.str (Str.ofString k') t').isStr (Str.ofString nm)=(k'==nm):=Str.ofString_beq k' nm;unfold putL;rw[hs];by_cases hk:k'=nm
  ·subst hk
   rw[WP,if_pos (beq_self_eq_true k')];exact⟨k',ks',v,t',dr,rfl,rfl,r,z2⟩
  ·rw[WQ hk,if_neg (by simp only[bN hk]; nofun)]
   exact⟨k',_,v',t',_,rfl,rfl,z1,ih z2⟩
theorem QaH (nm:String)(x:AV){p:String->Prop}(hn:p nm)(ks:List String)(l:LA)(h:∀k∈ks,p k):∀k∈(Qj ks l nm x).1,p k:=by
 induction ks generalizing l with
 | nil=>exact λk hk=>msD hk ▸ hn
 | cons k0 ks ih =>
  cases l with
  | nil=>exact λk hk=>msD hk ▸ hn
  | cons v l =>
   by_cases q:k0=nm
   ·rw[q,WP,<-q]; exact h
   ·rw[WQ q]
    intro k hk;rcases mcD hk with hk | hk
    ·simp only[hk]; exact h _ (.head _)
    ·exact ih l (λk hk=>h k (.tail _ hk)) k hk
theorem store_attr {o v:AV}{ov y:Value}{nm:String}{Q:Unit->Shared->Prop}(inv:Inv c f s J H cm)(ro:c.rep f.FX cm s.heap o ov)(rv:c.rep f.FX cm s.heap v y)(h:Internal.setAttr H o nm v=some H')
  (hQ:∀s',Nx f.FA f.FO s cm s' cm->Inv c f s' J H' cm->Q () s'):wpAny (model P0 c.w) A (PySem.setAttr ov (Str.ofString nm) y) Q E s:=by
 obtain⟨j,hj,h⟩:=obD (show o.cell?.bind _=_ from h);cases cell_eq hj
 ·obtain⟨p,hp,rfl⟩:=ro
  obtain⟨⟨D,ks,vs⟩,hk,h⟩:=obD (show (H[j]?.bind AC.obj?).bind _=_ from h);have hk:H[j]?=some (.obj D ks vs):=bo_of hk;obtain⟨hb,h⟩:=Yp h
  ··replace hb:attrC D nm=true/\ks.length<=100:=hb
    cases h;obtain⟨k1,k2,k3,k4,k5,k6⟩:=Gm (P:=c.w.params) hb.1;obtain⟨p1,p2⟩:=p;obtain⟨d,rfl,hne,ds,m,e,e2,hlen,ac,z⟩:=inv.base.cells j _ _ hp hk;have I:InstAt s.heap p1 (instObj D d) D (some (dictOf ds m)):=⟨e,rfl,rfl,e2⟩;have hl:(lookIn (Str.ofString nm) (dictOf ds m)).isSome=true:=by
     simp only[lookIn_dict];have hr:=(Y8 nm z).2.2.1;unfold getL;split
     ·rfl
     ·rw[hr]; rfl
    have hdl:ds.length=ks.length:=(Y8 nm z).2.2.2;have hD':(s.heap.update d (Obj.putName (Str.ofString nm) (PyData.keyHash c.w.params (Str.ofString nm)) (.str (Str.ofString nm) (s.toks+1)) y)).get? d=some (dictOf (putL (Str.ofString nm) (PyData.keyHash c.w.params (Str.ofString nm)) (.str (Str.ofString nm) (s.toks+1)) y ds) (putN (Str.ofString nm) ds m)):=by
     rw[Heap.get?_update_self _ e2 (by rw[putName_dict]; rfl),putName_dict]
    have hlen2:=qD nm v ks vs;have key:∀rr:(∀a o,Rr f.FX cm s.heap a o->Rr f.FX cm (s.heap.update d (Obj.putName (Str.ofString nm) (PyData.keyHash c.w.params (Str.ofString nm)) (.str (Str.ofString nm) (s.toks+1)) y)) a o),c.repd f.FX cm (s.heap.update d (Obj.putName (Str.ofString nm) (PyData.keyHash c.w.params (Str.ofString nm)) (.str (Str.ofString nm) (s.toks+1)) y)) (Qj ks vs nm v).1 (Qj ks vs nm v).2 _:=λrr=>QaG nm (s.toks+1) (Cx.repd_mono rr (.refl _) z) (Cx.rep_mono rr (.refl _) rv)
    have hpl:∀(ds:List DictEntry) (hsh:Int) (ky:Value),(putL (Str.ofString nm) hsh ky y ds).length<=ds.length+1:=by
     intro ds hsh ky
     induction ds with
     | nil=>simp[putL]
     | cons q r ih=>simp only[putL]; split<;>simp<;>omega
    refine set_plain inv.base.X I k5 (QaF (s:={s with toks:=s.toks+1}) (dx:=d) inv.base.X I rfl k6 k2 k3 e2 hl hD' rfl (Nat.le_trans (hpl ds _ _) (Nat.le_trans (Nat.succ_le_succ (hdl ▸ hb.2)) (by decide))) ?_)
    obtain⟨a,b⟩:=inv.set (s':={s with heap:=s.heap.update d (Obj.putName (Str.ofString nm) (PyData.keyHash c.w.params (Str.ofString nm)) (.str (Str.ofString nm) (s.toks+1)) y),toks:=s.toks+1+1}) (x':=.obj D (Qj ks vs nm v).1 (Qj ks vs nm v).2) hp
     ⟨λa o ha ea=>(Heap.get?_update_ne _ _ _ _ (λq=>ha (by rw[q]; exact .tail _ (.head _)))).trans ea,rfl,rfl⟩
     (λa ha=>by
      show (s.heap.update d _).get? a≠none;rcases mcD ha with ha | ha
      ·subst ha; rw[Heap.get?_update_ne _ _ _ _ hne,e]; nofun
      ·cases msD ha; rw[hD']; nofun)
     λrr=>⟨d,rfl,hne,_,_,(Heap.get?_update_ne _ _ _ _ hne).trans e,hD',Nat.le_trans hlen2 (Nat.le_trans (Nat.succ_le_succ hb.2) (by decide)),QaH nm v hb.1 ks vs ac,key rr⟩
    exact hQ _ b a
theorem ZW {vs ws:List Value}{Q:Unit->Shared->Prop}(h:Q () s):wpAny M A (release vs ws) Q E s:=λΓ p hΓ=>by
 simp only[Sem.wp_release]; exact h
theorem QaI {o:PE}{nm:String}(ho:SE c k n C o):AS c k n C (.attr o nm):=λf fd x h A rm J s H cm i av y r Q E p=>by
 replace h:=Ww h
 obtain⟨z,m,pos,rfl,h⟩:=h;simp only[Bool.and_eq_true,beq_iff_eq] at h;obtain⟨rfl,h1⟩:=h;rw[arm_assign_Attribute];refine wpAny_bind (wpAny_holding (bindT' (λQ=>(ho f fd.cd z h1).1 A rm J s H cm i Q E) p λv H_1 ov s_1 cm_1 _ n_1 i_1 r_1 p=>wpAny_bind (wpAny_standAt (wpAny_bind (wpAny_holding ?_)))));obtain⟨H_2,hs,p⟩:=SPost.opt p
 ·exact store_attr i_1 r_1 (n_1.rep i.base r) hs λs_2 n_2 i_2=>ZW (p _ s_2 cm_1 n_2 i_2 rfl)
theorem QaJ {o j:PE}(ho:SE c k n C o)(hj:SE c k n C j):AS c k n C (.sub o j):=λf fd x h A rm J s H cm i av y r Q E p=>by
 replace h:=Yl h
 obtain⟨z,u,pos,rfl,h⟩:=h;simp only[Bool.and_eq_true] at h;obtain⟨⟨h0,h1⟩,h2⟩:=h;rw[arm_assign_Subscript];refine wpAny_bind (wpAny_holding (bindT' (λQ=>(ho f fd.cd z h1).1 A rm J s H cm i Q E) p λv H_1 ov s_1 cm_1 _ n_1 i_1 r_1 p=>wpAny_bind (wpAny_holding (bindT' (λQ=>(hj f fd.cd u h2).1 A rm J s_1 H_1 cm_1 i_1 Q E) p λw H_2 iv s_2 cm_2 _ n_2 i_2 r_2 p=>wpAny_bind (wpAny_standAt (wpAny_bind (wpAny_holding ?_)))))));obtain⟨H_3,hs,p⟩:=SPost.opt p
 ·exact QaE i_2 (n_2.rep i_1.base r_1) r_2 (n_2.rep i_1.base (n_1.rep i.base r)) hs λs_3 n_3 i_3=>ZW (p _ s_3 cm_2 n_3 i_3 rfl)
theorem QaK (ok:CkOk c k)(os:OSnd c n C)(t:PT):AS c k n C t :=
 PT.rec (motive_1:=λt=>AS c k n C t) (motive_2:=λl=>∀t∈l,AS c k n C t)
  (λm=>Qax) (λts h=>QaA h) (λo _=>QaI (QS ok os o)) (λo i=>QaJ (QS ok os o) (QS ok os i)) (λ_ h=>(List.not_mem_nil h).elim) (λa l h1 h2 p h=>(mcD h).elim (λq=>q ▸ h1) (h2 p)) t
theorem st_ok {o:Out α}{kk:α->AH->OS}{fl:Fl}(h:o.st J kk=.ok fl J' H'):∃a H_1,kk a H_1=.ok fl J' H':=by
 cases o with
 | ok a H=>exact⟨a,H,h⟩
 | exc m H=>cases h
 | stuck=>cases h
theorem ZX {o:Option α}{kk:α->OS}{fl:Fl}(h:obT o kk=.ok fl J' H'):∃a,kk a=.ok fl J' H':=by
 cases o with
 | some a=>exact⟨a,h⟩
 | none=>cases h
theorem bi_ok {o:OS}{kk:Fl->LA->AH->OS}{fl:Fl}(h:o.bind kk=.ok fl J' H'):∃f J H,kk f J H=.ok fl J' H':=by
 cases o with
 | ok f J H=>exact⟨f,J,H,h⟩
 | exc m J H=>cases h
 | stuck=>cases h
theorem if_ok {P:Prop}{_:Decidable P}{o:OS}{fl:Fl}(h:(if P then o else .stuck)=.ok fl J' H'):o=.ok fl J' H':=by
 by_cases q:P
 ·replace h:=(if_pos q) ▸ h; exact h
 ·replace h:=(if_neg q) ▸ h; cases h
theorem WR {fl fl':Fl}(h:OS.ok fl J H=.ok fl' J' H'):fl'=fl:=by cases h; rfl
theorem QaL (ts:List PT):∀(l:LA) (J:LA) (H:AH) (fl:Fl) (J':LA) (H':AH),asgs C ts l J H=.ok fl J' H'->fl=.next:=by
 induction ts with
 | nil=>intro l J H fl J' H' h; cases l<;>exact WR h
 | cons t ts ih =>
  intro l J H fl J' H' h;cases l with
  | nil=>cases (show OS.stuck=_ from h)
  | cons v l =>
   obtain⟨f,J_1,H_1,h⟩:=bi_ok h;exact ih l J_1 H_1 fl J' H' h
theorem QaM (t:PT)(v:AV)(J:LA)(H:AH)(fl:Fl)(J':LA)(H':AH):asg C t v J H=.ok fl J' H'->fl=.next:=by
 cases t with
 | loc m=>exact WR
 | attr o nm =>
  intro h;obtain⟨a,H_1,h⟩:=st_ok h;obtain⟨b,h⟩:=ZX h;exact WR h
 | sub o j =>
  intro h;obtain⟨a,H_1,h⟩:=st_ok h;obtain⟨b,H_2,h⟩:=st_ok h;obtain⟨b,h⟩:=ZX h;exact WR h
 | tup ts =>
  intro h;obtain⟨l,h⟩:=ZX h;exact QaL ts l J H fl J' H' (if_ok h)
theorem QaN {v:PX}{t:Option PX}{ln:Nat}(h:noComp v=true):swapsWith v t ln env=pure false:=by
 cases v<;>first | rfl | exact nf h
theorem Y9 {t:PT}{x v:PX}{pos:Pos}{Q:Flow->Shared->Prop}(he:SE c k n C e)(ht:AS c k n C t)(fd:FrD k f)(h1:chkA k t f.sc f.σ x=true)(h2:chkE k e f.sc f.σ v=true)(rm:Room f A n)(i:Inv c f s J H cm)
  (hs:swapsWith v (some x) pos.line f.env=pure false) (hw:swappedStores [x] v f.env=pure none) (hst:noStar x=true) (p:SPost c f s cm (evS C (.asg t e) J H) Q E):wpAny (model P0 c.w) A (exec (.Assign [x] v pos) f.env) Q E s:=by
 simp only[arm_exec_Assign];have hs':swapsWithSole [x] v pos.line f.env=pure false:=hs;rw[hs'];refine wpAny_bind (wpAny_standAt (wpAny_bind (wpAny_pure ?_)));rw[if_neg (by decide),hw];refine wpAny_bind (bindT' (λQ=>(he f fd.cd v h2).1 A rm J s H cm i Q E) p λw H_1 y s_1 cm_1 _ n_1 i_1 r_1 p=>wpAny_bind (wpAny_pure ?_));refine (WN hst) ▸ ?_;refine wpAny_bind (ht f fd x h1 A rm J s_1 H_1 cm_1 i_1 w y r_1 _ E ?_);cases ha:asg C t w J H_1 with
 | stuck=>rw[ha] at p; exact p.elim
 | exc m J_2 H_2=>rw[ha] at p; exact p
 | ok fl J_2 H_2 =>
  rw[ha] at p;intro q s_2 cm_2 n_2 i_2 hf;have:fl=.next:=QaM t w J H_1 fl J_2 H_2 ha;subst this;subst hf;exact wpAny_pure (p _ s_2 cm_2 n_2 i_2 rfl)
theorem QaO {k1 k2:Nat}{y1 y2:Str}{x v:PX}{pos:Pos}{Q:Flow->Shared->Prop}(he:SE c k n C e)(fd:FrD k f)(o1:okName f.sc f.σ k1 y1=true)(o2:okName f.sc f.σ k2 y2=true)(hne:y1≠y2)(h2:chkE k e f.sc f.σ v=true)(rm:Room f A n)(i:Inv c f s J H cm)
  (hs:swapsWith v (some x) pos.line f.env=pure false) (hw:swappedStores [x] v f.env=pure (some [y1,y2])) (p:SPost c f s cm (evS C (.asg (.tup [.loc k1,.loc k2]) e) J H) Q E):wpAny (model P0 c.w) A (exec (.Assign [x] v pos) f.env) Q E s:=by
 simp only[arm_exec_Assign];have hs':swapsWithSole [x] v pos.line f.env=pure false:=hs;refine hs' ▸ ?_;obtain⟨q1,⟨kd1,q2,q3⟩,q4⟩:=J4 o1;obtain⟨z1,⟨kd2,z2,z3⟩,z4⟩:=J4 o2;have hk:k1≠k2:=λq=>hne (f.ok.slots y1 y2 k1 kd1 kd2 q1 (q ▸ z1) q2 z2)
 refine wpAny_bind (wpAny_standAt (wpAny_bind (wpAny_pure ?_)));rw[if_neg (by decide),hw];refine wpAny_bind (bindT' (λQ=>(he f fd.cd v h2).1 A rm J s H cm i Q E) p λw H_1 y s_1 cm_1 _ n_1 i_1 r_1 p=>wpAny_bind (wpAny_pure ?_));obtain⟨l,hv,p⟩:=SPost.opt p;obtain⟨hl,p⟩:=ZK p;obtain⟨a,b,rfl⟩:∃a b,l=[a,b]:=by
  cases l with
  | nil=>cases hl
  | cons a l =>
   cases l with
   | nil=>cases hl
   | cons b l=>cases l with | nil=>exact⟨a,b,rfl⟩ | cons _ _=>cases hl
 refine wpAny_bind (wpAny_rule (wpAny_bind (qz (l:=[a,b]) rm.hh hv r_1 i_1 λvs s_2 n_2 i_2 r_2=>?_)));obtain⟨va,_,rfl,ra,vb,_,rfl,rb,hnil⟩:=r_2;obtain rfl:_=[]:=hnil;show wpAny _ A (do (do holding [va] (bindName f.env y2 vb); (do holding [] (bindName f.env y1 va); pure ())); pure .next) Q E s_2;refine wpAny_bind (wpAny_bind (wpAny_holding (wpAny_bindName (Jv z1 z2 z3 (by rw[fd.ow]) i_2 rb λs_3 n_3 i_3=>?_))))
 refine wpAny_bind (wpAny_holding (wpAny_bindName (Jv q1 q2 q3 (by rw[fd.ow]) i_3 (n_3.rep i_2.base ra) λs₄ n₄ i₄=>wpAny_pure (wpAny_pure ?_))))
 rw[List.set_comm _ _ (Ne.symm hk)] at i₄;exact p _ s₄ cm_1 ((n_2.trans n_3).trans n₄) i₄ rfl
theorem ZZ:a∈((f.wide L).wide D).FX↔a∈((f.wide D).wide L).FX:=by
 simp only[Qt,Qt,Qt,Qt];constructor
 ·rintro (h | h | h)
  ·exact .inr (.inl h)
  ·exact .inl h
  ·exact .inr (.inr h)
 ·rintro (h | h | h)
  ·exact .inr (.inl h)
  ·exact .inl h
  ·exact .inr (.inr h)
theorem Inv.swapW (i:Inv c ((f.wide D).wide L) s J H cm):Inv c ((f.wide L).wide D) s J H cm:=by
 have hR:=Rr.sub (cm:=cm) (h:=s.heap) (λa h=>(ZZ (f:=f) (L:=L) (D:=D)).mp h);have hz:∀a,a∈D::L::f.FZ->a∈L::D::f.FZ:=λa h=>by
  rcases mcD h with h | h
  ·exact .tail _ (h ▸ .head _)
  ·rcases mcD h with h | h
   ·exact h ▸ .head _
   ·exact .tail _ (.tail _ h)
 exact⟨i.base.sub λa h=>ZZ.mp h,λa h=>⟨(i.dj a h).1,λq=>(i.dj a h).2 (hz a q)⟩,λa h q=>i.dj2 a h (hz a q),
  by obtain⟨m,n,z⟩:=i.ns; exact⟨m,n,λx k e1 e2=>(z x k e1 e2).mono hR (.refl _)⟩,
  λx k kd a e1 e2 e3 e4=>by obtain⟨o,ov,e,dd,z⟩:=i.cl x k kd a e1 e2 e3 e4; exact⟨o,ov,e,dd,z.mono hR (.refl _)⟩,i.frs⟩
theorem QaP {m:Nat}{gs:List PG}{mu:Bool}{y0:Str}{yp:Pos}{elt:PX}{sc:Scope}{cp:Pos}{Q:Flow->Shared->Prop}{pp:Pos}{x0 z0:PX}{zs:List PX}{r:List Comprehension}{t:List Nat}{one:Bool}{it0:PE}{ifs:List PE}{own:Sl}
  (he:SE c k n C e) (sg:SG c k n C (.mk t one it0 ifs::gs)) (fd:FrD k f) (o1:okName f.sc f.σ m y0=true)
  (hown:gslots (.mk t one it0 ifs::gs) (⟨x0,z0,zs,0⟩::r)=some own) (h1:compScope f.sc f.σ own sc=true)
  (h2:chkG k (.mk t one it0 ifs::gs) f.sc f.σ (relab f.sc sc.names) (own++f.σ) (λn=>(own.lookup n).isSome) (⟨x0,z0,zs,0⟩::r)=true) (h3:chkE k e (relab f.sc sc.names) (own++f.σ) elt=true)
  (hall:(⟨x0,z0,zs,0⟩::r).all (λg=>g.is_async==0&&noSet g.iter)=true)
  (rm:Room f A n) (i:Inv c f s J H cm) (hclr:clrOk (.mk t one it0 ifs::gs) J=true) (u:Value->Sem Unit) (hu:u=PySem.assign (.Name y0 yp) f.env)
  (p:SPost c f s cm (((evG C (λJ H=>evE C J e H) (.mk t one it0 ifs::gs) J [] H).bind λvs H=>newC H mu vs).st J λv H=>.ok .next (J.set m v) H) Q E) :
  wpAny (model P0 c.w) A (comprehension (.ListComp elt (⟨x0,z0,zs,0⟩::r) sc cp) sc f.env pp (newList []) false (eval z0 f.env) (some u)) (λ_ s'=>Q .next s') E s:=by
 obtain⟨q1,⟨kd,q2,q3⟩,q4⟩:=J4 o1;refine qu (use:=some u) (Q:=λ_ s'=>Q .next s') hown h1 h2 h3 hall sg he rm fd.cd i hclr (λq=>by rw[q] at p; exact p.elim) (λmm H' q e s' cm' nx iv ex=>by rw[q] at p; exact p e s' cm' nx iv ex) λvs H' D L s' cm' hv hD hL hDL nx iv hm ac=>?_
 rw[hv] at p;have hDg:D ∉ (f.wide L).FX:=λq=>(Qt.mp q).elim hDL (i.fresh hD)
 have ivw:=iv.swapW;obtain⟨xs,mm,ea,ra⟩:=ac;have ra':c.reps ((f.wide L).wide D).FX cm' s'.heap vs xs:=Cx.reps_mono (Rr.sub λa h=>ZZ.mp h) (.refl _) ra;have key:∃av H'' cm'',SPost c f s cm (.ok .next (J.set m av) H'') Q E/\Inv c (f.wide L) s' J H'' cm''/\Nx f.FA f.FO s cm s' cm''/\c.rep (f.wide L).FX cm'' s'.heap av (.ref D):=by
  cases mu with
  | true=>exact⟨.cell H'.length,_,_,p,ivw.zcell hDg ⟨rfl,xs,_,mm,ea,rfl,rfl,rfl,rfl,Cx.reps_mono Rr.zcell (.snoc _ _) ra'⟩,nx.zcell hD,(D,[D]),by simp only[<-ivw.base.len,List.getElem?_concat_length],rfl⟩
  | false=>exact⟨.lst vs,_,_,p,ivw.narrow,nx,D,_,xs,mm,rfl,⟨ea,rfl,hDg,ivw.base.dj D (Qt.mpr (.inl rfl))⟩,rfl,rfl,Cx.reps_mono (Rr.sub Q6) (.refl _) ra'⟩
 obtain⟨av,H'',cm'',p',iv1,nx1,rr1⟩:=key;show wpAny _ A (u (.ref D)) _ E s';simp only[hu];refine wpAny_assign_Name (Jv (f:=f.wide L) q1 q2 q3 (by rw[show (f.wide L).ow=f.ow from rfl,fd.ow]) iv1 rr1 λs'' nx2 iv2=>?_)
 obtain⟨m1,oL,es,ep,eL,rL⟩:=hm;have hLX:L∈(f.wide L).FX:=Qt.mpr (.inl rfl);have eL':=nx2.keep L oL eL (λq=>c.glow (by rw[<-q]; exact (iv1.base.lo L (.inl hLX)).1)) (λq=>(iv1.dj L q).2 (.head _)) (λq=>iv1.dj2 L q (.head _)) (iv1.base.dj L hLX)
 refine⟨m1,⟨oL,es,ep,eL',rL⟩,λh' hsb=>?_⟩;have hb:∀a o,a≠L->s''.heap.get? a=some o->h'.get? a=some o:=λa o ha e=>(hsb.2 a ha).trans e
 exact p' _ {s'' with heap:=h'} cm'' ((nx1.trans nx2).mod hL hb) (iv2.zdrop (s':={s'' with heap:=h'}) (i.fresh hL) hb rfl rfl) rfl
theorem QaQ {m:Nat}{gs:List PG}{mu:Bool}{y0:Str}{yp:Pos}{elt:PX}{cs:List Comprehension}{sc:Scope}{cp:Pos}{pos:Pos}{Q:Flow->Shared->Prop}(he:SE c k n C e)(sg:SG c k n C gs)(fd:FrD k f)(o1:okName f.sc f.σ m y0=true)
  (h:chkE k (.comp e gs mu) f.sc f.σ (.ListComp elt cs sc cp)=true) (rm:Room f A n) (i:Inv c f s J H cm)
  (hs:swapsWith (.ListComp elt cs sc cp) (some (.Name y0 yp)) pos.line f.env=pure true) (p:SPost c f s cm (evS C (.asg (.loc m) (.comp e gs mu)) J H) Q E):wpAny (model P0 c.w) A (exec (.Assign [.Name y0 yp] (.ListComp elt cs sc cp) pos) f.env) Q E s:=by
 rw[exec_Assign_Name_used _ _ _ _ hs]
 replace h:=Qp h
 refine wpAny_bind (wpAny_standAt (wpAny_bind ?_));obtain⟨own,hown,h⟩:=h;simp only[Bool.and_eq_true] at h;obtain⟨⟨⟨h0,h1⟩,h2⟩,h3⟩:=h;cases gs with
 | nil=>cases h0
 | cons g0 gs =>
 obtain⟨t,one,it0,ifs⟩:=g0;cases cs with
 | nil=>exact nf h2
 | cons c0 r =>
  obtain⟨x0,z0,zs,aa⟩:=c0;have hall:=qw h2;have haa:aa=0:=by
   simp only[List.all_cons,Bool.and_eq_true,beq_iff_eq] at hall;exact hall.1.1
  subst haa
  change SPost _ _ _ _ (Out.st (ite _ _ _) _ _) _ _ at p
  split at p
  ·rename_i hclr
   show wpAny (model P0 c.w) A (do let _ <-comprehension (.ListComp elt (⟨x0,z0,zs,0⟩::r) sc cp) sc f.env (firstIterPos (⟨x0,z0,zs,0⟩::r) cp) (newList []) false (eval z0 f.env) (some (PySem.assign (.Name y0 yp) f.env))) _ _ s;exact wpAny_bind (wpAny_mono (QaP he sg fd o1 hown h1 h2 h3 hall rm i hclr _ rfl p) (λ_ s' hq=>wpAny_pure (wpAny_pure hq)) λ_ _ e=>e)
  ·exact p.elim
theorem QaR (f:Fm):f.env.blockKind=.function:=by unfold Env.blockKind; rw[f.ok.kind]; rfl
theorem QaS {elt:PX}{cs:List Comprehension}{sc:Scope}{cp yp:Pos}{y0:Str}{ln:Nat}(env:Env):∃b,swapsWith (.ListComp elt cs sc cp) (some (.Name y0 yp)) ln env=pure b:=⟨_,rfl⟩
theorem qF {x v:PX}(h:(!(v.ctorIdx==25)||!isTL x)=true):swappedStores [x] v env=pure none:=by
 cases x<;>first | rfl | (cases v<;>first | rfl | exact nf h)
theorem pc_of (h:(e.ctorIdx==38)=true):∃a g m,e=.comp a g m:=PE.comp.elim (motive_1:=λe=>∃a g m,e=.comp a g m) e (eqD h) λa g m=>⟨a,g,m,rfl⟩
theorem QaT {ts:List PT}{sc:Sc}{σ:Sl}{y1 y2:Str}{p1 p2:Pos}(h1:chkAs k ts sc σ [.Name y1 p1,.Name y2 p2]=true):∃k1 k2,ts=[.loc k1,.loc k2]/\okName sc σ k1 y1=true/\okName sc σ k2 y2=true:=by
 match ts,h1 with
 | [a],h1 =>
  have h2:(noStar _&&chkA k a sc σ _&&false)=true:=h1;rw[Bool.and_false] at h2;exact nf h2
 | a::b::r,h1 =>
  have h2:(noStar _&&chkA k a sc σ _&&(noStar _&&chkA k b sc σ _&&chkAs k r sc σ []))=true:=h1;simp only[Bool.and_eq_true] at h2;obtain⟨⟨_,ha⟩,⟨_,hb⟩,hr⟩:=h2;cases r with
  | nil =>
   cases b<;>first | (exact nf hb) | skip
   cases a<;>first | (exact nf ha) | skip
   exact⟨_,_,rfl,ha,hb⟩
  | cons _ _=>exact nf hr
theorem qG {p:Bool}{x y r:α}(h:x=r)(g:y=r):(if p=true then x else y)=r:=by cases p with | true=>exact h | false=>exact g
theorem QaU {l:List α}(h:l.length=2):∃a b,l=[a,b]:=by
 cases l with
 | nil=>cases h
 | cons a l=>cases l with
  | nil=>cases h
  | cons b l=>cases l with | nil=>exact⟨a,b,rfl⟩ | cons _ _=>cases h
theorem QaV {y1 y2:Str}(hne:y1≠y2):([y1,y2]:List Str).eraseDups.length=2:=by
 have hb:(y2==y1)=false:=bN λq=>hne q.symm
 simp[List.eraseDups,List.eraseDupsBy,List.eraseDupsBy.loop,hb]
theorem Z0 {P:PX->Bool}(hP:∀x,noStar x=true->P x=false){vs:List PX}(h:vs.all noStar=true):vs.any P=false:=by
 rw[List.any_eq_false];intro z hz q;rw[hP z (aaD h z hz)] at q;exact nf q
theorem QaW {f:PX->Option Str}{x z:PX}{y1 y2:Str}(h1:f x=some y1)(h2:f z=some y2):List.filterMap f [x,z]=[y1,y2]:=by
 simp only[List.filterMap_cons,h1,List.filterMap_cons,h2]; rfl
theorem qH {f:PX->Option Str}{x z:PX}(h:f x=none\/f z=none):((List.filterMap f [x,z]).length != 2)=true:=by
 rw[List.filterMap_cons,List.filterMap_cons];rcases h with h | h
 ·refine h ▸ ?_; cases f z<;>rfl
 ·refine h ▸ ?_; cases f x<;>rfl
theorem QaX {y1 y2:Str}{p1 p2 tp vp:Pos}{tc vc:Nat}{a b:PX}(hk:env.blockKind=.function)(hst:[a,b].all noStar=true)(hfd:[a,b].all (foldedForSure 8)=false)(hcs:[a,b].all (constantsAlone 8)=false)(hne:y1≠y2) :
  swappedStores [.Tuple [.Name y1 p1,.Name y2 p2] tc tp] (.Tuple [a,b] vc vp) env=pure none\/swappedStores [.Tuple [.Name y1 p1,.Name y2 p2] tc tp] (.Tuple [a,b] vc vp) env=pure (some [y1,y2]):=by
 have h1:(!(2==2||2==3)||2 != 2||env.blockKind != .function)=false:=by rw[hk]; rfl
 have no:∀(p q:Bool) {x y:Sem (Option (List Str))},p=true->(if (p||q)=true then x else y)=x:=λp q x y h=>by subst h; rfl
 by_cases q1:(env.kindOf y1==some .local&&p1.line==p1.line)=true
 ·by_cases q2:(env.kindOf y2==some .local&&p2.line==p1.line)=true
  ·refine .inr (Jh h1 (Jh (Z0 (λx hx=>by cases x<;>first | rfl | exact nf hx) hst) ?_))
   dsimp only;rw[QaW (y1:=y1) (y2:=y2) (if_pos q1) (if_pos q2)];exact Jh (by rw[QaV hne]; rfl) (Jh hfd (Jh hcs rfl))
  ·exact .inl (Jh h1 (Jh (Z0 (λx hx=>by cases x<;>first | rfl | exact nf hx) hst) (no _ _ (qH (.inr (if_neg q2))))))
 ·exact .inl (Jh h1 (Jh (Z0 (λx hx=>by cases x<;>first | rfl | exact nf hx) hst) (no _ _ (qH (.inl (if_neg q1))))))
theorem QaY {t:PT}(he:SE c k n C e)(ht:AS c k n C t)(hc:∀e' gs mu,e=.comp e' gs mu->SE c k n C e'/\SG c k n C gs):SS c k n C (.asg t e):=λf fd st h A rm J s H cm i Q E p=>by
 replace h:=qy h
 obtain⟨l,v,pos,rfl,h⟩:=h
 replace h:=Q3 h
 obtain⟨x,rfl,h⟩:=h;simp only[Bool.and_eq_true] at h;obtain⟨⟨hf,h1⟩,h2⟩:=h;simp only[asgForm,Bool.or_eq_true] at hf;rcases hf with hf | hf | hf | hf | hf
 ·simp only[asgA,Bool.and_eq_true] at hf
  exact Y9 he ht fd h1 h2 rm i (QaN hf.1.2) (qF hf.2) hf.1.1 p
 ·simp only[asgB,Bool.and_eq_true] at hf
  obtain⟨⟨q1,q2⟩,q3⟩:=hf
  replace q2:=QR q2
  replace q1:=Zu q1
  obtain⟨elt,cs,sc,cp,rfl,_⟩:=q1;obtain⟨y0,yp,rfl,_⟩:=q2;obtain⟨e',gs,mu,rfl⟩:=pc_of q3;obtain⟨hc1,hc2⟩:=hc e' gs mu rfl;obtain⟨b,hb⟩:=QaS (elt:=elt) (cs:=cs) (sc:=sc) (cp:=cp) (yp:=yp) (y0:=y0) (ln:=pos.line) f.env;cases b with
  | true =>
   cases t<;>first | (exact nf h1) | skip
   exact QaQ hc1 hc2 fd h1 h2 rm i hb p
  | false=>exact Y9 he ht fd h1 h2 rm i hb rfl rfl p
 ·simp only[asgB',Bool.and_eq_true] at hf
  obtain⟨⟨q1,q2⟩,q3⟩:=hf
  replace q1:=Zu q1
  obtain⟨elt,cs,sc,cp,rfl,_⟩:=q1;exact Y9 he ht fd h1 h2 rm i (by cases x<;>first | rfl | cases q2) (qF rfl) q3 p
 ·replace hf:=Ym hf
  obtain⟨ts,tc,tp,rfl,hf⟩:=hf
  replace hf:=J0 hf
  obtain⟨_,_,rfl,hf⟩:=hf
  replace hf:=QR hf
  obtain⟨y1,p1,rfl,hf⟩:=hf
  replace hf:=QR hf
  obtain⟨y2,p2,rfl,hf⟩:=hf
  replace hf:=Ym hf
  obtain⟨vs,vc,vp,rfl,hf⟩:=hf;simp only[Bool.and_eq_true,bne_iff_ne,ne_eq,beq_iff_eq,Bool.not_eq_true'] at hf;obtain⟨⟨⟨⟨hne,hl⟩,hst⟩,hfd⟩,hcs⟩:=hf;have hs:swapsWith (.Tuple vs vc vp) (some (.Tuple [.Name y1 p1,.Name y2 p2] tc tp)) pos.line f.env=pure false:=rfl;cases t<;>first | (exact nf h1) | skip
  obtain⟨k1,k2,rfl,o1,o2⟩:=QaT (show chkAs k _ f.sc f.σ _=true from h1);obtain⟨v1,v2,rfl⟩:=QaU hl;have key:=QaX (y1:=y1) (y2:=y2) (p1:=p1) (p2:=p2) (tp:=tp) (tc:=tc) (vc:=vc) (vp:=vp) (QaR f) hst hfd hcs hne;rcases key with hw | hw
  ·exact Y9 he ht fd h1 h2 rm i hs hw rfl p
  ·exact QaO he fd o1 o2 hne h2 rm i hs hw p
 ·replace hf:=Ym hf
  obtain⟨ts,tc,tp,rfl,hf⟩:=hf
  replace hf:=J0 hf
  obtain⟨_,_,rfl,hf⟩:=hf;simp only[Bool.and_eq_true] at hf;obtain⟨⟨q1,q2⟩,q3⟩:=hf
  replace q1:=Yl q1
  obtain⟨_,_,_,rfl,_⟩:=q1
  replace q2:=Yl q2
  obtain⟨_,_,_,rfl,_⟩:=q2
  replace q3:=Ym q3
  obtain⟨vs,vc,vp,rfl,_⟩:=q3;exact Y9 he ht fd h1 h2 rm i rfl (qG rfl (qG rfl rfl)) rfl p
section
open PySem PySem.W PyProof.Rows Builtin Builtin.ObjectAttr
set_option maxHeartbeats 4000000
noncomputable abbrev RC:Nat:=51
noncomputable abbrev bmE:List Value:=[.type "Exception",.type "BaseException",.type "object"]
noncomputable abbrev refObj:Obj:=excClassObj "Refusal" "Refusal" RC 50 [.ref 31] (.ref 31::bmE) true [] [] false none none (some (.ref 35)) none (some (.str "Refusal" 216)) (some (.str "Refusal" 224)) (some (.bool true)) "Exception.__new__"
theorem refK (P:Params):(KX P).lookup RC=some refObj:=by kernel_rfl
theorem QaZ (P:Params):(KX P).lookup 31=some {cls:=Value.type "type",data:=Data.cls {name:=Str.ofString "CoveError",bases:=[Value.type "Exception"],mro:=[Value.ref 31,Value.type "Exception",Value.type "BaseException",Value.type "object"],ns:=30,qualname:=Str.ofString "CoveError",subclasses:=[Value.ref 51]},slots:=#[some (Value.ref 22),none,some (Value.str (Str.ofString "CoveError") 196),some (Value.str (Str.ofString "CoveError") 204),some (Value.builtin "Exception.__new__"),some (Value.bool true)]}:=by kernel_rfl
theorem ns30 (P:Params):nsOkIn (KX P) 30=true/\nsIn (KX P) 30 "__init__"=some none:=⟨by kernel_rfl,by kernel_rfl⟩
theorem Qa0 (P:Params):findIn (KX P) (.ref RC) "__init__"=some (some (.ref 48)):=by kernel_rfl
theorem Qa1 (P:Params):findIn (KX P) (.ref RC) "__setattr__"=some (some (.builtin "object.__setattr__")):=by kernel_rfl
theorem qI (P:Params):findIn (KX P) (.ref RC) "message"=some none:=by kernel_rfl
theorem type48 (P:Params):typeIn (KX P) (.ref 48)=some (.type "function"):=by kernel_rfl
theorem cls51 (P:Params):∃cd,clsIn (KX P) RC=some cd/\cd.mro=.ref 51::.ref 31::bmE/\cd.hasDict=true:=⟨_,by unfold clsIn; rw[refK],rfl,rfl⟩
theorem qJ {P:Params}(X:(KX P).In h):OwnTail h bmE (.ref 31::bmE):=by
 obtain⟨n1,n2⟩:=ns30 P;have hn:h.Ns 30 (h.nsMap 30):=.of_isNs (isNs_of_in X n1);exact .own (X _ _ (QaZ P)) hn (nsMap_none_of_in X n1 n2) .base
noncomputable abbrev excObj (T:Addr):Obj:={cls:=.ref RC,data:=.fields #[.ref T,.none,.none,.none,.bool false,.none]}
noncomputable abbrev tupObj (l:List Value):Obj:={cls:=.type "tuple",data:=.seq l.toArray}
section
variable {g:Array GenState}{d:Drawn}
theorem Qa2 {Q:Fin->Shared->Prop}{rest:List Value}(X:(KX w.params).In h)(hrest:rest.length<=sizeLine)
  (hq:codeAny (model prog w) A (.call (.ref 48) ⟨.ref (h.objs.size+1)::rest,[]⟩) (λr s'=>match r with | .ok (.ret v)=>v=.none/\Q (.done (.ret (.ref (h.objs.size+1)))) s' | .ok _=>False | .error e=>E e s') ⟨(h.push (tupObj rest)).push (excObj h.objs.size),g,d,t,os⟩) :
  wpAny (model prog w) A (Builtin.«type.__call__» ⟨.ref RC::rest,[]⟩) Q E ⟨h,g,d,t,os⟩:=by
 have hC:h.get? RC=some refObj:=X _ _ (refK _)
 repeat (first | with_reducible refine wpAny_loadPart_at hC ?_ | with_reducible refine wpAny_madeBy_exc hC ?_ | wp_step)
 refine codeAny_call_builtin_code (Code.quiet_builtin _ PySem.F.excBase_Exception.quiet) (wpAny_check_new_subU PySem.F.excBase_Exception (by decide) (qJ X) hC ?_);refine codeAny_exc_new_subU PySem.F.excBase_Exception (by decide) PySem.F.excBase_Exception (qJ X) hC ?_ hrest;show wpAny _ _ _ _ _ _;have k:∀b o,h.get? b=some o->((h.push (tupObj rest)).push (excObj h.objs.size)).get? b=some o:=λb o e=>Heap.get?_push_of_some _ (Heap.get?_push_of_some _ e)
 have X_1:=X.keeps k;have hC_1:=Heap.get?_push_of_some {cls:=.ref RC,data:=.fields #[.ref h.objs.size,.none,.none,.none,.bool false,.none]}
  (Heap.get?_push_of_some {cls:=.type "tuple",data:=.seq rest.toArray} hC)
 have hget:((h.push {cls:=.type "tuple",data:=.seq rest.toArray}).push {cls:=.ref RC,data:=.fields #[.ref h.objs.size,.none,.none,.none,.bool false,.none]}).get? (h.objs.size+1)=some {cls:=.ref RC,data:=.fields #[.ref h.objs.size,.none,.none,.none,.bool false,.none]}:=by heap_get
 have hcC:(Value.ref RC::.ref 31::bmE).contains (.ref RC)=true:=by simp
 unfold isInstance
 repeat (first | with_reducible refine wpAny_loadPart_at hget ?_ | (with_reducible refine wpAny_isSubtype_exc hC_1 ?_; rw[hcC]) | wp_step)
 show wpAny _ _ (typeLookup (.ref RC) _) _ _ _;refine (looks_findIn X_1 (Qa0 _)).here ?_;refine wpAny_holding (wpAny_bind ((bind_fn X_1 _ (type48 _)).here ?_));refine wpAny_bind (wpAny_call (codeAny_mono hq λr s' z=>?_));rcases r with e | (v | _ | _ | _)<;>first | exact z | exact z.elim | skip;obtain⟨rfl,z⟩:=z
 wp_walk
 exact z
theorem Qa3 {rest:List Value}(X:(KX w.params).In h)(hrest:rest.length<=sizeLine)
  (hq:codeAny (model prog w) (A.under (.builtin "type.__call__" ⟨.ref RC::rest,[]⟩)) (.call (.ref 48) ⟨.ref (h.objs.size+1)::rest,[]⟩) (InitBack (h.objs.size+1) R) ⟨(h.push (tupObj rest)).push (excObj h.objs.size),g,d,t,os⟩) :
  codeAny (model prog w) A (.call (.ref RC) ⟨rest,[]⟩) R ⟨h,g,d,t,os⟩:=by
 have hC:h.get? RC=some refObj:=X _ _ (refK _);have f2:=tc_bind (.ref RC);have f1:=tc_lookup;have hT:(⟨h,g,d,t,os⟩:Shared).TypeIs (.ref RC) "type":=⟨_,hC,rfl⟩;refine codeAny_of_tree ?_;show wpAny _ _ (callAny (.ref RC) _) _ _ _
 repeat (any_goals (first | assumption | with_reducible refine wpAny_loadPart_at hC ?_ | wp_step))
 refine⟨rfl,?_⟩;refine codeAny_call_builtin_at (Code.quiet_builtin _ (by decide +kernel)) entry_typeCall (wpAny_check_type_call_sub hC (Qa2 X hrest ?_));refine codeAny_mono hq λr s' z=>?_
 rcases r with e | (v | _ | _ | _)<;>first | exact z | exact z.elim | skip
end
section
variable {e:Addr}
theorem at51 {T:Addr}(he:s.heap.get? e=some (excObj T)):PySem.W.InstAt s.heap e (excObj T) RC none:=⟨he,rfl,rfl,trivial⟩
theorem refuse51 (self:Value):refuseLoop self "__setattr__" (.ref 51::.ref 31::bmE)=pure ():=by
 exact PySem.F.store_Exception.passes self
theorem Qa4 {T:Addr}{tk:Tok}{v:Value}(X:(KX w.params).In s.heap)(he:s.heap.get? e=some (excObj T))
  (h:∀h' d tk tk',d=s.heap.objs.size->h'=(((s.heap.push emptyDict).update e λo=>{cls:=o.cls,dict:=some d,data:=o.data,slots:=o.slots}).update d (Obj.putName "message" (PyData.keyHash w.params "message") (.str "message" tk') v))->R (.ok (.ret .none)) {s with heap:=h',toks:=tk}) :
  codeAny (model prog w) A (.call (.builtin "object.__setattr__") ⟨[.ref e,.str "message" tk,v],[]⟩) R s:=by
 obtain⟨cd,hc,hm0,hd⟩:=cls51 w.params;have I:=at51 he;have ne:cd.mro.isEmpty=false:=by rw[hm0]; rfl
 have SF:=PySem.F.store_Exception;have sub:Looks (model prog w) s.heap (isInstance (.ref e) (.type "object")) true:=I.type.andThen (looks_mroIn X (by unfold mroIn; rw[hc,Option.bind_some,if_neg (by rw[ne]; decide),hm0]; rfl))
 have hm:Looks (model prog w) s.heap (mroOf (.ref RC)) cd.mro:=(looks_clsIn X hc).andThen .now;refine codeAny_call_builtin SF.slot.plain SF.entry (@check_slot (model prog w) _ _ s "object.__setattr__" "object" "__setattr__" (.ref e) [.str "message" tk,v] [] _ SF.kind SF.split sub (SF.args (.ref e) (.str "message" tk) v) ?_);simp only[osa_eq,refuse_eq];refine wpAny_bind (wpAny_bind (I.type.here (wpAny_bind (hm.here ?_))));simp only[hm0,refuse51];refine wpAny_pure (wpAny_bind (I.type.here (wpAny_bind ((looks_findIn X (qI _)).here (wpAny_bind (wpAny_pure ?_))))));refine wpAny_bind (wpAny_pure (wpAny_bind (wpAny_bind (wpAny_loadPart he (wpAny_bind ((looks_clsIn X hc).here ?_))))));have he_1:(s.heap.push emptyDict).get? e=some (excObj T):=Heap.get?_push_of_some _ he;rw[hd];have hds:s.heap.objs.size≠e:=λq=>by rw[<-q,Heap.get?_none_of_le (Nat.le_refl _)] at he; exact no he
 refine wpAny_bind (wpAny_alloc' (wpAny_bind (wpAny_update' he_1 (wpAny_pure (wpAny_bind (wpAny_pure (wpAny_bind ?_)))))));have D:(((s.heap.push emptyDict).update e λo=>{cls:=o.cls,dict:=some s.heap.objs.size,data:=o.data,slots:=o.slots})).get? s.heap.objs.size=some emptyDict :=
  (Heap.get?_update_ne _ _ _ _ hds).trans (Heap.get?_push_size _ rfl)
 refine wpAny_bind (wpAny_bind (wpAny_askSetting (wpAny_pure (wpAny_bind (wpAny_mkText (wpAny_bind (wpAny_loadPart D ?_)))))));have D':=Heap.get?_update_self (Obj.putName "message" (PyData.keyHash w.params "message") (.str "message" s.toks) v) D rfl;refine wpAny_updatePart D ?_;refine wpAny_bind (wpAny_lookBehind D' (by exact pastItsLine_dict (by dsimp only[sizeLine_eq]; simp)) ?_)
 exact wpAny_pure (h _ _ _ _ rfl rfl)
theorem Qa5 {T:Addr}{E:VS}{v:Value}{Q:Unit->Shared->Prop}(X:(KX w.params).In s.heap)(he:s.heap.get? e=some (excObj T))
  (h:∀h' d tk tk',d=s.heap.objs.size->h'=(((s.heap.push emptyDict).update e λo=>{cls:=o.cls,dict:=some d,data:=o.data,slots:=o.slots}).update d (Obj.putName "message" (PyData.keyHash w.params "message") (.str "message" tk') v))->Q () {s with heap:=h',toks:=tk}) :
  wpAny (model prog w) A (PySem.setAttr (.ref e) "message" v) Q E s :=
 set_plain X (at51 he) (Qa1 _) (Qa4 (s:={s with toks:=s.toks+1}) X he h)
end
end
noncomputable abbrev fd48:FuncData:={name:=sName (methAt 3 0),qualname:="Refusal.__init__",params:=sArgs (methAt 3 0),body:=.stmts (sBody (methAt 3 0)),scope:=sScope (methAt 3 0),globals:=mainGlobals,closure:=[],defaults:=.none,kwdefaults:=.none,pyModule:=.str "vectorcove.errors" 194,code:=.ref 47,builtins:=builtinsNs}
theorem fun48 (P:Params):(KX P).lookup 48=some (Qd (methAt 3 0) "Refusal.__init__" Value.none (.str "vectorcove.errors" 194) 47):=by kernel_rfl
theorem chk48:chkR fd48 2 2 ["self","message"]=true:=by kernel_rfl
theorem sc48:fd48.scope.names=[(Str.ofString "self",NameKind.local),(Str.ofString "message",NameKind.local)]:=by kernel_rfl
noncomputable def strEq (q:Str):Value->Bool
 | .str t _=>t==q
 | _=>false
noncomputable def fldEq (q:Str):Data->Bool
 | .fields vs=>onS vs.toList[1]? (strEq q)
 | _=>false
noncomputable def codeOk (K:Frag)(a:Addr)(q:Str):Bool:=onS (K.lookup a) λo=>fldEq q o.data
theorem qK {K:Frag}{q:Str}(h:codeOk K a q=true):∃oc vs t,K.lookup a=some oc/\oc.data=.fields vs/\vs[1]?=some (.str q t):=by
 obtain⟨oc,e,h⟩:=Qp h;have h2:∃vs,oc.data=.fields vs/\onS vs.toList[1]? (strEq q)=true:=by
  revert h
  generalize oc.data=d
  intro h;cases d with
  | fields vs=>exact⟨vs,rfl,h⟩
  | _=>exact nf h
 obtain⟨vs,e2,h⟩:=h2;obtain⟨v,e3,h⟩:=Qp h;have h3:∃t,v=.str q t:=by
  cases v with
  | str t tk=>exact⟨tk,by rw[eqD (show (t==q)=true from h)]⟩
  | _=>exact nf h
 obtain⟨t,rfl⟩:=h3;exact⟨oc,vs,t,e,e2,by rw[<-Array.getElem?_toList]; exact e3⟩
theorem code48 (P:Params):codeOk (KX P) 47 "Refusal.__init__"=true:=by kernel_rfl
theorem Z1 {y:Str}{m:Nat}{av:AV}{pos:Pos}(h1:g.σ.lookup y=some m)(h2:g.sc.lookup y=some .local)(h3:(y==Str.ofString "__debug__")=false)(i:Inv c g s J H cm)(e1:J[m]?=some av)(e2:av≠.unset)
  (h:∀v,c.rep g.FX cm s.heap av v->Q v s):wpAny (model P0 c.w) A (eval (.Name y pos) g.env) Q E s:=by
 obtain⟨mm,hn,z⟩:=i.ns;obtain⟨v,hv,r⟩:=z y m h1 h2 av e1 e2;exact wpAny_Name (wpAny_loadName_local g.ok.kind (Jt.trans h2) hn hv (h v r)) h3
theorem init48 {T e:Addr}{y:Value}{rx ry:Nat}{R:Result->Shared->Prop}(rm:RoomX f A (rx+1) (ry+3))(i:Inv c f s J H cm)(he:s.heap.get? e=some (excObj T))(ry:c.rep f.FX cm s.heap m y)(hm:m≠.unset)
  (hne:e ∉ f.FX) (hna:e ∉ adr cm)
  (h:∀s' x d n tk,(∀b o,b≠e->s.heap.get? b=some o->s'.heap.get? b=some o)->s'.gens=s.gens->s'.os=s.os->s.heap.get? d=none ->
   s'.heap.get? e=some {cls:=.ref RC,dict:=some d,data:=.fields #[.ref T,.none,.none,.none,.bool false,.none]} ->
   s'.heap.get? d=some (dictOf [⟨PyData.keyHash c.w.params "message",.str "message" tk,x⟩] n)->c.rep f.FX cm s'.heap m x->R (.ok (.ret .none)) s') :
  codeAny (model P0 c.w) A (.call (.ref 48) ⟨[.ref e,y],[]⟩) R s:=by
 obtain⟨oc,vs,t,q1,q2,q3⟩:=qK (code48 c.w.params);have ra:c.reps f.FX cm s.heap [.kref e,m] [.ref e,y]:=⟨_,_,rfl,rfl,_,_,rfl,ry,rfl⟩;have dk:DefOk s fd48 ⟨2,[],2,[]⟩ ["self","message"] 0:=⟨chk48,⟨47,oc,vs,t,rfl,i.base.X _ _ q1,q2,q3⟩,rfl,Nat.zero_le _,.inl ⟨rfl,rfl⟩⟩;refine GF (Z:=[]) (H':=H) (cm':=cm) (J':=[.kref e,m]) dk (i.base.X _ _ (fun48 _)) rfl rfl rm i ra rfl nofun (λg s_1 cal=>⟨Base.callee cal i.base,Cx.reps_mono cal.rr (.refl _) ra⟩) λg s_1 cal fr i_1 rm_1=>?_
 have e1':g.sc=[(Str.ofString "self",NameKind.local),(Str.ofString "message",NameKind.local)]:=fr.sc.trans sc48;refine wpAny_bind ?_;simp only[arm_exec_Assign];refine wpAny_bind (wpAny_standAt (wpAny_bind (wpAny_pure ?_)));refine wpAny_bind (Z1 (m:=1) (av:=m) (by rw[fr.σ]; decide) (by rw[e1']; decide) (rfl) i_1 rfl hm λx rx=>wpAny_bind (wpAny_pure ?_));refine wpAny_bind ?_;refine wpAny_bind (wpAny_holding (Z1 (m:=0) (av:=.kref e) (by rw[fr.σ]; decide) (by rw[e1']; decide) (rfl) i_1 rfl nofun λz rz=>?_))
 obtain rfl:z=.ref e:=rz;have he_1:=cal.grow.keep _ _ he;refine wpAny_bind (wpAny_standAt (wpAny_bind (wpAny_holding (Qa5 i_1.base.X he_1 λh' d tk tk' hd hh=>ZW (wpAny_pure (wpAny_pure ?_))))));have hde:d≠e:=λq=>by simp only[<-q,hd,Qk] at he_1; exact no he_1
 have hd0:s_1.heap.get? d=none:=by simp only[hd]; exact Qk _
 have hb:∀b o,b≠e->s_1.heap.get? b=some o->h'.get? b=some o:=λb o hbe eb=>by
  have hbd:b≠d:=λq=>by simp only[q,hd0] at eb; cases eb
  simp only[hh,Heap.get?_update_ne _ _ _ _ hbd,Heap.get?_update_ne _ _ _ _ hbe];exact Heap.get?_push_of_some _ eb
 have ee:(s_1.heap.push emptyDict).get? e=some (excObj T):=Heap.get?_push_of_some _ he_1;refine h {s_1 with heap:=h',toks:=tk} x d (putN "message" [] 0) tk' (λb o hbe eb=>hb b o hbe (cal.grow.keep _ _ eb)) cal.grow.gens cal.grow.os (Decidable.byContradiction λq=>cal.grow.some q hd0) ?_ ?_ ?_
 ·rw[show ({s_1 with heap:=h',toks:=tk}:Shared).heap=h' from rfl,hh,Heap.get?_update_ne _ _ _ _ (Ne.symm hde),Heap.get?_update_self _ ee rfl]
 ·simp only[show ({s_1 with heap:=h',toks:=tk}:Shared).heap=h' from rfl,hh]
  have ed:((s_1.heap.push emptyDict).update e λo=>{cls:=o.cls,dict:=some d,data:=o.data,slots:=o.slots}).get? d=some (dictOf [] 0):=by
   rw[Heap.get?_update_ne _ _ _ _ hde,hd];exact Heap.get?_push_size _ rfl
  rw[Heap.get?_update_self _ ed (by rw[putName_dict]; rfl),putName_dict];rfl
 ·refine Cx.rep_mono (λa o ⟨ea,st,n1,n2⟩=>?_) (.refl _) rx
  have hae:a≠e:=λq=>by simp only[q,he_1] at ea; cases ea; cases st
  exact⟨hb a o hae ea,st,λq=>n1 (cal.mem.mpr (.inr (.inl q))),n2⟩
theorem Qa6 {env:Env}{x:Sem Value}{Q:Flow->Shared->Prop}(hh:A.handled=none)
  (h:wpAny M A x (λv s_1=>∃e t dx,v=.ref e/\s_1.heap.get? RC=some refObj/\s_1.heap.get? e=some {cls:=.ref RC,dict:=dx,data:=.fields #[.ref t,.none,.none,.none,.bool false,.none]}/\E (.ref e) s_1) E s) :
  wpAny M A (raiseStmt env (some x) none) Q E s:=by
 have hcB:(Value.ref RC::.ref 31::bmE).contains (.type "BaseException")=true:=rfl;refine wpAny_bind (wpAny_mono h (λv s_1 h_1=>?_) λ_ _ x=>x);obtain⟨e,t,dx,rfl,hC,he,hE⟩:=h_1
 repeat (first | with_reducible refine wpAny_loadPart_at he ?_ | with_reducible refine wpAny_loadPart_at hC ?_ | (with_reducible refine wpAny_isSubtype_exc hC ?_; rw[hcB]) | wp_step)
 exact wpAny_raiseNew_none hh hE
theorem keep51 (P:Params):keepIn (KX P) (.ref RC)=true:=by kernel_rfl
theorem ns51 (P:Params):nsIn (KX P) mainGlobals (Str.ofString "Refusal")=some (some (.ref RC)):=by kernel_rfl
noncomputable def one? (l:LA):Option AV:=match l with
 | [a]=>some a
 | []=>none
 | _::_::_=>none
theorem Qa7 {a:AV}(h:one? l=some a):l=[a]:=by
 cases l with
 | nil=>exact no h
 | cons b l=>cases l with | nil=>cases h; rfl | cons _ _=>exact no h
theorem Qa8 (he:SE c k n C e):SS c k n C (.raise e):=λf fd st h A rm J s H cm i Q E p=>by
 replace h:=Qab h
 obtain⟨a0,b0,pos,rfl,h⟩:=h;rw[Bool.and_eq_true,Option.isNone_iff_eq_none] at h;obtain⟨rfl,h⟩:=h
 replace h:=Qp h
 obtain⟨a0,rfl,h⟩:=h
 replace h:=NZ h
 obtain⟨y,z,np,cpos,rfl,h⟩:=h;simp only[Bool.and_eq_true] at h;obtain⟨⟨h0,h1⟩,h2⟩:=h;have hy:y=Str.ofString "Refusal":=J1 h0;subst hy;have h3:chkL k [e] f.sc f.σ [z]=true:=Bool.and_eq_true_iff.mpr ⟨Bool.and_eq_true_iff.mpr ⟨h1,h2⟩,rfl⟩;have hns:=WF h3;have p':SPost c f s cm ((evL C J [e] H).st J λvs H=>obT (one? vs) λv=>.exc v J H) Q E:=by
  revert p
  show SPost c f s cm ((evE C J e H).st J λv H=>.exc v J H) Q E->SPost c f s cm (((evE C J e H).bind λv H=>.ok [v] H).st J λvs H=>obT (one? vs) λv=>.exc v J H) Q E;cases evE C J e H<;>exact id
 refine wpAny_bind (wpAny_standAt (Qa6 rm.hh ?_));refine wpAny_bind (wpAny_Call_Name_kw (Y6 i h0 (ns51 _) ?_));refine callWith_of (WK hns) (keeps_K (keep51 c.w.params)) (WD hns ?_);refine bindT' (rp:=c.reps f.FX) (λQ=>Yn [e] (λq hq=>by cases msD hq; exact he) f fd.cd [z] h3 cpos A rm J s H cm i Q E) p' λws H_1 xs s_1 cm_1 hok n_1 i_1 r_1 p0=>?_
 clear p p';obtain⟨m,e0,p⟩:=SPost.opt p0;clear p0;cases Qa7 e0
 ·obtain⟨v,tl,e0,rm',e1⟩:=r_1
  obtain rfl:tl=[]:=e1;subst e0;have X:=i_1.base.X;refine⟨i_1.base.X,wpAny_call ?_⟩;obtain⟨hh,gg,dd,tt,oo⟩:=s_1;have hm:m≠.unset:=λq=>by rw[q] at rm'; exact rm'
  refine Qa3 X (by size_fits) ?_;have g1:Grow ⟨hh,gg,dd,tt,oo⟩ ⟨(hh.push (tupObj [v])).push (excObj hh.objs.size),gg,dd,tt,oo⟩:=(Grow.push ⟨hh,gg,dd,tt,oo⟩ (tupObj [v]) tt).trans (Grow.push ⟨hh.push (tupObj [v]),gg,dd,tt,oo⟩ (excObj hh.objs.size) tt);have ex:((hh.push (tupObj [v])).push (excObj hh.objs.size)).get? (hh.objs.size+1)=some (excObj hh.objs.size):=by
   have:=Heap.get?_push_size (hh.push (tupObj [v])) (o:=excObj hh.objs.size) rfl
   rwa [Heap.size_push] at this
  have i_2:=g1.inv i_1;have en:hh.get? (hh.objs.size+1)=none:=Heap.get?_none_of_le (Nat.le_succ _);have eF:hh.objs.size+1 ∉ f.FX:=λq=>(i_1.base.lo _ (.inl q)).2 en
  have eA:hh.objs.size+1 ∉ adr cm_1:=λq=>(i_1.base.lo _ (.inr q)).2 en
  have ru:=GR (D:=RC) (xs:=[v]) rm;show codeAny (model P0 c.w) (A.under (.builtin "type.__call__" ⟨[.ref RC,v],[]⟩)) (.call (.ref 48) ⟨[.ref (hh.objs.size+1),v],[]⟩) _ _;refine init48 (rx:=7) (ry:=77) (m:=m) ⟨ru.hh,Nat.le_trans (Nat.add_le_add_right (Nat.le_add_right _ (3*n)) 8) ru.depth,Nat.le_trans (Nat.add_le_add_right (Nat.le_add_right _ (40*n)) 80) ru.units,ru.frames⟩ i_2 ex (Cx.rep_mono g1.rr (.refl _) rm') hm eF eA λs' x d nn tk k1 k2 k3 k4 k5 k6 k7=>⟨rfl,?_⟩
  have gs:Grow ⟨hh,gg,dd,tt,oo⟩ s':=⟨λa o e=>k1 a o (λq=>by rw[q,en] at e; exact no e) (g1.keep a o e),k2,k3⟩;refine wpAny_bind (wpAny_standAt (wpAny_pure ?_));refine⟨hh.objs.size+1,hh.objs.size,some d,rfl,gs.keep _ _ (X _ _ (refK _)),k5,?_⟩;have dn:hh.get? d=none:=Decidable.byContradiction λq=>g1.some q k4
  have dF:d ∉ f.FX:=λq=>(i_1.base.lo _ (.inl q)).2 dn
  have dA:d ∉ adr cm_1:=λq=>(i_1.base.lo _ (.inr q)).2 dn
  refine p _ s' cm_1 gs.nx (gs.inv i_1) (.inl ⟨_,_,d,_,_,nn,rfl,k5,rfl,rfl,rfl,en,eF,eA,⟨k6,rfl,dF,dA⟩,⟨"message",[],x,tk,[],rfl,rfl,k7,rfl,rfl⟩,rfl⟩)
section
open PySem PySem.W PyProof.Rows Builtin Builtin.ObjectAttr
set_option maxHeartbeats 4000000
theorem Qa9 (P:Params):findIn (KX P) (.ref RC) "__getattribute__"=some (some (.builtin "BaseException.__getattribute__")):=by kernel_rfl
theorem Qba (P:Params):findIn (KX P) (.ref RC) "__getattr__"=some none:=by kernel_rfl
theorem dict51 (P:Params):hasDictIn (KX P) RC=true:=by kernel_rfl
theorem Qbb:builtinKind "BaseException.__getattribute__"=some .slot:=by decide +kernel
theorem Qbc:splitId "BaseException.__getattribute__"=some ("BaseException","__getattribute__"):=by decide +kernel
theorem Qbd {tk:Tok}{v:Value}(X:(KX w.params).In s.heap)(I:PySem.W.InstAt s.heap a ox RC od)(hf:findObj (KX w.params) RC od "message"=some (.value v))(hq:R (.ok (.ret v)) s) :
  codeAny (model prog w) A (.call (.builtin "BaseException.__getattribute__") ⟨[.ref a,.str "message" tk],[]⟩) R s:=by
 obtain⟨cd,hc,hm0,hd⟩:=cls51 w.params;have ne:cd.mro.isEmpty=false:=by rw[hm0]; rfl
 have sub:Looks (model prog w) s.heap (isInstance (.ref a) (.type "BaseException")) true:=I.type.andThen (looks_mroIn X (by unfold mroIn; rw[hc,Option.bind_some,if_neg (by rw[ne]; decide),hm0]; rfl))
 have L1:=looks_find (M:=model prog w) X I hf;refine codeAny_call_builtin PySem.F.attr_Exception.ga.plain PySem.F.entry_bexc_ga (@check_slot (model prog w) _ _ s "BaseException.__getattribute__" "BaseException" "__getattribute__" (.ref a) [.str "message" tk] [] _ Qbb Qbc sub (PySem.F.args_bexc_ga (.ref a) (.str "message" tk)) ?_);refine wpAny_bind (wpAny_pure (wpAny_bind (wpAny_pure (wpAny_bind (I.type.here (wpAny_bind (L1.here ?_)))))));exact wpAny_pure hq
theorem Qbe {v:Value}(X:(KX w.params).In s.heap)(I:PySem.W.InstAt s.heap a ox RC od)(hf:findObj (KX w.params) RC od "message"=some (.value v))(hh:handedIn v=true)(hq:Q v {s with toks:=s.toks+1}) :
  wpAny (model prog w) A (getAttr (.ref a) "message" true) Q E s:=by
 refine wpAny_bind (wpAny_mkText (wpAny_holding (wpAny_bind (I.type _ _ _ _ (λ_ _ e=>e) (wpAny_bind (looks_findIn X (Qa9 _) _ _ _ _ (λ_ _ e=>e) ?_))))));refine wpAny_bind (looks_findIn X (Qba _) _ _ _ _ (λ_ _ e=>e) ?_);refine wpAny_bind (wpAny_attempt (wpAny_holding ?_));refine wpAny_bind (wpAny_pure (wpAny_call (Qbd (s:={s with toks:=s.toks+1}) X I hf ?_)));show wpAny _ _ (handedOut v) _ _ _;rw[handedOut_of hh];exact wpAny_pure hq
end
theorem Qbf {y:Str}{k:Nat}{pos:Pos}{Q:Unit->Shared->Prop}(h1:f.σ.lookup y=some k)(h2:f.sc.lookup y=some .local)(i:Inv c f s J H cm)
  (hQ:∀s',Nx f.FA f.FO s cm s' cm->Inv c f s' (J.set k .unset) H cm->Q () s'):wpAny M A (do bindName f.env y .none; unbindBehindTheSuite f.env y pos) Q E s:=by
 have hk:f.env.kindOf y=some .local:=Jt.trans h2;obtain⟨m,hns,z⟩:=i.ns;refine wpAny_nameGoes_keeps hk hns (by rw[f.ok.kind]; rfl) λh' v hn' hs'=>?_
 obtain⟨on,es,ep,e1,e2,e3⟩:=id hn';have t:OwnTurn f f.env.locals s {s with heap:=h',toks:=s.toks+1}:=⟨f.ok.loc,λb hb=>hs'.2 b hb,by show h'.get? _≠none; rw[e1]; nofun,rfl,rfl⟩;have rr:=(t.nx i).rr i.base;refine hQ _ (t.nx i) ⟨t.base i,i.dj,i.dj2,⟨_,hn',λx j q1 q2=>?_⟩,λx j kd' c' q1 q2 q3 q4=>?_,t.frs i λo e vs=>by
  have e':h'.get? f.env.locals=some o:=e;rw[e1] at e'; cases e'; rw[e2]; nofun⟩
 ·by_cases hj:j=k
  ·subst hj
   intro av q hq;rw[List.getElem?_set] at q;simp only[if_true] at q;split at q
   ·cases q; exact absurd rfl hq
   ·exact no q
  ·have hxy:x≠y:=λq=>hj (by rw[q,h1] at q1; exact (Option.some.inj q1).symm)
   rw[if_neg hxy];exact slot_set hj rr (z x j q1 q2)
 ·obtain⟨o,ov,e,d,zz⟩:=i.cl x j kd' c' q1 q2 q3 q4
  obtain⟨c'',w1,w2,_⟩:=f.ok.cell x j kd' q1 q2 q3
  replace w1:=q4 ▸ w1; cases w1
  have hj:j≠k:=λq=>by
   subst q;have:=f.ok.slots x y j _ _ q1 h1 q2 h2;subst this
   replace q2:=h2 ▸ q2; cases q2; rcases q3 with q3 | q3<;>cases q3
  exact⟨o,ov,(hs'.2 c' w2).trans e,d,slot_set hj rr zz⟩
theorem Qbg {a d m:Nat}{o:Obj}{ds:List DictEntry}{u:AV}(i:Inv c f s J H cm)(he:s.heap.get? a=some o)(hc:o.cls=.ref RC)(hd:o.dict=some d)(hf:∃vs,o.data=.fields vs)(hr:Rr f.FX cm s.heap d (dictOf ds m))
  (z:c.repd f.FX cm s.heap ["message"] [u] ds) (h:∀v s',Nx f.FA f.FO s cm s' cm->Inv c f s' J H cm->c.rep f.FX cm s'.heap u v->Q v s'):wpAny (model P0 c.w) A (getAttr (.ref a) (Str.ofString "message") true) Q E s:=by
 obtain⟨val,hv,rv⟩:=(Y8 "message" z).1 u Gn;obtain⟨vs,hf⟩:=hf;have g:=Grow.toks s (s.toks+1);have I:PySem.W.InstAt s.heap a o RC (some (dictOf ds m)):=⟨he,hc,by unfold notCls; rw[hf],by simp only[hd]; exact hr.1⟩;exact Qbe i.base.X I (findObj_own (od:=dictOf ds m) (dict51 _) (qI _) rfl ((lookIn_dict _ _ _).trans hv)) (Gq rv) (h _ _ g.nx (g.inv i) (Cx.rep_mono g.rr (.refl _) rv))
inductive TryP (k:Ck)(b:List PS)(m ek:Nat)(sc:Sc)(σ:Sl)(st:Stmt):Prop where
 | mk (u:List Stmt)(yp:Pos)(w z:Str)(zp wp ap ps hp pos:Pos)(e:st=.Try u [.ExceptHandler (some (.Name (Str.ofString "Refusal") yp)) (some w) [.Assign [.Name z zp] (.Attribute (.Name w wp) (Str.ofString "message") ap) ps] hp] [] [] pos)
  (h0:glb sc "Refusal" (Str.ofString "Refusal")=true) (h3:okName sc σ m z=true) (h4:okName sc σ ek w=true) (h5:sc.lookup w=some .local) (h6:m≠ek) (h7:chkSs k b sc σ u=true)
inductive T3P (sc:Sc)(σ:Sl)(m ek:Nat)(w:Str)(l:List PX)(v:PX):Prop where
 | mk (z:Str)(zp wp ap:Pos)(e1:l=[.Name z zp])(e2:v=.Attribute (.Name w wp) (Str.ofString "message") ap)(h3:okName sc σ m z=true)(h4:okName sc σ ek w=true)(h5:sc.lookup w=some .local)(h6:m≠ek)
theorem Qbh {sc:Sc}{σ:Sl}{m ek:Nat}{w:Str}{l:List PX}{v:PX}(h:ckT3 sc σ m ek w l v=true):T3P sc σ m ek w l v:=by
 obtain⟨_,rfl,ha⟩:=Q3 h;obtain⟨z,zp,rfl,hb⟩:=QR ha;obtain⟨_,aa,ap,rfl,hc⟩:=Ww hb;obtain⟨w',wp,rfl,hd⟩:=QR hc;clear h ha hb hc;simp only[Bool.and_eq_true,beq_iff_eq,bne_iff_ne,ne_eq] at hd;obtain⟨⟨⟨⟨⟨rfl,rfl⟩,h3⟩,h4⟩,h5⟩,h6⟩:=hd;exact⟨z,zp,wp,ap,rfl,rfl,h3,h4,h5,h6⟩
theorem Qbi {b:List PS}{m ek:Nat}{sc:Sc}{σ:Sl}{st:Stmt}(h:chkS k (.tryR b m ek) sc σ st=true):TryP k b m ek sc σ st:=by
 obtain⟨u,hs,e0,g0,pos,rfl,ha⟩:=Qac h;obtain⟨hb,h1⟩:=anD ha;obtain⟨hc,h7⟩:=anD hb;obtain⟨q1,q2⟩:=anD hc;clear h ha hb hc;cases ieD q1;cases ieD q2;obtain⟨_,rfl,hd⟩:=Q3 h1;obtain⟨_,w,_,hp,rfl,he⟩:=on_h hd;obtain⟨y,yp,rfl,hf⟩:=QR he;obtain⟨h0,hg⟩:=anD hf;clear h1 hd he hf;obtain⟨_,rfl,hi⟩:=Q3 hg;obtain⟨_,_,ps,rfl,hj⟩:=qy hi;clear hg hi;cases J1 h0;obtain⟨z,zp,wp,ap,rfl,rfl,h3,h4,h5,h6⟩:=Qbh hj;exact⟨u,yp,w,z,zp,wp,ap,ps,hp,pos,rfl,h0,h3,h4,h5,h6,h7⟩
theorem Qbj {b:List PS}{m ek:Nat}(hb:SSs c k n C b):SS c k n C (.tryR b m ek):=λf fd st h A rm J s H cm i Q E p=>by
 obtain⟨u,yp,w,z,zp,wp,ap,ps,hp,pos,rfl,h0,h3,h4,h5,h6,h7⟩:=Qbi h;obtain⟨a1,⟨kd1,a2,a3⟩,a4⟩:=J4 h3;obtain⟨b1,_,b4⟩:=J4 h4;refine wpAny_Try_except ?_;refine hb f fd u h7 A rm J s H cm i _ _ ?_
 replace p:SPost c f s cm ((evSs C b J H).ctch λmm J H=>if ek<J.length then .ok .next ((J.set m mm).set ek .unset) H else .stuck) Q E:=p
 cases ho:evSs C b J H with
 | stuck=>rw[ho] at p; exact p.elim
 | ok fl J_1 H_1 =>
  replace p:=ho ▸ p
  intro x s' cm' nx iv hf;have pp:=p x s' cm' nx iv hf;cases fl with
  | next=>cases hf; exact wpAny_execs_nil pp
  | cont=>cases hf; exact pp
  | ret v=>obtain⟨y,rfl,_⟩:=hf; exact pp
 | exc mm J_1 H_1 =>
  rw[ho] at p;obtain⟨hlen,p⟩:=ZK p;intro e s' cm' nx iv ex;have hh:=i.base.alive;obtain⟨r,hfs⟩:=fd.fs;refine noteF (rm.frames.trans (congrArg some hfs)) hfs fd.fr iv hh nx.alive ex λs_2 t_2 x_2=>flightF hh x_2 none λs_3 t_3 x_3=>?_
  have iv_3:=(t_2.trans t_3).inv hh iv;obtain⟨a,o,d,vs,ds,nn,rfl,e2,e3,e4,e5,e6,e7,e8,e9,e10,e11⟩:=id x_3;refine wpAny_handleBy_cons (codeAny_handlers_test (Y6 iv_3 h0 (ns51 _) ?_)) (by intro q; cases q)
  obtain⟨hp3,g3,d3,tk3,os3⟩:=s_3;refine wpAny_excMatches_sub_self (iv_3.base.X _ _ (refK _)) e2 e3 (by decide) (codeAny_handlers_suite_as ?_);refine flightF hh x_3 none λs₄ t₄ x₄=>?_
  have tt:=(t_2.trans t_3).trans t₄;have iv₄:=tt.inv hh iv;have nx₄:=tt.nx nx;obtain⟨a',o',d',vs',ds',nn',ea,w2,w3,w4,w5,w6,w7,w8,w9,w10,w11⟩:=id x₄;cases ea;refine Jv (av:=.kref a) b1 h5 (.inl rfl) (by rw[fd.ow]) iv₄ rfl λs₅ n₅ iv₅=>?_
  have hag:a≠gh:=λq=>hh _ c.glow (by rw[<-q]; exact w6)
  have w2':=n₅.keep a o' w2 hag (λq=>w7 (Ql (.inl q))) (λq=>w7 (Ql (.inr q))) w8;have w9':=n₅.rr iv₄.base _ _ w9;have w10':=n₅.repd iv₄.base w10;rw[arm_execs_cons];refine wpAny_bind ?_;rw[arm_exec_Assign];refine wpAny_bind (wpAny_standAt (wpAny_bind (wpAny_pure ?_)));rw[if_neg (by decide)]
  ·refine wpAny_bind (Gr rfl (Z1 (av:=.kref a) b1 h5 b4 iv₅ (by rw[List.getElem?_set]; simp[hlen]) nofun λv rv=>?_))
   cases (show v=.ref a from rv);refine Qbg iv₅ w2' w3 w4 ⟨_,w5⟩ w9' w10' λv s₆ n₆ iv₆ rv=>?_
   refine wpAny_bind (wpAny_pure ?_);rw[WN rfl];show wpAny _ _ (do PySem.assign (.Name z zp) f.env v; pure Flow.next) _ _ s₆;refine wpAny_bind (wpAny_assign_Name (Jv a1 a2 a3 (by rw[fd.ow]) iv₆ rv λs₇ n₇ iv₇=>wpAny_pure (wpAny_execs_nil ?_)))
   refine Qbf b1 h5 iv₇ λs₈ n₈ iv₈=>?_
   have e:(((J_1.set ek (.kref a)).set m mm).set ek .unset)=(J_1.set m mm).set ek .unset:=by
    rw[List.set_comm _ _ (λq=>h6 q.symm),List.set_set]
   rw[e] at iv₈;exact p .next s₈ cm' ((((nx₄.trans n₅).trans n₆).trans n₇).trans n₈) iv₈ rfl
theorem Qbk (ok:CkOk c k)(os:OSnd c n C)(p:PS):SS c k n C p :=
 PS.rec (motive_1:=λp=>SS c k n C p) (motive_2:=λl=>∀p∈l,SS c k n C p)
  (λt e=>QaY (QS ok os e) (QaK ok os t) λe' gs mu _=>⟨QS ok os e',o6 ok os gs⟩) (λ_ _ e=>Qao (QS ok os e)) (λe=>Qal (QS ok os e)) (λe=>Qak (QS ok os e)) Qaj
  (λt a b ha hb=>Qan (QS ok os t) (Yq a ha) (Yq b hb)) (λt b hb=>Qar (QS ok os t) (Yq b hb)) (λ_ _ it b hb=>Qav (QS ok os it) (Yq b hb)) Qai Qah
  (λe=>Qa8 (QS ok os e)) (λb _ _ hb=>Qbj (Yq b hb)) Qag
  (λ_ h=>(List.not_mem_nil h).elim) (λa l h1 h2 p h=>(mcD h).elim (λq=>q ▸ h1) (h2 p)) p
theorem Qbl (ok:CkOk c k)(os:OSnd c n C)(l:List PS):∀p∈l,SS c k n C p:=λp _=>Qbk ok os p
theorem Qbm (ok:CkOk c k)(os:OSnd c n C){sc:Sc}{σ:Sl}{b:List PS}{body:List Stmt}(h:chkSs k b sc σ body=true):BodyOk c n C sc σ k.code k.qual b body :=
 λg e1 e2 e3 e4 e5 e6 A rm J s H cm i Q E p=>Yq b (Qbl ok os b) g ⟨e4,e3,e6,e5⟩ body (by simp only[e1,e2]; exact h) A rm J s H cm i Q E p
noncomputable def isK (v:AV)(P:Nat->Bool):Bool:=if h:v.ctorIdx=10 then AV.kref.elim (motive_1:=λ_=>Bool) v h P else false
noncomputable def isI (v:AV)(P:Int->Bool):Bool:=if h:v.ctorIdx=3 then AV.int.elim (motive_1:=λ_=>Bool) v h P else false
noncomputable def isT (v:AV)(P:LA->Bool):Bool:=if h:v.ctorIdx=5 then AV.tup.elim (motive_1:=λ_=>Bool) v h P else false
theorem is_K {P}(h:isK v P=true):∃a,v=.kref a/\P a=true:=by have e:=dinv h; revert h; exact AV.kref.elim v e λa h=>⟨a,rfl,h⟩
theorem Yr {P}(h:isI v P=true):∃a,v=.int a/\P a=true:=by have e:=dinv h; revert h; exact AV.int.elim v e λa h=>⟨a,rfl,h⟩
theorem is_T {P}(h:isT v P=true):∃a,v=.tup a/\P a=true:=by have e:=dinv h; revert h; exact AV.tup.elim v e λa h=>⟨a,rfl,h⟩
noncomputable def avEq (v w:AV):Bool:=isK v (λa=>isK w λb=>a==b)||(isI v (λi=>isI w λj=>i==j)||isT v λl=>on2 l λx y=>isT w λl'=>on2 l' λx' y'=>isI x λi=>isI x' λi'=>isI y λj=>isI y' λj'=>i==i'&&j==j')
theorem qL {v w:AV}(h:avEq v w=true):v=w:=by
 simp only[avEq,Bool.or_eq_true] at h;rcases h with h | h | h
 ·replace h:=is_K h; obtain⟨a,rfl,h⟩:=h; replace h:=is_K h; obtain⟨b,rfl,h⟩:=h; rw[eqD h]
 ·replace h:=Yr h; obtain⟨a,rfl,h⟩:=h; replace h:=Yr h; obtain⟨b,rfl,h⟩:=h; rw[eqD h]
 ·replace h:=is_T h; obtain⟨l,rfl,h⟩:=h; replace h:=J0 h; obtain⟨x,y,rfl,h⟩:=h
  replace h:=is_T h; obtain⟨l',rfl,h⟩:=h; replace h:=J0 h; obtain⟨x',y',rfl,h⟩:=h
  replace h:=Yr h; obtain⟨_,rfl,h⟩:=h; replace h:=Yr h; obtain⟨_,rfl,h⟩:=h
  replace h:=Yr h; obtain⟨_,rfl,h⟩:=h; replace h:=Yr h; obtain⟨_,rfl,h⟩:=h
  rw[Bool.and_eq_true,beq_iff_eq,beq_iff_eq] at h;rw[h.1,h.2]
noncomputable def gOk (gL:List (String × AV))(n:String)(v:AV):Bool:=gL.any λp=>p.1==n&&avEq p.2 v
noncomputable def vInt:Value->Option Int
 | .int i _=>some i
 | _=>none
noncomputable def vRef:Value->Option Addr
 | .ref a=>some a
 | _=>none
noncomputable def dSeq:Data->Option (List Value)
 | .seq xs _=>some xs.toList
 | _=>none
noncomputable def gVal (K:Frag):AV->Value->Bool
 | .kref b,v=>v==.ref b
 | .int j,v=>vInt v==some j
 | .tup l,v=>on2 l λx y=>onS (vRef v) λa=>onS (K.lookup a) λo=>o.cls==.type "tuple"&&onS (dSeq o.data) λxs=>on2 xs λp q=>onS x.int? λi=>onS y.int? λj=>vInt p==some i&&vInt q==some j
 | _,_=>false
noncomputable def gGood (K:Frag)(n:String)(v:AV):Bool:=n != "__debug__"&&onS (nsIn K mainGlobals (Str.ofString n)) λo=>onS o (gVal K v)
theorem Z2 {v:Value}{i:Int}(h:(vInt v==some i)=true):∃t,v=.int i t:=by
 have h:=eqD h;cases v with
 | int j t=>exact⟨t,congrArg (Value.int · t) (Option.some.inj h)⟩
 | _=>exact no h
theorem Z3 {v:Value}(h:vRef v=some a):v=.ref a:=by
 cases v with
 | ref b=>exact congrArg _ (Option.some.inj h)
 | _=>exact no h
theorem qM {d:Data}{l:List Value}(h:dSeq d=some l):∃n,d=.seq l.toArray n:=by
 cases d with
 | seq xs n=>cases h; exact⟨n,by dsimp only[Array.toArray_toList]⟩
 | _=>exact no h
theorem g_val {P:Params}{x:Value}(h:gVal (KX P) v x=true):GlobV P v x:=by
 cases v with
 | kref b=>refine (eqD h) ▸ ?_; exact .kref b
 | int i=>obtain⟨t,rfl⟩:=Z2 h; exact .int i t
 | tup l =>
  obtain⟨y,z,rfl,h1⟩:=J0 h;obtain⟨a,ea,h2⟩:=Qp h1;obtain⟨o,eo,h3⟩:=Qp h2;obtain⟨hc,h4⟩:=anD h3;obtain⟨xs,ed,h5⟩:=Qp h4;obtain⟨p,q,rfl,h6⟩:=J0 h5;obtain⟨i,ei,h7⟩:=Qp h6;obtain⟨j,ej,h8⟩:=Qp h7;obtain⟨h9,h10⟩:=anD h8;clear h h1 h2 h3 h4 h5 h6 h7 h8;obtain⟨t,rfl⟩:=Z2 h9;obtain⟨u,rfl⟩:=Z2 h10;obtain⟨n,hd⟩:=qM ed;cases Z3 ea;cases int?_of ei;cases int?_of ej;exact .tup i j a o t u n eo (eqD hc) hd
 | _=>exact nf h
theorem qN {P:Params}{n:String}(h:gGood (KX P) n v=true):n≠"__debug__"/\∃val,nsIn (KX P) mainGlobals (Str.ofString n)=some (some val)/\GlobV P v val:=by
 obtain⟨h1,h2⟩:=anD h;obtain⟨o,e,h3⟩:=Qp h2;obtain⟨val,rfl,h4⟩:=Qp h3;exact⟨bne_iff_ne.mp h1,val,e,g_val h4⟩
noncomputable def ckL (gL:List (String × AV))(code:Value)(qual:Str):Ck:={g:=gOk gL,lm:=λ_ _ _ _ _=>false,init:=λa b=>initL.contains (a,b),mt:=λa b d=>mtL.contains (a,b,d),code:=code,qual:=qual}
noncomputable abbrev lamFd (a:Arguments)(b:PX)(s:Scope):FuncData:={name:="",qualname:="",params:=a,body:=.expr b,scope:=s,globals:=mainGlobals,closure:=[],defaults:=.none,kwdefaults:=.none,pyModule:=.none,code:=.none,builtins:=builtinsNs}
abbrev LamT:=List (Nat × FD × List Str)
noncomputable def retB (b:List PS):Option PE:=b.head?.bind λp=>match p with
 | .ret pe=>if b.tail.isEmpty=true then some pe else none
 | _=>none
theorem Qbn {b:List PS}{pe:PE}(h:retB b=some pe):b=[.ret pe]:=by
 cases b with
 | nil=>exact no h
 | cons p l =>
  cases p with
  | ret q =>
   obtain⟨e,h⟩:=Yp (show (if l.isEmpty=true then some q else none)=some pe from h);rw[ieD e,Option.some.inj h]
  | _=>exact no h
noncomputable def lamIn (gL:List (String × AV))(lamL:LamT)(m:Nat)(a:Arguments)(b:PX)(s:Scope):Bool:=onS (lamL.lookup m) λq=>onS (retB q.1.body) λpe =>
 q.1.dflt.isEmpty&&chkR (lamFd a b s) q.1.np q.1.ns q.2&&chkE (ckL gL .none "") pe s.names (sigma q.2) b
noncomputable def noFree (s:Scope):Bool:=s.names.all λp=>!(p.2==.free)
noncomputable def noDef:Arguments->Bool
 | ⟨_,_,_,_,kwd,_,d⟩=>kwd.isEmpty&&d.isEmpty
noncomputable def lamOk (gL:List (String × AV))(lamL:LamT)(m:Nat)(a:Arguments)(b:PX)(s:Scope):Bool:=noFree s&&noDef a&&lamIn gL lamL m a b s
noncomputable def LOx (gL:List (String × AV))(lamL:LamT)(m:Nat)(fd:FuncData):Prop:=fd.defaults=.none/\fd.closure=[]/\fd.globals=mainGlobals/\fd.builtins=builtinsNs/\∃b,fd.body=.expr b/\lamIn gL lamL m fd.params b fd.scope=true
theorem Qbo {s:Scope}(h:noFree s=true)(env:Env):closureFor s env=pure []:=closureFor_none λx hx q=>by
 have:=aaD h x hx;simp[q] at this
theorem Qbp {a:Arguments}(h:noDef a=true)(env:Env):defaultsOf a env=([],[]):=by
 obtain⟨x1,x2,x3,x4,kwd,x6,d⟩:=a;simp only[noDef,Bool.and_eq_true,List.isEmpty_iff] at h;obtain⟨rfl,rfl⟩:=h;rfl
noncomputable def ckF (gL:List (String × AV))(lamL:LamT)(fd:FuncData):Ck:={g:=gOk gL,lm:=λm a b s p=>fd.code==.ref 1105&&fd.qualname=="_law_places_hold"&&lamOk gL lamL m a b s,init:=λa b=>initL.contains (a,b),mt:=λa b d=>mtL.contains (a,b,d),code:=fd.code,qual:=fd.qualname++".<locals>."}
theorem code1105 (P:Params):(KX P).lookup 1105=some {cls:=Value.type "code",data:=Data.fields #[Value.str (Str.ofString "_law_places_hold") 1707,Value.str (Str.ofString "_law_places_hold") 1708,Value.str (Str.ofString "/claim/cut.py") 1709,Value.int 1061 0,Value.int 1 0,Value.int 0 0,Value.int 0 0,Value.int 3 0,Value.ref 1102,Value.bool true,Value.int 181 0,Value.ref 1103,Value.none,Value.none,Value.none,Value.ref 1104,Value.int 1710 0,Value.int 1061 0,Value.str (Str.ofString "/claim/cut.py") 1711]}:=by kernel_rfl
theorem hd1105 {P:Params}(X:(KX P).In h):CodeHd h 1105 gh:=⟨_,_,_,_,_,_,_,_,_,X _ _ (code1105 P),rfl,rfl,rfl,rfl,rfl,rfl,rfl,rfl,by decide⟩
noncomputable abbrev lqX:Str:=Str.ofString "_law_places_hold"++".<locals>."++Str.ofString "<lambda>"
theorem Qbq {fd:FuncData}{a:Arguments}{b:PX}{s:Scope}{np ns:Nat}{xs:List Str}(h1:fd.params=a)(h2:fd.scope=s)(h3:fd.closure=[])(h4:fd.globals=mainGlobals)(h5:fd.builtins=builtinsNs)(h:chkR (lamFd a b s) np ns xs=true):chkR fd np ns xs=true:=by
 unfold chkR at h ⊢;simp only[h1,h2,h3,h4,h5];exact h
theorem ck_ok {gL:List (String × AV)}{lamL:LamT}(hg:gL.all (λp=>gGood (KX c.w.params) p.1 p.2)=true)(hlq:c.lq=lqX)(hLO:c.LO=LOx gL lamL)(fd:FuncData):CkOk c (ckF gL lamL fd) where
 g n v h:=by
  obtain⟨p,hp,q⟩:=List.any_eq_true.mp h;simp only[Bool.and_eq_true,beq_iff_eq] at q;obtain⟨rfl,q⟩:=q;cases qL q;exact qN (aaD hg p hp)
 mt D n f h:=List.contains_iff_mem.mp h
 init D i h:=List.contains_iff_mem.mp h
 lm m a b s p h:=by
  simp only[ckF,lamOk,Bool.and_eq_true,beq_iff_eq] at h;obtain⟨⟨h1,h2⟩,⟨h3,h4⟩,h5⟩:=h;refine⟨⟨1105,h1,λh X=>hd1105 X⟩,?_,Qbp h4,Qbo h3,λfd' e1 e2 e3 e4 e5 e6 e7=>?_⟩
  ·simp only[hlq]; show fd.qualname++".<locals>."++_=_; rw[h2]
  ·rw[hLO]
   exact⟨e7,e4,e5,e6,b,e2,by rw[e1,e3]; exact h5⟩
theorem Qbr {gL:List (String × AV)}(hg:gL.all (λp=>gGood (KX c.w.params) p.1 p.2)=true)(code:Value)(qual:Str):CkOk c (ckL gL code qual) where
 g n v h:=by
  obtain⟨p,hp,q⟩:=List.any_eq_true.mp h;simp only[Bool.and_eq_true,beq_iff_eq] at q;obtain⟨rfl,q⟩:=q;cases qL q;exact qN (aaD hg p hp)
 mt D n f h:=List.contains_iff_mem.mp h
 init D i h:=List.contains_iff_mem.mp h
 lm m a b s p h:=by exact nf h
noncomputable def noneAV:AV->Bool
 | .none=>true
 | _=>false
theorem qO {p:α->Bool}{z:α}(hp:∀x,p x=true->x=z){l:List α}(h:l.all p=true):l=List.replicate l.length z:=by
 induction l with
 | nil=>rfl
 | cons x l ih =>
  obtain⟨h1,h2⟩:=anD (List.all_cons.symm.trans h);simp only[List.length_cons,List.replicate_succ,<-ih h2,hp x h1]
theorem none_of {x:AV}(h:noneAV x=true):x=.none:=by
 cases x with
 | none=>rfl
 | _=>exact nf h
noncomputable def dvOk (K:Frag)(v:Value)(kd:Nat):Bool:=(v==.none&&kd==0)||onS (vRef v) λT=>onS (K.lookup T) λo=>onS (dSeq o.data) λxs=>xs.all (·==Value.none)&&xs.length==kd
theorem dv_ok {K:Frag}{v:Value}{kd:Nat}(h:dvOk K v kd=true):(v=.none/\kd=0)\/∃T oT m,v=.ref T/\K.lookup T=some oT/\oT.data=.seq (List.replicate kd Value.none).toArray m:=by
 rcases (Bool.or_eq_true _ _).mp h with h1 | h1
 ·obtain⟨h2,h3⟩:=anD h1
  exact .inl ⟨eqD h2,eqD h3⟩
 ·obtain⟨T,e1,h2⟩:=Qp h1
  obtain⟨o,e2,h3⟩:=Qp h2;obtain⟨xs,e3,h4⟩:=Qp h3;obtain⟨h5,h6⟩:=anD h4;obtain⟨m,e4⟩:=qM e3;refine .inr ⟨T,o,m,Z3 e1,e2,?_⟩;rw[e4,<-eqD h6,<-qO (λx hx=>eqD hx) h5]
abbrev FunT:=List (Nat × Bool × FD × List Str × Nat)
noncomputable def dFun:Data->Option FuncData
 | .func fd=>some fd
 | _=>none
noncomputable def bSts:FuncBody->Option (List Stmt)
 | .stmts b=>some b
 | _=>none
theorem Qbs {d:Data}{fd:FuncData}(h:dFun d=some fd):d=.func fd:=by
 cases d with
 | func=>exact congrArg _ (Option.some.inj h)
 | _=>exact no h
theorem Qbt {d:FuncBody}{b:List Stmt}(h:bSts d=some b):d=.stmts b:=by
 cases d with
 | stmts=>exact congrArg _ (Option.some.inj h)
 | _=>exact no h
noncomputable def funChk (K:Frag)(gL:List (String × AV))(lamL:LamT)(fa:Nat)(d:FD)(xs:List Str)(kd:Nat):Bool:=onS (K.lookup fa) λo=>onS (dFun o.data) λfd=>onS (bSts fd.body) λbody=>onS (vRef fd.code) λc' =>
 chkR fd d.np d.ns xs&&codeOk K c' fd.qualname&&d.dflt.all noneAV&&d.dflt.length==kd&&decide (kd<=d.np)&&dvOk K fd.defaults kd&&chkSs (ckF gL lamL fd) d.body fd.scope.names (sigma xs) body
inductive FunP (c:Cx)(fa:Nat)(d:FD):Prop where
 | mk (fd:FuncData)(body:List Stmt)(xs:List Str)(kd:Nat)(fk:FunK c.w.params fa d fd body xs kd)(b:∀n C,OSnd c n C->BodyOk c n C fd.scope.names (sigma xs) fd.code (fd.qualname++".<locals>.") d.body body)
theorem Qbu {gL:List (String × AV)}{lamL:LamT}(hg:gL.all (λp=>gGood (KX c.w.params) p.1 p.2)=true)(hlq:c.lq=lqX)(hLO:c.LO=LOx gL lamL){fa:Nat}{d:FD}{xs:List Str}{kd:Nat}(h:funChk (KX c.w.params) gL lamL fa d xs kd=true):FunP c fa d:=by
 obtain⟨o,e,ha⟩:=Qp h;obtain⟨fd,ef,hb⟩:=Qp ha;obtain⟨body,eb,hc⟩:=Qp hb;obtain⟨c',ec,hd⟩:=Qp hc;clear h ha hb hc;obtain⟨hd,h7⟩:=anD hd;obtain⟨hd,h6⟩:=anD hd;obtain⟨hd,h5⟩:=anD hd;obtain⟨hd,h4⟩:=anD hd;obtain⟨hd,h3⟩:=anD hd;obtain⟨h1,h2⟩:=anD hd;obtain⟨oc,vs,t,q1,q2,q3⟩:=qK h2;exact⟨fd,body,xs,kd,⟨⟨o,e,Qbs ef⟩,Qbt eb,h1,⟨c',oc,vs,t,Z3 ec,q1,q2,q3⟩,by rw[<-eqD h4]; exact qO (λx=>none_of) h3,of_decide_eq_true h5,dv_ok h6⟩,λn C os=>Qbm (k:=ckF gL lamL fd) (ck_ok hg hlq hLO fd) os h7⟩
theorem qP {l:List (Nat × β)}:∀{a:Nat} {b:β},l.lookup a=some b->(a,b)∈l:=by
 induction l with
 | nil =>
  intro _ _ h;exact no h
 | cons q__ r ih =>
  obtain⟨k,v⟩:=q__;intro a b h;rw[List.lookup_cons] at h;cases hk:a==k with
  | true=>replace h:=hk ▸ h; cases h; rw[eqD hk]; exact .head _
  | false=>rw[hk] at h; exact .tail _ (ih h)
noncomputable def tabT (L:FunT)(fa:Nat):Option (Bool × FD):=(L.lookup fa).map λp=>(p.1,p.2.1)
noncomputable def tabU (L:LamT)(m:Nat):Option FD:=(L.lookup m).map (·.1)
noncomputable def LamFree (gL:List (String × AV))(lamL:LamT):Prop:=∀m d xs pe,lamL.lookup m=some (d,xs)->d.body=[.ret pe]->∀code qual sc σ x,chkE (ckL gL code qual) pe sc σ x=chkE (ckL gL .none "") pe sc σ x
set_option tactic.hygienic true in
theorem Qbv {gL:List (String × AV)}{lamL:LamT}{L:FunT}(hg:gL.all (λp=>gGood (KX c.w.params) p.1 p.2)=true)(hlq:c.lq=lqX)(hLO:c.LO=LOx gL lamL)(hL:L.all (λp=>funChk (KX c.w.params) gL lamL p.1 p.2.2.1 p.2.2.2.1 p.2.2.2.2)=true)(hf:LamFree gL lamL) :
  Tabs c (tabT L) (tabU lamL) where
 f fa p d h:=by
  unfold tabT at h;obtain⟨q,hq,e⟩:=omD h;obtain⟨q1,q2,q3,q4⟩:=q;cases e;obtain⟨fd,body,xs,kd,fk,b⟩:=Qbu hg hlq hLO (aaD hL _ (qP hq));exact⟨fd,body,xs,kd,fk,b⟩
 l m d h fd hfd:=by
  unfold tabU at h;obtain⟨q,hq,e⟩:=omD h;obtain⟨q1,xs⟩:=q;cases e;rw[hLO] at hfd;obtain⟨h1,h2,h3,h4,b,h5,h6⟩:=hfd;obtain⟨q,e,h6⟩:=Qp h6;cases hq.symm.trans e;obtain⟨pe,hpe,h6⟩:=Qp h6
  replace hpe:=Qbn hpe
  ·simp only[Bool.and_eq_true,List.isEmpty_iff] at h6
   obtain⟨⟨h7,h8⟩,h9⟩:=h6;refine⟨b,pe,xs,h5,hpe,Qbq rfl rfl h2 h3 h4 h8,h7,h1,λn C os g e1 e2=>?_⟩;refine (QS (Qbr hg g.env.code g.env.qual) os pe g ⟨rfl,rfl⟩ b ?_).1;rw[hf m _ xs pe hq hpe,e1,e2];exact h9
noncomputable abbrev D0:PE:=.loc 0
noncomputable abbrev D1:PE:=.loc 1
noncomputable abbrev D2:PE:=.loc 2
noncomputable abbrev D3:PE:=.loc 3
noncomputable abbrev D4:PE:=.loc 4
noncomputable abbrev D5:PE:=.glob "_law_draw" (.kref 1038)
noncomputable abbrev D6:PE:=.loc 5
noncomputable abbrev D7:PE:=.glob "shape_of" (.kref 737)
noncomputable abbrev D8:PE:=.glob "is_matrix" (.kref 730)
noncomputable abbrev D9:PE:=.loc 6
noncomputable abbrev D10:PE:=.glob "new_matrix" (.kref 770)
noncomputable abbrev D11:PE:=.comp D1 [.mk [1] true (.range1 (.len (.attr D0 "tags"))) [(.cmp .eq (.sub (.attr D0 "used") D1) (.int 0))]] false
noncomputable abbrev D12:PE:=.comp (.cat (.upto D4 D2) (.from D4 (.bin .add D2 (.int 1)))) [.mk [4] true (.from D0 (.int 1)) []] false
noncomputable abbrev D13:PE:=.call (.glob "needed" (.kref 146)) [(.sub (.call (.glob "take" (.kref 152)) [D1,(.lst [(.str "x")] false)]) (.int 0)),(.str "x")]
noncomputable abbrev D14:PE:=.attr D0 "items"
noncomputable abbrev D15:PE:=.comp (.sub D6 (.int 0)) [.mk [5] true D1 []] false
noncomputable abbrev D16:PE:=.comp (.attr (.call (.loc 16) [.non,(.lst [(.tup [.non,D3])] false),.non]) "items") [.mk [16] true (.lst [(.glob "b_nrow" (.kref 926)),(.glob "b_ncol" (.kref 933)),(.glob "b_all_rows" (.kref 940)),(.glob "b_all_columns" (.kref 947))] false) []] false
noncomputable abbrev D17:PE:=.comp (.comp (.call (.glob "_law_sum" (.kref 1069)) [(.comp (.tup [(.sub D2 D4),(.sub (.sub D1 D4) D3)]) [.mk [4] true (.range1 (.len D2)) []] false)]) [.mk [3] true (.range1 (.len (.sub D1 (.int 0)))) []] false) [.mk [2] true D0 []] false
noncomputable abbrev D18:PE:=.glob "axis_names" (.kref 744)
noncomputable abbrev D19:PE:=.comp (.comp (.bin .sub (.bin .mul (.sub (.loc 9) (.loc 10)) (.sub D6 D3)) (.bin .mul (.sub D6 (.loc 10)) (.sub (.loc 9) D3))) [.mk [10] true (.range1 (.len D6)) []] false) [.mk [9] true (.from D4 (.int 1)) []] false
noncomputable abbrev D20:PE:=.sub D0 (.int 0)
noncomputable abbrev D21:PE:=.bin .add (.int 1) (.call D5 [D2,(.int 3)])
noncomputable abbrev D22:PE:=.bin .add (.int 1) (.call D5 [D2,(.int 2)])
noncomputable abbrev D23:PE:=.glob "_law_rows" (.kref 1045)
noncomputable abbrev D24:PE:=.attr D0 "kind"
noncomputable abbrev D25:PE:=.sub D0 (.int 1)
noncomputable abbrev D26:PE:=.call (.glob "two_vectors" (.kref 954)) [(.lst [(.tup [.non,D3]),(.tup [.non,D4])] false)]
noncomputable abbrev D27:PE:=.comp (.comp (.ife (.cmp .eq (.loc 18) (.loc 19)) (.tup [(.int 1),(.int 1)]) (.tup [(.int 0),(.int 1)])) [.mk [19] true (.range1 D1) []] false) [.mk [18] true (.range1 D1) []] false
noncomputable abbrev D28:PE:=.attr (.call (.glob "as_kind" (.kref 715)) [D0,(.str "double"),(.lst [] false)]) "items"
noncomputable abbrev D29:PE:=.call (.glob "dims" (.kref 723)) [D0]
noncomputable abbrev D30:PE:=.glob "_law_shown" (.kref 1055)
noncomputable abbrev D31:PE:=.or [(.call (.glob "is_na" (.kref 183)) [D0]),(.call (.glob "is_na" (.kref 183)) [D1])]
noncomputable abbrev D32:PE:=.comp (.ife (.cmp .is (.sub (.sub D0 (.loc 17)) (.loc 17)) .non) .non (.tup [(.sub (.sub D0 (.loc 17)) (.loc 17)),(.int 1)])) [.mk [17] true (.range1 (.min D1 D2)) []] false
noncomputable abbrev D33:PE:=.loc 7
noncomputable abbrev D34:PE:=.glob "is_vector" (.kref 352)
noncomputable abbrev D35:PE:=.comp (.bin .sub (.int 0) (.loc 10)) [.mk [10] true (.sub D9 (.int 0)) []] false
noncomputable abbrev D36:PE:=.attr D0 "attrs"
noncomputable abbrev D37:PE:=.comp (.comp (.ife (.cmp .eq (.loc 16) (.loc 17)) (.int 1) (.int 0)) [.mk [17] true (.range1 D3) []] false) [.mk [16] true (.range1 D3) []] false
noncomputable abbrev D38:PE:=.sub D1 (.int 0)
noncomputable abbrev D39:PE:=.comp (.call (.glob "_law_sum" (.kref 1069)) [(.lst [(.tup [(.loc 12),(.loc 13)])] false)]) [.mk [12] true D6 [],.mk [13] true D9 []] false
noncomputable abbrev D40:PE:=.comp (.ife (.cmp .is (.sub D4 D3) .non) .non (.tup [(.sub D4 D3),(.int 1)])) [.mk [3] true (.range1 D1) [],.mk [4] true D0 []] false
noncomputable abbrev D41:PE:=.glob "take" (.kref 152)
noncomputable abbrev D42:PE:=.comp (.intof (.loc 9)) [.mk [9] true (.upto D0 (.int 63)) []] false
noncomputable abbrev D43:PE:=.attr D0 "tags"
noncomputable abbrev D44:PE:=.comp (.comp (.sub D14 (.bin .add (.bin .mul D4 D1) D3)) [.mk [4] true (.range1 D2) []] false) [.mk [3] true (.range1 D1) []] false
noncomputable abbrev D45:PE:=.or [(.nt (.call (.glob "_law_products_hold" (.kref 1101)) [D3,D4])),(.nt (.call (.glob "_law_places_hold" (.kref 1106)) [D3]))]
noncomputable abbrev D46:PE:=.sub D2 (.int 0)
noncomputable abbrev D47:PE:=.glob "_law_matrix" (.kref 1050)
noncomputable abbrev D48:PE:=.glob "numbers_of" (.kref 784)
noncomputable abbrev D49:PE:=.loc 8
noncomputable abbrev D50:PE:=.glob "as_column" (.kref 805)
noncomputable abbrev D51:PE:=.call (.glob "matrix_names" (.kref 852)) [D3,(.int 1)]
noncomputable abbrev D52:PE:=.len (.attr D1 "items")
noncomputable abbrev D53:PE:=.comp (.tup [(.loc 14),(.loc 15)]) [.mk [14] true (.range1 D1) [],.mk [15] true (.range1 D2) []] false
noncomputable abbrev D54:PE:=.glob "NAN" (.tup [.int 0,.int 0])
noncomputable abbrev D55:PE:=.sub D1 (.int 1)
noncomputable abbrev D56:PE:=.cmp .is D1 .non
noncomputable abbrev D57:PE:=.comp (.comp (.sub D2 D1) [.mk [2] true D0 []] false) [.mk [1] true (.range1 (.len D20)) []] false
noncomputable abbrev D58:PE:=.bin .sub D1 (.int 1)
noncomputable abbrev D59:PE:=.comp (.bin .mul (.sub D3 (.int 0)) (.bin .div D1 (.sub D3 (.int 1)))) [.mk [3] true D0 []] true
noncomputable abbrev D60:PE:=.range (.bin .add D4 (.int 1)) D1
noncomputable abbrev D61:PE:=.attr D0 "places"
noncomputable abbrev D62:PE:=.cmp .notin (.attr D3 "kind") (.tup [(.str "logical"),(.str "integer"),(.str "double")])
noncomputable abbrev D63:PE:=.comp (.call (.glob "item_as" (.kref 677)) [D24,D4,D1,D2]) [.mk [4] true D14 []] false
noncomputable abbrev D64:PE:=.cmp .isnot D3 .non
noncomputable abbrev D65:PE:=.glob "one_extent" (.kref 919)
noncomputable abbrev D66:PE:=.glob "mul" (.kref 225)
noncomputable abbrev D67:PE:=.comp (.sub D14 (.bin .add (.bin .mul D49 D1) D49)) [.mk [8] true (.range1 D3) []] false
noncomputable abbrev D68:PE:=.comp (.sub D1 (.bin .add (.bin .mul D33 D3) D9)) [.mk [7] true (.range1 D4) []] false
noncomputable abbrev D69:PE:=.cmp .is D0 .non
noncomputable abbrev D70:PE:=.glob "ZERO_linear" (.tup [.int 0,.int 1])
noncomputable abbrev D71:PE:=.call (.glob "marked" (.kref 197)) [D0,D1]
noncomputable abbrev D72:PE:=.loc 11
noncomputable abbrev D73:PE:=.len D0
noncomputable abbrev D74:PE:=.glob "get_attr" (.kref 472)
noncomputable abbrev D75:PE:=.attr D0 "used"
noncomputable abbrev D76:PE:=.cmp .eq D25 (.int 0)
noncomputable abbrev D77:PE:=.loc 10
noncomputable abbrev D78:PE:=.comp (.cat (.sub D0 D33) (.sub D1 D33)) [.mk [7] true (.range1 D2) []] false
noncomputable abbrev D79:PE:=.cmp .notin D24 (.tup [(.str "logical"),(.str "integer"),(.str "double")])
noncomputable abbrev D80:PE:=.and [(.cmp .eq (.call D5 [D2,(.int 4)]) (.int 1)),(.cmp .gt D6 (.int 1))]
noncomputable abbrev D81:PE:=.loc 9
noncomputable abbrev D82:PE:=.len D14
noncomputable abbrev D83:PE:=.sub D4 (.int 0)
noncomputable abbrev D84:PE:=.frz (.new "Vector" 299 289 [(.str "logical"),(.lst [(.int 1)] false)])
noncomputable abbrev D85:PE:=.call (.glob "_law_equations_hold" (.kref 1111)) [(.frz D9),D49,D33]
noncomputable abbrev D86:PE:=.comp D49 [.mk [8] true D1 [(.cmp .eq (.sub D49 D3) (.int 0))]] false
noncomputable abbrev D87:PE:=.comp D33 [.mk [7] true D1 [(.cmp .ne (.sub D33 D3) (.int 0))]] false
noncomputable abbrev D88:PE:=.or [(.cmp .is D4 .non),(.cmp .eq (.attr D4 "kind") (.str "NULL"))]
noncomputable abbrev D89:PE:=.glob "matrix_argument" (.kref 833)
noncomputable abbrev D90:PE:=.glob "make" (.kref 169)
noncomputable abbrev D91:PE:=.glob "ONE" (.tup [.int 1,.int 1])
noncomputable abbrev D92:PE:=.call D18 [D0,(.int 0)]
noncomputable abbrev D93:PE:=.isinst D0 "Vector" 299
noncomputable abbrev D94:PE:=.glob "fraction_rows" (.kref 838)
noncomputable abbrev D95:PE:=.frz (.call D23 [D2,D6,(.ife D33 (.int 1) D22),(.tru false)])
noncomputable abbrev D96:PE:=.glob "_law_turned" (.kref 1074)
noncomputable abbrev D97:PE:=.cmp .is D3 .non
noncomputable abbrev D98:PE:=.nt (.call D34 [D3])
noncomputable abbrev D99:PE:=.glob "is_finite" (.kref 190)
noncomputable abbrev D100:PE:=.comp (.lst [(.loc 18)] false) [.mk [18] true (.attr D72 "items") []] false
noncomputable abbrev D101:PE:=.comp (.upto (.loc 15) D9) [.mk [15] true D0 []] false
noncomputable abbrev D102:PE:=.comp (.sub D72 (.int 0)) [.mk [11] true D49 []] false
noncomputable abbrev D103:PE:=.comp (.call D66 [D2,D1]) [.mk [2] true D0 []] false
noncomputable abbrev D104:PE:=.cmp .isnot D1 .non
noncomputable abbrev D105:PE:=.call D41 [D1,(.lst [(.str "x"),(.str "y")] false)]
noncomputable abbrev D106:PE:=.bin .add (.bin .mod (.sum D1) (.int 99991)) (.int 7)
noncomputable abbrev D107:PE:=.call (.glob "triangle_arguments" (.kref 996)) [D1]
noncomputable abbrev D108:PE:=.glob "b_diag" (.kref 989)
noncomputable abbrev D109:PE:=.comp (.list D9 false) [.mk [6] true D0 []] false
noncomputable abbrev D110:PE:=.comp (.list D1 false) [.mk [1] true D0 []] true
noncomputable abbrev D111:PE:=.call (.glob "place_argument" (.kref 1017)) [D1]
noncomputable abbrev D112:PE:=.comp (.from D49 D2) [.mk [8] true D4 []] false
noncomputable abbrev D113:PE:=.cmp .is D36 .non
noncomputable abbrev D114:PE:=.call (.glob "is_atomic_kind" (.kref 684)) [D0]
noncomputable abbrev D115:PE:=.bin .mul D33 D81
noncomputable abbrev D116:PE:=.glob "room" (.kref 310)
noncomputable abbrev D117:PE:=.call D8 [D0]
noncomputable abbrev D118:PE:=.call D7 [D0]
noncomputable abbrev D119:PE:=.sub D4 (.int 1)
noncomputable abbrev D120:PE:=.frz (.call D23 [D2,D22,D22,(.tru true)])
noncomputable abbrev D121:PE:=.frz (.call D23 [D2,D21,D21,(.tru true)])
noncomputable abbrev D122:PE:=.cmp .eq (.call D5 [D2,(.int 2)]) (.int 1)
noncomputable abbrev D123:PE:=.sub D0 D4
noncomputable abbrev D124:PE:=.loc 12
noncomputable abbrev D125:PE:=.cmp .lt D1 (.len D43)
noncomputable abbrev D126:PE:=.cmp .eq D55 (.int 0)
noncomputable abbrev D127:PE:=.cmp .eq (.attr D2 "kind") (.str "NULL")
noncomputable abbrev D128:PE:=.range1 D73
noncomputable abbrev D129:PE:=.comp D3 [.mk [3] true D0 [D64]] false
noncomputable abbrev D130:PE:=.nt (.meth D0 110 "is_free" 102 [D1])
noncomputable abbrev D131:PE:=.bin .mul D2 (.sub (.sub D0 D58) D58)
noncomputable abbrev D132:PE:=.attr (.sub D36 (.str "dim")) "items"
noncomputable abbrev SO:=Str.ofString
noncomputable abbrev B1:List PS:=[.ite (.nt (.call D99 [D2])) [.bad] []]
noncomputable abbrev B2:List PS:=[.for_ [6] true D0 [.exp (.push D4 (.sub D9 D6))]]
noncomputable abbrev B3:List PS:=[.asg (.tup [(.loc 2),(.loc 3)]) (.tup [D3,(.bin .mod D2 D3)])]
noncomputable abbrev B4:List PS:=[.asg (.tup [(.loc 0),(.loc 1)]) (.tup [D1,(.bin .mod D0 D1)])]
noncomputable abbrev B5:List PS:=[.exp (.push D4 (.ife D1 (.bin .add D9 (.int 1)) (.bin .add D6 (.int 1))))]
noncomputable abbrev B6:List PS:=[.asg (.loc 11) (.call (.glob "b_solve" (.kref 857)) [.non,D81,.non]),.asg (.loc 12) (.str "")]
noncomputable abbrev B7:List PS:=[.exp (.push D4 (.sub D14 (.bin .add (.bin .mul D9 D2) D6)))]
noncomputable abbrev B8:List PS:=[.ite (.cmp .ne (.sub (.sub D0 D3) D2) D70) [.ret D3] []]
noncomputable abbrev B9:List PS:=[.ite (.or [(.cmp .is D2 .non),D97]) [.ret .non] [],.aug 1 .add (.bin .mul D2 D3)]
noncomputable abbrev B10:List PS:=[.ite (.or [(.cmp .ge D2 D73),(.cmp .ne (.sub D0 D2) D2)]) [.ret (.bin .add D2 (.int 1))] []]
noncomputable abbrev B11:List PS:=[.exp (.push D6 D68)]
noncomputable abbrev B12:List PS:=[.asg (.loc 10) (.call D30 [(.call D33 [.non,(.lst [(.tup [.non,D2]),(.tup [.non,D3])] false),.non])])]
noncomputable abbrev B13:List PS:=[.exp (.push D3 (.call (.glob "sub" (.kref 218)) [D123,(.call D66 [D2,(.sub D1 D4)])]))]
noncomputable abbrev B14:List PS:=[.asg (.loc 1) (.bin .mul (.bin .div D1 (.call (.glob "greatest_divisor" (.kref 446)) [D1,(.sub D2 (.int 1))])) (.sub D2 (.int 1)))]
noncomputable abbrev B15:List PS:=[.ite (.or [(.cmp .is D77 .non),(.cmp .ne (.sub (.sub D77 D72) D124) (.call D81 [D72,D124]))]) [.ret (.tru false)] []]
noncomputable abbrev B16:List PS:=[.exp (.push D4 D39)]
noncomputable abbrev B17:List PS:=[.ite (.cmp .ne (.sub (.sub D77 D72) D124) (.ife (.cmp .eq D72 D124) (.sub (.attr D4 "items") D72) (.tup [(.int 0),(.int 1)]))) [.ret (.tru false)] []]
noncomputable abbrev B18:List PS:=[.asg (.loc 7) (.call D5 [D0,(.ife D3 (.int 10) (.int 9))]),.exp (.push D9 (.ife (.cmp .eq D33 (.int 9)) .non (.bin .sub D33 (.int 4))))]
noncomputable abbrev B19:List PS:=[.asg (.loc 8) (.ife D1 (.cmp .lt D33 D9) (.cmp .gt D33 D9)),.exp (.push D6 (.ife (.or [D49,(.and [D2,(.cmp .eq D33 D9)])]) (.int 1) (.int 0)))]
noncomputable abbrev B20:List PS:=[.ite (.cmp .ne D3 D1) [.asg (.sub D0 D3) (.call (.glob "less_multiple" (.kref 392)) [(.sub D0 D3),(.sub D0 D1),(.sub (.sub D0 D3) D2)])] []]
noncomputable abbrev B21:List PS:=[.ite (.and [(.cmp .eq D9 D6),(.cmp .gt D82 (.int 0))]) [.exp (.push D4 (.sub D14 (.bin .mod D9 D82)))] [.exp (.push D4 D3)]]
noncomputable abbrev B22:List PS:=[.asg (.tup [(.loc 8),(.loc 9)]) (.sub (.sub D1 D33) D4),.asg (.loc 5) (.bin .add (.bin .mul D6 D81) (.bin .mul (.bin .mul (.sub (.sub D0 D3) D33) D49) D9)),.asg (.loc 6) (.bin .mul D9 D81)]
noncomputable abbrev B23:List PS:=[.asg (.loc 9) (.call (.glob "add" (.kref 211)) [D81,(.call D66 [(.sub D2 (.bin .add (.bin .mul D77 D83) D49)),(.sub D3 (.bin .add (.bin .mul D33 (.sub D6 (.int 0))) D77))])])]
noncomputable abbrev B24:List PS:=[.asg (.loc 8) (.bin .mul (.sub (.sub D0 D9) D33) (.sub D123 D4)),.aug 8 .sub (.bin .mul (.sub (.sub D0 D9) D4) (.sub D123 D33)),.asg (.sub (.sub D0 D9) D33) (.bin .div D49 D3)]
noncomputable abbrev B25:List PS:=[.asg (.loc 6) (.lst [] true),.for_ [5] true (.range1 D2) B18,.exp (.push D4 (.frz D9))]
noncomputable abbrev B26:List PS:=[.asg (.loc 14) (.sub D6 (.bin .add (.bin .mul (.bin .div D124 D77) D33) (.bin .div (.loc 13) D81))),.exp (.push D72 (.call D66 [(.loc 14),(.sub D9 (.bin .add (.bin .mul (.bin .mod D124 D77) D81) (.bin .mod (.loc 13) D81)))]))]
noncomputable abbrev B27:List PS:=[.asg (.loc 10) (.call D30 [(.call D33 [.non,(.cat (.lst [(.tup [.non,D3])] false) D49),.non])]),.for_ [11,12] false D6 B15]
noncomputable abbrev B28:List PS:=[.ite (.and [(.cmp .eq D6 (.str "")),(.cmp .lt (.call (.glob "_law_many" (.kref 1089)) [D101]) D9)]) [.asg (.loc 5) (.bin .add (.bin .add (.bin .add (.bin .add (.str "Lapack routine dgesv: system is exactly singular: U[") (.strof D9)) (.str ",")) (.strof D9)) (.str "] = 0"))] []]
noncomputable abbrev B29:List PS:=[.tryR B12 10 11,.ite (.cmp .ne D77 (.ife (.cmp .ne (.len (.sub D49 (.int 0))) (.len D81)) (.str "non-conformable arguments") (.call (.glob "_law_product" (.kref 1079)) [D49,D81]))) [.ret (.tru false)] []]
noncomputable abbrev B30:List PS:=[.asg (.loc 9) (.glob "ZERO_matrix" (.tup [.int 0,.int 1])),.for_ [10] true (.range1 D119) B23,.exp (.push D9 D81)]
noncomputable abbrev B31:List PS:=[.asg (.loc 5) (.int 0),.asg (.loc 6) (.int 1),.for_ [7] true D128 B22,.ite (.cmp .ne (.call (.glob "_law_ratio" (.kref 1062)) [D6,D9]) (.tup [(.sub (.sub D2 D3) D4),(.int 1)])) [.ret (.tru false)] []]
noncomputable abbrev B32:List PS:=[.asg (.loc 4) D87,.ite (.cmp .eq D4 (.lst [] false)) [.cont] [],.aug 2 .add (.int 1),.asg (.loc 5) D83,.asg (.loc 1) (.cat D86 D19)]
noncomputable abbrev B33:List PS:=[.asg (.loc 5) (.len D2),.asg (.loc 6) (.call (.glob "first_filled" (.kref 399)) [D1,D6,D4]),.ite (.cmp .lt D9 (.int 0)) [.cont] [],.asg (.tup [(.sub D1 D6),(.sub D1 D9)]) (.tup [(.sub D1 D9),(.sub D1 D6)]),.asg (.sub D1 D6) (.call (.glob "scaled_linear" (.kref 385)) [(.sub D1 D6),(.call (.glob "div" (.kref 232)) [D91,(.sub (.sub D1 D6) D4)])]),.exp (.call (.glob "clear_column" (.kref 406)) [D1,D6,D4]),.exp (.push D2 D4)]
noncomputable abbrev B34:List PS:=[.tryR B6 12 13,.ite (.cmp .ne D124 D6) [.ret (.tru false)] [],.ite (.cmp .eq D124 (.str "")) [.asg (.loc 14) (.ife (.cmp .is (.attr D72 "attrs") .non) D100 (.call D30 [D72])),.ite (.or [(.cmp .ne (.cmp .is (.attr D72 "attrs") .non) (.and [D2,(.cmp .eq D77 D1),(.cmp .eq (.len D81) (.int 2))])),(.nt (.call (.glob "_law_solves" (.kref 1096)) [D0,(.loc 14),D77]))]) [.ret (.tru false)] []] []]
noncomputable def Z4:FD:=⟨3,[],3,[.asg (.attr D0 "formals") D1,.asg (.attr D0 "tags") D2,.asg (.attr D0 "used") (.rep (.int 0) (.len D2) true),.asg (.attr D0 "places") (.dct [] [] true)]⟩
noncomputable def Jw:FD:=⟨1,[],3,[.for_ [1] true (.attr D0 "formals") [.ite (.cmp .ne D1 (.str "...")) [.for_ [2] true (.range1 (.len D43)) [.ite (.and [(.cmp .eq (.sub D43 D2) D1),(.cmp .eq (.sub D75 D2) (.int 0))]) [.ite (.cmp .isin D1 D61) [.bad] [],.asg (.sub D61 D1) D2,.asg (.sub D75 D2) (.int 2)] []]] []]]⟩
noncomputable def Jx:FD:=⟨1,[],2,[.for_ [1] true (.attr D0 "formals") [.ite (.cmp .eq D1 (.str "...")) [.ret0] [],.ite (.cmp .notin D1 D61) [.exp (.meth D0 110 "partial_of" 88 [D1])] []]]⟩
noncomputable def Jy:FD:=⟨2,[],4,[.for_ [2] true (.range1 (.len D43)) [.asg (.loc 3) (.sub D43 D2),.ite (.and [(.cmp .ne (.sub D75 D2) (.int 2)),D64,(.cmp .ne D3 (.str "")),.bad]) [.ite (.cmp .eq (.sub D75 D2) (.int 1)) [.bad] [],.ite (.cmp .isin D1 D61) [.bad] [],.asg (.sub D61 D1) D2,.asg (.sub D75 D2) (.int 1)] []]]⟩
noncomputable def Jz:FD:=⟨1,[],3,[.asg (.loc 1) (.int 0),.for_ [2] true (.attr D0 "formals") [.ite (.cmp .eq D2 (.str "...")) [.ret0] [],.ite (.cmp .notin D2 D61) [.whl (.and [D125,D130]) [.aug 1 .add (.int 1)],.ite D125 [.asg (.sub D61 D2) D1,.asg (.sub D75 D1) (.int 2)] []] []]]⟩
noncomputable def JB:FD:=⟨2,[],2,[.ret (.and [(.cmp .eq (.sub D75 D1) (.int 0)),(.or [(.cmp .is (.sub D43 D1) .non),(.cmp .eq (.sub D43 D1) (.str ""))])])]⟩
noncomputable def JC:FD:=⟨1,[],2,[.ret D11]⟩
noncomputable def JN:FD:=⟨3,[.none],6,[.asg (.loc 3) (.new "Matching" 110 67 [D0,D15]),.exp (.meth D3 110 "exact" 74 []),.exp (.meth D3 110 "partial" 81 []),.exp (.meth D3 110 "positional" 95 []),.asg (.loc 4) (.meth D3 110 "rest" 107 []),.ite (.and [(.cmp .gt (.len D4) (.int 0)),(.cmp .notin (.str "...") D0)]) [.bad] [],.ret (.tup [(.frz (.attr D3 "places")),D4])]⟩
noncomputable def qQ:FD:=⟨2,[],2,[.ite D69 [.bad] [],.ret D0]⟩
noncomputable def JP:FD:=⟨3,[.none],8,[.asg (.tup [(.loc 3),(.loc 4)]) (.call (.glob "match_names" (.kref 139)) [(.list D1 false),D0,D2]),.asg (.loc 5) (.lst [] true),.for_ [6] true D1 [.ite (.cmp .eq D9 (.str "...")) [.exp (.push D6 (.comp (.sub D0 D33) [.mk [7] true D4 []] false))] [.ite (.cmp .isin D9 D3) [.exp (.push D6 (.sub (.sub D0 (.sub D3 D9)) (.int 1)))] [.exp (.push D6 .non)]]],.ret (.frz D6)]⟩
noncomputable def Z5:FD:=⟨2,[],2,[.whl (.cmp .gt D1 (.int 0)) B4,.ret D0]⟩
noncomputable def Z6:FD:=⟨2,[],3,[.ite (.cmp .eq D1 (.int 0)) [.ite (.cmp .eq D0 (.int 0)) [.ret D54] [],.ret (.ife (.cmp .gt D0 (.int 0)) (.tup [(.int 1),(.int 0)]) (.tup [(.neg (.int 1)),(.int 0)]))] [],.ite (.cmp .lt D1 (.int 0)) [.asg (.loc 0) (.bin .sub (.int 0) D0),.asg (.loc 1) (.bin .sub (.int 0) D1)] [],.asg (.loc 2) (.call (.glob "gcd" (.kref 162)) [(.abs D0),D1]),.ret (.tup [(.bin .div D0 D2),(.bin .div D1 D2)])]⟩
noncomputable def qR:FD:=⟨1,[],1,[.ite D69 [.ret .non] [],.ret (.tup [D0,(.int 1)])]⟩
noncomputable def Z7:FD:=⟨1,[],1,[.ret (.or [D69,(.and [(.cmp .eq D20 (.int 0)),D76])])]⟩
noncomputable def Z8:FD:=⟨1,[],1,[.ret (.and [(.cmp .isnot D0 .non),(.cmp .gt D25 (.int 0))])]⟩
noncomputable def Z9:FD:=⟨2,[],2,[.ite (.or [D69,D56]) [.ret .non] [],.ret D54]⟩
noncomputable def Xa:FD:=⟨1,[],1,[.ite D69 [.ret .non] [],.ret (.tup [(.bin .sub (.int 0) D20),D25])]⟩
noncomputable def Xb:FD:=⟨2,[],2,[.ite D31 [.ret D71] [],.ite (.and [D76,D126]) [.ret (.ife (.cmp .eq D20 D38) D0 D54)] [],.ite D76 [.ret D0] [],.ite D126 [.ret D1] [],.ret (.call D90 [(.bin .add (.bin .mul D20 D55) (.bin .mul D38 D25)),(.bin .mul D25 D55)])]⟩
noncomputable def Xc:FD:=⟨2,[],2,[.ret (.call (.glob "add" (.kref 211)) [D0,(.call (.glob "neg" (.kref 204)) [D1])])]⟩
noncomputable def Xd:FD:=⟨2,[],2,[.ite D31 [.ret D71] [],.ret (.call D90 [(.bin .mul D20 D38),(.bin .mul D25 D55)])]⟩
noncomputable def Xe:FD:=⟨2,[],2,[.ite D31 [.ret D71] [],.ite (.and [D76,D126]) [.ret D54] [],.ite D76 [.ret (.ife (.cmp .lt D38 (.int 0)) (.call (.glob "neg" (.kref 204)) [D0]) D0)] [],.ret (.call D90 [(.bin .mul D20 D55),(.bin .mul D25 D38)])]⟩
noncomputable def Xf:FD:=⟨1,[],2,[.ite (.nt (.call D99 [D0])) [.ret .non] [],.asg (.loc 1) (.bin .div (.abs D20) D25),.ret (.ife (.cmp .ge D20 (.int 0)) D1 (.bin .sub (.int 0) D1))]⟩
noncomputable def Xg:FD:=⟨1,[],1,[.asg (.attr D0 "kind") (.str "NULL"),.asg (.attr D0 "attrs") .non]⟩
noncomputable def Xh:FD:=⟨4,[.none],4,[.asg (.attr D0 "kind") D1,.asg (.attr D0 "items") D2,.asg (.attr D0 "attrs") D3,.asg (.attr D0 "shared") (.tru false),.asg (.attr D0 "loose") (.tru false)]⟩
noncomputable def Xi:FD:=⟨1,[],1,[.ite (.cmp .gt D0 (.glob "MOST_LENGTH" (.int 1000000))) [.bad] [],.ret D0]⟩
noncomputable def Xj:FD:=⟨0,[],0,[.ret (.frz (.new "Null" 270 267 []))]⟩
noncomputable def Xk:FD:=⟨1,[],1,[.ret (.frz (.new "Vector" 299 289 [(.str "integer"),(.list D0 false)]))]⟩
noncomputable def Xl:FD:=⟨1,[],1,[.ret (.frz (.new "Vector" 299 289 [(.str "integer"),(.lst [D0] false)]))]⟩
noncomputable def Xm:FD:=⟨1,[],2,[.asg (.loc 1) D24,.ite (.cmp .eq D1 (.str "NULL")) [.ret (.int 0)] [],.ite (.or [D93,(.cmp .eq D1 (.str "language"))]) [.ret D82] [],.ite (.cmp .eq D1 (.str "environment")) [.ret (.len (.attr D0 "frame"))] [],.ite (.cmp .eq D1 (.str "dots")) [.ret (.len (.attr D0 "args"))] [],.ret (.int 1)]⟩
noncomputable def qT:FD:=⟨1,[],1,[.ret D93]⟩
noncomputable def Qbw:FD:=⟨1,[],1,[.ite D93 [.asg (.attr D0 "shared") (.tru true)] [],.ret D0]⟩
noncomputable def Ys:FD:=⟨1,[],4,[.asg (.loc 1) (.lst [] true),.for_ [2] true (.range1 D0) [.asg (.loc 3) (.rep D70 D0 true),.asg (.sub D3 D2) D91,.exp (.push D1 (.frz D3))],.ret (.frz D1)]⟩
noncomputable def Xn:FD:=⟨1,[],2,[.ret D110]⟩
noncomputable def Xo:FD:=⟨2,[],3,[.ret D103]⟩
noncomputable def WT:FD:=⟨3,[],5,[.ite (.cmp .eq D2 D70) [.ret D0] [],.asg (.loc 3) (.lst [] true),.for_ [4] true D128 B13,.ret (.frz D3)]⟩
noncomputable def Xp:FD:=⟨3,[],4,[.for_ [3] true (.range D1 D73) B8,.ret (.neg (.int 1))]⟩
noncomputable def Xq:FD:=⟨3,[],4,[.for_ [3] true D128 B20]⟩
noncomputable def Xr:FD:=⟨1,[],7,[.asg (.loc 1) (.call (.glob "copied" (.kref 380)) [D0]),.asg (.loc 2) (.lst [] true),.asg (.loc 3) (.ife (.cmp .gt (.len D1) (.int 0)) (.len D38) (.int 0)),.for_ [4] true (.range1 D3) B33,.ret (.tup [(.frz D1),(.frz D2)])]⟩
noncomputable def Xu:FD:=⟨2,[],2,[.ite (.cmp .ne D73 D1) [.bad] []]⟩
noncomputable def Xv:FD:=⟨2,[],3,[.for_ [2] true (.range1 D1) B10,.ret (.int 0)]⟩
noncomputable def WW:FD:=⟨2,[],9,[.asg (.loc 2) D73,.asg (.loc 3) D78,.asg (.tup [(.loc 4),(.loc 5)]) (.call (.glob "row_echelon" (.kref 413)) [D3]),.asg (.loc 6) (.call (.glob "first_dependent" (.kref 427)) [D6,D2]),.ite (.cmp .gt D9 (.int 0)) [.raise (.fstr [(.str "Lapack routine dgesv: system is exactly singular: U["),(.fmt D9),(.str ","),(.fmt D9),(.str "] = 0")])] [],.ret D112]⟩
noncomputable def WX:FD:=⟨1,[],1,[.ret (.call (.glob "solve_rows" (.kref 432)) [D0,(.call (.glob "identity_rows" (.kref 375)) [D73])])]⟩
noncomputable def Xw:FD:=⟨2,[],2,[.whl D1 B4,.ret (.abs D0)]⟩
noncomputable def Xx:FD:=⟨1,[],4,[.asg (.loc 1) (.int 1),.for_ [2] true D0 B14,.ret (.tup [D59,D1])]⟩
noncomputable def Yt:FD:=⟨1,[],9,[.asg (.loc 1) D73,.asg (.loc 2) (.int 1),.asg (.loc 3) (.int 1),.for_ [4] true (.range1 D58) [.asg (.loc 5) D4,.whl (.and [(.cmp .lt D6 D1),(.cmp .eq (.sub (.sub D0 D6) D4) (.int 0))]) [.aug 5 .add (.int 1)],.ite (.cmp .eq D6 D1) [.ret (.int 0)] [],.ite (.cmp .ne D6 D4) [.asg (.tup [(.sub D0 D4),(.sub D0 D6)]) (.tup [(.sub D0 D6),D123]),.asg (.loc 2) (.neg D2)] [],.for_ [6] true D60 [.for_ [7] true D60 B24],.asg (.loc 3) (.sub D123 D4)],.ret D131]⟩
noncomputable def Wa:FD:=⟨1,[],6,[.ite (.cmp .eq D73 (.int 0)) [.ret D91] [],.asg (.loc 1) (.lst [] true),.asg (.loc 2) (.int 1),.for_ [3] true D0 [.asg (.tup [(.loc 4),(.loc 5)]) (.call (.glob "whole_row" (.kref 451)) [D3]),.exp (.push D1 D4),.asg (.loc 2) (.bin .mul D2 D6)],.ret (.call D90 [(.call (.glob "whole_determinant" (.kref 458)) [D1]),D2])]⟩
noncomputable def Xy:FD:=⟨2,[],2,[.ite D113 [.ret .non] [],.ret (.dget D36 D1)]⟩
noncomputable def WY:FD:=⟨1,[],6,[.ite (.cmp .eq D24 (.str "language")) [.for_ [1] true D43 [.ite D104 [.ret (.comp (.ife (.cmp .is D6 .non) (.str "") D6) [.mk [5] true D43 []] false)] []],.ret .non] [],.ite (.cmp .eq D24 (.str "environment")) [.ret .bad] [],.asg (.loc 2) (.call (.glob "dim_of" (.kref 484)) [D0]),.ite (.and [(.cmp .isnot D2 .non),(.cmp .eq (.len D2) (.int 1))]) [.asg (.loc 3) (.call (.glob "dimnames_of" (.kref 489)) [D0]),.ret (.ife D97 .non (.sub D3 (.int 0)))] [],.asg (.loc 4) (.call D74 [D0,(.str "names")]),.ite (.cmp .is D4 .non) [.ret .non] [],.ret (.list (.attr D4 "items") false)]⟩
noncomputable def W0:FD:=⟨1,[],2,[.asg (.loc 1) (.call D74 [D0,(.str "dim")]),.ite D56 [.ret .non] [],.ret (.list (.attr D1 "items") false)]⟩
noncomputable def Qbx:FD:=⟨1,[],3,[.asg (.loc 1) (.call D74 [D0,(.str "dimnames")]),.ite D56 [.ret .non] [],.ret (.comp (.ife D127 .non (.list (.attr D2 "items") false)) [.mk [2] true (.attr D1 "items") []] false)]⟩
noncomputable def Qby:FD:=⟨2,[],2,[.ite (.cmp .eq D0 (.str "character")) [.ret (.ife D56 .non .bad)] [],.ite (.cmp .eq D0 (.str "double")) [.ite (.call (.glob "is_na" (.kref 183)) [D1]) [.ret .non] [],.ret (.ife (.and [(.cmp .eq D38 (.int 0)),(.cmp .eq D55 (.int 1))]) (.int 0) (.int 1))] [],.ite D56 [.ret .non] [],.ret (.ife (.cmp .eq D1 (.int 0)) (.int 0) (.int 1))]⟩
noncomputable def Xz:FD:=⟨3,[],3,[.ite (.or [(.cmp .eq D0 (.str "double")),D56]) [.ret D1] [],.ite (.cmp .eq D0 (.str "character")) [.ret .bad] [],.ret (.call (.glob "from_int" (.kref 176)) [D1])]⟩
noncomputable def XC:FD:=⟨4,[],4,[.ite (.cmp .eq D0 D2) [.ret D1] [],.ite (.or [(.cmp .eq D2 (.str "list")),(.cmp .eq D2 (.str "expression")),(.cmp .eq D2 (.str "pairlist"))]) [.ret (.ife D114 (.call (.glob "share" (.kref 366)) [(.frz (.new "Vector" 299 289 [D0,(.lst [D1] false)]))]) D1)] [],.ite (.nt D114) [.ret .bad] [],.ite (.cmp .eq D2 (.str "logical")) [.ret (.call (.glob "to_logical" (.kref 649)) [D0,D1])] [],.ite (.cmp .eq D2 (.str "integer")) [.ret .bad] [],.ite (.cmp .eq D2 (.str "double")) [.ret (.call (.glob "to_double" (.kref 663)) [D0,D1,D3])] [],.ret .bad]⟩
noncomputable def XD:FD:=⟨1,[],1,[.ret (.cmp .isin D0 (.tup [(.str "logical"),(.str "integer"),(.str "double"),(.str "character")]))]⟩
noncomputable def qU:FD:=⟨2,[],2,[.ite D104 [.asg (.attr D0 "attrs") (.dct ["names"] [(.call (.glob "share" (.kref 366)) [.bad])] false)] [],.ret D0]⟩
noncomputable def W2:FD:=⟨3,[],5,[.ite (.nt D93) [.ret .bad] [],.asg (.loc 3) D14,.ite (.cmp .ne D24 D1) [.asg (.loc 3) D63] [],.ret (.call (.glob "with_names" (.kref 710)) [(.frz (.new "Vector" 299 289 [D1,(.list D3 false)])),(.call (.glob "names_of" (.kref 477)) [D0])])]⟩
noncomputable def qW:FD:=⟨1,[],1,[.ite (.or [D113,(.cmp .notin (.str "dim") D36)]) [.ret .non] [],.ret D132]⟩
noncomputable def W3:FD:=⟨1,[],2,[.asg (.loc 1) D29,.ret (.and [D104,(.cmp .eq (.len D1) (.int 2))])]⟩
noncomputable def W4:FD:=⟨1,[],1,[.ite D117 [.ret (.tup [(.sub D29 (.int 0)),(.sub D29 (.int 1))])] [],.ret (.tup [D82,(.int 1)])]⟩
noncomputable def qX:FD:=⟨2,[],3,[.ite (.or [D113,(.cmp .notin (.str "dimnames") D36)]) [.ret .non] [],.asg (.loc 2) (.sub (.attr (.sub D36 (.str "dimnames")) "items") D1),.ite D127 [.ret .non] [],.ret (.attr D2 "items")]⟩
noncomputable def Qbz:FD:=⟨1,[],1,[.ite (.or [D113,(.cmp .notin (.str "names") D36)]) [.ret .non] [],.ret (.attr (.sub D36 (.str "names")) "items")]⟩
noncomputable def XF:FD:=⟨1,[],4,[.ite (.cmp .eq (.len D129) (.int 0)) [.ret .non] [],.asg (.loc 1) (.lst [] true),.for_ [2] true D0 [.exp (.push D1 (.ife (.cmp .is D2 .non) (.frz (.new "Null" 270 267 [])) .bad))],.ret (.frz (.new "Vector" 299 289 [(.str "list"),(.frz D1)]))]⟩
noncomputable def XH:FD:=⟨4,[],6,[.asg (.loc 4) (.new "Vector" 299 289 [D0,D1]),.asg (.attr D4 "attrs") (.dct ["dim"] [(.call (.glob "integer" (.kref 324)) [D2])] false),.asg (.loc 5) (.call (.glob "dimnames_list" (.kref 756)) [D3]),.ite (.cmp .isnot D6 .non) [.asg (.sub (.attr D4 "attrs") (.str "dimnames")) D6] [],.ret (.frz D4)]⟩
noncomputable def XJ:FD:=⟨5,[],5,[.ret (.call (.glob "new_array" (.kref 763)) [D0,D1,D2,(.lst [D3,D4] false)])]⟩
noncomputable def XK:FD:=⟨1,[],7,[.asg (.loc 1) D29,.ite D56 [.ret (.call D10 [D24,(.list D14 false),(.lst [(.int 1),D82] false),.non,(.call (.glob "plain_names" (.kref 751)) [D0])])] [],.ite (.cmp .eq (.len D1) (.int 1)) [.ret (.call D10 [D24,(.list D14 false),(.lst [(.int 1),D38] false),.non,D92])] [],.ite (.cmp .ne (.len D1) (.int 2)) [.bad] [],.asg (.tup [(.loc 2),(.loc 3)]) D1,.asg (.loc 4) (.lst [] true),.for_ [5] true (.range1 D2) [.for_ [6] true (.range1 D3) B7],.ret (.call D10 [D24,(.frz D4),(.lst [D3,D2] false),(.call D18 [D0,(.int 1)]),D92])]⟩
noncomputable def XM:FD:=⟨1,[],1,[.ite D79 [.bad] [],.ret D28]⟩
noncomputable def W5:FD:=⟨2,[],6,[.asg (.loc 2) D117,.asg (.loc 3) (.call D8 [D1]),.asg (.loc 4) D118,.asg (.loc 5) (.call D7 [D1]),.ite (.and [D2,(.nt D3)]) [.ite (.and [(.cmp .ne D52 D119),(.cmp .eq D119 (.int 1))]) [.asg (.loc 5) (.tup [(.int 1),D52])] []] [.ite (.and [D3,(.nt D2)]) [.ite (.cmp .eq D82 (.sub D6 (.int 0))) [.asg (.loc 4) (.tup [(.int 1),D82])] []] [.ite (.and [(.nt D2),(.nt D3)]) [.ite (.cmp .eq D82 D52) [.asg (.loc 4) (.tup [(.int 1),D82])] [.ite (.cmp .eq D52 (.int 1)) [.asg (.loc 5) (.tup [(.int 1),(.int 1)])] [.ite (.cmp .eq D82 (.int 1)) [.asg (.loc 4) (.tup [(.int 1),(.int 1)]),.asg (.loc 5) (.tup [(.int 1),D52])] []]]] []]],.ite (.cmp .ne D119 (.sub D6 (.int 0))) [.raise (.str "non-conformable arguments")] [],.ret (.tup [D4,D6])]⟩
noncomputable def W6:FD:=⟨2,[],13,[.asg (.loc 2) (.call D48 [D0]),.asg (.loc 3) (.call D48 [D1]),.asg (.tup [(.loc 4),(.loc 5)]) (.call (.glob "product_shapes" (.kref 791)) [D0,D1]),.exp (.call D116 [(.bin .mul D83 (.sub D6 (.int 1)))]),.asg (.loc 6) (.lst [] true),.for_ [7] true (.range1 (.sub D6 (.int 1))) [.for_ [8] true (.range1 D83) B30],.asg (.loc 11) (.ife D117 D92 .non),.asg (.loc 12) (.ife (.call D8 [D1]) (.call D18 [D1,(.int 1)]) .non),.ret (.call D10 [(.str "double"),(.frz D9),(.lst [D83,(.sub D6 (.int 1))] false),D72,D124])]⟩
noncomputable def XN:FD:=⟨1,[],1,[.ite D117 [.ret D0] [],.ret (.call D10 [D24,D14,(.lst [D82,(.int 1)] false),.non,.non])]⟩
noncomputable def W7:FD:=⟨2,[],2,[.ret (.call (.glob "mat_mul" (.kref 798)) [(.call (.glob "transpose" (.kref 777)) [(.call D50 [D0])]),(.call D50 [D1])])]⟩
noncomputable def XQ:FD:=⟨2,[],3,[.ite D69 [.ret D1] [],.asg (.loc 2) (.attr (.call (.glob "as_kind" (.kref 715)) [D0,(.str "logical"),(.lst [] false)]) "items"),.ite (.or [(.cmp .eq (.len D2) (.int 0)),(.cmp .is D46 .non)]) [.bad] [],.ret (.cmp .eq D46 (.int 1))]⟩
noncomputable def XR:FD:=⟨2,[],4,[.ite D69 [.ret .non] [],.ite D79 [.bad] [],.asg (.loc 2) D28,.ite (.or [(.cmp .eq (.len D2) (.int 0)),(.call (.glob "is_na" (.kref 183)) [D46]),(.nt (.call D99 [D46]))]) [.bad] [],.asg (.loc 3) (.call (.glob "to_whole" (.kref 239)) [D46]),.ite (.cmp .lt D3 (.int 0)) [.bad] [],.ite (.cmp .gt D3 (.int 100000)) [.bad] [],.ret D3]⟩
noncomputable def Wb:FD:=⟨2,[],4,[.asg (.loc 2) (.call D41 [D0,D1]),.asg (.loc 3) (.call (.glob "needed" (.kref 146)) [D46,D38]),.ite D98 [.bad] [],.ret (.tup [D3,(.from D2 (.int 1))])]⟩
noncomputable def XS:FD:=⟨1,[],8,[.asg (.loc 1) (.call D48 [D0]),.for_ [2] true D1 B1,.asg (.tup [(.loc 3),(.loc 4)]) D118,.asg (.loc 5) (.lst [] true),.for_ [6] true (.range1 D3) B11,.ret (.frz D6)]⟩
noncomputable def XX:FD:=⟨4,[],7,[.asg (.loc 4) (.lst [] true),.for_ [5] true (.range1 D1) B2,.ret (.call D10 [(.str "double"),(.frz D4),(.lst [D73,D1] false),D2,D3])]⟩
noncomputable def X3:FD:=⟨2,[],2,[.ret (.ife D117 (.call D18 [D0,D1]) .non)]⟩
noncomputable def JQ:FD:=⟨3,[],12,[.asg (.tup [(.loc 3),(.loc 4)]) (.call D41 [D1,(.lst [(.str "a"),(.str "b")] false)]),.asg (.loc 3) (.call (.glob "needed" (.kref 146)) [D3,(.str "a")]),.ite (.or [D98,D62]) [.bad] [],.asg (.loc 5) (.call D94 [D3]),.exp (.call (.glob "check_square" (.kref 420)) [D6,(.sub (.call D7 [D3]) (.int 1))]),.ite (.cmp .is D4 .non) [.ret (.call (.glob "rows_matrix" (.kref 845)) [(.call (.glob "inverse" (.kref 439)) [D6]),(.len D6),D51,(.call (.glob "matrix_names" (.kref 852)) [D3,(.int 0)])])] [],.ite (.or [(.nt (.call D34 [D4])),(.cmp .notin (.attr D4 "kind") (.tup [(.str "logical"),(.str "integer"),(.str "double")]))]) [.bad] [],.asg (.tup [(.loc 6),(.loc 7)]) (.call D7 [D4]),.ite (.cmp .ne D9 (.len D6)) [.bad] [],.asg (.loc 8) (.call (.glob "solve_rows" (.kref 432)) [D6,(.call D94 [D4])]),.ite (.call D8 [D4]) [.ret (.call (.glob "rows_matrix" (.kref 845)) [D49,D33,D51,(.call D18 [D4,(.int 1)])])] [],.asg (.loc 9) (.new "Vector" 299 289 [(.str "double"),D102]),.asg (.loc 10) D51,.ite (.cmp .isnot D77 .non) [.asg (.attr D81 "attrs") (.dct ["names"] [.bad] false)] [],.ret (.frz D81)]⟩
noncomputable def X4:FD:=⟨3,[],4,[.asg (.loc 3) (.sub (.call D89 [D1,(.lst [(.str "x")] false)]) (.int 0)),.ite (.or [(.nt (.call D8 [D3])),(.cmp .ne (.sub (.call D7 [D3]) (.int 0)) (.sub (.call D7 [D3]) (.int 1)))]) [.bad] [],.ret (.frz (.new "Vector" 299 289 [(.str "double"),(.lst [(.call (.glob "determinant" (.kref 465)) [(.call D94 [D3])])] false)]))]⟩
noncomputable def X5:FD:=⟨1,[],9,[.asg (.tup [(.loc 1),(.loc 2)]) D118,.asg (.loc 3) (.min D1 D2),.asg (.loc 4) D67,.asg (.loc 5) (.new "Vector" 299 289 [D24,D4]),.asg (.loc 6) D92,.asg (.loc 7) (.call D18 [D0,(.int 1)]),.ite (.and [(.cmp .isnot D9 .non),(.cmp .isnot D33 .non),(.cmp .eq (.upto D9 D3) (.upto D33 D3))]) [.asg (.attr D6 "attrs") (.dct ["names"] [.bad] false)] [],.ret (.frz D6)]⟩
noncomputable def X6:FD:=⟨3,[],7,[.exp (.call D116 [(.bin .mul D1 D2)]),.asg (.loc 3) (.ife (.cmp .eq D24 (.str "double")) (.glob "ZERO_matparts" (.tup [.int 0,.int 1])) (.int 0)),.asg (.loc 4) (.lst [] true),.for_ [5] true (.range1 D2) [.for_ [6] true (.range1 D1) B21],.ret (.call D10 [D24,(.frz D4),(.lst [D1,D2] false),.non,.non])]⟩
noncomputable def X7:FD:=⟨2,[],2,[.ret (.call (.glob "triangle" (.kref 898)) [D0,(.tru true),D1])]⟩
noncomputable def X8:FD:=⟨2,[],2,[.ret (.call (.glob "triangle" (.kref 898)) [D0,(.tru false),D1])]⟩
noncomputable def Va:FD:=⟨3,[],9,[.asg (.tup [(.loc 3),(.loc 4)]) D118,.asg (.loc 5) (.lst [] true),.for_ [6] true (.range1 D4) [.for_ [7] true (.range1 D3) B19],.ret (.call D10 [(.str "logical"),(.frz D6),(.lst [D3,D4] false),.non,.non])]⟩
noncomputable def Vb:FD:=⟨2,[],7,[.asg (.tup [(.loc 2),(.loc 3)]) D118,.asg (.loc 4) (.lst [] true),.for_ [5] true (.range1 D3) [.for_ [6] true (.range1 D2) B5],.ret (.call D10 [(.str "integer"),(.frz D4),(.lst [D2,D3] false),.non,.non])]⟩
noncomputable def W8:FD:=⟨1,[],3,[.asg (.loc 1) (.call D74 [D0,(.str "row.names")]),.ite (.and [D104,(.cmp .eq D24 (.str "list"))]) [.ret (.tup [D52,D82])] [],.ite (.and [(.call D34 [D0]),(.cmp .isnot D29 .non)]) [.asg (.loc 2) D29,.ret (.tup [D46,(.ife (.cmp .gt (.len D2) (.int 1)) (.sub D2 (.int 1)) .non)])] [],.ret .non]⟩
noncomputable def Wc:FD:=⟨3,[],4,[.asg (.loc 3) (.call (.glob "both_extents" (.kref 912)) [D0]),.ite (.and [D64,(.cmp .isnot (.sub D3 D1) .non)]) [.ret (.call (.glob "whole" (.kref 338)) [(.sub D3 D1)])] [],.ite D2 [.ret (.call (.glob "whole" (.kref 338)) [(.ife (.cmp .eq D1 (.int 1)) (.int 1) (.call (.glob "length" (.kref 345)) [D0]))])] [],.ret (.ife D97 (.call (.glob "null" (.kref 317)) []) (.call (.glob "integer" (.kref 324)) [(.lst [.non] false)]))]⟩
noncomputable def W9:FD:=⟨3,[],3,[.ret (.call D65 [D13,(.int 0),(.tru false)])]⟩
noncomputable def Ka:FD:=⟨3,[],3,[.ret (.call D65 [D13,(.int 1),(.tru false)])]⟩
noncomputable def Kc:FD:=⟨3,[],3,[.ret (.call D65 [D13,(.int 0),(.tru true)])]⟩
noncomputable def Kd:FD:=⟨3,[],3,[.ret (.call D65 [D13,(.int 1),(.tru true)])]⟩
noncomputable def Vc:FD:=⟨1,[],4,[.asg (.tup [(.loc 1),(.loc 2)]) (.call D41 [D0,(.lst [(.str "x"),(.str "y")] false)]),.for_ [3] true (.tup [D1,D2]) [.ite (.or [D97,D98]) [.bad] []],.ret (.tup [D1,D2])]⟩
noncomputable def Wd:FD:=⟨3,[],5,[.asg (.tup [(.loc 3),(.loc 4)]) D105,.ite D88 [.asg (.loc 4) D3] [],.asg (.tup [(.loc 3),(.loc 4)]) D26,.ret (.call (.glob "cross" (.kref 812)) [D3,D4])]⟩
noncomputable def Ke:FD:=⟨3,[],5,[.asg (.tup [(.loc 3),(.loc 4)]) D105,.ite D88 [.asg (.loc 4) D3] [],.asg (.tup [(.loc 3),(.loc 4)]) D26,.ret (.call (.glob "mat_mul" (.kref 798)) [(.call D50 [D3]),(.call (.glob "transpose" (.kref 777)) [(.call D50 [D4])])])]⟩
noncomputable def Vd:FD:=⟨3,[],15,[.asg (.tup [(.loc 3),(.loc 4)]) (.call D41 [D1,(.lst [(.str "X"),(.str "Y")] false)]),.asg (.tup [(.loc 3),(.loc 4)]) D26,.asg (.loc 5) (.call D48 [D3]),.asg (.loc 6) (.call D48 [D4]),.asg (.tup [(.loc 7),(.loc 8)]) (.call D7 [D3]),.asg (.tup [(.loc 9),(.loc 10)]) (.call D7 [D4]),.exp (.call D116 [(.bin .mul (.bin .mul D115 D49) D77)]),.asg (.loc 11) (.lst [] true),.for_ [12] true (.range1 (.bin .mul D49 D77)) [.for_ [13] true (.range1 D115) B26],.ret (.call D10 [(.str "double"),(.frz D72),(.lst [D115,(.bin .mul D49 D77)] false),.non,.non])]⟩
noncomputable def Ve:FD:=⟨1,[],2,[.asg (.loc 1) (.call (.glob "to_whole" (.kref 239)) [(.sub D28 (.int 0))]),.ite (.or [D56,(.cmp .lt D1 (.int 0))]) [.bad] [],.ret D1]⟩
noncomputable def We:FD:=⟨3,[],12,[.asg (.tup [(.loc 3),(.loc 4),(.loc 5)]) (.call D41 [D1,(.lst [(.str "x"),(.str "nrow"),(.str "ncol")] false)]),.ite (.and [D64,(.call D34 [D3]),(.call D8 [D3])]) [.ite (.or [(.cmp .isnot D4 .non),(.cmp .isnot D6 .non)]) [.bad] [],.ret (.call (.glob "diag_of" (.kref 870)) [D3])] [],.asg (.loc 6) (.call (.glob "extent_of" (.kref 826)) [D4,(.str "nrow")]),.asg (.loc 7) (.call (.glob "extent_of" (.kref 826)) [D6,(.str "ncol")]),.asg (.loc 8) (.frz (.new "Vector" 299 289 [(.str "double"),(.lst [(.tup [(.int 1),(.int 1)])] false)])),.asg (.loc 9) D64,.ite D97 [.asg (.loc 3) D49] [.ite D98 [.bad] [.ite D62 [.asg (.loc 10) (.lst [] false),.asg (.loc 3) (.call (.glob "as_kind" (.kref 715)) [D3,(.str "double"),D77]),.exp .bad] []]],.ite (.and [(.cmp .is D9 .non),D81,(.cmp .eq (.len (.attr D3 "items")) (.int 1))]) [.asg (.loc 11) (.call (.glob "diagonal_size" (.kref 982)) [D3]),.ret (.call (.glob "diag_matrix" (.kref 877)) [D49,D72,(.ife (.cmp .is D33 .non) D72 D33)])] [],.ite (.cmp .is D9 .non) [.asg (.loc 6) (.len (.attr D3 "items"))] [],.ret (.call (.glob "diag_matrix" (.kref 877)) [D3,D9,(.ife (.cmp .is D33 .non) D9 D33)])]⟩
noncomputable def Kf:FD:=⟨1,[],3,[.asg (.tup [(.loc 1),(.loc 2)]) (.call D89 [D0,(.lst [(.str "x"),(.str "diag")] false)]),.ret (.tup [(.call D50 [D1]),(.call (.glob "is_true" (.kref 819)) [D46,(.tru false)])])]⟩
noncomputable def Vf:FD:=⟨3,[],5,[.asg (.tup [(.loc 3),(.loc 4)]) D107,.ret (.call (.glob "upper_tri" (.kref 884)) [D3,D4])]⟩
noncomputable def Vg:FD:=⟨3,[],5,[.asg (.tup [(.loc 3),(.loc 4)]) D107,.ret (.call (.glob "lower_tri" (.kref 891)) [D3,D4])]⟩
noncomputable def Vh:FD:=⟨1,[],2,[.asg (.loc 1) (.sub (.call D89 [D0,(.lst [(.str "x")] false)]) (.int 0)),.ite (.nt (.call D8 [D1])) [.bad] [],.ret D1]⟩
noncomputable def Vi:FD:=⟨3,[],3,[.ret (.call (.glob "place_matrix" (.kref 905)) [D111,(.tru true)])]⟩
noncomputable def Vj:FD:=⟨3,[],3,[.ret (.call (.glob "place_matrix" (.kref 905)) [D111,(.tru false)])]⟩
noncomputable def J5:FD:=⟨2,[],3,[.ite (.cmp .lt D25 (.int 2)) [.ite (.cmp .eq D20 (.lst [] false)) [.asg (.sub D0 (.int 2)) (.bin .mod (.bin .add (.bin .mul (.sub D0 (.int 2)) (.int 16807)) (.int 13)) (.int 2147483647)),.ret (.bin .mod (.bin .div (.sub D0 (.int 2)) (.int 5)) D1)] [],.asg (.sub D0 (.int 1)) (.bin .add (.abs (.pop0 D20)) (.int 2))] [],.asg (.loc 2) (.bin .sub D25 (.int 2)),.asg (.sub D0 (.int 1)) (.ife (.cmp .ge D2 D1) (.bin .add (.bin .div D2 D1) (.int 2)) (.int 0)),.ret (.bin .mod D2 D1)]⟩
noncomputable def Vk:FD:=⟨4,[],8,[.asg (.loc 4) (.lst [] true),.for_ [5] true (.range1 D1) B25,.ret D4]⟩
noncomputable def Vl:FD:=⟨2,[],5,[.asg (.loc 2) (.new "Vector" 299 289 [(.str "double"),D40]),.asg (.attr D2 "attrs") (.dct ["dim"] [(.frz (.new "Vector" 299 289 [(.str "integer"),(.lst [D73,D1] false)]))] false),.ret (.frz D2)]⟩
noncomputable def Vm:FD:=⟨1,[],5,[.asg (.tup [(.loc 1),(.loc 2)]) D132,.ite (.cmp .ne D82 (.bin .mul D1 D2)) [.ret .non] [],.ret D44]⟩
noncomputable def Vn:FD:=⟨2,[],4,[.asg (.loc 2) (.abs D0),.asg (.loc 3) D1,.whl (.cmp .gt D3 (.int 0)) B3,.ret (.tup [(.bin .div D0 D2),(.bin .div D1 D2)])]⟩
noncomputable def Vo:FD:=⟨1,[],4,[.asg (.loc 1) (.int 0),.for_ [2,3] false D0 B9,.ret (.tup [D1,(.int 1)])]⟩
noncomputable def Vp:FD:=⟨1,[],3,[.ret D57]⟩
noncomputable def Vq:FD:=⟨2,[],5,[.ret D17]⟩
noncomputable def Yu:FD:=⟨1,[],5,[.ite (.cmp .eq D0 (.lst [] false)) [.ret (.int 1)] [],.asg (.loc 1) (.int 0),.for_ [2] true D128 [.asg (.loc 3) D12,.aug 1 .add (.bin .mul (.bin .mul (.ife (.cmp .eq (.bin .mod D2 (.int 2)) (.int 0)) (.int 1) (.neg (.int 1))) (.sub D20 D2)) (.call (.glob "_law_signed" (.kref 1084)) [D3]))],.ret D1]⟩
noncomputable def Vr:FD:=⟨1,[],11,[.asg (.loc 1) D109,.asg (.loc 2) (.int 0),.for_ [3] true (.range1 (.len D20)) B32,.ret D2]⟩
noncomputable def Vs:FD:=⟨3,[],10,[.for_ [3] true D128 [.for_ [4] true (.range1 (.len D46)) B31],.ret (.tru true)]⟩
noncomputable def Vt:FD:=⟨2,[],14,[.asg (.loc 2) (.call D47 [D0,(.len D20)]),.asg (.loc 3) (.call D47 [D1,(.len D38)]),.asg (.loc 4) (.lst [] true),.for_ [5] true D0 [.for_ [6] true D1 B16],.ite (.cmp .ne (.call D30 [(.call (.glob "b_kronecker" (.kref 975)) [.non,(.lst [(.tup [.non,D2]),(.tup [.non,D3])] false),.non])]) D4) [.ret (.tru false)] [],.for_ [7,8,9] false (.lst [(.tup [(.glob "b_crossprod" (.kref 961)),(.call D96 [D0]),D1]),(.tup [(.glob "b_tcrossprod" (.kref 968)),D0,(.call D96 [D1])])] false) B29,.ret (.cmp .eq (.call D30 [(.call (.glob "b_crossprod" (.kref 961)) [.non,(.lst [(.tup [.non,D2])] false),.non])]) (.call (.glob "_law_product" (.kref 1079)) [(.call D96 [D0]),D0]))]⟩
noncomputable def Vu:FD:=⟨1,[],20,[.asg (.loc 1) D73,.asg (.loc 2) (.len D20),.asg (.loc 3) (.call D47 [D0,D2]),.asg (.loc 4) (.frz (.new "Vector" 299 289 [(.str "double"),(.list (.attr D3 "items") false)])),.asg (.loc 5) D53,.asg (.loc 6) (.lst [(.tup [(.glob "b_row" (.kref 1024)),(.lst [] false),(.lam 0)]),(.tup [(.glob "b_col" (.kref 1031)),(.lst [] false),(.lam 1)])] true),.exp (.push D9 (.tup [(.glob "b_upper" (.kref 1003)),(.lst [] false),(.lam 2)])),.exp (.push D9 (.tup [(.glob "b_lower" (.kref 1010)),(.lst [] false),(.lam 3)])),.exp (.push D9 (.tup [(.glob "b_upper" (.kref 1003)),(.lst [(.tup [(.str "diag"),D84])] false),(.lam 4)])),.exp (.push D9 (.tup [(.glob "b_lower" (.kref 1010)),(.lst [(.tup [(.str "diag"),D84])] false),(.lam 5)])),.for_ [7,8,9] false (.frz D9) B27,.asg (.loc 13) D16,.ite (.cmp .ne (.loc 13) (.lst [(.lst [D1] false),(.lst [D2] false),(.lst [D1] false),(.lst [D2] false)] false)) [.ret (.tru false)] [],.ite (.or [(.cmp .ne (.attr (.call (.glob "b_nrow" (.kref 926)) [.non,(.lst [(.tup [.non,D4])] false),.non]) "kind") (.str "NULL")),(.cmp .ne (.attr (.call (.glob "b_ncol" (.kref 933)) [.non,(.lst [(.tup [.non,D4])] false),.non]) "kind") (.str "NULL"))]) [.ret (.tru false)] [],.ite (.or [(.cmp .ne (.attr (.call (.glob "b_all_rows" (.kref 940)) [.non,(.lst [(.tup [.non,D4])] false),.non]) "items") (.lst [(.bin .mul D1 D2)] false)),(.cmp .ne (.attr (.call (.glob "b_all_columns" (.kref 947)) [.non,(.lst [(.tup [.non,D4])] false),.non]) "items") (.lst [(.int 1)] false))]) [.ret (.tru false)] [],.ite (.cmp .ne (.attr (.call D108 [.non,(.lst [(.tup [.non,D3])] false),.non]) "items") D32) [.ret (.tru false)] [],.asg (.loc 10) (.call D30 [(.call D108 [.non,(.lst [(.tup [.non,(.frz (.new "Vector" 299 289 [(.str "double"),(.lst [(.tup [D1,(.int 1)])] false)]))])] false),.non])]),.ite (.cmp .ne D77 D27) [.ret (.tru false)] [],.asg (.loc 10) (.call D30 [(.call D108 [.non,(.lst [(.tup [.non,D4]),(.tup [(.str "nrow"),(.frz (.new "Vector" 299 289 [(.str "integer"),(.lst [D1] false)]))]),(.tup [(.str "ncol"),(.frz (.new "Vector" 299 289 [(.str "integer"),(.lst [D2] false)]))])] false),.non])]),.for_ [11,12] false D6 B17,.ret (.tru true)]⟩
noncomputable def Yv:FD:=⟨3,[],19,[.asg (.loc 3) D73,.asg (.loc 4) (.call D47 [D0,D3]),.ite (.cmp .ne (.attr (.call (.glob "b_det" (.kref 864)) [.non,(.lst [(.tup [.non,D4])] false),.non]) "items") (.lst [(.tup [(.call (.glob "_law_signed" (.kref 1084)) [D0]),(.int 1)])] false)) [.ret (.tru false)] [],.asg (.loc 5) (.str ""),.for_ [6] true (.range (.int 1) (.bin .add D3 (.int 1))) B28,.asg (.loc 7) (.call D47 [D1,(.len D38)]),.ite D2 [.asg (.loc 7) (.frz (.new "Vector" 299 289 [(.str "double"),(.list (.attr D33 "items") false)]))] [],.asg (.loc 8) D37,.for_ [9,10] false (.lst [(.tup [(.lst [(.tup [.non,D4]),(.tup [.non,D33])] false),D1]),(.tup [(.lst [(.tup [.non,D4])] false),D49])] false) B34,.ret (.tru true)]⟩
noncomputable def Ji:FD:=⟨1,[],11,[.asg (.loc 1) D42,.asg (.loc 2) (.lst [(.list D1 true),(.int 0),D106] true),.asg (.loc 3) D121,.asg (.loc 4) D120,.ite D45 [.ret (.tru false)] [],.asg (.loc 5) D21,.asg (.loc 6) (.call D23 [D2,D6,D6,(.tru false)]),.ite D80 [.asg (.sub D9 (.bin .sub D6 (.int 1))) D35] [],.asg (.loc 7) D122,.asg (.loc 8) D95,.ret D85]⟩
noncomputable def tabL:List (Nat × Bool × FD × List Str × Nat):=[
 (67,false,Z4,[SO "self",SO "formals",SO "tags"],0),
 (74,false,Jw,[SO "self",SO "name",SO "place"],0),
 (81,false,Jx,[SO "self",SO "name"],0),
 (88,false,Jy,[SO "self",SO "name",SO "place",SO "tag"],0),
 (95,false,Jz,[SO "self",SO "place",SO "name"],0),
 (102,false,JB,[SO "self",SO "place"],0),
 (107,false,JC,[SO "self"],0),
 (139,true,JN,[SO "formals",SO "args",SO "show",SO "matching",SO "rest"],1),
 (146,true,qQ,[SO "value",SO "name"],0),
 (152,true,JP,[SO "args",SO "formals",SO "show",SO "places",SO "rest",SO "values",SO "name"],1),
 (162,true,Z5,[SO "a",SO "b"],0),
 (169,true,Z6,[SO "n",SO "d",SO "common"],0),
 (176,true,qR,[SO "n"],0),
 (183,true,Z7,[SO "x"],0),
 (190,true,Z8,[SO "x"],0),
 (197,true,Z9,[SO "x",SO "y"],0),
 (204,true,Xa,[SO "x"],0),
 (211,true,Xb,[SO "x",SO "y"],0),
 (218,true,Xc,[SO "x",SO "y"],0),
 (225,true,Xd,[SO "x",SO "y"],0),
 (232,true,Xe,[SO "x",SO "y"],0),
 (239,true,Xf,[SO "x",SO "found"],0),
 (267,false,Xg,[SO "self"],0),
 (289,false,Xh,[SO "self",SO "kind",SO "items",SO "attrs"],1),
 (310,true,Xi,[SO "n"],0),
 (317,true,Xj,[],0),
 (324,true,Xk,[SO "items"],0),
 (338,true,Xl,[SO "n"],0),
 (345,true,Xm,[SO "v",SO "kind"],0),
 (352,true,qT,[SO "v"],0),
 (366,true,Qbw,[SO "v"],0),
 (375,true,Ys,[SO "size",SO "rows",SO "place",SO "row"],0),
 (380,false,Xn,[SO "rows"],0),
 (385,true,Xo,[SO "row",SO "factor"],0),
 (392,true,WT,[SO "row",SO "other",SO "factor",SO "result",SO "place"],0),
 (399,false,Xp,[SO "rows",SO "start",SO "column",SO "place"],0),
 (406,false,Xq,[SO "rows",SO "pivot",SO "column",SO "place"],0),
 (413,true,Xr,[SO "a",SO "rows",SO "pivots",SO "width",SO "column",SO "top",SO "found"],0),
 (420,true,Xu,[SO "a",SO "width"],0),
 (427,true,Xv,[SO "pivots",SO "size",SO "column"],0),
 (432,true,WW,[SO "a",SO "b",SO "size",SO "joined",SO "rows",SO "pivots",SO "column"],0),
 (439,true,WX,[SO "a"],0),
 (446,true,Xw,[SO "x",SO "y"],0),
 (451,false,Xx,[SO "row",SO "common",SO "item"],0),
 (458,false,Yt,[SO "rows",SO "size",SO "sign",SO "before",SO "step",SO "found",SO "place",SO "column",SO "product"],0),
 (465,true,Wa,[SO "a",SO "rows",SO "below",SO "row",SO "whole",SO "common"],0),
 (472,true,Xy,[SO "v",SO "name"],0),
 (477,true,WY,[SO "v",SO "tag",SO "dims",SO "rows",SO "names"],0),
 (484,true,W0,[SO "v",SO "dims"],0),
 (489,true,Qbx,[SO "v",SO "found"],0),
 (649,true,Qby,[SO "kind",SO "item"],0),
 (663,true,Xz,[SO "kind",SO "item",SO "notes"],0),
 (677,true,XC,[SO "kind",SO "item",SO "to",SO "notes"],0),
 (684,true,XD,[SO "kind"],0),
 (710,true,qU,[SO "v",SO "names"],0),
 (715,true,W2,[SO "v",SO "kind",SO "notes",SO "items"],0),
 (723,true,qW,[SO "v"],0),
 (730,true,W3,[SO "v",SO "extents"],0),
 (737,true,W4,[SO "v"],0),
 (744,true,qX,[SO "v",SO "axis",SO "names"],0),
 (751,true,Qbz,[SO "v"],0),
 (756,true,XF,[SO "rows",SO "items",SO "names"],0),
 (763,true,XH,[SO "kind",SO "items",SO "extents",SO "names",SO "made",SO "dimnames"],0),
 (770,true,XJ,[SO "kind",SO "items",SO "extents",SO "row_names",SO "column_names"],0),
 (777,true,XK,[SO "v",SO "extents",SO "rows",SO "columns",SO "items",SO "place",SO "column"],0),
 (784,true,XM,[SO "v"],0),
 (791,true,W5,[SO "u",SO "v",SO "first",SO "second",SO "left",SO "right"],0),
 (798,true,W6,[SO "u",SO "v",SO "a",SO "b",SO "left",SO "right",SO "items",SO "column",SO "place",SO "total",SO "step",SO "row_names",SO "column_names"],0),
 (805,true,XN,[SO "v"],0),
 (812,true,W7,[SO "u",SO "v"],0),
 (819,true,XQ,[SO "v",SO "usual",SO "found"],0),
 (826,true,XR,[SO "v",SO "name",SO "numbers",SO "found"],0),
 (833,true,Wb,[SO "args",SO "names",SO "values",SO "v"],0),
 (838,true,XS,[SO "v",SO "numbers",SO "item",SO "rows",SO "columns",SO "found",SO "place"],0),
 (845,true,XX,[SO "rows",SO "width",SO "row_names",SO "column_names",SO "items",SO "column",SO "row"],0),
 (852,true,X3,[SO "v",SO "axis"],0),
 (857,true,JQ,[SO "interp",SO "args",SO "env",SO "a",SO "b",SO "rows",SO "high",SO "wide",SO "found",SO "made",SO "names"],0),
 (864,true,X4,[SO "interp",SO "args",SO "env",SO "v"],0),
 (870,true,X5,[SO "v",SO "rows",SO "columns",SO "count",SO "items",SO "made",SO "first",SO "second"],0),
 (877,true,X6,[SO "v",SO "rows",SO "columns",SO "zero",SO "items",SO "column",SO "place"],0),
 (884,true,X7,[SO "v",SO "diagonal"],0),
 (891,true,X8,[SO "v",SO "diagonal"],0),
 (898,true,Va,[SO "v",SO "upper",SO "diagonal",SO "rows",SO "columns",SO "items",SO "column",SO "place",SO "inside"],0),
 (905,true,Vb,[SO "v",SO "by_row",SO "rows",SO "columns",SO "items",SO "column",SO "place"],0),
 (912,true,W8,[SO "v",SO "labels",SO "extents"],0),
 (919,true,Wc,[SO "v",SO "axis",SO "whole_vector",SO "found"],0),
 (926,true,W9,[SO "interp",SO "args",SO "env"],0),
 (933,true,Ka,[SO "interp",SO "args",SO "env"],0),
 (940,true,Kc,[SO "interp",SO "args",SO "env"],0),
 (947,true,Kd,[SO "interp",SO "args",SO "env"],0),
 (954,true,Vc,[SO "args",SO "u",SO "v",SO "side"],0),
 (961,true,Wd,[SO "interp",SO "args",SO "env",SO "u",SO "v"],0),
 (968,true,Ke,[SO "interp",SO "args",SO "env",SO "u",SO "v"],0),
 (975,true,Vd,[SO "interp",SO "args",SO "env",SO "u",SO "v",SO "a",SO "b",SO "rows",SO "columns",SO "low",SO "wide",SO "items",SO "column",SO "place",SO "first"],0),
 (982,true,Ve,[SO "v",SO "size"],0),
 (989,true,We,[SO "interp",SO "args",SO "env",SO "v",SO "nrow",SO "ncol",SO "rows",SO "columns",SO "one",SO "given",SO "notes",SO "size"],0),
 (996,true,Kf,[SO "args",SO "v",SO "rest"],0),
 (1003,true,Vf,[SO "interp",SO "args",SO "env",SO "v",SO "diagonal"],0),
 (1010,true,Vg,[SO "interp",SO "args",SO "env",SO "v",SO "diagonal"],0),
 (1017,true,Vh,[SO "args",SO "v"],0),
 (1024,true,Vi,[SO "interp",SO "args",SO "env"],0),
 (1031,true,Vj,[SO "interp",SO "args",SO "env"],0),
 (1038,false,J5,[SO "pool",SO "limit",SO "rest"],0),
 (1045,false,Vk,[SO "pool",SO "tall",SO "wide",SO "holes",SO "rows",SO "_",SO "row",SO "figure"],0),
 (1050,true,Vl,[SO "rows",SO "wide",SO "v"],0),
 (1055,true,Vm,[SO "v",SO "tall",SO "wide"],0),
 (1062,true,Vn,[SO "over",SO "under",SO "one",SO "other"],0),
 (1069,true,Vo,[SO "pairs",SO "total",SO "left",SO "right"],0),
 (1074,true,Vp,[SO "rows"],0),
 (1079,true,Vq,[SO "left",SO "right"],0),
 (1084,true,Yu,[SO "rows",SO "total",SO "spot",SO "rest"],0),
 (1089,true,Vr,[SO "rows",SO "left",SO "many",SO "spot",SO "found",SO "head"],0),
 (1096,true,Vs,[SO "rows",SO "answer",SO "right",SO "each",SO "spot",SO "over",SO "under",SO "cycle_at",SO "n",SO "d"],0),
 (1101,true,Vt,[SO "u",SO "v",SO "left",SO "right",SO "due",SO "row",SO "other",SO "fn",SO "first",SO "second",SO "told",SO "error"],0),
 (1106,true,Vu,[SO "u",SO "tall",SO "wide",SO "v",SO "barely",SO "spots",SO "dues",SO "fn",SO "more",SO "rule",SO "told",SO "each",SO "spot",SO "sizes"],0),
 (1111,true,Yv,[SO "rows",SO "right",SO "flat",SO "size",SO "a",SO "due",SO "wide",SO "b",SO "unit",SO "args",SO "wanted",SO "told",SO "word",SO "error",SO "answer"],0),
 (1116,true,Ji,[SO "script",SO "cells",SO "pool",SO "u",SO "v",SO "size",SO "rows",SO "flat",SO "right"],0)
]
noncomputable def lamL:List (Nat × FD × List Str):=[
 (0,⟨2,[],2,[.ret (.bin .add D0 (.int 1))]⟩,[SO "each",SO "spot"]),
 (1,⟨2,[],2,[.ret (.bin .add D1 (.int 1))]⟩,[SO "each",SO "spot"]),
 (2,⟨2,[],2,[.ret (.ife (.cmp .gt D1 D0) (.int 1) (.int 0))]⟩,[SO "each",SO "spot"]),
 (3,⟨2,[],2,[.ret (.ife (.cmp .lt D1 D0) (.int 1) (.int 0))]⟩,[SO "each",SO "spot"]),
 (4,⟨2,[],2,[.ret (.ife (.cmp .ge D1 D0) (.int 1) (.int 0))]⟩,[SO "each",SO "spot"]),
 (5,⟨2,[],2,[.ret (.ife (.cmp .le D1 D0) (.int 1) (.int 0))]⟩,[SO "each",SO "spot"])
]
noncomputable def gL:List (String × AV):=[("MOST_LENGTH",(.int 1000000)),("Matching",(.kref 110)),("NAN",(.tup [.int 0,.int 0])),("Null",(.kref 270)),("ONE",(.tup [.int 1,.int 1])),("Vector",(.kref 299)),("ZERO_linear",(.tup [.int 0,.int 1])),("ZERO_matparts",(.tup [.int 0,.int 1])),("ZERO_matrix",(.tup [.int 0,.int 1])),("_law_draw",(.kref 1038)),("_law_equations_hold",(.kref 1111)),("_law_many",(.kref 1089)),("_law_matrix",(.kref 1050)),("_law_places_hold",(.kref 1106)),("_law_product",(.kref 1079)),("_law_products_hold",(.kref 1101)),("_law_ratio",(.kref 1062)),("_law_rows",(.kref 1045)),("_law_shown",(.kref 1055)),("_law_signed",(.kref 1084)),("_law_solves",(.kref 1096)),("_law_sum",(.kref 1069)),("_law_turned",(.kref 1074)),("_wall",(.kref 21)),("add",(.kref 211)),("as_column",(.kref 805)),("as_kind",(.kref 715)),("axis_names",(.kref 744)),("b_all_columns",(.kref 947)),("b_all_rows",(.kref 940)),("b_col",(.kref 1031)),("b_crossprod",(.kref 961)),("b_det",(.kref 864)),("b_diag",(.kref 989)),("b_kronecker",(.kref 975)),("b_lower",(.kref 1010)),("b_ncol",(.kref 933)),("b_nrow",(.kref 926)),("b_row",(.kref 1024)),("b_solve",(.kref 857)),("b_tcrossprod",(.kref 968)),("b_upper",(.kref 1003)),("both_extents",(.kref 912)),("check_square",(.kref 420)),("clear_column",(.kref 406)),("copied",(.kref 380)),("cross",(.kref 812)),("determinant",(.kref 465)),("diag_matrix",(.kref 877)),("diag_of",(.kref 870)),("diagonal_size",(.kref 982)),("dim_of",(.kref 484)),("dimnames_list",(.kref 756)),("dimnames_of",(.kref 489)),("dims",(.kref 723)),("div",(.kref 232)),("extent_of",(.kref 826)),("first_dependent",(.kref 427)),("first_filled",(.kref 399)),("fraction_rows",(.kref 838)),("from_int",(.kref 176)),("gcd",(.kref 162)),("get_attr",(.kref 472)),("greatest_divisor",(.kref 446)),("identity_rows",(.kref 375)),("integer",(.kref 324)),("inverse",(.kref 439)),("is_atomic_kind",(.kref 684)),("is_finite",(.kref 190)),("is_matrix",(.kref 730)),("is_na",(.kref 183)),("is_true",(.kref 819)),("is_vector",(.kref 352)),("item_as",(.kref 677)),("law",(.kref 1116)),("length",(.kref 345)),("less_multiple",(.kref 392)),("lower_tri",(.kref 891)),("make",(.kref 169)),("marked",(.kref 197)),("mat_mul",(.kref 798)),("match_names",(.kref 139)),("matrix_argument",(.kref 833)),("matrix_names",(.kref 852)),("mul",(.kref 225)),("names_of",(.kref 477)),("needed",(.kref 146)),("neg",(.kref 204)),("new_array",(.kref 763)),("new_matrix",(.kref 770)),("null",(.kref 317)),("numbers_of",(.kref 784)),("one_extent",(.kref 919)),("place_argument",(.kref 1017)),("place_matrix",(.kref 905)),("plain_names",(.kref 751)),("product_shapes",(.kref 791)),("room",(.kref 310)),("row_echelon",(.kref 413)),("rows_matrix",(.kref 845)),("scaled",(.kref 510)),("scaled_linear",(.kref 385)),("scaled_numtext",(.kref 510)),("shape_of",(.kref 737)),("share",(.kref 366)),("solve_rows",(.kref 432)),("sub",(.kref 218)),("take",(.kref 152)),("to_double",(.kref 663)),("to_logical",(.kref 649)),("to_whole",(.kref 239)),("transpose",(.kref 777)),("triangle",(.kref 898)),("triangle_arguments",(.kref 996)),("two_vectors",(.kref 954)),("upper_tri",(.kref 884)),("whole",(.kref 338)),("whole_determinant",(.kref 458)),("whole_row",(.kref 451)),("with_names",(.kref 710))]
theorem g_all (P:Params):gL.all (λp=>gGood (KX P) p.1 p.2)=true:=by kernel_rfl
theorem QbA (P:Params):tabL.all (λp=>funChk (KX P) gL lamL p.1 p.2.2.1 p.2.2.2.1 p.2.2.2.2)=true:=by kernel_rfl
theorem QbB:LamFree gL lamL:=λm d xs pe h hb code qual sc σ x=>by
 have hm:=qP h;unfold lamL at hm;simp only[List.mem_cons,Prod.mk.injEq,List.not_mem_nil,or_false] at hm;rcases hm with ⟨rfl,rfl,rfl⟩ | ⟨rfl,rfl,rfl⟩ | ⟨rfl,rfl,rfl⟩ | ⟨rfl,rfl,rfl⟩ | ⟨rfl,rfl,rfl⟩ | ⟨rfl,rfl,rfl⟩<;>(cases hb; rfl)
noncomputable abbrev TT:=tabT tabL
noncomputable abbrev UU:=tabU lamL
theorem tabs (hlq:c.lq=lqX)(hLO:c.LO=LOx gL lamL):Tabs c TT UU:=Qbv (g_all _) hlq hLO (QbA _) QbB
noncomputable abbrev RN (n:Nat):Orc:=run TT UU n
theorem sound (hlq:c.lq=lqX)(hLO:c.LO=LOx gL lamL)(n:Nat):OSnd c n (RN n):=GP (tabs hlq hLO) n
theorem QbC (P:Params):nsIn (KX P) mainGlobals (Str.ofString "law")=some (some (.ref 1116)):=by kernel_rfl
theorem QbD:TT 1116=some (true,Ji):=by kernel_rfl
noncomputable def LawRuns (N:Nat):Prop:=∀l:List Int,l.length<=63->∃H,runF (RN N) Ji [.lst (l.map .int)] []=.ok (.bool true) H
theorem QbE {N:Nat}(hN:N<=100)(hlq:c.lq=lqX)(hLO:c.LO=LOx gL lamL)(b:Base c [] s [] []){l:List Int}{v:Value}(rv:c.rep [] [] s.heap (.lst (l.map .int)) v)(hl:l.length<=63)(law:LawRuns N)
  (h:∀(FX:List Addr) (H:AH) (cm:CM) s',Base c FX s' H cm->R (.ok (.ret (.bool true))) s'):codeAny (model P0 c.w) callerA (.call (.ref 1116) ⟨[v],[]⟩) R s:=by
 obtain⟨H,hlaw⟩:=law l hl;obtain⟨fd,body,xs,kd,fk,hbody⟩:=(tabs hlq hLO).f 1116 true Ji QbD;obtain⟨o,ho,hd⟩:=fk.o;have dk:=fk.def b.X;cases hf:Ji.frame [.lst (l.map .int)] with
 | none=>rw[runF,hf] at hlaw; cases hlaw
 | some J' =>
  rw[runF,hf] at hlaw
  replace hlaw:(evSs (RN N) Ji.body J' []).out=.ok (.bool true) H:=hlaw
  have ra:c.reps [] [] s.heap [.lst (l.map .int)] [v]:=⟨v,[],rfl,rv,rfl⟩;refine codeAny_call_function (by decide) (b.X _ _ ho) hd (Ju dk.chk).h6 (Ju dk.chk).h5 fk.b dk.code
   (GC (A:=callerA) (FO:=[]) (FZ:=[]) (fs:=[]) (H':=[]) (cm':=[]) (J':=J') (as:=[.lst (l.map .int)]) (rx:=3*N+10) (ry:=40*N+100) dk ⟨rfl,?_,?_,rfl⟩ b.nolim rfl hf (λ_ h=>absurd h List.not_mem_nil) (λg s_1 cal=>?_) λg s_1 cal fr i_1 rm_1=>codeAny_func ?_)
  ·have:callerA.depth=301:=rfl
   lia
  ·have:callerA.units=4:=rfl
   lia
  ·have hFX:∀a,a∈g.FX↔a∈g.FA:=λa=>by simp[Fm.FX,cal.FO,cal.FZ]
   have rr:∀a o,Rr [] [] s.heap a o->Rr g.FX [] s_1.heap a o:=λa o q70=>by obtain⟨e,st,_,_⟩:=q70; exact⟨cal.grow.keep _ _ e,st,(λq=>by rw[(cal.fresh a ((hFX a).mp q)).1] at e; exact no e),nofun⟩
   refine⟨⟨rfl,λj p x e=>by simp at e,λa h=>?_,nofun,.nil,λb' o n e=>cal.grow.keep _ _ (b.old b' o n e),cal.grow.gens.trans b.gens,cal.grow.os.trans b.os,b.tab.mono (λ_ e=>cal.grow.keep _ _ e) rr⟩,Internal.reps_mono rr (.refl _) _ _ ra,λa h=>⟨by rw[cal.FO]; nofun,by rw[cal.FZ]; nofun⟩,λa h=>by rw[cal.FO] at h; cases h⟩;rcases h with h | h
   ·obtain⟨q1,q2⟩:=cal.fresh a ((hFX a).mp h)
    exact⟨b.h1_none q1,q2⟩
   ·cases h
  ·refine hbody N _ (sound hlq hLO N) g fr.sc fr.σ fr.ow fr.cd fr.fr ⟨_,fr.fs⟩ _ rm_1.toR J' s_1 [] [] i_1 _ _ ?_
   cases ho:evSs (RN N) Ji.body J' [] with
   | stuck=>rw[ho] at hlaw; cases hlaw
   | exc m J_2 H_2=>rw[ho] at hlaw; cases hlaw
   | ok fl J_2 H_2 =>
    rw[ho] at hlaw;cases fl with
    | next=>cases hlaw
    | cont=>cases hlaw
    | ret w =>
     cases hlaw;intro y s' cm' nx iv hfl;obtain⟨z,rfl,rz⟩:=hfl;cases (show z=.bool true from rz);exact h _ _ _ _ iv.base
theorem QbF {LO:Nat->FuncData->Prop}{R:Rl}{l:List Int}{vs:List Value}(h:IntsAre vs l):Internal.reps w LO R cm (l.map .int) vs:=by
 induction h with
 | nil=>exact rfl
 | cons n t h ih=>exact⟨_,_,rfl,⟨t,rfl⟩,ih⟩
theorem noImports:importsNone qv=true:=by decide +kernel
set_option tactic.hygienic true in
theorem QbG {N:Nat}(hN:N<=100)(law:LawRuns N):WalkGoal:=by
 intro w s_0 s_1 mg mb G Y fa o pm cd doc dV kV ho hd hcd hD hmg hg args vals as hpre hlay hrd hwl hlo;clear ho hd hcd hD
 wrow_args hpre hlay hrd hwl hlo
 rename_i l _ _ _ _ _ _ _ a vs _ hL ra w1 r0 hI hr hc1 hc2;have X:(KX w.params).In s_1.heap:=Y.1;have hgh:s_1.heap.get? gh=some (tabObj #[]):=Y.2 1103 (.head _);have T:=G.T;obtain⟨bm,ob,b1,b2,b3,b4,b5,b6⟩:=T.bmain;have hbg:bm≠gh:=λq=>by rw[q,hgh] at b3; cases b3; cases b4
 have hbm:bm≠mainGlobals:=λq=>by
  obtain⟨o',es,ep,e,ed,_⟩:=T.g;rw[q,e] at b3; cases b3; rw[ed] at b6; cases b6
 have h1:s_1.heap.get? 1≠none:=by
  obtain⟨mm,hmm,_⟩:=(T.seer noImports).mods;obtain⟨o',es,ep,e,_⟩:=hmm;rw[show s_1.heap.get? 1=some o' from e]; nofun
 let c:Cx:={w:=w,h_1:=s_1.heap,os_1:=s_1.os,LO:=LOx gL lamL,lq:=lqX,p:=qv,loose:=looseW qv looseX,mg:=mg,mb:=mb,X:=X,T:=topRead_of T,glow:=by rw[hgh]; nofun,one:=h1,blt:=⟨bm,ob,b1,b2,hbm,hbg,b3,b4,b5,b6⟩}
 have hfa:fa=1116:=by
  have:=mg_of X T.g (QbC w.params);simp only[show mg dLaw.name=mg (Str.ofString "law") from rfl,this] at hmg;cases hmg; rfl
 subst hfa;have b:Base c [] s_1 [] []:=⟨rfl,λj p x e=>(by simp at e),λa h=>(by rcases h with h | h<;>cases h),nofun,.nil,λ_ _ _ e=>e,hg,rfl,⟨#[],hgh,trivial,λpos cv h=>by cases h⟩⟩
 obtain⟨ol,eo,ec,nn,ed⟩:=hL;have rv:c.rep [] [] s_1.heap (.lst (l.map .int)) (.ref a):=⟨a,ol,vs,nn,rfl,⟨eo,by simp[stab,ed],nofun,nofun⟩,ec,ed,QbF hI⟩;have hT:TabsAt [(1105,gh)] s_1.heap:=λq hq=>by cases msD hq; exact⟨hd1105 X,hgh⟩
 refine enter_call (kn_post hT (λ_ _=>rfl) (QbE (c:=c) hN rfl rfl b rv (by omega) law λFX H cm s' bb=>?_))
 refine⟨⟨.inl ⟨_,.bool true,[],rfl,λ_=>rfl,.bool true,?_,λ_=>⟨.nil,nofun⟩⟩,λb' o' e=>?_,bb.os,bb.gens⟩,?_⟩
 ·wrow_post
 ·have hne:b'≠gh:=λq=>by
   rw[hideAll_none _ (by rw[q]; exact .head _)] at e; exact no e
  exact bb.old b' o' hne (of_hideAll _ e)
 ·obtain⟨ps,e,_⟩:=bb.tab
  exact⟨⟨ps,e⟩,trivial⟩
theorem QbH {N:Nat}(hN:N<=100)(law:LawRuns N):L0.Holds:=wC (QbG hN law)
section
theorem pN {a b N:Nat}(h:b<=N)(g:Nat.ble (a+1) b=true:=by rfl):a<=N-1:=Nat.le_sub_of_add_le (Nat.le_trans (Nat.le_of_ble_eq_true g) h)
theorem oN {b N:Nat}(h:b<=N)(g:Nat.ble 1 b=true:=by rfl):1<=N:=Nat.le_trans (Nat.le_of_ble_eq_true g) h
theorem lenS {l:List α}(h:l.length=n+1):∃a r,l=a::r/\r.length=n:=by
 cases l with
 | nil=>cases h
 | cons a r=>exact⟨a,r,rfl,Nat.succ.inj h⟩
theorem len1 {l:List α}(h:l.length=1):∃a,l=[a]:=by
 cases l with
 | nil=>cases h
 | cons a r=>cases r with | nil=>exact⟨a,rfl⟩ | cons _ _=>cases h
theorem len4 {l:List α}(h:l.length=4):∃a b c d,l=[a,b,c,d]:=by
 obtain⟨a,r1,e1,h1⟩:=lenS h;obtain⟨b,r2,e2,h2⟩:=lenS h1;obtain⟨c,r3,e3,h3⟩:=lenS h2;obtain⟨d,e4⟩:=len1 h3;exact⟨a,b,c,d,by rw[e1,e2,e3,e4]⟩
theorem leSc {P:Nat->Prop}{k n:Nat}(h:k<=n+1)(a:k<=n->P k)(b:P (n+1)):P k:=(Nat.le_or_eq_of_le_succ h).elim a λe=>e ▸ b
theorem le2 {P:Nat->Prop}{k:Nat}(h:k<=2)(h0:P 0)(h1:P 1)(h2:P 2):P k:=leSc h (λh=>leSc h (λh=>(Nat.le_zero.mp h).symm ▸ h0) h1) h2
theorem le3 {P:Nat->Prop}{k:Nat}(h:k<=3)(h0:P 0)(h1:P 1)(h2:P 2)(h3:P 3):P k:=leSc h (λh=>le2 h h0 h1 h2) h3
theorem in3 (h:0<n)(g:n<=3):n=1\/n=2\/n=3:=le3 (P:=λn=>0<n->n=1\/n=2\/n=3) g nofun (λ_=>.inl rfl) (λ_=>.inr (.inl rfl)) (λ_=>.inr (.inr rfl)) h
theorem nadd {k:Nat}{x y:Int}(h:x.natAbs<2 ^ k)(h':y.natAbs<2 ^ k):(x+y).natAbs<2 ^ (k+1):=Nat.lt_of_le_of_lt (Int.natAbs_add_le x y) (by rw[Nat.pow_succ,Nat.mul_two]; exact Nat.add_lt_add h h')
theorem nsub {k:Nat}{x y:Int}(h:x.natAbs<2 ^ k)(h':y.natAbs<2 ^ k):(x-y).natAbs<2 ^ (k+1):=by rw[Int.sub_eq_add_neg]; exact nadd h (by rw[Int.natAbs_neg]; exact h')
theorem Kg {d:FD}{as J:LA}(hf:d.frame as=some J):runF C d as H=(evSs C d.body J H).out:=congrArg (Out.opt · λJ=>(evSs C d.body J H).out) hf
theorem qY {d:FD}{as J:LA}(hf:d.frame as=some J)(hnc:AV.ncs as=true)(h:(evSs C d.body J []).out=.ok v H')(hv:v.nc=true)(H:AH):pureG C as H d=.ok v H :=
 (if_pos hnc).trans ((congrArg (pureOut H) ((Kg hf).trans h)).trans (if_pos hv))
theorem QbI {d:FD}{as J:LA}(hf:d.frame as=some J)(hnc:AV.ncs as=true)(h:(evSs C d.body J []).out=.exc v H')(hv:v.nc=true)(H:AH):pureG C as H d=.exc v H :=
 (if_pos hnc).trans ((congrArg (pureOut H) ((Kg hf).trans h)).trans (if_pos hv))
theorem Qc {a N:Nat}{d:FD}{as J:LA}(hT:TT a=some (true,d))(hN:1<=N)(hf:d.frame as=some J)(hnc:AV.ncs as=true)(h:(evSs (RN (N-1)) d.body J []).out=.ok v H')(hv:v.nc=true)(H:AH):(RN N).f a as H=.ok v H:=by
 cases N with
 | zero=>exact absurd hN (Nat.not_succ_le_zero 0)
 | succ n=>exact (congrArg (Out.opt · (runO (RN n) as H)) hT).trans (qY hf hnc h hv H)
theorem Jm {a N:Nat}{d:FD}{as J:LA}(hT:TT a=some (true,d))(hN:1<=N)(hf:d.frame as=some J)(hnc:AV.ncs as=true)(h:(evSs (RN (N-1)) d.body J []).out=.exc v H')(hv:v.nc=true)(H:AH):(RN N).f a as H=.exc v H:=by
 cases N with
 | zero=>exact absurd hN (Nat.not_succ_le_zero 0)
 | succ n=>exact (congrArg (Out.opt · (runO (RN n) as H)) hT).trans (QbI hf hnc h hv H)
theorem QB {a N:Nat}{d:FD}{as J:LA}{o:Out AV}(hT:TT a=some (false,d))(hN:1<=N)(hf:d.frame as=some J)(h:(evSs (RN (N-1)) d.body J H).out=o):(RN N).f a as H=o:=by
 cases N with
 | zero=>exact absurd hN (Nat.not_succ_le_zero 0)
 | succ n=>exact (congrArg (Out.opt · (runO (RN n) as H)) hT).trans ((Kg hf).trans h)
theorem Yw {k N:Nat}{d:FD}{as J:LA}(hU:UU k=some d)(hN:1<=N)(hf:d.frame as=some J)(hnc:AV.ncs as=true)(h:(evSs (RN (N-1)) d.body J []).out=.ok v H')(hv:v.nc=true)(H:AH):(RN N).l k as H=.ok v H:=by
 cases N with
 | zero=>exact absurd hN (Nat.not_succ_le_zero 0)
 | succ n=>exact (congrArg (Out.opt · (pureG (RN n) as H)) hU).trans (qY hf hnc h hv H)
theorem QbJ {o:OS}{k k':LA->AH->OS}(h:∀J H,k J H≠.stuck->k' J H=k J H)(g:o.lp k≠.stuck):o.lp k'=o.lp k:=by
 cases o with
 | ok f J H=>cases f<;>first | exact h J H g | rfl
 | _=>rfl
theorem qZ {r:Out Bool}{b k k':LA->AH->OS}(h:∀J H,k J H≠.stuck->k' J H=k J H)(g:whK r J b k≠.stuck):whK r J b k'=whK r J b k:=by
 cases r with
 | ok c H =>
  cases c with
  | false=>rfl
  | true=>exact QbJ h g
 | _=>rfl
theorem jb {t:LA->AH->Out Bool}{b:LA->AH->OS}(h:whileN t b n J H≠.stuck)(k:Nat):whileN t b (n+k) J H=whileN t b n J H:=by
 induction n generalizing J H with
 | zero=>exact absurd rfl h
 | succ n ih=>rw[Nat.succ_add]; exact qZ (λJ H=>ih) h
theorem Wf {t:LA->AH->Out Bool}{b:LA->AH->OS}{r:OS}(h:whileN t b n J H=r)(hr:r≠.stuck):whileO t b J H=r:=by
 have hn:whileN t b n J H≠.stuck:=by rw[h]; exact hr
 have he:∃n,whileN t b n J H≠.stuck:=⟨n,hn⟩;unfold whileO;rw[dif_pos he];have hc:=Classical.choose_spec he;rcases Nat.le_total n (Classical.choose he) with q | q
 ·obtain⟨k,hk⟩:=Nat.exists_eq_add_of_le q
  rw[hk,jb hn k,h]
 ·obtain⟨k,hk⟩:=Nat.exists_eq_add_of_le q
  have:=jb hc k;rw[<-hk,h] at this;exact this.symm
noncomputable def setAV (v:AV):Bool:=!v.isU
theorem QbK:setAV .none=true:=rfl
theorem set_bool (b:Bool):setAV (.bool b)=true:=rfl
theorem set_int (i:Int):setAV (.int i)=true:=rfl
theorem set_str (s:String):setAV (.str s)=true:=rfl
theorem QbL (l:LA):setAV (.tup l)=true:=rfl
theorem QbM (l:LA):setAV (.lst l)=true:=rfl
theorem QbN (k:List String)(l:LA):setAV (.dct k l)=true:=rfl
theorem QbO (D:Nat)(k:List String)(l:LA):setAV (.obj D k l)=true:=rfl
theorem QbP (i:Nat):setAV (.cell i)=true:=rfl
theorem QbQ (i:Nat):setAV (.kref i)=true:=rfl
theorem QbR (i:Nat):setAV (.lam i)=true:=rfl
noncomputable def locK (H:AH)(o:Option AV):Out AV:=.opt (o.bind AV.set?) λv=>.ok v H
theorem lo_n:locK H (some .none)=.ok .none H:=rfl
theorem lo_b (x:Bool):locK H (some (.bool x))=.ok (.bool x) H:=rfl
theorem lo_i (x:Int):locK H (some (.int x))=.ok (.int x) H:=rfl
theorem lo_s (x:String):locK H (some (.str x))=.ok (.str x) H:=rfl
theorem lo_t (x:LA):locK H (some (.tup x))=.ok (.tup x) H:=rfl
theorem lo_l (x:LA):locK H (some (.lst x))=.ok (.lst x) H:=rfl
theorem lo_d (k:List String)(x:LA):locK H (some (.dct k x))=.ok (.dct k x) H:=rfl
theorem lo_o (D:Nat)(k:List String)(x:LA):locK H (some (.obj D k x))=.ok (.obj D k x) H:=rfl
theorem lo_c (x:Nat):locK H (some (.cell x))=.ok (.cell x) H:=rfl
theorem lo_k (x:Nat):locK H (some (.kref x))=.ok (.kref x) H:=rfl
theorem lo_r (x y:Int):locK H (some (.rng x y))=.ok (.rng x y) H:=rfl
theorem lo_m (x:Nat):locK H (some (.lam x))=.ok (.lam x) H:=rfl
theorem lo_h (h:setAV v=true):locK H (some v)=.ok v H:=by
 show Out.opt (bif v.isU then none else some v) _=_;rw[Bool.not_eq_true' v.isU |>.mp h];rfl
noncomputable def binK (o:Op)(x:AV)(r:Out AV):Out AV:=r.bind λy H=>.ofOpt (pBin o x y) H
noncomputable def binS (C:Orc)(J:LA)(o:Op)(b:PE)(r:Out AV):Out AV:=r.bind λx H=>binK o x (evE C J b H)
noncomputable def cmpK (c:Cm)(x:AV)(r:Out AV):Out AV:=r.bind λy H=>.ofOpt ((pCmp H c x y).map .bool) H
noncomputable def cmpS (C:Orc)(J:LA)(c:Cm)(b:PE)(r:Out AV):Out AV:=r.bind λx H=>cmpK c x (evE C J b H)
noncomputable def subK (x:AV)(r:Out AV):Out AV:=r.bind λy H=>.ofOpt (pSub H x y) H
noncomputable def subS (C:Orc)(J:LA)(i:PE)(r:Out AV):Out AV:=r.bind λx H=>subK x (evE C J i H)
noncomputable def ifeK (C:Orc)(J:LA)(a b:PE)(H:AH)(o:Option Bool):Out AV:=.opt o λt=>bif t then evE C J a H else evE C J b H
noncomputable def ifeS (C:Orc)(J:LA)(a b:PE)(r:Out AV):Out AV:=r.bind λc H=>ifeK C J a b H (pTruth c)
noncomputable def anK (C:Orc)(J:LA)(l:List PE)(v:AV)(H:AH)(o:Option Bool):Out AV:=boK true (evAnd C J l H) v H o
noncomputable def andS (C:Orc)(J:LA)(l:List PE)(r:Out AV):Out AV:=r.bind λv H=>anK C J l v H (pTruth v)
noncomputable def orKK (C:Orc)(J:LA)(l:List PE)(v:AV)(H:AH)(o:Option Bool):Out AV:=boK false (evOr C J l H) v H o
noncomputable def orS (C:Orc)(J:LA)(l:List PE)(r:Out AV):Out AV:=r.bind λv H=>orKK C J l v H (pTruth v)
noncomputable def consK (v:AV)(r:Out (LA)):Out (LA):=r.bind λl H=>.ok (v::l) H
noncomputable def consS (C:Orc)(J:LA)(l:List PE)(r:Out AV):Out (LA):=r.bind λv H=>consK v (evL C J l H)
noncomputable def callS (C:Orc)(a:Nat)(r:Out (LA)):Out AV:=r.bind λvs H=>C.f a vs H
noncomputable def calS (C:Orc)(v:AV)(r:Out (LA)):Out AV:=r.bind λvs H=>callV C v vs H
noncomputable def fnS (C:Orc)(J:LA)(as:List PE)(r:Out AV):Out AV:=r.bind λv H=>if v.isFn=true then calS C v (evL C J as H) else .stuck
noncomputable def newR (H:AH)(r:Out AV):Out AV:=r.bind λr H'=>match r with | .none=>.ok (.cell H.length) H' | _=>.stuck
noncomputable def newS (C:Orc)(D i:Nat)(r:Out (LA)):Out AV:=r.bind λvs H=>newR H (C.f i (.cell H.length::vs) (H++[.obj D [] []]))
noncomputable def atK (n:String)(H:AH)(o:Option (Nat × List String × LA)):Out AV:=.opt o λq=>.ofOpt (keyAt q.2.1 q.2.2 n) H
noncomputable def atS (n:String)(r:Out AV):Out AV:=r.bind λv H=>atK n H (objOf H v)
noncomputable def meC (C:Orc)(f:Nat)(v:AV)(r:Out (LA)):Out AV:=r.bind λvs H=>C.f f (v::vs) H
noncomputable def meK (C:Orc)(J:LA)(D f:Nat)(as:List PE)(v:AV)(H:AH)(o:Option (Nat × List String × LA)):Out AV:=.opt o λq=>if q.1=D then meC C f v (evL C J as H) else .stuck
noncomputable def meS (C:Orc)(J:LA)(D f:Nat)(as:List PE)(r:Out AV):Out AV:=r.bind λv H=>meK C J D f as v H (objOf H v)
noncomputable def puW (i:Nat)(y:AV)(H:AH)(o:Option AC):Out AV:=.opt (o.bind AC.lst?) λl=>if l.length<=100000 then .ok .none (H.set i (.lst (l++[y]))) else .stuck
noncomputable def puE (i:Nat)(r:Out AV):Out AV:=r.bind λy H=>puW i y H H[i]?
noncomputable def puK (C:Orc)(J:LA)(x:PE)(i:Nat)(H:AH)(o:Option (LA)):Out AV:=.opt o λ_=>puE i (evE C J x H)
noncomputable def puS (C:Orc)(J:LA)(x:PE)(r:Out AV):Out AV:=r.bind λv H=>.opt v.cell? λi=>puK C J x i H (lstOf H v)
noncomputable def leK (H:AH)(o:Option (LA)):Out AV:=.opt o λl=>if l.length<=1000000 then .ok (.int l.length) H else .stuck
noncomputable def leS (r:Out AV):Out AV:=r.bind λv H=>leK H (seqOf H v)
noncomputable def neS (r:Out AV):Out AV:=r.bind λx H=>.opt x.int? λi=>.ok (.int (-i)) H
noncomputable def abS (r:Out AV):Out AV:=r.bind λx H=>.opt x.int? λi=>.ok (.int i.natAbs) H
noncomputable def ntS (r:Out AV):Out AV:=r.bind λx H=>.ofOpt ((pTruth x).map λb=>.bool !b) H
noncomputable def miK (x:AV)(r:Out AV):Out AV:=r.bind λy H=>.opt x.int? λi=>.opt y.int? λj=>.ok (.int (if j<i then j else i)) H
noncomputable def miS (C:Orc)(J:LA)(b:PE)(r:Out AV):Out AV:=r.bind λx H=>miK x (evE C J b H)
noncomputable def raS (r:Out AV):Out AV:=r.bind λx H=>.opt x.int? λi=>if i.natAbs<1000000 then .ok (.rng 0 i) H else .stuck
noncomputable def rbK (x:AV)(r:Out AV):Out AV:=r.bind λy H=>.opt x.int? λi=>.opt y.int? λj=>if i.natAbs<1000000/\j.natAbs<1000000 then .ok (.rng i j) H else .stuck
noncomputable def rbS (C:Orc)(J:LA)(b:PE)(r:Out AV):Out AV:=r.bind λx H=>rbK x (evE C J b H)
noncomputable def liS (mu:Bool)(r:Out AV):Out AV:=r.bind λx H=>.opt x.lst? λl=>if l.length<=100000 then newC H mu l else .stuck
noncomputable def iiK (D:Nat)(H:AH)(o:Option (Nat × List String × LA)):Out AV:=.opt o λq=>if q.1=D then .ok (.bool true) H else .stuck
noncomputable def iiS (D:Nat)(r:Out AV):Out AV:=r.bind λx H=>iiK D H (objOf H x)
noncomputable def lsS (mu:Bool)(r:Out (LA)):Out AV:=r.bind λvs H=>newC H mu vs
noncomputable def tuS (r:Out (LA)):Out AV:=r.bind λvs H=>.ok (.tup vs) H
noncomputable def diS (ks:List String)(mu:Bool)(r:Out (LA)):Out AV:=r.bind λvs H=>if ks.length=vs.length/\ks.Nodup then (if mu then .ok (.cell H.length) (H++[.dct ks vs]) else .ok (.dct ks vs) H) else .stuck
noncomputable def dgK (ks:List String)(vs:LA)(r:Out AV):Out AV:=r.bind λx H=>.opt x.str? λs=>.ok ((keyAt ks vs s).getD .none) H
noncomputable def dgS (C:Orc)(J:LA)(k:PE)(r:Out AV):Out AV:=r.bind λv H=>.opt v.dct? λq=>dgK q.1 q.2 (evE C J k H)
noncomputable def fzS (r:Out AV):Out AV:=r.bind λv H=>pFrz H v
noncomputable def caK (v:AV)(r:Out AV):Out AV:=r.bind λx H=>.opt v.lst? λl=>.opt x.lst? λr=>if l.length+r.length<=1000000 then .ok (.lst (l++r)) H else .stuck
noncomputable def caS (C:Orc)(J:LA)(b:PE)(r:Out AV):Out AV:=r.bind λv H=>caK v (evE C J b H)
noncomputable def reK (mu:Bool)(v:AV)(r:Out AV):Out AV:=r.bind λx H=>.opt x.int? λk=>if 0<=k/\k<100000 then newC H mu (List.replicate k.toNat v) else .stuck
noncomputable def reS (C:Orc)(J:LA)(n:PE)(mu:Bool)(r:Out AV):Out AV:=r.bind λv H=>reK mu v (evE C J n H)
noncomputable def trS (r:Out AV):Out Bool:=r.bind λv H=>.ofOpt (pTruth v) H
noncomputable def seqS (C:Orc)(q:List PS)(r:OS):OS:=r.bind (Fl.nx (evSs C q))
noncomputable def iteS (C:Orc)(J:LA)(a b:List PS)(r:Out Bool):OS:=r.st J λc H=>if c=true then evSs C a J H else evSs C b J H
noncomputable def asgS (C:Orc)(J:LA)(t:PT)(r:Out AV):OS:=r.st J λv H=>asg C t v J H
noncomputable def retS (J:LA)(r:Out AV):OS:=r.st J λv H=>.ok (.ret v) J H
noncomputable def auW (J:LA)(k:Nat)(H:AH)(o:Option AV):OS:=obT o λv=>.ok .next (J.set k v) H
noncomputable def auK (J:LA)(k:Nat)(o:Op)(x:AV)(r:Out AV):OS:=r.st J λy H=>auW J k H (pBin o x y)
noncomputable def auS (C:Orc)(J:LA)(k:Nat)(o:Op)(e:PE)(r:Out AV):OS:=r.st J λx H=>auK J k o x (evE C J e H)
noncomputable def exS (J:LA)(r:Out AV):OS:=r.st J λv H=>obT v.drop? λ_=>.ok .next J H
noncomputable def rsS (J:LA)(r:Out AV):OS:=r.st J λv H=>.exc v J H
noncomputable def hW (J:LA)(o:Option AH):OS:=obT o λH=>.ok .next J H
noncomputable def saS (n:String)(v:AV)(J:LA)(r:Out AV):OS:=r.st J λx H=>hW J (Internal.setAttr H x n v)
noncomputable def ssK (x v:AV)(J:LA)(r:Out AV):OS:=r.st J λy H=>hW J (setSub H x y v)
noncomputable def ssS (C:Orc)(i:PE)(v:AV)(J:LA)(r:Out AV):OS:=r.st J λx H=>ssK x v J (evE C J i H)
noncomputable def asK (C:Orc)(ts:List PT)(l:LA)(r:OS):OS:=r.bind λ_ J H=>asgs C ts l J H
theorem o_l (l:LA)(f:LA->Out α):Out.opt (AV.lst? (.lst l)) f=f l:=rfl
theorem o_i (i:Int)(f:Int->Out α):Out.opt (AV.int? (.int i)) f=f i:=rfl
theorem n_0:AV.isNone .none=some true:=rfl
theorem n_b (b:Bool):AV.isNone (.bool b)=some false:=rfl
theorem n_i (i:Int):AV.isNone (.int i)=some false:=rfl
theorem n_s (s:String):AV.isNone (.str s)=some false:=rfl
theorem n_t (l:LA):AV.isNone (.tup l)=some false:=rfl
theorem n_l (l:LA):AV.isNone (.lst l)=some false:=rfl
theorem n_d (k:List String)(l:LA):AV.isNone (.dct k l)=some false:=rfl
theorem n_o (D:Nat)(k:List String)(l:LA):AV.isNone (.obj D k l)=some false:=rfl
theorem n_c (i:Nat):AV.isNone (.cell i)=some false:=rfl
theorem n_k (i:Nat):AV.isNone (.kref i)=some false:=rfl
theorem ks_n (n:String)(x:AV):Qj [] [] n x=([n],[x]):=rfl
theorem ks_c (k:String)(ks:List String)(v:AV)(vs:LA)(n:String)(x:AV):Qj (k::ks) (v::vs) n x=if k=n then (k::ks,x::vs) else (k::(Qj ks vs n x).1,v::(Qj ks vs n x).2):=rfl
theorem jc (o:Op)(x y:AV):binK o x (.ok y H)=.ofOpt (pBin o x y) H:=rfl
theorem jd (o:Op)(b:PE)(x:AV):binS C J o b (.ok x H)=binK o x (evE C J b H):=rfl
theorem k_cmp (c:Cm)(x y:AV):cmpK c x (.ok y H)=.ofOpt ((pCmp H c x y).map .bool) H:=rfl
theorem QbS (c:Cm)(b:PE)(x:AV):cmpS C J c b (.ok x H)=cmpK c x (evE C J b H):=rfl
theorem k_sub (x y:AV):subK x (.ok y H)=.ofOpt (pSub H x y) H:=rfl
theorem QbT (i:PE)(x:AV):subS C J i (.ok x H)=subK x (evE C J i H):=rfl
theorem k_ifS (a b:PE)(c:AV):ifeS C J a b (.ok c H)=ifeK C J a b H (pTruth c):=rfl
theorem k_ift (a b:PE):ifeK C J a b H (some true)=evE C J a H:=rfl
theorem k_iff (a b:PE):ifeK C J a b H (some false)=evE C J b H:=rfl
theorem k_anS (l:List PE)(v:AV):andS C J l (.ok v H)=anK C J l v H (pTruth v):=rfl
theorem k_ant (l:List PE)(v:AV):anK C J l v H (some true)=evAnd C J l H:=rfl
theorem k_anf (l:List PE)(v:AV):anK C J l v H (some false)=.ok v H:=rfl
theorem k_orS (l:List PE)(v:AV):orS C J l (.ok v H)=orKK C J l v H (pTruth v):=rfl
theorem k_orf (l:List PE)(v:AV):orKK C J l v H (some false)=evOr C J l H:=rfl
theorem k_ort (l:List PE)(v:AV):orKK C J l v H (some true)=.ok v H:=rfl
theorem k_con (v:AV)(l:LA):consK v (.ok l H)=.ok (v::l) H:=rfl
theorem QbU (l:List PE)(v:AV):consS C J l (.ok v H)=consK v (evL C J l H):=rfl
theorem QbV (v:AV):consK v (.exc m H)=.exc m H:=rfl
theorem QbW (l:List PE):consS C J l (.exc m H)=.exc m H:=rfl
theorem k_cal (a:Nat)(vs:LA):callS C a (.ok vs H)=C.f a vs H:=rfl
theorem QbX (a:Nat):callS C a (.exc m H)=.exc m H:=rfl
theorem k_fnk (as:List PE)(a:Nat):fnS C J as (.ok (.kref a) H)=calS C (.kref a) (evL C J as H):=rfl
theorem k_fnl (as:List PE)(a:Nat):fnS C J as (.ok (.lam a) H)=calS C (.lam a) (evL C J as H):=rfl
theorem k_cak (a:Nat)(vs:LA):calS C (.kref a) (.ok vs H)=C.f a vs H:=rfl
theorem k_cam (a:Nat)(vs:LA):calS C (.lam a) (.ok vs H)=C.l a vs H:=rfl
theorem k_caX (v:AV):calS C v (.exc m H)=.exc m H:=rfl
theorem k_new (D i:Nat)(vs:LA):newS C D i (.ok vs H)=newR H (C.f i (.cell H.length::vs) (H++[.obj D [] []])):=rfl
theorem k_neR:newR H (.ok .none H')=.ok (.cell H.length) H':=rfl
theorem k_at (n:String)(v:AV):atS n (.ok v H)=atK n H (objOf H v):=rfl
theorem k_atK (n:String)(D:Nat)(ks:List String)(vs:LA):atK n H (some (D,ks,vs))=.ofOpt (keyAt ks vs n) H:=rfl
theorem k_me (D f:Nat)(as:List PE)(v:AV):meS C J D f as (.ok v H)=meK C J D f as v H (objOf H v):=rfl
theorem k_meK (D f:Nat)(as:List PE)(v:AV)(ks:List String)(vs:LA):meK C J D f as v H (some (D,ks,vs))=meC C f v (evL C J as H):=if_pos rfl
theorem k_meC (f:Nat)(v:AV)(vs:LA):meC C f v (.ok vs H)=C.f f (v::vs) H:=rfl
theorem k_pu (x:PE)(i:Nat):puS C J x (.ok (.cell i) H)=puK C J x i H (lstOf H (.cell i)):=rfl
theorem k_puK (x:PE)(i:Nat)(l:LA):puK C J x i H (some l)=puE i (evE C J x H):=rfl
theorem k_puE (i:Nat)(y:AV):puE i (.ok y H)=puW i y H H[i]?:=rfl
theorem k_puW (i:Nat)(y:AV)(l:LA):puW i y H (some (.lst l))=if l.length<=100000 then .ok .none (H.set i (.lst (l++[y]))) else .stuck:=rfl
theorem k_le (v:AV):leS (.ok v H)=leK H (seqOf H v):=rfl
theorem k_ne (i:Int):neS (.ok (.int i) H)=.ok (.int (-i)) H:=rfl
theorem k_ab (i:Int):abS (.ok (.int i) H)=.ok (.int i.natAbs) H:=rfl
theorem k_nt (v:AV):ntS (.ok v H)=.ofOpt ((pTruth v).map λb=>.bool !b) H:=rfl
theorem k_mi (b:PE)(x:AV):miS C J b (.ok x H)=miK x (evE C J b H):=rfl
theorem k_miK (i j:Int):miK (.int i) (.ok (.int j) H)=.ok (.int (if j<i then j else i)) H:=rfl
theorem k_ra (i:Int):raS (.ok (.int i) H)=if i.natAbs<1000000 then .ok (.rng 0 i) H else .stuck:=rfl
theorem k_rb (b:PE)(x:AV):rbS C J b (.ok x H)=rbK x (evE C J b H):=rfl
theorem k_rbK (i j:Int):rbK (.int i) (.ok (.int j) H)=if i.natAbs<1000000/\j.natAbs<1000000 then .ok (.rng i j) H else .stuck:=rfl
theorem k_li (mu:Bool)(l:LA):liS mu (.ok (.lst l) H)=if l.length<=100000 then newC H mu l else .stuck:=rfl
theorem k_ii (D:Nat)(v:AV):iiS D (.ok v H)=iiK D H (objOf H v):=rfl
theorem k_iiK (D:Nat)(ks:List String)(vs:LA):iiK D H (some (D,ks,vs))=.ok (.bool true) H:=if_pos rfl
theorem k_ls (mu:Bool)(vs:LA):lsS mu (.ok vs H)=newC H mu vs:=rfl
theorem k_tu (vs:LA):tuS (.ok vs H)=.ok (.tup vs) H:=rfl
theorem k_di (ks:List String)(mu:Bool)(vs:LA):diS ks mu (.ok vs H)=if ks.length=vs.length/\ks.Nodup then (if mu then .ok (.cell H.length) (H++[.dct ks vs]) else .ok (.dct ks vs) H) else .stuck:=rfl
theorem k_dg (k:PE)(ks:List String)(vs:LA):dgS C J k (.ok (.dct ks vs) H)=dgK ks vs (evE C J k H):=rfl
theorem k_dgK (ks:List String)(vs:LA)(s:String):dgK ks vs (.ok (.str s) H)=.ok ((keyAt ks vs s).getD .none) H:=rfl
theorem k_fz (v:AV):fzS (.ok v H)=pFrz H v:=rfl
theorem k_ca (b:PE)(x:AV):caS C J b (.ok x H)=caK x (evE C J b H):=rfl
theorem je (l r:LA):caK (.lst l) (.ok (.lst r) H)=if l.length+r.length<=1000000 then .ok (.lst (l++r)) H else .stuck:=rfl
theorem k_re (n:PE)(mu:Bool)(v:AV):reS C J n mu (.ok v H)=reK mu v (evE C J n H):=rfl
theorem k_reK (mu:Bool)(v:AV)(k:Int):reK mu v (.ok (.int k) H)=if 0<=k/\k<100000 then newC H mu (List.replicate k.toNat v) else .stuck:=rfl
theorem k_tr (v:AV):trS (.ok v H)=.ofOpt (pTruth v) H:=rfl
theorem k_trX:trS (.exc m H)=.exc m H:=rfl
theorem k_seq (q:List PS):seqS C q (.ok .next J H)=evSs C q J H:=rfl
theorem q_seq (q:List PS):seqS C q (.ok .next J H)=evSs C q J H:=(rfl)
theorem k_seqC (q:List PS):seqS C q (.ok .cont J H)=.ok .cont J H:=rfl
theorem q_seqC (q:List PS):seqS C q (.ok .cont J H)=.ok .cont J H:=(rfl)
theorem k_seqR (q:List PS)(v:AV):seqS C q (.ok (.ret v) J H)=.ok (.ret v) J H:=rfl
theorem q_seqR (q:List PS)(v:AV):seqS C q (.ok (.ret v) J H)=.ok (.ret v) J H:=(rfl)
theorem k_seqX (q:List PS):seqS C q (.exc m J H)=.exc m J H:=rfl
theorem q_seqX (q:List PS):seqS C q (.exc m J H)=.exc m J H:=(rfl)
theorem k_itt (a b:List PS):iteS C J a b (.ok true H)=evSs C a J H:=rfl
theorem k_itf (a b:List PS):iteS C J a b (.ok false H)=evSs C b J H:=rfl
theorem k_itX (a b:List PS):iteS C J a b (.exc m H)=.exc m J H:=rfl
theorem k_as (t:PT)(v:AV):asgS C J t (.ok v H)=asg C t v J H:=rfl
theorem k_asX (t:PT):asgS C J t (.exc m H)=.exc m J H:=rfl
theorem k_ret (v:AV):retS J (.ok v H)=.ok (.ret v) J H:=rfl
theorem QbY:retS J (.exc m H)=.exc m J H:=rfl
theorem k_au (k:Nat)(o:Op)(e:PE)(x:AV):auS C J k o e (.ok x H)=auK J k o x (evE C J e H):=rfl
theorem k_auK (k:Nat)(o:Op)(x y:AV):auK J k o x (.ok y H)=auW J k H (pBin o x y):=rfl
theorem k_auW (k:Nat)(v:AV):auW J k H (some v)=.ok .next (J.set k v) H:=rfl
theorem k_exn:exS J (.ok .none H)=.ok .next J H:=rfl
theorem k_exi (i:Int):exS J (.ok (.int i) H)=.ok .next J H:=rfl
theorem k_exX:exS J (.exc m H)=.exc m J H:=rfl
theorem k_rs (v:AV):rsS J (.ok v H)=.exc v J H:=rfl
theorem k_hW:hW J (some H)=.ok .next J H:=rfl
theorem k_sa (n:String)(v x:AV):saS n v J (.ok x H)=hW J (Internal.setAttr H x n v):=rfl
theorem k_ss (i:PE)(v x:AV):ssS C i v J (.ok x H)=ssK x v J (evE C J i H):=rfl
theorem k_ssK (x v y:AV):ssK x v J (.ok y H)=hW J (setSub H x y v):=rfl
theorem k_asK (ts:List PT)(l:LA)(f:Fl):asK C ts l (.ok f J H)=asgs C ts l J H:=rfl
noncomputable def lstC (o:Option AC):Option (LA):=o.bind AC.lst?
noncomputable def dctC (o:Option AC):Option (List String × LA):=o.bind AC.dct?
noncomputable def objC (o:Option AC):Option (Nat × List String × LA):=o.bind AC.obj?
theorem h_ll (l:LA):lstOf H (.lst l)=some l:=rfl
theorem h_lc (i:Nat):lstOf H (.cell i)=lstC H[i]?:=rfl
theorem h_lC (l:LA):lstC (some (.lst l))=some l:=rfl
theorem h_dd (k:List String)(l:LA):dctOf H (.dct k l)=some (k,l):=rfl
theorem h_dc (i:Nat):dctOf H (.cell i)=dctC H[i]?:=rfl
theorem h_dC (k:List String)(l:LA):dctC (some (.dct k l))=some (k,l):=rfl
theorem h_oo (D:Nat)(k:List String)(l:LA):objOf H (.obj D k l)=some (D,k,l):=rfl
theorem h_oc (i:Nat):objOf H (.cell i)=objC H[i]?:=rfl
theorem h_oC (D:Nat)(k:List String)(l:LA):objC (some (.obj D k l))=some (D,k,l):=rfl
theorem h_st (l:LA):seqOf H (.tup l)=some l:=rfl
theorem h_sl (l:LA):seqOf H (.lst l)=some l:=rfl
theorem h_sc (i:Nat):seqOf H (.cell i)=lstC H[i]?:=rfl
theorem h_tb (b:Bool):pTruth (.bool b)=some b:=rfl
theorem h_ti (i:Int):pTruth (.int i)=some (i != 0):=rfl
theorem h_key (k:String)(ks:List String)(v:AV)(vs:LA)(n:String):keyAt (k::ks) (v::vs) n=if k=n then some v else keyAt ks vs n:=rfl
theorem h_kn (vs:LA)(n:String):keyAt [] vs n=none:=rfl
theorem h_v4 (a b c d e:AV):keyAt ["kind","items","attrs","shared","loose"] [a,b,c,d,e] "shared"=some d:=rfl
theorem h_v5 (a b c d e:AV):keyAt ["kind","items","attrs","shared","loose"] [a,b,c,d,e] "loose"=some e:=rfl
theorem h_m1 (a b c d:AV):keyAt ["formals","tags","used","places"] [a,b,c,d] "formals"=some a:=rfl
theorem h_m2 (a b c d:AV):keyAt ["formals","tags","used","places"] [a,b,c,d] "tags"=some b:=rfl
theorem h_m3 (a b c d:AV):keyAt ["formals","tags","used","places"] [a,b,c,d] "used"=some c:=rfl
theorem h_m4 (a b c d:AV):keyAt ["formals","tags","used","places"] [a,b,c,d] "places"=some d:=rfl
theorem h_v1 (a b c d e:AV):keyAt ["kind","items","attrs","shared","loose"] [a,b,c,d,e] "kind"=some a:=rfl
theorem h_v2 (a b c d e:AV):keyAt ["kind","items","attrs","shared","loose"] [a,b,c,d,e] "items"=some b:=rfl
theorem h_v3 (a b c d e:AV):keyAt ["kind","items","attrs","shared","loose"] [a,b,c,d,e] "attrs"=some c:=rfl
theorem QbZ (l:LA):newC H true l=.ok (.cell H.length) (H++[.lst l]):=rfl
theorem Qb0 (l:LA):newC H false l=.ok (.lst l) H:=rfl
noncomputable def fzC (H:AH)(i:Nat)(o:Option AC):Out AV:=.opt o (fzA H i)
theorem h_fz (i:Nat):pFrz H (.cell i)=fzC H i H[i]?:=(rfl)
theorem h_fl (i:Nat)(l:LA):fzC H i (some (.lst l))=if AV.ncs l=true then .ok (.lst l) (H.set i .dead) else .stuck:=(rfl)
theorem h_fd (i:Nat)(ks:List String)(l:LA):fzC H i (some (.dct ks l))=if AV.ncs l=true then .ok (.dct ks l) (H.set i .dead) else .stuck:=(rfl)
theorem h_fo (i D:Nat)(ks:List String)(l:LA):fzC H i (some (.obj D ks l))=if AV.ncs l=true then .ok (.obj D ks l) (H.set i .dead) else .stuck:=(rfl)
theorem h_fL (l:LA):pFrz H (.lst l)=.ok (.lst l) H:=rfl
theorem h_fD (k:List String)(l:LA):pFrz H (.dct k l)=.ok (.dct k l) H:=rfl
theorem h_fO (D:Nat)(k:List String)(l:LA):pFrz H (.obj D k l)=.ok (.obj D k l) H:=rfl
theorem h_fN:pFrz H .none=.ok .none H:=rfl
noncomputable def saC (H:AH)(c:Nat)(n:String)(v:AV)(o:Option AC):Option AH:=(o.bind AC.obj?).bind λq=>if attrC q.1 n=true/\q.2.1.length<=100 then some (H.set c (.obj q.1 (Qj q.2.1 q.2.2 n v).1 (Qj q.2.1 q.2.2 n v).2)) else none
theorem h_sa (c:Nat)(n:String)(v:AV):setAttr H (.cell c) n v=saC H c n v H[c]?:=rfl
theorem h_sA (c D:Nat)(n:String)(v:AV)(ks:List String)(vs:LA):saC H c n v (some (.obj D ks vs))=if attrC D n=true/\ks.length<=100 then some (H.set c (.obj D (Qj ks vs n v).1 (Qj ks vs n v).2)) else none:=rfl
noncomputable def siC (H:AH)(c:Nat)(k:Int)(v:AV)(o:Option AC):Option AH:=(o.bind AC.lst?).bind λl=>if 0<=k/\k<l.length/\l.length<=1000000 then some (H.set c (.lst (l.set k.toNat v))) else none
noncomputable def skC (H:AH)(c:Nat)(s:String)(v:AV)(o:Option AC):Option AH:=(o.bind AC.dct?).bind λq=>if q.1.length<=100 then some (H.set c (.dct (Qj q.1 q.2 s v).1 (Qj q.1 q.2 s v).2)) else none
theorem h_si (c:Nat)(k:Int)(v:AV):setSub H (.cell c) (.int k) v=siC H c k v H[c]?:=rfl
theorem h_sk (c:Nat)(s:String)(v:AV):setSub H (.cell c) (.str s) v=skC H c s v H[c]?:=rfl
theorem h_sK (c:Nat)(s:String)(v:AV)(ks:List String)(vs:LA):skC H c s v (some (.dct ks vs))=if ks.length<=100 then some (H.set c (.dct (Qj ks vs s v).1 (Qj ks vs s v).2)) else none:=rfl
noncomputable def forL (C:Orc)(t:List Nat)(one:Bool)(b:List PS):LA->LA->AH->OS:=loopS λx J H=>obT (bindT t one x J) λJ=>evSs C b J H
noncomputable def forK (C:Orc)(t:List Nat)(one:Bool)(b:List PS)(l:LA)(o:OS):OS:=o.lp (forL C t one b l)
noncomputable def forS (C:Orc)(t:List Nat)(one:Bool)(b:List PS)(J:LA)(r:Out AV):OS:=r.st J λv H=>forI (forL C t one b) J H (itemsOf v)
theorem jf (C:Orc)(t:List Nat)(one:Bool)(b:List PS)(J:LA)(v:AV)(H:AH):forS C t one b J (.ok v H)=forI (forL C t one b) J H (itemsOf v):=rfl
theorem jg (g:LA->LA->AH->OS)(J:LA)(H:AH)(l:LA):forI g J H (some l)=g l J H:=rfl
theorem Qb1 (C:Orc)(t:List Nat)(one:Bool)(b:List PS)(l J:LA)(H:AH):forK C t one b l (.ok .next J H)=forL C t one b l J H:=rfl
theorem Qb2 (C:Orc)(t:List Nat)(one:Bool)(b:List PS)(l J:LA)(H:AH):forK C t one b l (.ok .cont J H)=forL C t one b l J H:=rfl
theorem Qb3 (C:Orc)(t:List Nat)(one:Bool)(b:List PS)(l J:LA)(v:AV)(H:AH):forK C t one b l (.ok (.ret v) J H)=.ok (.ret v) J H:=rfl
theorem Qb4 (C:Orc)(t:List Nat)(one:Bool)(b:List PS)(J:LA)(H:AH):forL C t one b [] J H=.ok .next J H:=rfl
theorem Qb5 (C:Orc)(k:Nat)(b:List PS)(x:AV)(l J:LA)(H:AH):forL C [k] true b (x::l) J H=forK C [k] true b l (evSs C b (J.set k x) H):=rfl
theorem JD (k:Nat):evE C J (.loc k) H=locK H J[k]?:=rfl
theorem e_non:evE C J .non H=.ok .none H:=rfl
theorem e_tru (b:Bool):evE C J (.tru b) H=.ok (.bool b) H:=rfl
theorem Vv (i:Int):evE C J (.int i) H=.ok (.int i) H:=rfl
theorem Wg (s:String):evE C J (.str s) H=.ok (.str s) H:=rfl
theorem Qb6 (s:String)(v:AV):evE C J (.glob s v) H=.ok v H:=rfl
theorem jh (o:Op)(a b:PE):evE C J (.bin o a b) H=binS C J o b (evE C J a H):=rfl
theorem e_neg (a:PE):evE C J (.neg a) H=neS (evE C J a H):=rfl
theorem e_cmp (c:Cm)(a b:PE):evE C J (.cmp c a b) H=cmpS C J c b (evE C J a H):=rfl
theorem e_nt (a:PE):evE C J (.nt a) H=ntS (evE C J a H):=rfl
theorem e_and (e:PE)(l:List PE):evE C J (.and (e::l)) H=evAnd C J (e::l) H:=rfl
theorem e_or (e:PE)(l:List PE):evE C J (.or (e::l)) H=evOr C J (e::l) H:=rfl
theorem e_ife (t a b:PE):evE C J (.ife t a b) H=ifeS C J a b (evE C J t H):=rfl
theorem Qb7 (f:PE)(as:List PE):evE C J (.call f as) H=fnS C J as (evE C J f H):=rfl
theorem e_callG (s:String)(a:Nat)(as:List PE):evE C J (.call (.glob s (.kref a)) as) H=callS C a (evL C J as H):=rfl
theorem e_new (s:String)(D i:Nat)(as:List PE):evE C J (.new s D i as) H=newS C D i (evL C J as H):=rfl
theorem Qb8 (o:PE)(n:String):evE C J (.attr o n) H=atS n (evE C J o H):=rfl
theorem Qb9 (o:PE)(D:Nat)(s:String)(f:Nat)(as:List PE):evE C J (.meth o D s f as) H=meS C J D f as (evE C J o H):=rfl
theorem Qca (o x:PE):evE C J (.push o x) H=puS C J x (evE C J o H):=rfl
theorem e_sub (o i:PE):evE C J (.sub o i) H=subS C J i (evE C J o H):=rfl
theorem e_len (a:PE):evE C J (.len a) H=leS (evE C J a H):=rfl
theorem e_abs (a:PE):evE C J (.abs a) H=abS (evE C J a H):=rfl
theorem e_min (a b:PE):evE C J (.min a b) H=miS C J b (evE C J a H):=rfl
theorem Qcb (a:PE):evE C J (.range1 a) H=raS (evE C J a H):=rfl
theorem Qcc (a b:PE):evE C J (.range a b) H=rbS C J b (evE C J a H):=rfl
theorem Qcd (a:PE)(mu:Bool):evE C J (.list a mu) H=liS mu (evE C J a H):=rfl
theorem Qce (a:PE)(s:String)(D:Nat):evE C J (.isinst a s D) H=iiS D (evE C J a H):=rfl
theorem e_lst (l:List PE)(mu:Bool):evE C J (.lst l mu) H=lsS mu (evL C J l H):=rfl
theorem e_tup (l:List PE):evE C J (.tup l) H=tuS (evL C J l H):=rfl
theorem e_dct (ks:List String)(l:List PE)(mu:Bool):evE C J (.dct ks l mu) H=diS ks mu (evL C J l H):=rfl
theorem Qcf (o k:PE):evE C J (.dget o k) H=dgS C J k (evE C J o H):=rfl
theorem Vw (e:PE)(gs:List PG)(mu:Bool):evE C J (.comp e gs mu) H=if clrOk gs J=true then (evG C (λJ H=>evE C J e H) gs J [] H).bind λvs H=>newC H mu vs else .stuck:=rfl
theorem e_lam (k:Nat):evE C J (.lam k) H=.ok (.lam k) H:=rfl
theorem e_frz (a:PE):evE C J (.frz a) H=fzS (evE C J a H):=rfl
theorem ji (a b:PE):evE C J (.cat a b) H=caS C J b (evE C J a H):=rfl
theorem e_rep (o n:PE)(mu:Bool):evE C J (.rep o n mu) H=reS C J n mu (evE C J o H):=rfl
theorem e_tr (e:PE):evT C J e H=trS (evE C J e H):=rfl
theorem l_nil:evL C J [] H=.ok [] H:=rfl
theorem Qcg (e:PE)(l:List PE):evL C J (e::l) H=consS C J l (evE C J e H):=rfl
theorem s_asg (t:PT)(e:PE):evS C (.asg t e) J H=asgS C J t (evE C J e H):=rfl
theorem s_aug (k:Nat)(o:Op)(e:PE):evS C (.aug k o e) J H=auS C J k o e (evE C J (.loc k) H):=rfl
theorem s_exp (e:PE):evS C (.exp e) J H=exS J (evE C J e H):=rfl
theorem s_ret (e:PE):evS C (.ret e) J H=retS J (evE C J e H):=rfl
theorem Qch:evS C .ret0 J H=.ok (.ret .none) J H:=rfl
theorem s_ite (t:PE)(a b:List PS):evS C (.ite t a b) J H=iteS C J a b (evT C J t H):=rfl
theorem Vx (t:PE)(b:List PS):evS C (.whl t b) J H=whileO (λJ H=>evT C J t H) (λJ H=>evSs C b J H) J H:=rfl
theorem jj (t:List Nat)(one:Bool)(it:PE)(b:List PS):evS C (.for_ t one it b) J H=forS C t one b J (evE C J it H):=rfl
theorem Qci (e:PE):evS C (.raise e) J H=rsS J (evE C J e H):=rfl
theorem Qcj:evS C .cont J H=.ok .cont J H:=rfl
theorem jk:evSs C [] J H=.ok .next J H:=rfl
theorem ss_cons (p:PS)(r:List PS):evSs C (p::r) J H=seqS C r (evS C p J H):=rfl
theorem q_cons (p:PS)(r:List PS):evSs C (p::r) J H=seqS C r (evS C p J H):=(rfl)
theorem a_loc (k:Nat)(v:AV):asg C (.loc k) v J H=.ok .next (J.set k v) H:=rfl
theorem a_tup (ts:List PT)(l:LA):asg C (.tup ts) (.tup l) J H=if l.length=ts.length then asgs C ts l J H else .stuck:=rfl
theorem Qck (ts:List PT)(l:LA):asg C (.tup ts) (.lst l) J H=if l.length=ts.length then asgs C ts l J H else .stuck:=rfl
theorem Qcl (o:PE)(n:String)(v:AV):asg C (.attr o n) v J H=saS n v J (evE C J o H):=rfl
theorem a_sub (o i:PE)(v:AV):asg C (.sub o i) v J H=ssS C i v J (evE C J o H):=rfl
theorem Qcm (l:LA):asgs C [] l J H=.ok .next J H:=rfl
theorem Qcn (t:PT)(ts:List PT)(v:AV)(l:LA):asgs C (t::ts) (v::l) J H=asK C ts l (asg C t v J H):=rfl
theorem Qco (C:Orc)(J:LA)(e:PE)(H:AH):evAnd C J [e] H=evE C J e H:=rfl
theorem Qcp (C:Orc)(J:LA)(e e':PE)(l:List PE)(H:AH):evAnd C J (e::e'::l) H=andS C J (e'::l) (evE C J e H):=rfl
theorem Qcq (C:Orc)(J:LA)(e:PE)(H:AH):evOr C J [e] H=evE C J e H:=rfl
theorem Qcr (C:Orc)(J:LA)(e e':PE)(l:List PE)(H:AH):evOr C J (e::e'::l) H=orS C J (e'::l) (evE C J e H):=rfl
theorem Vy {t:LA->AH->Out Bool}{b:LA->AH->OS}(h:whileO t b J H≠.stuck):∃n,whileN t b n J H=whileO t b J H:=by
 by_cases he:∃n,whileN t b n J H≠.stuck
 ·unfold whileO
  refine (dif_pos he) ▸ ?_;exact⟨_,rfl⟩
 ·exact absurd (by unfold whileO; rw[dif_neg he]) h
theorem lp_ex {o:OS}{t:LA->AH->Out Bool}{b:LA->AH->OS}(g:o.lp (whileO t b)≠.stuck):∃n,o.lp (whileN t b n)=o.lp (whileO t b):=by
 cases o with
 | ok f J H=>cases f<;>first | exact Vy g | exact⟨0,rfl⟩
 | _=>exact⟨0,rfl⟩
theorem Qcs (t:LA->AH->Out Bool)(b:LA->AH->OS)(J:LA)(H:AH):whileO t b J H=whK (t J H) J b (whileO t b):=by
 by_cases hs:whK (t J H) J b (whileO t b)=.stuck
 ·rw[hs]
  refine Classical.byContradiction λhne=>?_
  obtain⟨n,e⟩:=Vy hne;rw[<-e] at hne;cases n with
  | zero=>exact hne rfl
  | succ n=>exact hne ((qZ (λJ H h=>Wf rfl h) hne).symm.trans hs)
 ·have h:∃n,whK (t J H) J b (whileN t b n)=whK (t J H) J b (whileO t b):=by
   revert hs
   cases t J H with
   | ok c H=>cases c<;>first | exact lp_ex | exact λ_=>⟨0,rfl⟩
   | _=>exact λ_=>⟨0,rfl⟩
  obtain⟨n,e⟩:=h;exact Wf (n:=n+1) e hs
theorem jl {t:LA->AH->Out Bool}{b:LA->AH->OS}{H H_1:AH}(h:t J H=.ok false H_1):whileN t b (n+1) J H=.ok .next J H_1:=congrArg (whK · J b (whileN t b n)) h
theorem jm {t:LA->AH->Out Bool}{b:LA->AH->OS}{J J_2:LA}{H H_1 H_2:AH}(h:t J H=.ok true H_1)(hb:b J H_1=.ok .next J_2 H_2):whileN t b (n+1) J H=whileN t b n J_2 H_2:=(congrArg (whK · J b (whileN t b n)) h).trans (congrArg (OS.lp · (whileN t b n)) hb)
theorem Jj {t:PE}{b:List PS}(h:evT C J t H=.ok false H):evS C (.whl t b) J H=.ok .next J H:=by
 rw[Vx];exact Wf (n:=1) (jl h) nofun
theorem Kh {t:PE}{b:List PS}{r:OS}(h:evT C J t H=.ok true H)(hb:evSs C b J H=.ok .next J' H')(hr:evS C (.whl t b) J' H'=r)(hn:r≠.stuck):evS C (.whl t b) J H=r:=by
 rw[Vx] at hr ⊢;obtain⟨n,e⟩:=Vy (by rw[hr]; exact hn);rw[hr] at e;exact Wf (n:=n+1) ((jm h hb).trans e) hn
theorem Yx {a b:AV}{P:Prop}[Decidable P](ha:AV.data 6 (rd H a)=true)(hb:AV.data 6 (rd H b)=true)(h:rd H a=rd H b↔P):pCmp H .eq a b=some (decide P):=by
 cases e:pCmp H .eq a b with
 | some r=>exact congrArg some ((Nz e).2.symm.trans (Zq h))
 | none =>
  have q:datO H (λx y=>@decide (x=y) (Classical.propDecidable _)) a b=none:=(Option.or_eq_none_iff.mp (Option.or_eq_none_iff.mp e).2).2;unfold datO at q;rw[ha,hb] at q;cases q
theorem Kl {a b:AV}{P:Prop}[Decidable P](ha:AV.data 6 (rd H a)=true)(hb:AV.data 6 (rd H b)=true)(h:rd H a≠rd H b↔P):pCmp H .ne a b=some (decide P):=by
 have nb:a.bool?=none:=by
  cases a with
  | bool b=>exact nf ha
  | _=>rfl
 have e0:pCmp H .ne a b=(int2 (λx y=>some (decide (x≠y))) a b).or ((str2 (λx y=>!(x==y)) a b).or (datO H (λx y=>@decide (x≠y) (@instDecidableNot _ (Classical.propDecidable _))) a b)):=by
  show Option.or (Option.bind a.bool? _) _=_;refine nb ▸ ?_; rfl
 refine e0 ▸ ?_;cases e:(int2 (λx y=>some (decide (x≠y))) a b).or ((str2 (λx y=>!(x==y)) a b).or (datO H (λx y=>@decide (x≠y) (@instDecidableNot _ (Classical.propDecidable _))) a b)) with
 | some r=>exact congrArg some ((NB e).2.symm.trans (Zq h))
 | none =>
  have q:datO H (λx y=>@decide (x≠y) (@instDecidableNot _ (Classical.propDecidable _))) a b=none:=(Option.or_eq_none_iff.mp (Option.or_eq_none_iff.mp e).2).2;unfold datO at q;rw[ha,hb] at q;cases q
theorem c_eq (a b:Int):pCmp H .eq (.int a) (.int b)=some (decide (a=b)):=rfl
theorem c_ne (a b:Int):pCmp H .ne (.int a) (.int b)=some (decide (a≠b)):=rfl
theorem c_lt (a b:Int):pCmp H .lt (.int a) (.int b)=some (decide (a<b)):=rfl
theorem c_le (a b:Int):pCmp H .le (.int a) (.int b)=some (decide (a<=b)):=rfl
theorem c_gt (a b:Int):pCmp H .gt (.int a) (.int b)=some (decide (a>b)):=rfl
theorem c_ge (a b:Int):pCmp H .ge (.int a) (.int b)=some (decide (a>=b)):=rfl
theorem c_is (a:AV):pCmp H .is a .none=a.isNone:=rfl
theorem Qct (a:AV):pCmp H .isnot a .none=a.isNone.map (!·):=rfl
theorem c_eqS (a b:String):pCmp H .eq (.str a) (.str b)=some (a==b):=rfl
theorem c_neS (a b:String):pCmp H .ne (.str a) (.str b)=some (!(a==b)):=rfl
theorem Vz {P Q:Prop}{_:Decidable P}{_:Decidable Q}(h:P↔Q):(!decide P)=decide ¬Q:=by rw[decide_eq_decide.mpr h,<-decide_not]
theorem c_inC (s:String)(i:Nat):pCmp H .isin (.str s) (.cell i)=match dctOf H (.cell i) with | some (ks,_)=>some (decide (s∈ks)) | none=>none:=by
 show memO H s (.cell i)=_;unfold memO;cases dctOf H (.cell i)<;>first | rfl | exact congrArg some (decide_eq_decide.mpr Iff.rfl)
theorem Qcu (s:String)(i:Nat):pCmp H .notin (.str s) (.cell i)=match dctOf H (.cell i) with | some (ks,_)=>some (decide (s ∉ ks)) | none=>none:=by
 show (memO H s (.cell i)).map (!·)=_;unfold memO;cases dctOf H (.cell i)<;>first | rfl | exact congrArg some (Vz Iff.rfl)
theorem c_inD (s:String)(ks:List String)(vs:LA):pCmp H .isin (.str s) (.dct ks vs)=some (decide (s∈ks)):=congrArg some (decide_eq_decide.mpr Iff.rfl)
theorem Qcv (s:String)(ks:List String)(vs:LA):pCmp H .notin (.str s) (.dct ks vs)=some (decide (s ∉ ks)):=congrArg some (Vz Iff.rfl)
theorem c_inT (s a b d:String):pCmp H .isin (.str s) (.tup [.str a,.str b,.str d])=some (decide (s=a\/s=b\/s=d)):=congrArg some (decide_eq_decide.mpr (by simp[ZP]))
theorem Qcw (s a b d:String):pCmp H .notin (.str s) (.tup [.str a,.str b,.str d])=some (decide ¬(s=a\/s=b\/s=d)):=congrArg some (Vz (by simp[ZP]))
theorem QT (a b:Int):pBin .add (.int a) (.int b)=some (.int (a+b)):=rfl
theorem jo (a b:Int):pBin .sub (.int a) (.int b)=some (.int (a-b)):=rfl
theorem Qi {a b:Int}(h:Qg a)(h':Qg b):pBin .mul (.int a) (.int b)=some (.int (a*b)):=if_pos ⟨h,h'⟩
theorem Q7 {a b:Int}(h:b≠0)(h':Qg b):pBin .div (.int a) (.int b)=some (.int (a.fdiv b)):=if_pos ⟨h,h'⟩
theorem Q8 {a b:Int}(h:b≠0)(h':Qg b):pBin .mod (.int a) (.int b)=some (.int (a.fmod b)):=if_pos ⟨h,h'⟩
theorem Qo {a:Int}(h:a.natAbs<2 ^ 64):Qg a:=Nat.lt_of_lt_of_le h (Nat.pow_le_pow_right (by decide) (by decide))
theorem bigN {a:Nat}(h:a<1000000):Qg (a:Int):=Nat.lt_of_lt_of_le (show (a:Int).natAbs<2 ^ 20 by rw[Int.natAbs_natCast]; exact Nat.lt_trans h (by decide)) (Nat.pow_le_pow_right (by decide) (by decide))
theorem Qcx (a b:Nat):pBin .add (.int a) (.int b)=some (.int ((a+b:Nat):Int)):=rfl
theorem Qcy (a:Nat):pBin .add (.int a) (.int 1)=some (.int ((a+1:Nat):Int)):=rfl
theorem Qcz (a:Nat):pBin .add (.int 1) (.int a)=some (.int ((1+a:Nat):Int)):=rfl
theorem QQ {a b:Nat}(h:a<1000000)(h':b<1000000):pBin .mul (.int a) (.int b)=some (.int ((a*b:Nat):Int)):=Qi (bigN h) (bigN h')
theorem VB {a b:Nat}(h:b≠0)(h':b<1000000):pBin .div (.int a) (.int b)=some (.int ((a / b:Nat):Int)):=by
 rw[Q7 (by lia) (bigN h'),Int.fdiv_eq_ediv_of_nonneg _ (by lia)]; rfl
theorem VD {a b:Nat}(h:b≠0)(h':b<1000000):pBin .mod (.int a) (.int b)=some (.int ((a % b:Nat):Int)):=by
 rw[Q8 (by lia) (bigN h'),Int.fmod_eq_emod_of_nonneg _ (by lia)]; rfl
theorem p_key (ks:List String)(vs:LA)(n:String):pSub H (.dct ks vs) (.str n)=keyAt ks vs n:=rfl
theorem QcA (i:Nat)(n:String):pSub H (.cell i) (.str n)=(dctOf H (.cell i)).bind λq=>keyAt q.1 q.2 n:=rfl
theorem jq {a b:Nat}:itemsOf (.rng a b)=some ((List.range (b-a)).map λi=>.int ((a+i:Nat):Int)):=by
 show some ((List.range ((b:Int)-(a:Int)).toNat).map λi=>AV.int ((a:Int)+(i:Nat)))=_;rw[Int.toNat_sub];rfl
theorem QD {b:Nat}:itemsOf (.rng 0 b)=some ((List.range b).map λi=>.int (i:Int)):=by
 have:=jq (a:=0) (b:=b);simpa using this
theorem it_r1:itemsOf (.rng 0 1)=some [.int 0]:=rfl
theorem it_r2:itemsOf (.rng 0 2)=some [.int 0,.int 1]:=rfl
theorem it_r3:itemsOf (.rng 0 3)=some [.int 0,.int 1,.int 2]:=rfl
theorem QcB (l:LA):itemsOf (.lst l)=some l:=rfl
theorem QcC (l:LA):itemsOf (.tup l)=some l:=rfl
section
variable {a:AV}
theorem a_t2:asg C (.tup [t1,t2]) (.tup [a,b]) J H=asgs C [t1,t2] [a,b] J H:=rfl
theorem a_t3:asg C (.tup [t1,t2,t3]) (.tup [a,b,d]) J H=asgs C [t1,t2,t3] [a,b,d] J H:=rfl
theorem a_l2:asg C (.tup [t1,t2]) (.lst [a,b]) J H=asgs C [t1,t2] [a,b] J H:=rfl
theorem r_01:rbK (.int 0) (.ok (.int 1) H)=.ok (.rng 0 1) H:=rfl
theorem r_02:rbK (.int 0) (.ok (.int 2) H)=.ok (.rng 0 2) H:=rfl
theorem r_03:rbK (.int 0) (.ok (.int 3) H)=.ok (.rng 0 3) H:=rfl
theorem r_12:rbK (.int 1) (.ok (.int 2) H)=.ok (.rng 1 2) H:=rfl
theorem r_13:rbK (.int 1) (.ok (.int 3) H)=.ok (.rng 1 3) H:=rfl
theorem r_23:rbK (.int 2) (.ok (.int 3) H)=.ok (.rng 2 3) H:=rfl
theorem r_1:raS (.ok (.int 1) H)=.ok (.rng 0 1) H:=rfl
theorem r_2:raS (.ok (.int 2) H)=.ok (.rng 0 2) H:=rfl
theorem r_3:raS (.ok (.int 3) H)=.ok (.rng 0 3) H:=rfl
theorem p_0:puW i v H (some (.lst []))=.ok .none (H.set i (.lst [v])):=rfl
theorem p_1:puW i v H (some (.lst [a]))=.ok .none (H.set i (.lst [a,v])):=rfl
theorem p_2:puW i v H (some (.lst [a,b]))=.ok .none (H.set i (.lst [a,b,v])):=rfl
theorem sk_0 (s:String):skC H i s v (some (.dct [] []))=some (H.set i (.dct [s] [v])):=rfl
theorem sk_1 (s:String)(k:String):skC H i s v (some (.dct [k] [a]))=some (H.set i (.dct (Qj [k] [a] s v).1 (Qj [k] [a] s v).2)):=rfl
end
inductive LoopR (r:OS)(P:LA->AH->Prop):Prop where
 | mk (J:LA)(H:AH)(e:r=.ok .next J H)(p:P J H)
inductive StepR (r:OS)(P:LA->AH->Prop):Prop where
 | mk (fl:Fl)(J:LA)(H:AH)(e:r=.ok fl J H)(hf:fl=.next\/fl=.cont)(p:P J H)
inductive NextR (r:OS)(H:AH)(P:LA->Prop):Prop where
 | mk (J:LA)(e:r=.ok .next J H)(p:P J)
inductive CompR (t:List Nat)(one:Bool)(x:AV)(J:LA)(E:LA->Prop):Prop where
 | mk (J':LA)(b:bindT t one x J=some J')(e:E J')
inductive Fr1 (F:AV->LA)(G:AH):LA->AH->Prop where
 | mk (a:AV):Fr1 F G (F a) G
inductive Fr2 (F:AV->AV->LA)(G:AH):LA->AH->Prop where
 | mk (a b:AV):Fr2 F G (F a b) G
inductive Fr3 (F:AV->AV->AV->LA)(G:AH):LA->AH->Prop where
 | mk (a b c:AV):Fr3 F G (F a b c) G
inductive Fr6 (F:AV->AV->AV->AV->AV->AV->LA)(G:AH):LA->AH->Prop where
 | mk (a b c d e f:AV):Fr6 F G (F a b c d e f) G
inductive Fr7 (F:AV->AV->AV->AV->AV->AV->AV->LA)(G:AH):LA->AH->Prop where
 | mk (a b c d e f g:AV):Fr7 F G (F a b c d e f g) G
theorem QcD {r:OS}{P:LA->AH->Prop}{k:LA->AH->OS}{q:OS->Prop}(h:StepR r P)(g:∀J H,P J H->q (k J H)):q (r.lp k):=by
 obtain⟨fl,J,H,rfl,hf,p⟩:=h;rcases hf with rfl | rfl<;>exact g J H p
theorem jr {f:AV->LA->AH->OS}(P:Nat->LA->AH->Prop)(l:LA)(j:Nat)(h:∀i x,l[i]?=some x->∀J H,P (j+i) J H->StepR (f x J H) (P (j+i+1)))(J:LA)(H:AH)(p:P j J H) :
  LoopR (loopS f l J H) (P (j+l.length)):=by
 induction l generalizing j J H with
 | nil=>exact⟨J,H,rfl,p⟩
 | cons x l ih =>
  refine QcD (q:=λr=>LoopR r (P (j+(l.length+1)))) (h 0 x rfl J H p) λJ_1 H_1 p_1=>?_
  rw[<-Nat.succ_add_eq_add_succ];refine ih (j+1) (λi y hy J H q=>?_) J_1 H_1 p_1;rw[Nat.succ_add_eq_add_succ] at q ⊢;exact h (i+1) y hy J H q
theorem QcE {f:AV->LA->AH->OS}(P:Nat->LA->AH->Prop)(h:∀i,i<n->∀J H,P i J H->StepR (f (.int i) J H) (P (i+1)))(p:P 0 J H) :
  LoopR (loopS f ((List.range n).map λ(i:Nat)=>AV.int (i:Int)) J H) (P n):=by
 have:=jr (f:=f) P ((List.range n).map λ(i:Nat)=>AV.int (i:Int)) 0 (λi x hx J H q=>by
  rw[List.getElem?_map] at hx;obtain⟨y,hy,rfl⟩:=omD hx;obtain⟨hi,rfl⟩:=List.getElem?_eq_some_iff.mp hy;rw[Nat.zero_add] at q ⊢;rw[List.getElem_range];exact h i (by simpa using hi) J H q) J H p
 simp only[Nat.zero_add,List.length_map,List.length_range] at this;exact this
theorem QW {k:Nat}{b:List PS}(P:Nat->LA->AH->Prop)(h:∀i,i<n->∀J H,P i J H->StepR (evSs C b (J.set k (.int i)) H) (P (i+1)))(p:P 0 J H) :
  LoopR (forL C [k] true b ((List.range n).map λ(i:Nat)=>AV.int (i:Int)) J H) (P n):=by
 exact QcE P (λi hi J H p=>h i hi J H p) p
theorem jt {f:AV->LA->AH->Out (LA)}{g:β->AV}{F:β->LA}{M:Nat}(L:List β)(h:∀x∈L,∀acc:LA,acc.length+(F x).length<=M->f (g x) acc H=.ok (acc++F x) H)(acc:LA)(hl:acc.length+(L.flatMap F).length<=M):loopO f (L.map g) acc H=.ok (acc++L.flatMap F) H:=by
 induction L generalizing acc with
 | nil=>exact congrArg (Out.ok · H) (List.append_nil acc).symm
 | cons x l ih =>
  rw[List.flatMap_cons,List.length_append,<-Nat.add_assoc] at hl;show (f (g x) acc H).lp (loopO f (l.map g))=_;rw[h x (.head _) acc (Nat.le_trans (Nat.le_add_right _ _) hl),List.flatMap_cons,<-List.append_assoc];exact ih (λy hy=>h y (.tail _ hy)) _ (by rw[List.length_append]; exact hl)
theorem VF (k:LA->AH->Out AV)(acc:LA):evG C k [] J acc H=(k J H).bind λv H=>if acc.length<=100000 then .ok (acc++[v]) H else .stuck:=rfl
theorem Km (k:LA->AH->Out AV)(t:List Nat)(one:Bool)(it:PE)(ifs:List PE)(gs:List PG)(acc:LA):evG C k (.mk t one it ifs::gs) J acc H=(evE C J it H).bind λv H=>.opt (itemsOf v) λl=>loopO (λx acc H=>.opt (bindT t one x J) λJ'=>(evIfs C J' ifs H).bind λb H=>if b=true then evG C k gs J' acc H else .ok acc H) l acc H:=rfl
theorem Ko:evIfs C J [] H=.ok true H:=rfl
theorem QcF (e:PE)(l:List PE):evIfs C J (e::l) H=(evE C J e H).bind λv H=>.opt (pTruth v) λb=>bif b then evIfs C J l H else .ok false H:=rfl
theorem ju {f:AV->LA->AH->Out (LA)}{g F:β->AV}{M:Nat}(L:List β)(h:∀x∈L,∀acc:LA,acc.length<M->f (g x) acc H=.ok (acc++[F x]) H):∀acc:LA,acc.length+L.length<=M->loopO f (L.map g) acc H=.ok (acc++L.map F) H:=by
 induction L with
 | nil=>exact λacc _=>congrArg (Out.ok · H) (List.append_nil acc).symm
 | cons x L ih =>
  intro acc hl;show (f (g x) acc H).lp (loopO f (L.map g))=_;rw[h x (.head _) acc (Nat.lt_of_lt_of_le (Nat.lt_add_of_pos_right (Nat.succ_pos _)) hl)];refine (ih (λy hy=>h y (.tail _ hy)) (acc++[F x]) ?_).trans (congrArg (Out.ok · H) (List.append_assoc acc [F x] (L.map F)));rw[List.length_append,Nat.add_assoc,Nat.add_comm _ L.length];exact hl
theorem QX {pe it:PE}{t:List Nat}{one mu:Bool}(L:List β){g:β->AV}(F:β->AV)(hit:evE C J it H=.ok v H)(hl:itemsOf v=some (L.map g))(hlen:L.length<=90000)(hc:clrOk [.mk t one it []] J=true)
  (h:∀x∈L,CompR t one (g x) J λJ'=>evE C J' pe H=.ok (F x) H):evE C J (.comp pe [.mk t one it []] mu) H=newC H mu (L.map F):=by
 rw[Vw,if_pos hc,Km,hit];simp only[Out.bind_ok,hl,Jc];rw[ju (F:=F) (M:=90000) L (λx hx acc ha=>by
  obtain⟨J',e1,e2⟩:=h x hx;simp only[e1,Jc,Ko,Out.bind_ok,if_true,VF,e2];exact if_pos (Nat.le_trans (Nat.le_of_lt ha) (Nat.le_add_right 90000 10000))) [] (by rw[List.length_nil,Nat.zero_add]; exact hlen)]
 rfl
theorem all1 {P:α->Prop}{a:α}(h:P a):∀x∈[a],P x:=λ_ hx=>msD hx ▸ h
theorem allC {P:α->Prop}{a:α}{l:List α}(h:P a)(hl:∀x∈l,P x):∀x∈a::l,P x:=λx hx=>(mcD hx).elim (λe=>e ▸ h) (hl x)
theorem Qx {pe it:PE}{t:List Nat}{one mu:Bool}(n:Nat){g:Nat->AV}(F:Nat->AV)(hit:evE C J it H=.ok v H)(hl:itemsOf v=some ((List.range n).map g))(hlen:n<=90000)(hc:clrOk [.mk t one it []] J=true)
  (h:∀i,i<n->CompR t one (g i) J λJ'=>evE C J' pe H=.ok (F i) H):evE C J (.comp pe [.mk t one it []] mu) H=newC H mu ((List.range n).map F) :=
 QX (List.range n) F hit hl (by rw[List.length_range]; exact hlen) hc λi hi=>h i (List.mem_range.mp hi)
theorem JF {pe it te:PE}{t:List Nat}{one mu:Bool}(L:List β){g:β->AV}(F:β->AV)(p:β->Bool)(hit:evE C J it H=.ok v H)(hl:itemsOf v=some (L.map g))(hlen:L.length<=90000)(hc:clrOk [.mk t one it [te]] J=true)
  (h:∀x∈L,CompR t one (g x) J λJ'=>evE C J' te H=.ok (.bool (p x)) H/\(p x=true->evE C J' pe H=.ok (F x) H)):evE C J (.comp pe [.mk t one it [te]] mu) H=newC H mu ((L.filter p).map F):=by
 have e:(L.flatMap λx=>bif p x then [F x] else [])=(L.filter p).map F:=by
  clear hl hlen h
  induction L with
  | nil=>rfl
  | cons x l ih=>rw[List.flatMap_cons,ih,List.filter_cons]; cases p x<;>rfl
 have hle:((L.filter p).map F).length<=90000:=by rw[List.length_map]; exact Nat.le_trans (List.length_filter_le _ _) hlen
 rw[Vw,if_pos hc,Km,hit];simp only[Out.bind_ok,hl,Jc];rw[jt (F:=λx=>bif p x then [F x] else []) (M:=90000) L (λx hx acc ha=>by
  obtain⟨J',e1,e2,e3⟩:=h x hx;simp only[e1,Jc,QcF,e2,Out.bind_ok];cases hp:p x with
  | false=>exact congrArg (Out.ok · H) (List.append_nil acc).symm
  | true =>
   rw[hp] at ha;simp only[h_tb,Jc,cond_true,Ko,Out.bind_ok,if_true,VF,e3 hp];exact if_pos (Nat.le_trans (Nat.le_trans (Nat.le_add_right _ _) ha) (Nat.le_add_right 90000 10000))) [] (by rw[e,List.length_nil,Nat.zero_add]; exact hle),e]
 rfl
inductive Com2 (C:Orc)(t t2:List Nat)(one one2:Bool)(it2 pe:PE)(J:LA)(H:AH)(x:AV)(n:Nat)(g F:Nat->AV):Prop where
 | mk (J':LA)(v':AV)(b:bindT t one x J=some J')(e:evE C J' it2 H=.ok v' H)(i:itemsOf v'=some ((List.range n).map g))(h:∀j,j<n->CompR t2 one2 (g j) J' λJ''=>evE C J'' pe H=.ok (F j) H)
theorem VG {pe it it2:PE}{t t2:List Nat}{one one2 mu:Bool}(m n:Nat){g g2:Nat->AV}(F:Nat->Nat->AV)(hit:evE C J it H=.ok v H)(hl:itemsOf v=some ((List.range m).map g))(hlen:((List.range m).flatMap λi=>(List.range n).map (F i)).length<=90000)(hc:clrOk [.mk t one it [],.mk t2 one2 it2 []] J=true)
  (h:∀i,i<m->Com2 C t t2 one one2 it2 pe J H (g i) n g2 (F i)) :
  evE C J (.comp pe [.mk t one it [],.mk t2 one2 it2 []] mu) H=newC H mu ((List.range m).flatMap λi=>(List.range n).map (F i)):=by
 rw[Vw,if_pos hc,Km,hit];simp only[Out.bind_ok,hl,Jc];rw[jt (F:=λi=>(List.range n).map (F i)) (M:=90000) (List.range m) (λx hx acc ha=>by
  obtain⟨J',v',e1,e2,e3,e4⟩:=h x (List.mem_range.mp hx);simp only[e1,Jc,Ko,Out.bind_ok,if_true,Km,e2,e3,Jc];refine ju (F:=F x) (M:=90000) (List.range n) (λy hy acc' ha'=>?_) acc (by rw[List.length_map] at ha; exact ha);obtain⟨J'',q1,q2⟩:=e4 y (List.mem_range.mp hy);simp only[q1,Jc,Ko,Out.bind_ok,if_true,VF,q2];exact if_pos (Nat.le_trans (Nat.le_of_lt ha') (Nat.le_add_right 90000 10000))) [] (by rw[List.length_nil,Nat.zero_add]; exact hlen)]
 rfl
noncomputable def subI (o:Option (LA))(i:Int):Option AV:=subJ o i
noncomputable def leJ (H:AH)(o:Option (LA)):Out AV:=leK H o
noncomputable def siJ (H:AH)(c:Nat)(k:Int)(v:AV)(o:Option AC):Option AH:=siC H c k v o
section
variable {a:AV}{c:Nat}
theorem p_iL (i:Int):pSub H (.lst l) (.int i)=subJ (some l) i:=rfl
theorem p_iT (i:Int):pSub H (.tup l) (.int i)=subJ (some l) i:=rfl
theorem p_iC (i:Int):pSub H (.cell c) (.int i)=subI (lstC H[c]?) i:=rfl
theorem p_iJ (o:Option (LA))(i:Int):subI o i=subJ o i:=rfl
theorem p_iN (i:Int):subJ (some l) i=if 0<=i then (if l.length<=1000000 then l[i.toNat]? else none) else none:=rfl
theorem i_10:subJ (some [a]) 0=some a:=rfl
theorem i_20:subJ (some [a,b]) 0=some a:=rfl
theorem i_21:subJ (some [a,b]) 1=some b:=rfl
theorem i_30:subJ (some [a,b,d]) 0=some a:=rfl
theorem i_31:subJ (some [a,b,d]) 1=some b:=rfl
theorem i_32:subJ (some [a,b,d]) 2=some d:=rfl
theorem l_J (o:Option (LA)):leK H o=leJ H o:=rfl
theorem l_N:leJ H (some l)=if l.length<=1000000 then .ok (.int l.length) H else .stuck:=rfl
theorem l_0:leJ H (some [])=.ok (.int 0) H:=rfl
theorem l_1:leJ H (some [a])=.ok (.int 1) H:=rfl
theorem l_2:leJ H (some [a,b])=.ok (.int 2) H:=rfl
theorem l_3:leJ H (some [a,b,d])=.ok (.int 3) H:=rfl
theorem j_J (k:Int)(o:Option AC):siC H c k v o=siJ H c k v o:=rfl
theorem j_N (k:Int):siJ H c k v (some (.lst l))=if 0<=k/\k<l.length/\l.length<=1000000 then some (H.set c (.lst (l.set k.toNat v))) else none:=rfl
theorem j_20:siJ H c 0 v (some (.lst [a,b]))=some (H.set c (.lst [v,b])):=rfl
theorem j_21:siJ H c 1 v (some (.lst [a,b]))=some (H.set c (.lst [a,v])):=rfl
theorem j_30:siJ H c 0 v (some (.lst [a,b,d]))=some (H.set c (.lst [v,b,d])):=rfl
theorem j_31:siJ H c 1 v (some (.lst [a,b,d]))=some (H.set c (.lst [a,v,d])):=rfl
theorem j_32:siJ H c 2 v (some (.lst [a,b,d]))=some (H.set c (.lst [a,b,v])):=rfl
end
theorem QcG:attrC 299 "kind"=true:=rfl
theorem QcH:attrC 299 "items"=true:=rfl
theorem QcI:attrC 299 "attrs"=true:=rfl
theorem QcJ:attrC 299 "shared"=true:=rfl
theorem QcK:attrC 299 "loose"=true:=rfl
theorem QcL:attrC 270 "kind"=true:=rfl
theorem QcM:attrC 270 "attrs"=true:=rfl
theorem ac_m1:attrC 110 "formals"=true:=rfl
theorem ac_m2:attrC 110 "tags"=true:=rfl
theorem ac_m3:attrC 110 "used"=true:=rfl
theorem ac_m4:attrC 110 "places"=true:=rfl
theorem QcN (l:List α)(a:α):(l++[a])[l.length]?=some a:=by simp
theorem QcO (l:List α)(a b:α):(l++[a]).set l.length b=l++[b]:=by simp
noncomputable abbrev VK:List String:=["kind","items","attrs","shared","loose"]
noncomputable abbrev vec (k:String)(l:LA)(t:AV):AV:=.obj 299 VK [.str k,.lst l,t,.bool false,.bool false]
noncomputable abbrev vecC (k:String)(l:LA)(t:AV):AC:=.obj 299 VK [.str k,.lst l,t,.bool false,.bool false]
noncomputable abbrev dimA (r c:Nat):AV:=.dct ["dim"] [vec "integer" [.int r,.int c] .none]
noncomputable abbrev I (i:Int):AV:=.int i
noncomputable abbrev qr (q:Rat):AV:=.tup [.int q.num,.int q.den]
noncomputable def qo:Option Rat->AV
 | none=>.none
 | some q=>qr q
theorem QcP (x:Option Rat):setAV (qo x)=true:=by cases x<;>rfl
theorem Qy (x:Option Rat):(qo x).nc=true:=by cases x<;>rfl
end
noncomputable abbrev uS:AV:=.unset
theorem QcQ:TT 67=some (false,Z4):=by kernel_rfl
theorem QcR:TT 74=some (false,Jw):=by kernel_rfl
theorem QcS:TT 81=some (false,Jx):=by kernel_rfl
theorem QcT:TT 88=some (false,Jy):=by kernel_rfl
theorem QcU:TT 95=some (false,Jz):=by kernel_rfl
theorem QcV:TT 102=some (false,JB):=by kernel_rfl
theorem QcW:TT 107=some (false,JC):=by kernel_rfl
theorem Yy:TT 139=some (true,JN):=by kernel_rfl
theorem QcX:TT 146=some (true,qQ):=by kernel_rfl
theorem Yz:TT 152=some (true,JP):=by kernel_rfl
theorem T_gcd:TT 162=some (true,Z5):=by kernel_rfl
theorem QcY:TT 169=some (true,Z6):=by kernel_rfl
theorem QcZ:TT 176=some (true,qR):=by kernel_rfl
theorem Qc0:TT 183=some (true,Z7):=by kernel_rfl
theorem Qc1:TT 190=some (true,Z8):=by kernel_rfl
theorem Qc2:TT 197=some (true,Z9):=by kernel_rfl
theorem T_neg:TT 204=some (true,Xa):=by kernel_rfl
theorem T_add:TT 211=some (true,Xb):=by kernel_rfl
theorem T_sub:TT 218=some (true,Xc):=by kernel_rfl
theorem T_mul:TT 225=some (true,Xd):=by kernel_rfl
theorem T_div:TT 232=some (true,Xe):=by kernel_rfl
theorem Qc3:TT 239=some (true,Xf):=by kernel_rfl
theorem Qc4:TT 267=some (false,Xg):=by kernel_rfl
theorem Qc5:TT 289=some (false,Xh):=by kernel_rfl
theorem Qc6:TT 310=some (true,Xi):=by kernel_rfl
theorem Qc7:TT 317=some (true,Xj):=by kernel_rfl
theorem Qc8:TT 324=some (true,Xk):=by kernel_rfl
theorem Qc9:TT 338=some (true,Xl):=by kernel_rfl
theorem Qda:TT 345=some (true,Xm):=by kernel_rfl
theorem Qdb:TT 352=some (true,qT):=by kernel_rfl
theorem Kp:TT 375=some (true,Ys):=by kernel_rfl
theorem Qdc:TT 380=some (false,Xn):=by kernel_rfl
theorem Qdd:TT 385=some (true,Xo):=by kernel_rfl
theorem jw:TT 392=some (true,WT):=by kernel_rfl
theorem Qde:TT 399=some (false,Xp):=by kernel_rfl
theorem Qdf:TT 406=some (false,Xq):=by kernel_rfl
theorem Qdg:TT 413=some (true,Xr):=by kernel_rfl
theorem Qdh:TT 420=some (true,Xu):=by kernel_rfl
theorem Qdi:TT 427=some (true,Xv):=by kernel_rfl
theorem jx:TT 432=some (true,WW):=by kernel_rfl
theorem jy:TT 439=some (true,WX):=by kernel_rfl
theorem Qdj:TT 446=some (true,Xw):=by kernel_rfl
theorem Qdk:TT 451=some (false,Xx):=by kernel_rfl
theorem YB:TT 458=some (false,Yt):=by kernel_rfl
theorem VH:TT 465=some (true,Wa):=by kernel_rfl
theorem VJ:TT 472=some (true,Xy):=by kernel_rfl
theorem jz:TT 477=some (true,WY):=by kernel_rfl
theorem jA:TT 484=some (true,W0):=by kernel_rfl
theorem Qdl:TT 663=some (true,Xz):=by kernel_rfl
theorem Qdm:TT 677=some (true,XC):=by kernel_rfl
theorem Qdn:TT 684=some (true,XD):=by kernel_rfl
theorem Qdo:TT 710=some (true,qU):=by kernel_rfl
theorem jB:TT 715=some (true,W2):=by kernel_rfl
theorem jC:TT 723=some (true,qW):=by kernel_rfl
theorem jD:TT 730=some (true,W3):=by kernel_rfl
theorem jE:TT 737=some (true,W4):=by kernel_rfl
theorem Qdp:TT 744=some (true,qX):=by kernel_rfl
theorem Qdq:TT 756=some (true,XF):=by kernel_rfl
theorem Qdr:TT 763=some (true,XH):=by kernel_rfl
theorem Qds:TT 770=some (true,XJ):=by kernel_rfl
theorem Qdt:TT 777=some (true,XK):=by kernel_rfl
theorem Qdu:TT 784=some (true,XM):=by kernel_rfl
theorem jF:TT 791=some (true,W5):=by kernel_rfl
theorem jG:TT 798=some (true,W6):=by kernel_rfl
theorem Qdv:TT 805=some (true,XN):=by kernel_rfl
theorem jH:TT 812=some (true,W7):=by kernel_rfl
theorem jJ:TT 819=some (true,XQ):=by kernel_rfl
theorem jK:TT 826=some (true,XR):=by kernel_rfl
theorem VM:TT 833=some (true,Wb):=by kernel_rfl
theorem Qdw:TT 838=some (true,XS):=by kernel_rfl
theorem Qdx:TT 845=some (true,XX):=by kernel_rfl
theorem Qdy:TT 852=some (true,X3):=by kernel_rfl
theorem YC:TT 857=some (true,JQ):=by kernel_rfl
theorem Qdz:TT 864=some (true,X4):=by kernel_rfl
theorem QdA:TT 870=some (true,X5):=by kernel_rfl
theorem QdB:TT 877=some (true,X6):=by kernel_rfl
theorem QdC:TT 884=some (true,X7):=by kernel_rfl
theorem QdD:TT 891=some (true,X8):=by kernel_rfl
theorem QdE:TT 898=some (true,Va):=by kernel_rfl
theorem QdF:TT 905=some (true,Vb):=by kernel_rfl
theorem jL:TT 912=some (true,W8):=by kernel_rfl
theorem VN:TT 919=some (true,Wc):=by kernel_rfl
theorem jM:TT 926=some (true,W9):=by kernel_rfl
theorem jN:TT 933=some (true,Ka):=by kernel_rfl
theorem jO:TT 940=some (true,Kc):=by kernel_rfl
theorem jP:TT 947=some (true,Kd):=by kernel_rfl
theorem QdG:TT 954=some (true,Vc):=by kernel_rfl
theorem VP:TT 961=some (true,Wd):=by kernel_rfl
theorem jQ:TT 968=some (true,Ke):=by kernel_rfl
theorem QdH:TT 975=some (true,Vd):=by kernel_rfl
theorem QdI:TT 982=some (true,Ve):=by kernel_rfl
theorem VV:TT 989=some (true,We):=by kernel_rfl
theorem jR:TT 996=some (true,Kf):=by kernel_rfl
theorem QdJ:TT 1003=some (true,Vf):=by kernel_rfl
theorem QdK:TT 1010=some (true,Vg):=by kernel_rfl
theorem QdL:TT 1017=some (true,Vh):=by kernel_rfl
theorem QdM:TT 1024=some (true,Vi):=by kernel_rfl
theorem QdN:TT 1031=some (true,Vj):=by kernel_rfl
theorem Wh:TT 1038=some (false,J5):=by kernel_rfl
theorem QdO:TT 1045=some (false,Vk):=by kernel_rfl
theorem QdP:TT 1050=some (true,Vl):=by kernel_rfl
theorem QdQ:TT 1055=some (true,Vm):=by kernel_rfl
theorem QdR:TT 1062=some (true,Vn):=by kernel_rfl
theorem QdS:TT 1069=some (true,Vo):=by kernel_rfl
theorem QdT:TT 1074=some (true,Vp):=by kernel_rfl
theorem QdU:TT 1079=some (true,Vq):=by kernel_rfl
theorem Kq:TT 1084=some (true,Yu):=by kernel_rfl
theorem QdV:TT 1089=some (true,Vr):=by kernel_rfl
theorem QdW:TT 1096=some (true,Vs):=by kernel_rfl
theorem QdX:TT 1101=some (true,Vt):=by kernel_rfl
theorem QdY:TT 1106=some (true,Vu):=by kernel_rfl
theorem Kr:TT 1111=some (true,Yv):=by kernel_rfl
theorem U_0:UU 0=some (⟨2,[],2,[.ret (.bin .add (.loc 0) (.int 1))]⟩:FD):=by kernel_rfl
theorem U_1:UU 1=some (⟨2,[],2,[.ret (.bin .add (.loc 1) (.int 1))]⟩:FD):=by kernel_rfl
theorem U_2:UU 2=some (⟨2,[],2,[.ret (.ife (.cmp .gt (.loc 1) (.loc 0)) (.int 1) (.int 0))]⟩:FD):=by kernel_rfl
theorem U_3:UU 3=some (⟨2,[],2,[.ret (.ife (.cmp .lt (.loc 1) (.loc 0)) (.int 1) (.int 0))]⟩:FD):=by kernel_rfl
theorem U_4:UU 4=some (⟨2,[],2,[.ret (.ife (.cmp .ge (.loc 1) (.loc 0)) (.int 1) (.int 0))]⟩:FD):=by kernel_rfl
theorem U_5:UU 5=some (⟨2,[],2,[.ret (.ife (.cmp .le (.loc 1) (.loc 0)) (.int 1) (.int 0))]⟩:FD):=by kernel_rfl
end
section
set_option backward.defeqAttrib.useBackward true
local macro_rules | `(tactic| lia)=>`(tactic| first | assumption | exact nb (by assumption) (by rfl) | exact nl (by assumption) (by rfl) | exact nk (by assumption) (by rfl) | exact nt (by assumption) (by rfl) | exact ng (by assumption) (by rfl) | cutsat)
def wA:String:="e_callG a_t2 a_t3 a_l2 r_01 r_02 r_03 r_12 r_13 r_23 r_1 r_2 r_3 p_0 p_1 p_2 sk_0 sk_1 reduceIte h_v1 h_v2 h_v3 h_v4 h_v5 h_m1 h_m2 h_m3 h_m4 i_10 i_20 i_21 i_30 i_31 i_32 l_0 l_1 l_2 l_3 j_20 j_21 j_30 j_31 j_32"
def wN:String:="jc jd k_cmp QbS k_sub QbT k_ifS k_ift k_iff k_anS k_ant k_anf k_orS k_orf k_ort k_con QbU QbV QbW k_cal QbX k_fnk k_fnl k_cak k_cam k_caX k_new k_neR k_at k_atK k_me k_meK k_meC k_pu k_puK k_puE k_puW k_le k_ne k_ab k_nt k_mi k_miK k_ra k_rb k_rbK k_li k_ii k_iiK k_ls k_tu k_di k_dg k_dgK k_fz k_ca je k_re k_reK k_tr k_trX k_seq k_seqC k_seqR k_seqX k_itt k_itf k_itX k_as k_asX k_ret QbY k_au k_auK k_auW k_exn k_exi k_exX k_rs k_hW k_sa k_ss k_ssK k_asK jj jf jg Qb1 Qb2 Qb3 Qb5 Qb4 it_r1 it_r2 it_r3 QcB QcC QD JD lo_n lo_b lo_i lo_s lo_t lo_l lo_d lo_o lo_c lo_k lo_r lo_m lo_h e_non e_tru Vv Wg Qb6 jh e_neg e_cmp e_nt e_and e_or Qco Qcp Qcq Qcr e_ife Qb7 e_new Qb8 Qb9 Qca e_sub e_len e_abs e_min Qcb Qcc Qcd Qce e_lst e_tup e_dct Qcf e_lam e_frz ji e_rep l_nil Qcg s_asg s_aug s_exp s_ret Qch s_ite Qci Qcj jk ss_cons a_loc a_tup Qck Qcl a_sub Qcm Qcn e_tr c_eq c_ne c_lt c_le c_gt c_ge c_is Qct c_eqS c_neS c_inC Qcu c_inD Qcv c_inT Qcw QcN QcO Int.natAbs_natCast Int.natAbs_one Nat.reduceLT Int.cast_ofNat_Int Int.reduceToNat Int.reduceLE Int.natCast_nonneg Int.toNat_natCast Int.reduceAbs Int.reduceAdd Int.natCast_one Int.natCast_zero List.set_nil List.getElem?_nil Int.reduceNeg Int.zero_le_ofNat Option.getD_some Option.getD_none String.reduceEq String.reduceBEq beq_self_eq_true or_self or_false false_or or_true true_or not_true_eq_false not_false_eq_true decide_not List.mem_cons List.not_mem_nil Int.reduceLT Nat.reduceLeDiff Nat.reduceAdd and_false false_and h_sa h_sA Bool.or_false Bool.or_true Int.reduceEq Int.reduceGT Nat.reduceEqDiff List.nodup_cons List.nodup_nil List.cons_ne_self Qcx Qcy Qcz jo h_tb h_ti p_iL p_iT p_iC p_iJ p_iN l_J l_N j_J j_N p_key QcA Option.bind_some o_l o_i Jc n_0 n_b n_i n_s n_t n_l n_d n_o n_c n_k h_st h_sl h_sc h_ll h_lc h_lC h_oo h_oc h_oC h_dd h_dc h_dC h_key h_kn OS.out_ret OS.out_next OS.out_exc OS.bind_ok OS.bind_exc OS.bind_stuck Out.st_ok Out.st_exc Out.bind_ok Out.bind_exc Out.ofOpt_some QbZ Qb0 QbK set_bool set_int set_str QbL QbM QbN QbO QbP QbQ QbR QcP h_fz h_fl h_fd h_fo h_fL h_fD h_fO h_fN nc_u nc_0 nc_b nc_i nc_s nc_t Y4 nc_d nc_o nc_k nc_r nc_m ncs_n Js h_si h_sk h_sK ks_n ks_c QcG QcH QcI QcJ QcK QcL QcM ac_m1 ac_m2 ac_m3 ac_m4 List.getElem?_cons_zero List.getElem?_cons_succ List.set_cons_zero List.set_cons_succ List.length_cons List.length_nil List.replicate_succ List.replicate_zero List.cons_append List.nil_append List.append_nil List.drop_zero List.drop_succ_cons List.drop_nil Option.map_some Option.map_none Option.isNone_none Option.isNone_some decide_true decide_false Bool.not_true Bool.not_false Bool.true_and Bool.and_true Bool.false_and Bool.and_false if_true if_false Bool.false_eq_true reduceCtorEq Nat.le_refl and_self true_and and_true Nat.zero_add Nat.add_zero"
local macro_rules | `(tactic| w_fin)=>do
 let a:=(wA.splitOn " ").toArray.map λs=>Lean.mkIdent s.toName
 let l:=(wN.splitOn " ").toArray.map λs=>Lean.mkIdent s.toName
 `(tactic| simp only[$[↓$a:ident],*,$[$l:ident],*, *])
section
set_option exponentiation.threshold 10000
theorem QdZ {C:Orc}:∀(b a:Nat) (H:AH),Qg b->∃n,whileN (λJ H=>evT C J (.cmp .gt D1 (.int 0)) H) (λJ H=>evSs C B4 J H) n [I a,I b] H=.ok .next [I (Nat.gcd b a),I 0] H:=by
 intro b
 induction b using Nat.strongRecOn with
 | ind b ih =>
  intro a H hb;by_cases h0:b=0
  ·subst h0
   exact⟨1,(jl (H_1:=H) (by w_fin)).trans (by rw[Nat.gcd_zero_left]; rfl)⟩
  ·have hlt:a % b<b:=Nat.mod_lt _ (Nat.pos_of_ne_zero h0)
   obtain⟨n,hn⟩:=ih (a % b) hlt b H (Nat.lt_trans (show ((a % b:Nat):Int).natAbs<(b:Int).natAbs by simp only[Int.natAbs_natCast,Int.natAbs_natCast]; exact hlt) hb)
   have hp:decide ((b:Int)>0)=true:=by simp; lia
   have hm:Int.fmod (a:Int) (b:Int)=((a % b:Nat):Int):=by rw[Int.fmod_eq_emod_of_nonneg _ (by lia)]; rfl
   have hmod:=Q8 (a:=a) (b:=b) (by lia) hb;refine (Nat.gcd_rec b a) ▸ ?_;exact⟨n+1,(jm (J_2:=[I b,I (a % b:Nat)]) (H_1:=H) (H_2:=H) (by clear ih hn; w_fin) (by clear ih hn; w_fin)).trans hn⟩
theorem jT {N:Nat}(hN:1<=N)(a b:Nat)(hb:Qg b)(H:AH):(RN N).f 162 [I a,I b] H=.ok (I (Nat.gcd a b)) H:=by
 obtain⟨k,hk⟩:=QdZ (C:=RN (N-1)) b a [] hb;refine Qc T_gcd hN (J:=[I a,I b]) rfl rfl (H':=[]) ?_ rfl H;have:=Wf hk nofun;rw[Nat.gcd_comm];clear hk;simp only[Z5,ss_cons];simp only[Vx,this];w_fin
theorem jU {a:Int}{k:Nat}(h:a.natAbs<2 ^ k)(hk:k<=bigE):Qg a:=Nat.lt_of_lt_of_le h (Nat.pow_le_pow_right (by decide) hk)
theorem V0 (x:Int)(d:Nat)(hd:d≠0):qr (Rat.divInt x d)=.tup [.int (x.fdiv (Nat.gcd x.natAbs d:Nat)),.int ((d:Int).fdiv (Nat.gcd x.natAbs d:Nat))]:=by
 have e1:=Rat.num_divInt x d;have e2:=Rat.den_divInt x d;have hs:Int.sign (d:Int)=1:=Int.sign_eq_one_of_pos (by lia);have hg:Int.gcd (d:Int) x=Nat.gcd x.natAbs d:=by simp only[Int.gcd,Int.natAbs_natCast,Nat.gcd_comm]
 rw[hs,Int.one_mul,hg] at e1;rw[if_neg (by lia),hg,Int.natAbs_natCast] at e2;rw[Int.fdiv_eq_ediv_of_nonneg _ (by lia),Int.fdiv_eq_ediv_of_nonneg _ (by lia),qr,e1,e2];rfl
theorem Qd0 (x y:Int):Rat.divInt (0-x) (0-y)=Rat.divInt x y:=by
 apply Rat.ext
 ·simp only[Rat.num_divInt,Rat.num_divInt]
  have:Int.gcd (0-y) (0-x)=Int.gcd y x:=by simp[Int.gcd]
  refine this ▸ ?_;congr 1;simp only[Int.zero_sub,Int.zero_sub,Int.sign_neg,Int.neg_mul_neg]
 ·simp only[Rat.den_divInt,Rat.den_divInt]
  simp
theorem Ks {N:Nat}(hN:2<=N)(x y:Int)(hy:y≠0)(hb:Qg y)(H:AH):(RN N).f 169 [I x,I y] H=.ok (qr (Rat.divInt x y)) H:=by
 refine Qc QcY (oN hN) (J:=[I x,I y,uS]) rfl rfl (H':=[]) ?_ rfl H;have h0:decide (y=0)=false:=by simp[hy]
 have hgz:∀(a d:Nat),d≠0->((Nat.gcd a d:Nat):Int)≠0:=λa d hd q=>hd ((Nat.gcd_eq_zero_iff.mp (Int.natCast_eq_zero.mp q)).2)
 have hgb:∀(a d:Nat),d≠0->Qg (d:Int)->Qg ((Nat.gcd a d:Nat):Int):=λa d hd h=>by
  have:=Nat.le_of_dvd (Nat.pos_of_ne_zero hd) (Nat.gcd_dvd_right a d);exact Nat.lt_of_le_of_lt (by simp only[Int.natAbs_natCast,Int.natAbs_natCast]; exact this) h
 simp only[Z6];by_cases hn:y<0
 ·obtain⟨d,hd⟩:∃d:Nat,0-y=d:=⟨y.natAbs,by rw[Int.zero_sub]; exact (Int.ofNat_natAbs_of_nonpos (Int.le_of_lt hn)).symm⟩
  have hd0:d≠0:=λq=>hy (Int.neg_eq_zero.mp (by rw[<-Int.zero_sub,hd,q]; rfl))
  have hbd:Qg (d:Int):=by rw[<-hd]; simpa[Qg] using hb
  have g:=jT (pN hN) (0-x).natAbs d hbd [];have d1:=Q7 (a:=0-x) (hgz (0-x).natAbs d hd0) (hgb _ _ hd0 hbd);have d2:=Q7 (a:=(d:Int)) (hgz (0-x).natAbs d hd0) (hgb _ _ hd0 hbd);rw[<-Qd0,hd,V0 _ _ hd0];clear hgz hgb;w_fin
 ·obtain⟨d,rfl⟩:∃d:Nat,y=d:=⟨y.natAbs,(Int.natAbs_of_nonneg (Int.not_lt.mp hn)).symm⟩
  have hd0:d≠0:=λq=>hy (by rw[q]; rfl)
  have g:=jT (pN hN) x.natAbs d hb [];have d1:=Q7 (a:=x) (hgz x.natAbs d hd0) (hgb _ _ hd0 hb);have d2:=Q7 (a:=(d:Int)) (hgz x.natAbs d hd0) (hgb _ _ hd0 hb);rw[V0 _ _ hd0];clear hgz hgb;w_fin
noncomputable def hq (k:Nat)(q:Rat):Prop:=q.num.natAbs<2 ^ k/\q.den<2 ^ k
theorem hq.mono {k m:Nat}{q:Rat}(h:hq k q)(hk:k<=m):hq m q:=⟨Nat.lt_of_lt_of_le h.1 (Nat.pow_le_pow_right (by decide) hk),Nat.lt_of_lt_of_le h.2 (Nat.pow_le_pow_right (by decide) hk)⟩
theorem hq.num {q:Rat}(h:hq 2000 q):Qg q.num:=jU h.1 (by decide)
theorem hq.den {q:Rat}(h:hq 2000 q):Qg (q.den:Int):=jU (a:=(q.den:Int)) (by simp only[Int.natAbs_natCast]; exact h.2) (by decide)
theorem hq.dd {p q:Rat}(hp:hq 2000 p)(h:hq 2000 q):Qg ((p.den:Int)*(q.den:Int)):=by
 have:=Nat.mul_lt_mul'' hp.2 h.2;exact this
noncomputable def ho (k:Nat)(x:Option Rat):Prop:=∀q,x=some q->hq k q
theorem den0 (q:Rat):(q.den:Int)≠0:=by have:=q.den_nz; lia
theorem V1 (q:Rat):decide ((q.den:Int)=0)=false:=by simp[q.den_nz]
theorem V2 {N:Nat}(hN:1<=N)(x:Option Rat)(H:AH):(RN N).f 183 [qo x] H=.ok (.bool x.isNone) H:=by
 refine Qc Qc0 hN (J:=[qo x]) rfl (by simp[Qy]) (H':=[]) ?_ rfl H;simp only[Z7];cases x with
 | none=>unfold qo; w_fin
 | some q =>
  have h:=V1 q;unfold qo qr;cases h0:decide (q.num=0)<;>w_fin
theorem J6 {N:Nat}(hN:1<=N)(q:Rat)(H:AH):(RN N).f 183 [.tup [.int q.num,.int q.den]] H=.ok (.bool false) H:=V2 hN (some q) H
theorem jV {N:Nat}(hN:1<=N)(x y:Option Rat)(hxy:(x.isNone||y.isNone)=true)(H:AH):(RN N).f 197 [qo x,qo y] H=.ok .none H:=by
 refine Qc Qc2 hN (J:=[qo x,qo y]) rfl (by simp[Qy]) (H':=[]) ?_ rfl H;simp only[Z9];cases x with
 | none=>unfold qo; w_fin
 | some q=>cases y with
  | none=>unfold qo; w_fin
  | some r=>exact nf hxy
noncomputable def omul (x y:Option Rat):Option Rat:=x.bind λa=>y.bind λb=>some (a*b)
noncomputable def oadd (x y:Option Rat):Option Rat:=x.bind λa=>y.bind λb=>some (a+b)
theorem V3 (a b:Rat):omul (some a) (some b)=some (a*b):=rfl
theorem jW (a b:Rat):oadd (some a) (some b)=some (a+b):=rfl
theorem Jo (q:Rat):Rat.divInt q.num q.den=q:=Rat.num_divInt_den q
theorem Ku {N:Nat}(hN:3<=N)(x y:Option Rat)(hx:ho 2000 x)(hy:ho 2000 y)(H:AH):(RN N).f 225 [qo x,qo y] H=.ok (qo (omul x y)) H:=by
 refine Qc T_mul (oN hN) (J:=[qo x,qo y]) rfl (by simp[Qy]) (H':=[]) ?_ (Qy _) H;have n1:=λ(z:Option Rat)=>V2 (pN hN) z []
 have n2:=λ(h:(x.isNone||y.isNone)=true)=>jV (pN hN) x y h []
 simp only[Xd];cases x with
 | none=>have n2:=n2 rfl; w_fin; rfl
 | some q=>cases y with
  | none=>w_fin; rfl
  | some r =>
   clear n2 n1;have n1:=J6 (pN hN) q [];have n2:=J6 (pN hN) r [];have hr':=hy r rfl;have hq':=hx q rfl;have mk:=Ks (pN hN) (q.num*r.num) (q.den*r.den) (Int.mul_ne_zero (den0 q) (den0 r)) (hq'.dd hr') [];have m2:=Qi hq'.den hr'.den;have m1:=Qi hq'.num hr'.num;rw[<-Rat.divInt_mul_divInt,Jo,Jo] at mk;rw[V3];unfold qo qr;clear hx hy hq' hr';w_fin
theorem jX {N:Nat}(hN:3<=N)(x y:Option Rat)(hx:ho 2000 x)(hy:ho 2000 y)(H:AH):(RN N).f 211 [qo x,qo y] H=.ok (qo (oadd x y)) H:=by
 refine Qc T_add (oN hN) (J:=[qo x,qo y]) rfl (by simp[Qy]) (H':=[]) ?_ (Qy _) H;have n1:=λ(z:Option Rat)=>V2 (pN hN) z []
 have n2:=λ(h:(x.isNone||y.isNone)=true)=>jV (pN hN) x y h []
 simp only[Xb];cases x with
 | none=>have n2:=n2 rfl; w_fin; rfl
 | some q=>cases y with
  | none=>w_fin; rfl
  | some r =>
   clear n2 n1;have n1:=J6 (pN hN) q [];have n2:=J6 (pN hN) r [];have hq':=hx q rfl;have hr':=hy r rfl;have d2:=V1 r;have m2:=Qi hr'.num hq'.den;have m1:=Qi hq'.num hr'.den;have d1:=V1 q;have m4:=QT (q.num*r.den) (r.num*q.den);have m3:=Qi hq'.den hr'.den;have mk:=Ks (pN hN) (q.num*r.den+r.num*q.den) (q.den*r.den) (Int.mul_ne_zero (den0 q) (den0 r)) (hq'.dd hr') [];simp only[<-Rat.divInt_add_divInt _ _ (den0 q) (den0 r),Jo,Jo] at mk;rw[jW];unfold qo qr;clear hx hy hq' hr';w_fin
theorem R_neg {N:Nat}(hN:1<=N)(q:Rat)(H:AH):(RN N).f 204 [qr q] H=.ok (qr (-q)) H:=by
 refine Qc T_neg hN (J:=[qr q]) rfl rfl (H':=[]) ?_ rfl H;simp only[Xa];have e:(-q).num=0-q.num:=by simp only[Rat.neg_num]; lia
 have e2:(-q).den=q.den:=Rat.neg_den q;unfold qr;w_fin
theorem R_sub {N:Nat}(hN:4<=N)(p q:Rat)(hp:hq 2000 p)(hr:hq 2000 q)(H:AH):(RN N).f 218 [qr p,qr q] H=.ok (qr (p-q)) H:=by
 refine Qc T_sub (oN hN) (J:=[qr p,qr q]) rfl rfl (H':=[]) ?_ rfl H;have e:=R_neg (pN hN) q [];have hn:hq 2000 (-q):=⟨by simp only[Rat.neg_num,Int.natAbs_neg]; exact hr.1,by rw[Rat.neg_den]; exact hr.2⟩;have a:=jX (pN hN) (some p) (some (-q)) (λ_ h=>by cases h; exact hp) (λ_ h=>by cases h; exact hn) [];simp only[qo,jW,<-Rat.sub_eq_add_neg] at a;simp only[Xc];clear hp hr hn;w_fin
theorem Qd1 {N:Nat}(hN:3<=N)(p:Rat)(h0:p≠0)(hp:hq 2000 p)(H:AH):(RN N).f 232 [.tup [.int 1,.int 1],qr p] H=.ok (qr p⁻¹) H:=by
 refine Qc T_div (oN hN) (J:=[.tup [.int 1,.int 1],qr p]) rfl rfl (H':=[]) ?_ rfl H;have n1:(RN (N-1)).f 183 [.tup [.int 1,.int 1]] []=.ok (.bool false) []:=J6 (pN hN) 1 [];have hn:p.num≠0:=λq=>h0 (Rat.num_eq_zero.mp q)
 have n2:=J6 (pN hN) p [];have b1:Qg 1:=Qo (by decide);have m1:=Qi b1 hp.den;have m2:=Qi b1 hp.num;have mk:=Ks (pN hN) (1*p.den) (1*p.num) (by simpa using hn) (by simpa using hp.num) [];have e:Rat.divInt (1*p.den) (1*p.num)=p⁻¹:=by simp only[Int.one_mul,Int.one_mul,Rat.inv_def]
 simp only[e] at mk;simp only[Xe];clear hp hn h0 e b1;w_fin
theorem V4 {N:Nat}(hN:1<=N)(q:Rat)(H:AH):(RN N).f 190 [qr q] H=.ok (.bool true) H:=by
 refine Qc Qc1 hN (J:=[qr q]) rfl rfl (H':=[]) ?_ rfl H;have h:decide ((q.den:Int)>0)=true:=by simp; have:=q.den_nz; lia
 simp only[Z8];w_fin
theorem Qd2 {N:Nat}(hN:1<=N)(i:Int)(H:AH):(RN N).f 176 [.int i] H=.ok (.tup [.int i,.int 1]) H:=by
 refine Qc QcZ hN (J:=[.int i]) rfl rfl (H':=[]) ?_ rfl H;w_fin
end
theorem QH {N:Nat}(hN:1<=N)(k:String)(l:LA)(H:AH):(RN N).f 289 [.cell H.length,.str k,.lst l] (H++[.obj 299 [] []])=.ok .none (H++[vecC k l .none]):=by
 refine QB Qc5 hN (J:=[.cell H.length,.str k,.lst l,.none]) rfl ?_;simp only[Xh];w_fin
theorem Qd3 {N:Nat}(hN:1<=N)(H:AH):(RN N).f 267 [.cell H.length] (H++[.obj 270 [] []])=.ok .none (H++[.obj 270 ["kind","attrs"] [.str "NULL",.none]]):=by
 refine QB Qc4 hN (J:=[.cell H.length]) rfl ?_;simp only[Xg];w_fin
theorem V5 {N:Nat}(hN:1<=N)(n:Nat)(h:n<=1000000)(H:AH):(RN N).f 310 [.int n] H=.ok (.int n) H:=by
 refine Qc Qc6 hN (J:=[.int n]) rfl rfl (H':=[]) ?_ rfl H;have h1:decide ((n:Int)>1000000)=false:=by simp; lia
 dsimp only[Xi];w_fin
noncomputable abbrev nullA:AV:=.obj 270 ["kind","attrs"] [.str "NULL",.none]
theorem Qd4 {N:Nat}(hN:2<=N)(H:AH):(RN N).f 317 [] H=.ok nullA H:=by
 have i:=Qd3 (pN hN) [];refine Qc Qc7 (oN hN) (J:=[]) rfl rfl (H':=[.dead]) ?_ rfl H;simp only[List.length_nil,List.nil_append] at i;simp only[Xj];w_fin
theorem Qd5 {N:Nat}(hN:2<=N)(l:LA)(hl:AV.ncs l=true)(h:l.length<=100000)(H:AH):(RN N).f 324 [.lst l] H=.ok (vec "integer" l .none) H:=by
 have i:=QH (pN hN) "integer" l [];refine Qc Qc8 (oN hN) (J:=[.lst l]) rfl (by simp[hl]) (H':=[.dead]) ?_ (by simp[hl]) H;simp only[List.length_nil,List.nil_append] at i;simp only[Xk];w_fin
theorem jY {N:Nat}(hN:2<=N)(n:Int)(H:AH):(RN N).f 338 [.int n] H=.ok (vec "integer" [.int n] .none) H:=by
 have i:=QH (pN hN) "integer" [.int n] [];refine Qc Qc9 (oN hN) (J:=[.int n]) rfl rfl (H':=[.dead]) ?_ rfl H;simp only[List.length_nil,List.nil_append] at i;simp only[Xl];w_fin
theorem QC {N:Nat}(hN:1<=N)(k:String)(l:LA)(t:AV)(hl:AV.ncs l=true)(ht:t.nc=true)(H:AH):(RN N).f 352 [vec k l t] H=.ok (.bool true) H:=by
 refine Qc Qdb hN (J:=[vec k l t]) rfl (by simp[hl,ht]) (H':=[]) ?_ rfl H;w_fin
theorem jZ {N:Nat}(hN:1<=N)(k:String)(l:LA)(hl:AV.ncs l=true)(H:AH):(RN N).f 723 [vec k l .none] H=.ok .none H:=by
 refine Qc jC hN (J:=[vec k l .none]) rfl (by simp[hl]) (H':=[]) ?_ rfl H;w_fin
theorem Kv {N:Nat}(hN:1<=N)(k:String)(l:LA)(r c:Nat)(hl:AV.ncs l=true)(H:AH):(RN N).f 723 [vec k l (dimA r c)] H=.ok (.lst [.int r,.int c]) H:=by
 refine Qc jC hN (J:=[vec k l (dimA r c)]) rfl (by simp[hl]) (H':=[]) ?_ rfl H;w_fin
theorem Kw {N:Nat}(hN:2<=N)(k:String)(l:LA)(hl:AV.ncs l=true)(H:AH):(RN N).f 730 [vec k l .none] H=.ok (.bool false) H:=by
 have d:=jZ (pN hN) k l hl [];refine Qc jD (oN hN) (J:=[vec k l .none,uS]) rfl (by simp[hl]) (H':=[]) ?_ rfl H;simp only[W3];w_fin
theorem Q4 {N:Nat}(hN:2<=N)(k:String)(l:LA)(r c:Nat)(hl:AV.ncs l=true)(H:AH):(RN N).f 730 [vec k l (dimA r c)] H=.ok (.bool true) H:=by
 refine Qc jD (oN hN) (J:=[vec k l (dimA r c),uS]) rfl (by simp[hl]) (H':=[]) ?_ rfl H;have d:=Kv (pN hN) k l r c hl [];simp only[W3];w_fin
theorem V6 {N:Nat}(hN:3<=N)(k:String)(l:LA)(hl:AV.ncs l=true)(hs:l.length<=1000000)(H:AH):(RN N).f 737 [vec k l .none] H=.ok (.tup [.int l.length,.int 1]) H:=by
 have d:=Kw (pN hN) k l hl [];refine Qc jE (oN hN) (J:=[vec k l .none]) rfl (by simp[hl]) (H':=[]) ?_ rfl H;simp only[W4];w_fin
theorem QF {N:Nat}(hN:3<=N)(k:String)(l:LA)(r c:Nat)(hl:AV.ncs l=true)(H:AH):(RN N).f 737 [vec k l (dimA r c)] H=.ok (.tup [.int r,.int c]) H:=by
 refine Qc jE (oN hN) (J:=[vec k l (dimA r c)]) rfl (by simp[hl]) (H':=[]) ?_ rfl H;have d2:=Kv (pN hN) k l r c hl [];have d:=Q4 (pN hN) k l r c hl [];simp only[W4];w_fin
theorem YD {N:Nat}(hN:1<=N)(k:String)(l:LA)(r c:Nat)(i:Int)(hl:AV.ncs l=true)(H:AH):(RN N).f 744 [vec k l (dimA r c),.int i] H=.ok .none H:=by
 refine Qc Qdp hN (J:=[vec k l (dimA r c),.int i,uS]) rfl (by simp[hl]) (H':=[]) ?_ rfl H;w_fin
theorem V7 {N:Nat}(hN:1<=N)(k nm:String)(l:LA)(hl:AV.ncs l=true)(H:AH):(RN N).f 472 [vec k l .none,.str nm] H=.ok .none H:=by
 refine Qc VJ hN (J:=[vec k l .none,.str nm]) rfl (by simp[hl]) (H':=[]) ?_ rfl H;w_fin
theorem j0 {N:Nat}(hN:1<=N)(k nm:String)(l:LA)(r c:Nat)(hl:AV.ncs l=true)(hn:"dim"≠nm)(H:AH):(RN N).f 472 [vec k l (dimA r c),.str nm] H=.ok .none H:=by
 have e:("dim"=nm)=False:=by simp[hn]
 refine Qc VJ hN (J:=[vec k l (dimA r c),.str nm]) rfl (by simp[hl]) (H':=[]) ?_ rfl H;simp only[Xy];clear hn;w_fin
theorem Qd6 {N:Nat}(hN:1<=N)(k:String)(l:LA)(r c:Nat)(hl:AV.ncs l=true)(H:AH):(RN N).f 472 [vec k l (dimA r c),.str "dim"] H=.ok (vec "integer" [.int r,.int c] .none) H:=by
 refine Qc VJ hN (J:=[vec k l (dimA r c),.str "dim"]) rfl (by simp[hl]) (H':=[]) ?_ rfl H;w_fin
theorem Qd7 {N:Nat}(hN:2<=N)(k:String)(l:LA)(hl:AV.ncs l=true)(H:AH):(RN N).f 484 [vec k l .none] H=.ok .none H:=by
 have g:=V7 (pN hN) k "dim" l hl [];refine Qc jA (oN hN) (J:=[vec k l .none,uS]) rfl (by simp[hl]) (H':=[]) ?_ rfl H;simp only[W0];w_fin
theorem Qd8 {N:Nat}(hN:2<=N)(k:String)(l:LA)(r c:Nat)(hl:AV.ncs l=true)(H:AH):(RN N).f 484 [vec k l (dimA r c)] H=.ok (.lst [.int r,.int c]) H:=by
 have g:=Qd6 (pN hN) k l r c hl [];refine Qc jA (oN hN) (J:=[vec k l (dimA r c),uS]) rfl (by simp[hl]) (H':=[]) ?_ rfl H;simp only[W0];w_fin
theorem j4 {N:Nat}(hN:3<=N)(k:String)(l:LA)(hk:k="double"\/k="integer"\/k="logical")(hl:AV.ncs l=true)(H:AH):(RN N).f 477 [vec k l .none] H=.ok .none H:=by
 refine Qc jz (oN hN) (J:=[vec k l .none,uS,uS,uS,uS,uS]) rfl (by simp[hl]) (H':=[]) ?_ rfl H;have g:=Qd7 (pN hN) k l hl [];have g2:=V7 (pN hN) k "names" l hl [];have k1:(k=="language")=false:=by rcases hk with rfl | rfl | rfl<;>decide
 have k2:(k=="environment")=false:=by rcases hk with rfl | rfl | rfl<;>decide
 clear hk;simp only[WY];w_fin
theorem Qd9 {N:Nat}(hN:3<=N)(k:String)(l:LA)(r c:Nat)(hk:k="double"\/k="integer"\/k="logical")(hl:AV.ncs l=true)(H:AH):(RN N).f 477 [vec k l (dimA r c)] H=.ok .none H:=by
 refine Qc jz (oN hN) (J:=[vec k l (dimA r c),uS,uS,uS,uS,uS]) rfl (by simp[hl]) (H':=[]) ?_ rfl H;have g:=Qd8 (pN hN) k l r c hl [];have g2:=j0 (pN hN) k "names" l r c hl (by decide) [];have k1:(k=="language")=false:=by rcases hk with rfl | rfl | rfl<;>decide
 have k2:(k=="environment")=false:=by rcases hk with rfl | rfl | rfl<;>decide
 clear hk;simp only[WY];w_fin
theorem j5 {N:Nat}(hN:1<=N)(k:String)(l:LA)(hl:AV.ncs l=true)(H:AH):(RN N).f 710 [vec k l .none,.none] H=.ok (vec k l .none) H:=by
 refine Qc Qdo hN (J:=[vec k l .none,.none]) rfl (by simp[hl]) (H':=[]) ?_ (by simp[hl]) H;w_fin
theorem V8 {N:Nat}(hN:4<=N)(k:String)(l:LA)(t:AV)(ht:t=.none\/∃r c,t=dimA r c)(hk:k="double"\/k="integer"\/k="logical")(hl:AV.ncs l=true)(hs:l.length<=100000)(H:AH):(RN N).f 715 [vec k l t,.str k,.lst []] H=.ok (vec k l .none) H:=by
 have hn:t.nc=true:=by rcases ht with rfl | ⟨r,c,rfl⟩<;>rfl
 refine Qc jB (oN hN) (J:=[vec k l t,.str k,.lst [],uS,uS]) rfl (by simp[hl,hn]) (H':=[.dead]) ?_ (by simp[hl]) H;have i:=QH (pN hN) k l [];simp only[List.length_nil,List.nil_append] at i;have w:=λH=>j5 (pN hN) k l hl H
 have g:∀H,(RN (N-1)).f 477 [vec k l t] H=.ok .none H:=λH=>by
  rcases ht with rfl | ⟨r,c,rfl⟩
  ·exact j4 (pN hN) k l hk hl H
  ·exact Qd9 (pN hN) k l r c hk hl H
 clear ht hk;simp only[W2];w_fin
theorem J7 {N:Nat}(hN:5<=N)(l:LA)(t:AV)(ht:t=.none\/∃r c,t=dimA r c)(hl:AV.ncs l=true)(hs:l.length<=100000)(H:AH):(RN N).f 784 [vec "double" l t] H=.ok (.lst l) H:=by
 have hn:t.nc=true:=by rcases ht with rfl | ⟨r,c,rfl⟩<;>rfl
 have i:=V8 (pN hN) "double" l t ht (.inl rfl) hl hs [];refine Qc Qdu (oN hN) (J:=[vec "double" l t]) rfl (by simp[hl,hn]) (H':=[]) ?_ (by simp[hl]) H;clear ht;simp only[XM];w_fin
theorem YF {a N:Nat}{d:FD}{as J:LA}{H:AH}(hT:TT a=some (false,d))(hN:1<=N)(hf:d.frame as=some J):(RN N).f a as H=(evSs (RN (N-1)) d.body J H).out:=QB hT hN hf rfl
noncomputable abbrev mObj (f t:LA)(u p:Nat):AC:=.obj 110 ["formals","tags","used","places"] [.lst f,.lst t,.cell u,.cell p]
theorem Qea {N:Nat}(hN:1<=N)(f t:LA)(ht:t.length<100000):(RN N).f 67 [.cell 0,.lst f,.lst t] [.obj 110 [] []]=.ok .none [mObj f t 1 2,.lst (List.replicate t.length (.int 0)),.dct [] []]:=by
 refine QB QcQ hN (J:=[.cell 0,.lst f,.lst t]) rfl ?_;have h1:(t.length<=1000000)=True:=by simp; lia
 have h2:((t.length:Int)<100000)=True:=by simp; lia
 clear ht;simp only[Z4];w_fin
structure Meths (N:Nat):Prop where
 i:∀(f t:LA),t.length<100000->(RN N).f 67 [.cell 0,.lst f,.lst t] [.obj 110 [] []]=.ok .none [mObj f t 1 2,.lst (List.replicate t.length (.int 0)),.dct [] []]
 e:∀H,(RN N).f 74 [.cell 0] H=(evSs (RN (N-1)) Jw.body [.cell 0,uS,uS] H).out
 p:∀H,(RN N).f 81 [.cell 0] H=(evSs (RN (N-1)) Jx.body [.cell 0,uS] H).out
 q:∀H,(RN N).f 95 [.cell 0] H=(evSs (RN (N-1)) Jz.body [.cell 0,uS,uS] H).out
 r:∀H,(RN N).f 107 [.cell 0] H=(evSs (RN (N-1)) JC.body [.cell 0,uS] H).out
 p2:∀s H,(RN (N-1)).f 88 [.cell 0,s] H=(evSs (RN (N-1-1)) Jy.body [.cell 0,s,uS,uS] H).out
 f:∀s H,(RN (N-1)).f 102 [.cell 0,s] H=(evSs (RN (N-1-1)) JB.body [.cell 0,s] H).out
theorem meths {N:Nat}(hN:2<=N):Meths N :=
 ⟨λf t h=>Qea (oN hN) f t h,λH=>YF QcR (oN hN) rfl,λH=>YF QcS (oN hN) rfl,λH=>YF QcU (oN hN) rfl,λH=>YF QcW (oN hN) rfl,λs H=>YF QcT (pN hN) rfl,λs H=>YF QcV (pN hN) rfl⟩
theorem YG {H:AH}(a:String):pCmp H .eq .none (.str a)=some false:=(Yx (P:=False) rfl rfl (by simp[rd])).trans (rfl)
noncomputable abbrev pwT:PE:=.and [D125,D130]
noncomputable abbrev pw:PS:=.whl pwT [.aug 1 .add (.int 1)]
theorem Qeb {N:Nat}(hN:3<=N)(a:String)(v:AV)(ha:a≠"...")  (nv:v.nc=true) (H:AH):(RN N).f 139 [.lst [.str a],.lst [.tup [.none,v]],.none] H=.ok (.tup [.dct [a] [.int 0],.lst []]) H:=by
 refine Qc Yy (oN hN) (J:=[.lst [.str a],.lst [.tup [.none,v]],.none,uS,uS,uS]) rfl (by simp[nv]) (H':=[mObj [.str a] [.none] 1 2,.lst [.int 2],.dead]) ?_ rfl H;obtain⟨i,e,p,q,r,p2,f⟩:=meths (pN hN);simp only[Jw,Jx,Jz,JC,Jy,JB] at e p q r p2 f;have i:=i [.str a] [.none] (by simp);have ea:(a="...")=False:=by simp[ha]
 have ea':(a=="...")=false:=bN ha;have c0:=λH a=>YG (H:=H) a
 have cm:evE (RN (N-1)) [.lst [.str a],.lst [.tup [.none,v]],.none,uS,uS,uS] D15 []=.ok (.lst [.none]) []:=by
  exact (QX (v:=.lst [.tup [.none,v]]) [(.tup [.none,v],.none)] (g:=Prod.fst) Prod.snd (by w_fin) rfl (Nat.le_of_ble_eq_true rfl) rfl (all1 ⟨_,rfl,by w_fin⟩)).trans rfl
 have w0:evS (RN (N-1-1)) pw [.cell 0,.int 0,.str a] [mObj [.str a] [.none] 1 2,.lst [.int 0],.dct [] []]=.ok .next [.cell 0,.int 0,.str a] [mObj [.str a] [.none] 1 2,.lst [.int 0],.dct [] []]:=by
  exact Jj (by w_fin)
 have rs:evE (RN (N-1-1)) [.cell 0,uS] D11 [mObj [.str a] [.none] 1 2,.lst [.int 2],.dct [a] [.int 0]]=.ok (.lst []) [mObj [.str a] [.none] 1 2,.lst [.int 2],.dct [a] [.int 0]]:=by
  exact (JF (v:=.rng 0 1) [.int 0] (g:=λx=>x) (λx=>x) (λ_=>false) (by w_fin) rfl (Nat.le_of_ble_eq_true rfl) rfl (all1 ⟨_,rfl,by w_fin,nofun⟩)).trans rfl
 clear ha;simp only[JN];w_fin
theorem Qec {N:Nat}(hN:3<=N)(a b:String)(v w:AV)(ha:a≠"...")(hb:b≠"...")(hab:a≠b)(nv:v.nc=true)(nw:w.nc=true)(H:AH):(RN N).f 139 [.lst [.str a,.str b],.lst [.tup [.none,v],.tup [.none,w]],.none] H=.ok (.tup [.dct [a,b] [.int 0,.int 1],.lst []]) H:=by
 refine Qc Yy (oN hN) (J:=[.lst [.str a,.str b],.lst [.tup [.none,v],.tup [.none,w]],.none,uS,uS,uS]) rfl (by simp[nv,nw]) (H':=[mObj [.str a,.str b] [.none,.none] 1 2,.lst [.int 2,.int 2],.dead]) ?_ rfl H;obtain⟨i,e,p,q,r,p2,f⟩:=meths (pN hN);simp only[Jw,Jx,Jz,JC,Jy,JB] at e p q r p2 f;have i:=i [.str a,.str b] [.none,.none] (by simp);have ea:(a="...")=False:=by simp[ha]
 have ea':(a=="...")=false:=bN ha;have eb:(b="...")=False:=by simp[hb]
 have eb':(b=="...")=false:=bN hb;have eab:(a=b)=False:=by simp[hab]
 have eab':(a==b)=false:=bN hab;have eba:(b=a)=False:=by simp[Ne.symm hab]
 have eba':(b==a)=false:=bN (Ne.symm hab);have c0:=λH a=>YG (H:=H) a
 have cm:evE (RN (N-1)) [.lst [.str a,.str b],.lst [.tup [.none,v],.tup [.none,w]],.none,uS,uS,uS] D15 []=.ok (.lst [.none,.none]) []:=by
  exact (QX (v:=.lst [.tup [.none,v],.tup [.none,w]]) [(.tup [.none,v],.none),(.tup [.none,w],.none)] (g:=Prod.fst) Prod.snd (by w_fin) rfl (Nat.le_of_ble_eq_true rfl) rfl (allC ⟨_,rfl,by w_fin⟩ (all1 ⟨_,rfl,by w_fin⟩))).trans rfl
 have w0:evS (RN (N-1-1)) pw [.cell 0,.int 0,.str a] [mObj [.str a,.str b] [.none,.none] 1 2,.lst [.int 0,.int 0],.dct [] []]=.ok .next [.cell 0,.int 0,.str a] [mObj [.str a,.str b] [.none,.none] 1 2,.lst [.int 0,.int 0],.dct [] []]:=by
  exact Jj (by w_fin)
 have w1:evS (RN (N-1-1)) pw [.cell 0,.int 0,.str b] [mObj [.str a,.str b] [.none,.none] 1 2,.lst [.int 2,.int 0],.dct [a] [.int 0]]=.ok .next [.cell 0,.int 1,.str b] [mObj [.str a,.str b] [.none,.none] 1 2,.lst [.int 2,.int 0],.dct [a] [.int 0]]:=by
  refine Kh (J':=[.cell 0,.int 1,.str b]) (H':=[mObj [.str a,.str b] [.none,.none] 1 2,.lst [.int 2,.int 0],.dct [a] [.int 0]]) (by w_fin) (by w_fin; rfl) ?_ nofun;exact Jj (by w_fin)
 have rs:evE (RN (N-1-1)) [.cell 0,uS] D11 [mObj [.str a,.str b] [.none,.none] 1 2,.lst [.int 2,.int 2],.dct [a,b] [.int 0,.int 1]]=.ok (.lst []) [mObj [.str a,.str b] [.none,.none] 1 2,.lst [.int 2,.int 2],.dct [a,b] [.int 0,.int 1]]:=by
  exact (JF (v:=.rng 0 2) [.int 0,.int 1] (g:=λx=>x) (λx=>x) (λ_=>false) (by w_fin) rfl (Nat.le_of_ble_eq_true rfl) rfl (allC ⟨_,rfl,by w_fin,nofun⟩ (all1 ⟨_,rfl,by w_fin,nofun⟩))).trans rfl
 clear ha hb hab;simp only[JN];w_fin
theorem Qed {N:Nat}(hN:3<=N)(a b:String)(v:AV)(ha:a≠"...")(hb:b≠"...")(hab:a≠b)(nv:v.nc=true)(H:AH):(RN N).f 139 [.lst [.str a,.str b],.lst [.tup [.none,v]],.none] H=.ok (.tup [.dct [a] [.int 0],.lst []]) H:=by
 refine Qc Yy (oN hN) (J:=[.lst [.str a,.str b],.lst [.tup [.none,v]],.none,uS,uS,uS]) rfl (by simp[nv]) (H':=[mObj [.str a,.str b] [.none] 1 2,.lst [.int 2],.dead]) ?_ rfl H;obtain⟨i,e,p,q,r,p2,f⟩:=meths (pN hN);simp only[Jw,Jx,Jz,JC,Jy,JB] at e p q r p2 f;have i:=i [.str a,.str b] [.none] (by simp);have ea:(a="...")=False:=by simp[ha]
 have ea':(a=="...")=false:=bN ha;have eb:(b="...")=False:=by simp[hb]
 have eb':(b=="...")=false:=bN hb;have eab:(a=b)=False:=by simp[hab]
 have eab':(a==b)=false:=bN hab;have eba:(b=a)=False:=by simp[Ne.symm hab]
 have eba':(b==a)=false:=bN (Ne.symm hab);have c0:=λH a=>YG (H:=H) a
 have cm:evE (RN (N-1)) [.lst [.str a,.str b],.lst [.tup [.none,v]],.none,uS,uS,uS] D15 []=.ok (.lst [.none]) []:=by
  exact (QX (v:=.lst [.tup [.none,v]]) [(.tup [.none,v],.none)] (g:=Prod.fst) Prod.snd (by w_fin) rfl (Nat.le_of_ble_eq_true rfl) rfl (all1 ⟨_,rfl,by w_fin⟩)).trans rfl
 have w0:evS (RN (N-1-1)) pw [.cell 0,.int 0,.str a] [mObj [.str a,.str b] [.none] 1 2,.lst [.int 0],.dct [] []]=.ok .next [.cell 0,.int 0,.str a] [mObj [.str a,.str b] [.none] 1 2,.lst [.int 0],.dct [] []]:=by
  exact Jj (by w_fin)
 have w1:evS (RN (N-1-1)) pw [.cell 0,.int 0,.str b] [mObj [.str a,.str b] [.none] 1 2,.lst [.int 2],.dct [a] [.int 0]]=.ok .next [.cell 0,.int 1,.str b] [mObj [.str a,.str b] [.none] 1 2,.lst [.int 2],.dct [a] [.int 0]]:=by
  refine Kh (J':=[.cell 0,.int 1,.str b]) (H':=[mObj [.str a,.str b] [.none] 1 2,.lst [.int 2],.dct [a] [.int 0]]) (by w_fin) (by w_fin; rfl) ?_ nofun;exact Jj (by w_fin)
 have rs:evE (RN (N-1-1)) [.cell 0,uS] D11 [mObj [.str a,.str b] [.none] 1 2,.lst [.int 2],.dct [a] [.int 0]]=.ok (.lst []) [mObj [.str a,.str b] [.none] 1 2,.lst [.int 2],.dct [a] [.int 0]]:=by
  exact (JF (v:=.rng 0 1) [.int 0] (g:=λx=>x) (λx=>x) (λ_=>false) (by w_fin) rfl (Nat.le_of_ble_eq_true rfl) rfl (all1 ⟨_,rfl,by w_fin,nofun⟩)).trans rfl
 clear ha hb hab;simp only[JN];w_fin
theorem Qee {N:Nat}(hN:3<=N)(a b:String)(v w:AV)(ha:a≠"...")(hb:b≠"...")(hab:a≠b)(nv:v.nc=true)(nw:w.nc=true)(H:AH):(RN N).f 139 [.lst [.str a,.str b],.lst [.tup [.none,v],.tup [.str b,w]],.none] H=.ok (.tup [.dct [b,a] [.int 1,.int 0],.lst []]) H:=by
 refine Qc Yy (oN hN) (J:=[.lst [.str a,.str b],.lst [.tup [.none,v],.tup [.str b,w]],.none,uS,uS,uS]) rfl (by simp[nv,nw]) (H':=[mObj [.str a,.str b] [.none,.str b] 1 2,.lst [.int 2,.int 2],.dead]) ?_ rfl H;obtain⟨i,e,p,q,r,p2,f⟩:=meths (pN hN);simp only[Jw,Jx,Jz,JC,Jy,JB] at e p q r p2 f;have i:=i [.str a,.str b] [.none,.str b] (by simp);have ea:(a="...")=False:=by simp[ha]
 have ea':(a=="...")=false:=bN ha;have eb:(b="...")=False:=by simp[hb]
 have eb':(b=="...")=false:=bN hb;have eab:(a=b)=False:=by simp[hab]
 have eab':(a==b)=false:=bN hab;have eba:(b=a)=False:=by simp[Ne.symm hab]
 have eba':(b==a)=false:=bN (Ne.symm hab);have c0:=λH a=>YG (H:=H) a
 have cm:evE (RN (N-1)) [.lst [.str a,.str b],.lst [.tup [.none,v],.tup [.str b,w]],.none,uS,uS,uS] D15 []=.ok (.lst [.none,.str b]) []:=by
  exact (QX (v:=.lst [.tup [.none,v],.tup [.str b,w]]) [(.tup [.none,v],.none),(.tup [.str b,w],.str b)] (g:=Prod.fst) Prod.snd (by w_fin) rfl (Nat.le_of_ble_eq_true rfl) rfl (allC ⟨_,rfl,by w_fin⟩ (all1 ⟨_,rfl,by w_fin⟩))).trans rfl
 have w0:evS (RN (N-1-1)) pw [.cell 0,.int 0,.str a] [mObj [.str a,.str b] [.none,.str b] 1 2,.lst [.int 0,.int 2],.dct [b] [.int 1]]=.ok .next [.cell 0,.int 0,.str a] [mObj [.str a,.str b] [.none,.str b] 1 2,.lst [.int 0,.int 2],.dct [b] [.int 1]]:=by
  exact Jj (by w_fin)
 have rs:evE (RN (N-1-1)) [.cell 0,uS] D11 [mObj [.str a,.str b] [.none,.str b] 1 2,.lst [.int 2,.int 2],.dct [b,a] [.int 1,.int 0]]=.ok (.lst []) [mObj [.str a,.str b] [.none,.str b] 1 2,.lst [.int 2,.int 2],.dct [b,a] [.int 1,.int 0]]:=by
  exact (JF (v:=.rng 0 2) [.int 0,.int 1] (g:=λx=>x) (λx=>x) (λ_=>false) (by w_fin) rfl (Nat.le_of_ble_eq_true rfl) rfl (allC ⟨_,rfl,by w_fin,nofun⟩ (all1 ⟨_,rfl,by w_fin,nofun⟩))).trans rfl
 clear ha hb hab;simp only[JN];w_fin
theorem Qef {N:Nat}(hN:3<=N)(a b c:String)(v:AV)(ha:a≠"...")(hb:b≠"...")(hc:c≠"...")(hab:a≠b)(hac:a≠c)(hbc:b≠c)(nv:v.nc=true)(H:AH):(RN N).f 139 [.lst [.str a,.str b,.str c],.lst [.tup [.none,v]],.none] H=.ok (.tup [.dct [a] [.int 0],.lst []]) H:=by
 refine Qc Yy (oN hN) (J:=[.lst [.str a,.str b,.str c],.lst [.tup [.none,v]],.none,uS,uS,uS]) rfl (by simp[nv]) (H':=[mObj [.str a,.str b,.str c] [.none] 1 2,.lst [.int 2],.dead]) ?_ rfl H;obtain⟨i,e,p,q,r,p2,f⟩:=meths (pN hN);simp only[Jw,Jx,Jz,JC,Jy,JB] at e p q r p2 f;have i:=i [.str a,.str b,.str c] [.none] (by simp);have ea:(a="...")=False:=by simp[ha]
 have ea':(a=="...")=false:=bN ha;have eb:(b="...")=False:=by simp[hb]
 have eb':(b=="...")=false:=bN hb;have ec:(c="...")=False:=by simp[hc]
 have ec':(c=="...")=false:=bN hc;have eab:(a=b)=False:=by simp[hab]
 have eab':(a==b)=false:=bN hab;have eba:(b=a)=False:=by simp[Ne.symm hab]
 have eba':(b==a)=false:=bN (Ne.symm hab);have eac:(a=c)=False:=by simp[hac]
 have eac':(a==c)=false:=bN hac;have eca:(c=a)=False:=by simp[Ne.symm hac]
 have eca':(c==a)=false:=bN (Ne.symm hac);have ebc:(b=c)=False:=by simp[hbc]
 have ebc':(b==c)=false:=bN hbc;have ecb:(c=b)=False:=by simp[Ne.symm hbc]
 have ecb':(c==b)=false:=bN (Ne.symm hbc);have c0:=λH a=>YG (H:=H) a
 have cm:evE (RN (N-1)) [.lst [.str a,.str b,.str c],.lst [.tup [.none,v]],.none,uS,uS,uS] D15 []=.ok (.lst [.none]) []:=by
  exact (QX (v:=.lst [.tup [.none,v]]) [(.tup [.none,v],.none)] (g:=Prod.fst) Prod.snd (by w_fin) rfl (Nat.le_of_ble_eq_true rfl) rfl (all1 ⟨_,rfl,by w_fin⟩)).trans rfl
 have w0:evS (RN (N-1-1)) pw [.cell 0,.int 0,.str a] [mObj [.str a,.str b,.str c] [.none] 1 2,.lst [.int 0],.dct [] []]=.ok .next [.cell 0,.int 0,.str a] [mObj [.str a,.str b,.str c] [.none] 1 2,.lst [.int 0],.dct [] []]:=by
  exact Jj (by w_fin)
 have w1:evS (RN (N-1-1)) pw [.cell 0,.int 0,.str b] [mObj [.str a,.str b,.str c] [.none] 1 2,.lst [.int 2],.dct [a] [.int 0]]=.ok .next [.cell 0,.int 1,.str b] [mObj [.str a,.str b,.str c] [.none] 1 2,.lst [.int 2],.dct [a] [.int 0]]:=by
  refine Kh (J':=[.cell 0,.int 1,.str b]) (H':=[mObj [.str a,.str b,.str c] [.none] 1 2,.lst [.int 2],.dct [a] [.int 0]]) (by w_fin) (by w_fin; rfl) ?_ nofun;exact Jj (by w_fin)
 have w2:evS (RN (N-1-1)) pw [.cell 0,.int 1,.str c] [mObj [.str a,.str b,.str c] [.none] 1 2,.lst [.int 2],.dct [a] [.int 0]]=.ok .next [.cell 0,.int 1,.str c] [mObj [.str a,.str b,.str c] [.none] 1 2,.lst [.int 2],.dct [a] [.int 0]]:=by
  exact Jj (by w_fin)
 have rs:evE (RN (N-1-1)) [.cell 0,uS] D11 [mObj [.str a,.str b,.str c] [.none] 1 2,.lst [.int 2],.dct [a] [.int 0]]=.ok (.lst []) [mObj [.str a,.str b,.str c] [.none] 1 2,.lst [.int 2],.dct [a] [.int 0]]:=by
  exact (JF (v:=.rng 0 1) [.int 0] (g:=λx=>x) (λx=>x) (λ_=>false) (by w_fin) rfl (Nat.le_of_ble_eq_true rfl) rfl (all1 ⟨_,rfl,by w_fin,nofun⟩)).trans rfl
 clear ha hb hc hab hac hbc;simp only[JN];w_fin
theorem Qeg {N:Nat}(hN:3<=N)(a b c:String)(v w x:AV)(ha:a≠"...")(hb:b≠"...")(hc:c≠"...")(hab:a≠b)(hac:a≠c)(hbc:b≠c)(nv:v.nc=true)(nw:w.nc=true)(nx:x.nc=true)(H:AH):(RN N).f 139 [.lst [.str a,.str b,.str c],.lst [.tup [.none,v],.tup [.str b,w],.tup [.str c,x]],.none] H=.ok (.tup [.dct [b,c,a] [.int 1,.int 2,.int 0],.lst []]) H:=by
 refine Qc Yy (oN hN) (J:=[.lst [.str a,.str b,.str c],.lst [.tup [.none,v],.tup [.str b,w],.tup [.str c,x]],.none,uS,uS,uS]) rfl (by simp[nv,nw,nx]) (H':=[mObj [.str a,.str b,.str c] [.none,.str b,.str c] 1 2,.lst [.int 2,.int 2,.int 2],.dead]) ?_ rfl H;obtain⟨i,e,p,q,r,p2,f⟩:=meths (pN hN);simp only[Jw,Jx,Jz,JC,Jy,JB] at e p q r p2 f;have i:=i [.str a,.str b,.str c] [.none,.str b,.str c] (by simp);have ea:(a="...")=False:=by simp[ha]
 have ea':(a=="...")=false:=bN ha;have eb:(b="...")=False:=by simp[hb]
 have eb':(b=="...")=false:=bN hb;have ec:(c="...")=False:=by simp[hc]
 have ec':(c=="...")=false:=bN hc;have eab:(a=b)=False:=by simp[hab]
 have eab':(a==b)=false:=bN hab;have eba:(b=a)=False:=by simp[Ne.symm hab]
 have eba':(b==a)=false:=bN (Ne.symm hab);have eac:(a=c)=False:=by simp[hac]
 have eac':(a==c)=false:=bN hac;have eca:(c=a)=False:=by simp[Ne.symm hac]
 have eca':(c==a)=false:=bN (Ne.symm hac);have ebc:(b=c)=False:=by simp[hbc]
 have ebc':(b==c)=false:=bN hbc;have ecb:(c=b)=False:=by simp[Ne.symm hbc]
 have ecb':(c==b)=false:=bN (Ne.symm hbc);have c0:=λH a=>YG (H:=H) a
 have cm:evE (RN (N-1)) [.lst [.str a,.str b,.str c],.lst [.tup [.none,v],.tup [.str b,w],.tup [.str c,x]],.none,uS,uS,uS] D15 []=.ok (.lst [.none,.str b,.str c]) []:=by
  exact (QX (v:=.lst [.tup [.none,v],.tup [.str b,w],.tup [.str c,x]]) [(.tup [.none,v],.none),(.tup [.str b,w],.str b),(.tup [.str c,x],.str c)] (g:=Prod.fst) Prod.snd (by w_fin) rfl (Nat.le_of_ble_eq_true rfl) rfl (allC ⟨_,rfl,by w_fin⟩ (allC ⟨_,rfl,by w_fin⟩ (all1 ⟨_,rfl,by w_fin⟩)))).trans rfl
 have w0:evS (RN (N-1-1)) pw [.cell 0,.int 0,.str a] [mObj [.str a,.str b,.str c] [.none,.str b,.str c] 1 2,.lst [.int 0,.int 2,.int 2],.dct [b,c] [.int 1,.int 2]]=.ok .next [.cell 0,.int 0,.str a] [mObj [.str a,.str b,.str c] [.none,.str b,.str c] 1 2,.lst [.int 0,.int 2,.int 2],.dct [b,c] [.int 1,.int 2]]:=by
  exact Jj (by w_fin)
 have rs:evE (RN (N-1-1)) [.cell 0,uS] D11 [mObj [.str a,.str b,.str c] [.none,.str b,.str c] 1 2,.lst [.int 2,.int 2,.int 2],.dct [b,c,a] [.int 1,.int 2,.int 0]]=.ok (.lst []) [mObj [.str a,.str b,.str c] [.none,.str b,.str c] 1 2,.lst [.int 2,.int 2,.int 2],.dct [b,c,a] [.int 1,.int 2,.int 0]]:=by
  exact (JF (v:=.rng 0 3) [.int 0,.int 1,.int 2] (g:=λx=>x) (λx=>x) (λ_=>false) (by w_fin) rfl (Nat.le_of_ble_eq_true rfl) rfl (allC ⟨_,rfl,by w_fin,nofun⟩ (allC ⟨_,rfl,by w_fin,nofun⟩ (all1 ⟨_,rfl,by w_fin,nofun⟩)))).trans rfl
 clear ha hb hc hab hac hbc;simp only[JN];w_fin
theorem JG {N:Nat}(hN:4<=N)(a:String)(v:AV)(ha:a≠"...")  (nv:v.nc=true) (H:AH):(RN N).f 152 [.lst [.tup [.none,v]],.lst [.str a]] H=.ok (.lst [v]) H:=by
 refine Qc Yz (oN hN) (J:=[.lst [.tup [.none,v]],.lst [.str a],.none,uS,uS,uS,uS,uS]) rfl (by simp[nv]) (H':=[.dead]) ?_ (by simp[nv]) H;have m:=Qeb (pN hN) a v ha nv [];have ea':(a=="...")=false:=bN ha;clear ha;simp only[JP];w_fin
theorem Jp {N:Nat}(hN:4<=N)(a b:String)(v w:AV)(ha:a≠"...")(hb:b≠"...")(hab:a≠b)(nv:v.nc=true)(nw:w.nc=true)(H:AH):(RN N).f 152 [.lst [.tup [.none,v],.tup [.none,w]],.lst [.str a,.str b]] H=.ok (.lst [v,w]) H:=by
 refine Qc Yz (oN hN) (J:=[.lst [.tup [.none,v],.tup [.none,w]],.lst [.str a,.str b],.none,uS,uS,uS,uS,uS]) rfl (by simp[nv,nw]) (H':=[.dead]) ?_ (by simp[nv,nw]) H;have m:=Qec (pN hN) a b v w ha hb hab nv nw [];have ea':(a=="...")=false:=bN ha;have eb':(b=="...")=false:=bN hb;have eab':(a==b)=false:=bN hab;have eab:(a=b)=False:=by simp[hab]
 clear ha hb hab;simp only[JP];w_fin
theorem Ky {N:Nat}(hN:4<=N)(a b:String)(v:AV)(ha:a≠"...")(hb:b≠"...")(hab:a≠b)(nv:v.nc=true)(H:AH):(RN N).f 152 [.lst [.tup [.none,v]],.lst [.str a,.str b]] H=.ok (.lst [v,.none]) H:=by
 refine Qc Yz (oN hN) (J:=[.lst [.tup [.none,v]],.lst [.str a,.str b],.none,uS,uS,uS,uS,uS]) rfl (by simp[nv]) (H':=[.dead]) ?_ (by simp[nv]) H;have m:=Qed (pN hN) a b v ha hb hab nv [];have ea':(a=="...")=false:=bN ha;have eb':(b=="...")=false:=bN hb;have eba:(b=a)=False:=by simp[Ne.symm hab]
 have eab':(a==b)=false:=bN hab;clear ha hb hab;simp only[JP];w_fin
theorem Qeh {N:Nat}(hN:4<=N)(a b:String)(v w:AV)(ha:a≠"...")(hb:b≠"...")(hab:a≠b)(nv:v.nc=true)(nw:w.nc=true)(H:AH):(RN N).f 152 [.lst [.tup [.none,v],.tup [.str b,w]],.lst [.str a,.str b]] H=.ok (.lst [v,w]) H:=by
 refine Qc Yz (oN hN) (J:=[.lst [.tup [.none,v],.tup [.str b,w]],.lst [.str a,.str b],.none,uS,uS,uS,uS,uS]) rfl (by simp[nv,nw]) (H':=[.dead]) ?_ (by simp[nv,nw]) H;have m:=Qee (pN hN) a b v w ha hb hab nv nw [];have ea':(a=="...")=false:=bN ha;have eb':(b=="...")=false:=bN hb;have eba:(b=a)=False:=by simp[Ne.symm hab]
 clear ha hb hab;simp only[JP];w_fin
theorem j6 {N:Nat}(hN:4<=N)(a b c:String)(v:AV)(ha:a≠"...")(hb:b≠"...")(hc:c≠"...")(hab:a≠b)(hac:a≠c)(hbc:b≠c)(nv:v.nc=true)(H:AH):(RN N).f 152 [.lst [.tup [.none,v]],.lst [.str a,.str b,.str c]] H=.ok (.lst [v,.none,.none]) H:=by
 refine Qc Yz (oN hN) (J:=[.lst [.tup [.none,v]],.lst [.str a,.str b,.str c],.none,uS,uS,uS,uS,uS]) rfl (by simp[nv]) (H':=[.dead]) ?_ (by simp[nv]) H;have m:=Qef (pN hN) a b c v ha hb hc hab hac hbc nv [];have ea':(a=="...")=false:=bN ha;have eb':(b=="...")=false:=bN hb;have ec':(c=="...")=false:=bN hc;have eca:(c=a)=False:=by simp[Ne.symm hac]
 have eba:(b=a)=False:=by simp[Ne.symm hab]
 clear ha hb hc hab hac hbc;simp only[JP];w_fin
theorem Qei {N:Nat}(hN:4<=N)(a b c:String)(v w x:AV)(ha:a≠"...")(hb:b≠"...")(hc:c≠"...")(hab:a≠b)(hac:a≠c)(hbc:b≠c)(nv:v.nc=true)(nw:w.nc=true)(nx:x.nc=true)(H:AH):(RN N).f 152 [.lst [.tup [.none,v],.tup [.str b,w],.tup [.str c,x]],.lst [.str a,.str b,.str c]] H=.ok (.lst [v,w,x]) H:=by
 refine Qc Yz (oN hN) (J:=[.lst [.tup [.none,v],.tup [.str b,w],.tup [.str c,x]],.lst [.str a,.str b,.str c],.none,uS,uS,uS,uS,uS]) rfl (by simp[nv,nw,nx]) (H':=[.dead]) ?_ (by simp[nv,nw,nx]) H;have m:=Qeg (pN hN) a b c v w x ha hb hc hab hac hbc nv nw nx [];have ea':(a=="...")=false:=bN ha;have eb':(b=="...")=false:=bN hb;have ec':(c=="...")=false:=bN hc;have eba:(b=a)=False:=by simp[Ne.symm hab]
 have ebc:(b=c)=False:=by simp[hbc]
 have eca:(c=a)=False:=by simp[Ne.symm hac]
 clear ha hb hc hab hac hbc;simp only[JP];w_fin
theorem QJ {N:Nat}(hN:1<=N)(k:String)(l:LA)(t:AV)(s:String)(hl:AV.ncs l=true)(ht:t.nc=true)(H:AH):(RN N).f 146 [vec k l t,.str s] H=.ok (vec k l t) H:=by
 refine Qc QcX hN (J:=[vec k l t,.str s]) rfl (by simp[hl,ht]) (H':=[]) ?_ (by simp[hl,ht]) H;w_fin
theorem V9 {C:Orc}{J:LA}{H:AH}(o i:PE):evE C J (.from o i) H=(evE C J o H).bind λv H=>(evE C J i H).bind λx H=>.opt v.lst? λl=>.opt x.int? λk=>if 0<=k/\k<=l.length/\l.length<=1000000 then .ok (.lst (l.drop k.toNat)) H else .stuck:=rfl
theorem Qej {C:Orc}{J:LA}{H:AH}(o i:PE):evE C J (.upto o i) H=(evE C J o H).bind λv H=>(evE C J i H).bind λx H=>.opt v.lst? λl=>.opt x.int? λk=>if 0<=k/\k<1000000/\l.length<=1000000 then .ok (.lst (l.take k.toNat)) H else .stuck:=rfl
theorem j7 {N:Nat}(hN:5<=N)(a:String)(k:String)(l:LA)(t:AV)(ha:a≠"...")(hl:AV.ncs l=true)(ht:t.nc=true)(H:AH):(RN N).f 833 [.lst [.tup [.none,vec k l t]],.lst [.str a]] H=.ok (.tup [vec k l t,.lst []]) H:=by
 refine Qc VM (oN hN) (J:=[.lst [.tup [.none,vec k l t]],.lst [.str a],uS,uS]) rfl (by simp[hl,ht]) (H':=[]) ?_ (by simp[hl,ht]) H;have tk:=JG (pN hN) a (vec k l t) ha (by simp[hl,ht]) [];have iv:=QC (pN hN) k l t hl ht [];have nd:=QJ (pN hN) k l t a hl ht [];simp only[Wb];w_fin;w_fin
theorem Qek {N:Nat}(hN:5<=N)(a b:String)(k:String)(l:LA)(t:AV)(w:AV)(ha:a≠"...")(hb:b≠"...")(hab:a≠b)(hl:AV.ncs l=true)(ht:t.nc=true)(hw:w.nc=true)(H:AH):(RN N).f 833 [.lst [.tup [.none,vec k l t],.tup [.str b,w]],.lst [.str a,.str b]] H=.ok (.tup [vec k l t,.lst [w]]) H:=by
 refine Qc VM (oN hN) (J:=[.lst [.tup [.none,vec k l t],.tup [.str b,w]],.lst [.str a,.str b],uS,uS]) rfl (by simp[hl,ht,hw]) (H':=[]) ?_ (by simp[hl,ht,hw]) H;have tk:=Qeh (pN hN) a b (vec k l t) w ha hb hab (by simp[hl,ht]) hw [];have iv:=QC (pN hN) k l t hl ht [];have nd:=QJ (pN hN) k l t a hl ht [];simp only[Wb];w_fin;w_fin
theorem Qel {N:Nat}(hN:5<=N)(a b:String)(k:String)(l:LA)(t:AV)(ha:a≠"...")(hb:b≠"...")(hab:a≠b)(hl:AV.ncs l=true)(ht:t.nc=true)(H:AH):(RN N).f 833 [.lst [.tup [.none,vec k l t]],.lst [.str a,.str b]] H=.ok (.tup [vec k l t,.lst [.none]]) H:=by
 refine Qc VM (oN hN) (J:=[.lst [.tup [.none,vec k l t]],.lst [.str a,.str b],uS,uS]) rfl (by simp[hl,ht]) (H':=[]) ?_ (by simp[hl,ht]) H;have tk:=Ky (pN hN) a b (vec k l t) ha hb hab (by simp[hl,ht]) [];have iv:=QC (pN hN) k l t hl ht [];have nd:=QJ (pN hN) k l t a hl ht [];simp only[Wb];w_fin;w_fin
noncomputable def cmj (r c:Nat)(e:Nat->Nat->AV):LA:=(List.range c).flatMap λj=>(List.range r).map λi=>e i j
theorem Kz (r c:Nat)(e:Nat->Nat->AV):cmj r (c+1) e=cmj r c e++(List.range r).map λi=>e i c:=by
 unfold cmj;simp only[List.range_succ,List.flatMap_append];simp
theorem Qn (r:Nat)(e:Nat->Nat->AV)(c:Nat):(cmj r c e).length=r*c:=by
 induction c with
 | zero=>rfl
 | succ c ih=>rw[Kz,List.length_append,ih,List.length_map,List.length_range,Nat.mul_succ]
theorem cm_get {r:Nat}{e:Nat->Nat->AV}{c:Nat}:∀{i j:Nat},i<r->j<c->(cmj r c e)[j*r+i]?=some (e i j):=by
 induction c with
 | zero=>exact λ_ h=>absurd h (Nat.not_lt_zero _)
 | succ c ih =>
  intro i j hi hj;rw[Kz];by_cases hjc:j<c
  ·have hl:j*r+i<r*c:=Nat.lt_of_lt_of_le (Nat.add_lt_add_left hi _) (by rw[<-Nat.succ_mul,Nat.mul_comm]; exact Nat.mul_le_mul_left _ hjc)
   rw[List.getElem?_append_left (by rw[Qn]; exact hl)];exact ih hi hjc
  ·obtain rfl:j=c:=Nat.le_antisymm (Nat.le_of_lt_succ hj) (Nat.le_of_not_lt hjc)
   rw[List.getElem?_append_right (by rw[Qn,Nat.mul_comm]; exact Nat.le_add_right _ _),Qn,Nat.mul_comm r j,Nat.add_sub_cancel_left,List.getElem?_map,List.getElem?_range hi];rfl
theorem QZ {l:LA}:(∀x∈l,x.nc=true)->AV.ncs l=true:=by
 induction l with
 | nil=>exact λ_=>rfl
 | cons x l ih =>
  intro h;simp[h x (.head _),ih λy hy=>h y (.tail _ hy)]
theorem Ua {l:LA}:AV.ncs l=true->∀x∈l,x.nc=true:=by
 induction l with
 | nil =>
  intro _ x h;cases h
 | cons y l ih =>
  intro h x hx
  replace h:=anD h
  rcases mcD hx with rfl | hx
  ·exact h.1
  ·exact ih h.2 x hx
theorem j8 {r c:Nat}{e:Nat->Nat->AV}{x:AV}(h:x∈cmj r c e):∃i j,i<r/\j<c/\x=e i j:=by
 obtain⟨j,hj,h⟩:=List.mem_flatMap.mp h;obtain⟨i,hi,h⟩:=mmD h;exact⟨i,j,by simpa using hi,by simpa using hj,h.symm⟩
theorem Qu {r c:Nat}{e:Nat->Nat->AV}(h:∀i j,i<r->j<c->(e i j).nc=true):AV.ncs (cmj r c e)=true:=QZ λx hx=>by
 obtain⟨i,j,hi,hj,rfl⟩:=j8 hx;exact h i j hi hj
noncomputable def rwj (r c:Nat)(e:Nat->Nat->AV):LA:=(List.range r).map λi=>.lst ((List.range c).map λj=>e i j)
theorem KC {r c i:Nat}{e:Nat->Nat->AV}(h:i<r):(rwj r c e)[i]?=some (.lst ((List.range c).map λj=>e i j)):=by
 unfold rwj; simp[h]
theorem YH (r c:Nat)(e:Nat->Nat->AV):(rwj r c e).length=r:=by unfold rwj; simp
theorem YJ {r c:Nat}{e:Nat->Nat->AV}(h:∀i j,i<r->j<c->(e i j).nc=true):AV.ncs (rwj r c e)=true:=QZ λx hx=>by
 obtain⟨i,hi,rfl⟩:=mmD hx;exact QZ λy hy=>by
  obtain⟨j,hj,rfl⟩:=mmD hy;exact h i j (by simpa using hi) (by simpa using hj)
theorem KD {r c:Nat}{e f:Nat->Nat->AV}(h:∀i j,i<r->j<c->e i j=f i j):rwj r c e=rwj r c f :=
 List.map_congr_left λi hi=>congrArg AV.lst (List.map_congr_left λj hj=>h i j (by simpa using hi) (by simpa using hj))
theorem Qem {α:Type}(pre:List α)(x v:α)(l:List α):(pre++x::l).set pre.length v=pre++v::l:=by simp
theorem Qen {α:Type}(pre:List α)(x y v:α)(l:List α):(pre++x::y::l).set (pre.length+1) v=pre++x::v::l:=by
 induction pre with
 | nil=>rfl
 | cons a pre ih=>simpa using ih
theorem YK {C:Orc}{kc kp q r c:Nat}{itR:PE}{b:List PS}{pre:LA}{e:Nat->Nat->AV}(hkc:kc=pre.length)(hkp:kp=pre.length+1)(hs:r*c<=90000)
  (hR:∀j y post H,j<c->post.length=q->evE C (pre++.int j::y::post) itR H=.ok (.rng 0 r) H)
  (hB:∀i j post l,i<r->j<c->post.length=q->l.length<=90000->∃post',post'.length=q/\evSs C b (pre++.int j::.int i::post) [.lst l]=.ok .next (pre++.int j::.int i::post') [.lst (l++[e i j])])
  (x y:AV) (post:LA) (hp:post.length=q) :
  ∃x' y' post',post'.length=q/\forL C [kc] true [.for_ [kp] true itR b] ((List.range c).map λ(i:Nat)=>AV.int (i:Int)) (pre++x::y::post) [.lst []]=.ok .next (pre++x'::y'::post') [.lst (cmj r c e)]:=by
 obtain⟨J',H',e1,x',y',post',hp',rfl,rfl⟩:=QW (C:=C) (k:=kc) (b:=[.for_ [kp] true itR b]) (n:=c) (P:=λj J H=>∃x y post,post.length=q/\J=pre++x::y::post/\H=[.lst (cmj r j e)]) (λj hj J H ⟨x,y,post,hp,h1,h2⟩=>by
  subst h1 h2;have hlen:∀i,i<=r->r*j+i<=90000:=λi hi=>by
   have:r*(j+1)<=r*c:=Nat.mul_le_mul_left _ hj;exact Nat.le_trans (Nat.add_le_add_left hi _) (Nat.le_trans this hs)
  obtain⟨J_1,H_1,e2,y',post',hp',rfl,rfl⟩:=QW (C:=C) (k:=kp) (b:=b) (n:=r) (P:=λi J H=>∃y post,post.length=q/\J=pre++.int j::y::post/\H=[.lst (cmj r j e++(List.range i).map λi=>e i j)]) (λi hi J H q71=>by
   obtain⟨y,post,hp,h1,h2⟩:=q71;subst h1 h2;obtain⟨post',hp',e3⟩:=hB i j post (cmj r j e++(List.range i).map λi=>e i j) hi hj hp (by rw[List.length_append,Qn,List.length_map,List.length_range]; exact hlen i (by lia));simp only[hkp,Qen];exact⟨.next,_,_,e3,.inl rfl,_,_,hp',rfl,by rw[List.range_succ,List.map_append,List.append_assoc]; rfl⟩) (J:=pre++.int j::y::post) (H:=[.lst (cmj r j e)]) ⟨y,post,hp,rfl,by simp⟩
  refine⟨.next,pre++.int j::y'::post',[.lst (cmj r j e++(List.range r).map λi=>e i j)],?_,.inl rfl,.int j,y',post',hp',rfl,by rw[Kz]⟩;simp only[hkc,Qem,ss_cons,jj,hR j y post _ hj hp];simp only[jf,QD,jg,e2,k_seq,jk]) (J:=pre++x::y::post) (H:=[.lst []]) ⟨x,y,post,hp,rfl,rfl⟩
 exact⟨x',y',post',hp',e1⟩
theorem Qeo {N:Nat}(hN:1<=N)(H:AH):(RN N).f 756 [.lst [.none,.none]] H=.ok .none H:=by
 refine Qc Qdq hN (J:=[.lst [.none,.none],uS,uS,uS]) rfl rfl (H':=[]) ?_ rfl H;have cm:evE (RN (N-1)) [.lst [.none,.none],uS,uS,uS] D129 []=.ok (.lst []) []:=by
  exact (JF (v:=.lst [.none,.none]) [.none,.none] (g:=λx=>x) (λx=>x) (λ_=>false) (by w_fin) rfl (Nat.le_of_ble_eq_true rfl) rfl (allC ⟨_,rfl,by w_fin,nofun⟩ (all1 ⟨_,rfl,by w_fin,nofun⟩))).trans rfl
 simp only[XF];w_fin
theorem Qep {N:Nat}(hN:3<=N)(k:String)(l:LA)(r c:Nat)(hl:AV.ncs l=true)(H:AH):(RN N).f 763 [.str k,.lst l,.lst [.int r,.int c],.lst [.none,.none]] H=.ok (vec k l (dimA r c)) H:=by
 refine Qc Qdr (oN hN) (J:=[.str k,.lst l,.lst [.int r,.int c],.lst [.none,.none],uS,uS]) rfl (by simp[hl]) (H':=[.dead]) ?_ (by simp[hl]) H;have i:=QH (pN hN) k l [];simp only[List.length_nil,List.nil_append] at i;have dl:=λH=>Qeo (pN hN) H
 have ii:=λH=>Qd5 (pN hN) [.int r,.int c] rfl (by simp) H
 simp only[XH];w_fin
theorem J8 {N:Nat}(hN:4<=N)(k:String)(l:LA)(r c:Nat)(hl:AV.ncs l=true)(H:AH):(RN N).f 770 [.str k,.lst l,.lst [.int r,.int c],.none,.none] H=.ok (vec k l (dimA r c)) H:=by
 have a:=Qep (pN hN) k l r c hl [];refine Qc Qds (oN hN) (J:=[.str k,.lst l,.lst [.int r,.int c],.none,.none]) rfl (by simp[hl]) (H':=[]) ?_ (by simp[hl]) H;simp only[XJ];w_fin
section
local macro_rules | `(tactic| w_fin)=>do
 let a:=(wA.splitOn " ").toArray.map λs=>Lean.mkIdent s.toName
 let l:=((wN.splitOn " ").map λx=>if x=="k_seq" then "q_seq" else if x=="k_seqC" then "q_seqC" else if x=="k_seqR" then "q_seqR" else if x=="k_seqX" then "q_seqX" else if x=="ss_cons" then "q_cons" else x).toArray.map λs=>Lean.mkIdent s.toName
 `(tactic| simp only[$[↓$a:ident],*,$[$l:ident],*, *])
theorem KH {N:Nat}(hN:5<=N)(k:String)(e:Nat->Nat->AV)(r c:Nat)(hr:r<100)(hc:c<100)(he:∀i j,i<r->j<c->(e i j).nc=true)(H:AH):(RN N).f 777 [vec k (cmj r c e) (dimA r c)] H=.ok (vec k (cmj c r λi j=>e j i) (dimA c r)) H:=by
 have hl:=Qu he;have hl':AV.ncs (cmj c r λi j=>e j i)=true:=Qu λi j hi hj=>he j i hj hi
 refine Qc Qdt (oN hN) (J:=[vec k (cmj r c e) (dimA r c),uS,uS,uS,uS,uS,uS]) rfl (by simp[hl]) (H':=[.dead]) ?_ (by simp[hl']) H;have hs:r*c<=90000:=Nat.le_trans (Nat.mul_le_mul (Nat.le_of_lt hr) (Nat.le_of_lt hc)) (by decide);have d:=Kv (pN hN) k (cmj r c e) r c hl [];have ax:=λi H=>YD (pN hN) k (cmj r c e) r c i hl H
 have nm:=λH=>J8 (pN hN) k (cmj c r λi j=>e j i) c r hl' H
 have e1:decide (((0+1+1:Nat):Int)=1)=false:=rfl;have r6:r<1000000:=by lia
 have c6:c<1000000:=by lia
 have len:(cmj r c e).length<=1000000:=by rw[Qn]; lia
 obtain⟨x',y',post',hp',fl⟩:=YK (C:=RN (N-1)) (kc:=5) (kp:=6) (q:=0) (r:=c) (c:=r) (itR:=.range1 D3) (b:=B7) (pre:=[vec k (cmj r c e) (dimA r c),.lst [.int r,.int c],.int r,.int c,.cell 0]) (e:=λi j=>e j i) rfl rfl (by rw[Nat.mul_comm]; exact hs)
  (λj y post H hj hp=>by w_fin) (λi j post l hi hj hp hl9=>⟨post,hp,by
   have g:=cm_get (e:=e) hj hi;have m:=QQ (a:=i) (b:=r) (by lia) (by lia);have l9:l.length<=100000:=by lia
   clear he hl hl' nm ax d;w_fin⟩) uS uS [] rfl
 simp only[List.cons_append,List.nil_append] at fl;clear he;simp only[XK];w_fin
theorem Qeq {N:Nat}(hN:4<=N)(l m:LA)(r1 c1 r2 c2:Nat)(hl:AV.ncs l=true)(hm:AV.ncs m=true)(h:c1=r2)(H:AH):(RN N).f 791 [vec "double" l (dimA r1 c1),vec "double" m (dimA r2 c2)] H=.ok (.tup [.tup [.int r1,.int c1],.tup [.int r2,.int c2]]) H:=by
 refine Qc jF (oN hN) (J:=[vec "double" l (dimA r1 c1),vec "double" m (dimA r2 c2),uS,uS,uS,uS]) rfl (by simp[hl,hm]) (H':=[]) ?_ rfl H;have m1:=λH=>Q4 (pN hN) "double" l r1 c1 hl H
 have m2:=λH=>Q4 (pN hN) "double" m r2 c2 hm H
 have s2:=λH=>QF (pN hN) "double" m r2 c2 hm H
 have s1:=λH=>QF (pN hN) "double" l r1 c1 hl H
 subst h;simp only[W5];w_fin
theorem Qer {N:Nat}(hN:4<=N)(l m:LA)(r1 c1 r2 c2:Nat)(hl:AV.ncs l=true)(hm:AV.ncs m=true)(h:c1≠r2)(H:AH):(RN N).f 791 [vec "double" l (dimA r1 c1),vec "double" m (dimA r2 c2)] H=.exc (.str "non-conformable arguments") H:=by
 refine Jm jF (oN hN) (J:=[vec "double" l (dimA r1 c1),vec "double" m (dimA r2 c2),uS,uS,uS,uS]) rfl (by simp[hl,hm]) (H':=[]) ?_ rfl H;have m1:=λH=>Q4 (pN hN) "double" l r1 c1 hl H
 have m2:=λH=>Q4 (pN hN) "double" m r2 c2 hm H
 have s1:=λH=>QF (pN hN) "double" l r1 c1 hl H
 have e:((c1:Int)=r2)=False:=by simp; lia
 have s2:=λH=>QF (pN hN) "double" m r2 c2 hm H
 clear h;simp only[W5];w_fin
theorem JH {N:Nat}(hN:3<=N)(l:LA)(r c:Nat)(hl:AV.ncs l=true)(H:AH):(RN N).f 805 [vec "double" l (dimA r c)] H=.ok (vec "double" l (dimA r c)) H:=by
 have m1:=λH=>Q4 (pN hN) "double" l r c hl H
 refine Qc Qdv (oN hN) (J:=[vec "double" l (dimA r c)]) rfl (by simp[hl]) (H':=[]) ?_ (by simp[hl]) H;simp only[XN];w_fin
noncomputable def osum (f:Nat->Option Rat):Nat->Option Rat
 | 0=>some 0
 | n+1=>oadd (osum f n) (f n)
theorem Qes (f:Nat->Option Rat)(n:Nat):osum f (n+1)=oadd (osum f n) (f n):=rfl
theorem Qet:qo (some 0)=.tup [.int 0,.int 1]:=rfl
theorem j9 {N:Nat}(hN:6<=N)(xu xv:Nat->Nat->Option Rat)(r1 c1 c2:Nat)(h1:r1<100)(h2:c1<100)(h3:c2<100)(hu:∀i j,i<r1->j<c1->ho 2000 (xu i j))(hv:∀i j,i<c1->j<c2->ho 2000 (xv i j))
  (hm:∀i j s,i<r1->j<c2->s<c1->ho 2000 (omul (xu i s) (xv s j))) (hs:∀i j s,i<r1->j<c2->s<c1->ho 2000 (osum (λs=>omul (xu i s) (xv s j)) s)) (H:AH) :
  (RN N).f 798 [vec "double" (cmj r1 c1 λi j=>qo (xu i j)) (dimA r1 c1),vec "double" (cmj c1 c2 λi j=>qo (xv i j)) (dimA c1 c2)] H =
   .ok (vec "double" (cmj r1 c2 λi j=>qo (osum (λs=>omul (xu i s) (xv s j)) c1)) (dimA r1 c2)) H:=by
 have hl:AV.ncs (cmj r1 c1 λi j=>qo (xu i j))=true:=Qu λi j _ _=>Qy _
 have hl2:AV.ncs (cmj c1 c2 λi j=>qo (xv i j))=true:=Qu λi j _ _=>Qy _
 have hl3:AV.ncs (cmj r1 c2 λi j=>qo (osum (λs=>omul (xu i s) (xv s j)) c1))=true:=Qu λi j _ _=>Qy _
 have n1:r1*c1<=90000:=Nat.le_trans (Nat.mul_le_mul (Nat.le_of_lt h1) (Nat.le_of_lt h2)) (by decide);have n2:c1*c2<=90000:=Nat.le_trans (Nat.mul_le_mul (Nat.le_of_lt h2) (Nat.le_of_lt h3)) (by decide);have n3:r1*c2<=90000:=Nat.le_trans (Nat.mul_le_mul (Nat.le_of_lt h1) (Nat.le_of_lt h3)) (by decide);refine Qc jG (oN hN) (J:=[vec "double" (cmj r1 c1 λi j=>qo (xu i j)) (dimA r1 c1),vec "double" (cmj c1 c2 λi j=>qo (xv i j)) (dimA c1 c2),uS,uS,uS,uS,uS,uS,uS,uS,uS,uS,uS]) rfl (by simp[hl,hl2]) (H':=[.dead]) ?_ (by simp[hl3]) H
 have len1:(cmj r1 c1 λi j=>qo (xu i j)).length<=1000000:=by rw[Qn]; lia
 have len2:(cmj c1 c2 λi j=>qo (xv i j)).length<=1000000:=by rw[Qn]; lia
 have nu:=J7 (pN hN) (cmj r1 c1 λi j=>qo (xu i j)) (dimA r1 c1) (.inr ⟨_,_,rfl⟩) hl (by rw[Qn]; lia) [];have nv:=J7 (pN hN) (cmj c1 c2 λi j=>qo (xv i j)) (dimA c1 c2) (.inr ⟨_,_,rfl⟩) hl2 (by rw[Qn]; lia) [];have ps:=Qeq (pN hN) (cmj r1 c1 λi j=>qo (xu i j)) (cmj c1 c2 λi j=>qo (xv i j)) r1 c1 c1 c2 hl hl2 rfl [];have rm:=V5 (pN hN) (r1*c2) (by lia) [];have mm:=QQ (a:=r1) (b:=c2) (by lia) (by lia);have im1:=λH=>Q4 (pN hN) "double" (cmj r1 c1 λi j=>qo (xu i j)) r1 c1 hl H
 have im2:=λH=>Q4 (pN hN) "double" (cmj c1 c2 λi j=>qo (xv i j)) c1 c2 hl2 H
 have ax1:=λi H=>YD (pN hN) "double" (cmj r1 c1 λi j=>qo (xu i j)) r1 c1 i hl H
 have ax2:=λi H=>YD (pN hN) "double" (cmj c1 c2 λi j=>qo (xv i j)) c1 c2 i hl2 H
 have nm:=λH=>J8 (pN hN) "double" (cmj r1 c2 λi j=>qo (osum (λs=>omul (xu i s) (xv s j)) c1)) r1 c2 hl3 H
 have q1:r1<1000000:=by lia
 have q2:c1<1000000:=by lia
 have q3:c2<1000000:=by lia
 have z:=Qet;obtain⟨x',y',post',hp',fl⟩:=YK (C:=RN (N-1)) (kc:=7) (kp:=8) (q:=4) (r:=r1) (c:=c2) (itR:=.range1 D83)
  (b:=B30)
  (pre:=[vec "double" (cmj r1 c1 λi j=>qo (xu i j)) (dimA r1 c1),vec "double" (cmj c1 c2 λi j=>qo (xv i j)) (dimA c1 c2),.lst (cmj r1 c1 λi j=>qo (xu i j)),.lst (cmj c1 c2 λi j=>qo (xv i j)),.tup [.int r1,.int c1],.tup [.int c1,.int c2],.cell 0]) (e:=λi j=>qo (osum (λs=>omul (xu i s) (xv s j)) c1)) rfl rfl n3
  (λj y post H hj hp=>by clear hu hv hm hs; w_fin) (λi j post l hi hj hp hl9=>by
   have l9:l.length<=100000:=by lia
   obtain⟨p0,p1,p2,p3,rfl⟩:=len4 hp;obtain⟨J_1,H_1,e2,⟨st⟩⟩:=QW (C:=RN (N-1)) (k:=10) (b:=B23) (n:=c1)
    (P:=λs J H=>Fr1 (λst=>[vec "double" (cmj r1 c1 λi j=>qo (xu i j)) (dimA r1 c1),vec "double" (cmj c1 c2 λi j=>qo (xv i j)) (dimA c1 c2),.lst (cmj r1 c1 λi j=>qo (xu i j)),.lst (cmj c1 c2 λi j=>qo (xv i j)),.tup [.int r1,.int c1],.tup [.int c1,.int c2],.cell 0,.int j,.int i,qo (osum (λs=>omul (xu i s) (xv s j)) s),st,p2,p3]) ([.lst l]) J H)
    (λs hs' J H hP=>by
     obtain⟨st⟩:=hP;have g1:=cm_get (e:=λi j=>qo (xu i j)) hi hs';have g2:=cm_get (e:=λi j=>qo (xv i j)) hs' hj;have m1:=QQ (a:=s) (b:=r1) (by lia) (by lia);have m2:=QQ (a:=j) (b:=c1) (by lia) (by lia);have o1:=λH=>Ku (pN hN) (xu i s) (xv s j) (hu i s hi hs') (hv s j hs' hj) H
     have o2:=λH=>jX (pN hN) (osum (λs=>omul (xu i s) (xv s j)) s) (omul (xu i s) (xv s j)) (hs i j s hi hj hs') (hm i j s hi hj hs') H
     clear hu hv hm hs hl hl2 hl3 nu nv ps rm im1 im2 ax1 ax2 nm z;refine⟨.next,_,_,?_,.inl rfl,.mk (.int s)⟩;w_fin;rfl) (J:=[vec "double" (cmj r1 c1 λi j=>qo (xu i j)) (dimA r1 c1),vec "double" (cmj c1 c2 λi j=>qo (xv i j)) (dimA c1 c2),.lst (cmj r1 c1 λi j=>qo (xu i j)),.lst (cmj c1 c2 λi j=>qo (xv i j)),.tup [.int r1,.int c1],.tup [.int c1,.int c2],.cell 0,.int j,.int i,.tup [.int 0,.int 1],p1,p2,p3]) (H:=[.lst l]) (.mk p1)
   refine⟨[qo (osum (λs=>omul (xu i s) (xv s j)) c1),st,p2,p3],rfl,?_⟩;clear hu hv hm hs hl hl2 hl3 nu nv ps rm im1 im2 ax1 ax2 nm z;w_fin) uS uS [uS,uS,uS,uS] rfl
 obtain⟨p0,p1,p2,p3,rfl⟩:=len4 hp';simp only[List.cons_append,List.nil_append] at fl;clear hu hv hm hs z;simp only[W6];w_fin
section
noncomputable abbrev mtx (r c:Nat)(x:Nat->Nat->Option Rat):AV:=vec "double" (cmj r c λi j=>qo (x i j)) (dimA r c)
theorem Qs (r c:Nat)(x:Nat->Nat->Option Rat):(mtx r c x).nc=true:=by
 have h:AV.ncs (cmj r c λi j=>qo (x i j))=true:=Qu λi j _ _=>Qy _
 simp[h]
theorem Qf (r c:Nat)(x:Nat->Nat->Option Rat):AV.ncs (cmj r c λi j=>qo (x i j))=true:=Qu λi j _ _=>Qy _
theorem yc {N:Nat}(hN:6<=N)(l m:LA)(r1 c1 r2 c2:Nat)(hl:AV.ncs l=true)(hm:AV.ncs m=true)(ll:l.length<=100000)(lm:m.length<=100000)(h:c1≠r2)(H:AH):(RN N).f 798 [vec "double" l (dimA r1 c1),vec "double" m (dimA r2 c2)] H=.exc (.str "non-conformable arguments") H:=by
 refine Jm jG (oN hN) (J:=[vec "double" l (dimA r1 c1),vec "double" m (dimA r2 c2),uS,uS,uS,uS,uS,uS,uS,uS,uS,uS,uS]) rfl (by simp[hl,hm]) (H':=[]) ?_ rfl H;have nu:=J7 (pN hN) l (dimA r1 c1) (.inr ⟨_,_,rfl⟩) hl ll [];have ps:=Qer (pN hN) l m r1 c1 r2 c2 hl hm h [];have nv:=J7 (pN hN) m (dimA r2 c2) (.inr ⟨_,_,rfl⟩) hm lm [];clear h;simp only[W6];w_fin
section
variable {N:Nat}(xu xv:Nat->Nat->Option Rat)
theorem yd (hN:7<=N)(r cu cv:Nat)(h1:r<100)(h2:cu<100)(h3:cv<100)(hu:∀i j,i<r->j<cu->ho 2000 (xu i j))(hv:∀i j,i<r->j<cv->ho 2000 (xv i j))
  (hm:∀i j s,i<cu->j<cv->s<r->ho 2000 (omul (xu s i) (xv s j))) (hs:∀i j s,i<cu->j<cv->s<r->ho 2000 (osum (λs=>omul (xu s i) (xv s j)) s)) (H:AH) :
  (RN N).f 812 [mtx r cu xu,mtx r cv xv] H=.ok (mtx cu cv λi j=>osum (λs=>omul (xu s i) (xv s j)) r) H:=by
 refine Qc jH (oN hN) (J:=[mtx r cu xu,mtx r cv xv]) rfl (by simp only[Js,Js,Qs,Qs]; rfl) (H':=[]) ?_ (Qs _ _ _) H;have a1:=JH (pN hN) _ r cu (Qf r cu xu) [];have a2:=JH (pN hN) _ r cv (Qf r cv xv) [];have t:=KH (pN hN) "double" (λi j=>qo (xu i j)) r cu h1 h2 (λi j _ _=>Qy _) [];have m:=j9 (pN hN) (λi j=>xu j i) xv cu r cv h2 h1 h3 (λi j hi hj=>hu j i hj hi) hv hm hs [];clear hu hv hm hs;simp only[W7];w_fin
theorem Qeu (hN:7<=N)(ru cu rv cv:Nat)(h1:ru<100)(h2:cu<100)(h3:rv<100)(h4:cv<100)(h:ru≠rv)(H:AH):(RN N).f 812 [mtx ru cu xu,mtx rv cv xv] H=.exc (.str "non-conformable arguments") H:=by
 have n1:ru*cu<=90000:=Nat.le_trans (Nat.mul_le_mul (Nat.le_of_lt h1) (Nat.le_of_lt h2)) (by decide);have n2:rv*cv<=90000:=Nat.le_trans (Nat.mul_le_mul (Nat.le_of_lt h3) (Nat.le_of_lt h4)) (by decide);refine Jm jH (oN hN) (J:=[mtx ru cu xu,mtx rv cv xv]) rfl (by simp only[Js,Js,Qs,Qs]; rfl) (H':=[]) ?_ rfl H;have a1:=JH (pN hN) _ ru cu (Qf ru cu xu) [];have m:=yc (pN hN) (cmj cu ru λi j=>qo (xu j i)) (cmj rv cv λi j=>qo (xv i j)) cu ru rv cv (Qf cu ru λi j=>xu j i) (Qf rv cv xv) (by rw[Qn,Nat.mul_comm]; lia) (by rw[Qn]; lia) h [];have a2:=JH (pN hN) _ rv cv (Qf rv cv xv) [];have t:=KH (pN hN) "double" (λi j=>qo (xu i j)) ru cu h1 h2 (λi j _ _=>Qy _) [];clear h;simp only[W7];w_fin
theorem YL (hN:5<=N)(l m:LA)(t u:AV)(hl:AV.ncs l=true)(hm:AV.ncs m=true)(ht:t.nc=true)(hu:u.nc=true)(H:AH):(RN N).f 954 [.lst [.tup [.none,vec "double" l t],.tup [.none,vec "double" m u]]] H=.ok (.tup [vec "double" l t,vec "double" m u]) H:=by
 refine Qc QdG (oN hN) (J:=[.lst [.tup [.none,vec "double" l t],.tup [.none,vec "double" m u]],uS,uS,uS]) rfl (by simp[hl,hm,ht,hu]) (H':=[]) ?_ (by simp[hl,hm,ht,hu]) H;have tk:=Jp (pN hN) "x" "y" (vec "double" l t) (vec "double" m u) (by decide) (by decide) (by decide) (by simp[hl,ht]) (by simp[hm,hu]) [];have i1:=λH=>QC (pN hN) "double" l t hl ht H
 have i2:=λH=>QC (pN hN) "double" m u hm hu H
 simp only[Vc];w_fin
theorem Qev (hN:8<=N)(r cu cv:Nat)(h1:r<100)(h2:cu<100)(h3:cv<100)(hu:∀i j,i<r->j<cu->ho 2000 (xu i j))(hv:∀i j,i<r->j<cv->ho 2000 (xv i j))
  (hm:∀i j s,i<cu->j<cv->s<r->ho 2000 (omul (xu s i) (xv s j))) (hs:∀i j s,i<cu->j<cv->s<r->ho 2000 (osum (λs=>omul (xu s i) (xv s j)) s)) (H:AH) :
  (RN N).f 961 [.none,.lst [.tup [.none,mtx r cu xu],.tup [.none,mtx r cv xv]],.none] H=.ok (mtx cu cv λi j=>osum (λs=>omul (xu s i) (xv s j)) r) H:=by
 refine Qc VP (oN hN) (J:=[.none,.lst [.tup [.none,mtx r cu xu],.tup [.none,mtx r cv xv]],.none,uS,uS]) rfl (by simp[Qf]) (H':=[]) ?_ (Qs _ _ _) H;have tv:=YL (pN hN) _ _ (dimA r cu) (dimA r cv) (Qf r cu xu) (Qf r cv xv) rfl rfl [];have tk:=Jp (pN hN) "x" "y" (mtx r cu xu) (mtx r cv xv) (by decide) (by decide) (by decide) (Qs _ _ _) (Qs _ _ _) [];have cr:=yd (N:=N-1) xu xv (pN hN) r cu cv h1 h2 h3 hu hv hm hs [];clear hu hv hm hs;simp only[Wd];w_fin
theorem Qew (hN:8<=N)(r cu:Nat)(h1:r<100)(h2:cu<100)(hu:∀i j,i<r->j<cu->ho 2000 (xu i j))
  (hm:∀i j s,i<cu->j<cu->s<r->ho 2000 (omul (xu s i) (xu s j))) (hs:∀i j s,i<cu->j<cu->s<r->ho 2000 (osum (λs=>omul (xu s i) (xu s j)) s)) (H:AH) :
  (RN N).f 961 [.none,.lst [.tup [.none,mtx r cu xu]],.none] H=.ok (mtx cu cu λi j=>osum (λs=>omul (xu s i) (xu s j)) r) H:=by
 refine Qc VP (oN hN) (J:=[.none,.lst [.tup [.none,mtx r cu xu]],.none,uS,uS]) rfl (by simp[Qf]) (H':=[]) ?_ (Qs _ _ _) H;have tv:=YL (pN hN) _ _ (dimA r cu) (dimA r cu) (Qf r cu xu) (Qf r cu xu) rfl rfl [];have tk:=Ky (pN hN) "x" "y" (mtx r cu xu) (by decide) (by decide) (by decide) (Qs _ _ _) [];have cr:=yd (N:=N-1) xu xu (pN hN) r cu cu h1 h2 h2 hu hu hm hs [];dsimp only[Wd];w_fin
theorem Qex (hN:8<=N)(ru cu rv cv:Nat)(h1:ru<100)(h2:cu<100)(h3:rv<100)(h4:cv<100)(h:ru≠rv)(H:AH) :
  (RN N).f 961 [.none,.lst [.tup [.none,mtx ru cu xu],.tup [.none,mtx rv cv xv]],.none] H=.exc (.str "non-conformable arguments") H:=by
 have tk:=Jp (pN hN) "x" "y" (mtx ru cu xu) (mtx rv cv xv) (by decide) (by decide) (by decide) (Qs _ _ _) (Qs _ _ _) [];refine Jm VP (oN hN) (J:=[.none,.lst [.tup [.none,mtx ru cu xu],.tup [.none,mtx rv cv xv]],.none,uS,uS]) rfl (by simp[Qf]) (H':=[]) ?_ rfl H;have tv:=YL (pN hN) _ _ (dimA ru cu) (dimA rv cv) (Qf ru cu xu) (Qf rv cv xv) rfl rfl [];have cr:=Qeu (N:=N-1) xu xv (pN hN) ru cu rv cv h1 h2 h3 h4 h [];clear h;simp only[Wd];w_fin
theorem Qey (hN:7<=N)(c ru rv:Nat)(h1:c<100)(h2:ru<100)(h3:rv<100)(hu:∀i j,i<ru->j<c->ho 2000 (xu i j))(hv:∀i j,i<rv->j<c->ho 2000 (xv i j))
  (hm:∀i j s,i<ru->j<rv->s<c->ho 2000 (omul (xu i s) (xv j s))) (hs:∀i j s,i<ru->j<rv->s<c->ho 2000 (osum (λs=>omul (xu i s) (xv j s)) s)) (H:AH) :
  (RN N).f 968 [.none,.lst [.tup [.none,mtx ru c xu],.tup [.none,mtx rv c xv]],.none] H=.ok (mtx ru rv λi j=>osum (λs=>omul (xu i s) (xv j s)) c) H:=by
 refine Qc jQ (oN hN) (J:=[.none,.lst [.tup [.none,mtx ru c xu],.tup [.none,mtx rv c xv]],.none,uS,uS]) rfl (by simp[Qf]) (H':=[]) ?_ (Qs _ _ _) H;have tk:=Jp (pN hN) "x" "y" (mtx ru c xu) (mtx rv c xv) (by decide) (by decide) (by decide) (Qs _ _ _) (Qs _ _ _) [];have tv:=YL (pN hN) _ _ (dimA ru c) (dimA rv c) (Qf ru c xu) (Qf rv c xv) rfl rfl [];have a2:=JH (pN hN) _ rv c (Qf rv c xv) [];have a1:=JH (pN hN) _ ru c (Qf ru c xu) [];have t:=KH (pN hN) "double" (λi j=>qo (xv i j)) rv c h3 h1 (λi j _ _=>Qy _) [];have m:=j9 (pN hN) xu (λi j=>xv j i) ru c rv h2 h1 h3 hu (λi j hi hj=>hv j i hj hi) hm hs [];clear hu hv hm hs;simp only[Ke];w_fin
theorem Qez (hN:7<=N)(ru cu rv cv:Nat)(h1:ru<100)(h2:cu<100)(h3:rv<100)(h4:cv<100)(h:cu≠cv)(H:AH) :
  (RN N).f 968 [.none,.lst [.tup [.none,mtx ru cu xu],.tup [.none,mtx rv cv xv]],.none] H=.exc (.str "non-conformable arguments") H:=by
 have n1:ru*cu<=90000:=Nat.le_trans (Nat.mul_le_mul (Nat.le_of_lt h1) (Nat.le_of_lt h2)) (by decide);have n2:rv*cv<=90000:=Nat.le_trans (Nat.mul_le_mul (Nat.le_of_lt h3) (Nat.le_of_lt h4)) (by decide);refine Jm jQ (oN hN) (J:=[.none,.lst [.tup [.none,mtx ru cu xu],.tup [.none,mtx rv cv xv]],.none,uS,uS]) rfl (by simp[Qf]) (H':=[]) ?_ rfl H;have tk:=Jp (pN hN) "x" "y" (mtx ru cu xu) (mtx rv cv xv) (by decide) (by decide) (by decide) (Qs _ _ _) (Qs _ _ _) [];have a1:=JH (pN hN) _ ru cu (Qf ru cu xu) [];have tv:=YL (pN hN) _ _ (dimA ru cu) (dimA rv cv) (Qf ru cu xu) (Qf rv cv xv) rfl rfl [];have a2:=JH (pN hN) _ rv cv (Qf rv cv xv) [];have m:=yc (pN hN) (cmj ru cu λi j=>qo (xu i j)) (cmj cv rv λi j=>qo (xv j i)) ru cu cv rv (Qf ru cu xu) (Qf cv rv λi j=>xv j i) (by rw[Qn]; lia) (by rw[Qn,Nat.mul_comm]; lia) h []
 have t:=KH (pN hN) "double" (λi j=>qo (xv i j)) rv cv h3 h4 (λi j _ _=>Qy _) [];clear h;simp only[Ke];w_fin
end
end
section
section
variable {N:Nat}(xu xv:Nat->Nat->Option Rat)
theorem QeA (hN:6<=N)(ru cu rv cv:Nat)(h1:ru<6)(h2:cu<6)(h3:rv<6)(h4:cv<6)(p3:0<rv)(p4:0<cv)(hu:∀i j,i<ru->j<cu->ho 2000 (xu i j))(hv:∀i j,i<rv->j<cv->ho 2000 (xv i j))(H:AH) :
  (RN N).f 975 [.none,.lst [.tup [.none,mtx ru cu xu],.tup [.none,mtx rv cv xv]],.none] H=.ok (mtx (ru*rv) (cu*cv) λi j=>omul (xu (i / rv) (j / cv)) (xv (i % rv) (j % cv))) H:=by
 have q1:ru*rv<=25:=Nat.mul_le_mul (Nat.le_of_lt_succ h1) (Nat.le_of_lt_succ h3);have q2:cu*cv<=25:=Nat.mul_le_mul (Nat.le_of_lt_succ h2) (Nat.le_of_lt_succ h4);have q3:ru*rv*cu<=125:=Nat.mul_le_mul q1 (Nat.le_of_lt_succ h2);have q4:ru*rv*cu*cv<=625:=Nat.mul_le_mul q3 (Nat.le_of_lt_succ h4);have q5:ru*rv*(cu*cv)<=625:=Nat.mul_le_mul q1 q2;have q6:ru*cu<=25:=Nat.mul_le_mul (Nat.le_of_lt_succ h1) (Nat.le_of_lt_succ h2);have q7:rv*cv<=25:=Nat.mul_le_mul (Nat.le_of_lt_succ h3) (Nat.le_of_lt_succ h4);refine Qc QdH (oN hN) (J:=[.none,.lst [.tup [.none,mtx ru cu xu],.tup [.none,mtx rv cv xv]],.none,uS,uS,uS,uS,uS,uS,uS,uS,uS,uS,uS,uS]) rfl (by simp[Qf]) (H':=[.dead]) ?_ (Qs _ _ _) H;have tk:=Jp (pN hN) "X" "Y" (mtx ru cu xu) (mtx rv cv xv) (by decide) (by decide) (by decide) (Qs _ _ _) (Qs _ _ _) [];have tv:=YL (pN hN) _ _ (dimA ru cu) (dimA rv cv) (Qf ru cu xu) (Qf rv cv xv) rfl rfl []
 have nu:=J7 (pN hN) _ (dimA ru cu) (.inr ⟨_,_,rfl⟩) (Qf ru cu xu) (by rw[Qn]; lia) [];have nv:=J7 (pN hN) _ (dimA rv cv) (.inr ⟨_,_,rfl⟩) (Qf rv cv xv) (by rw[Qn]; lia) [];have s1:=λH=>QF (pN hN) "double" _ ru cu (Qf ru cu xu) H
 have s2:=λH=>QF (pN hN) "double" _ rv cv (Qf rv cv xv) H
 have m1:=QQ (a:=ru) (b:=rv) (by lia) (by lia);have m2:=QQ (a:=ru*rv) (b:=cu) (by lia) (by lia);have m3:=QQ (a:=ru*rv*cu) (b:=cv) (by lia) (by lia);have m4:=QQ (a:=cu) (b:=cv) (by lia) (by lia);have rm:=V5 (pN hN) (ru*rv*cu*cv) (by lia) [];have nm:=λH=>J8 (pN hN) "double" _ (ru*rv) (cu*cv) (Qf (ru*rv) (cu*cv) λi j=>omul (xu (i / rv) (j / cv)) (xv (i % rv) (j % cv))) H
 have inn:AV.ncs (cmj (ru*rv) (cu*cv) λi j=>qo (omul (xu (i / rv) (j / cv)) (xv (i % rv) (j % cv))))=true:=Qu λi j _ _=>Qy _
 have z1:ru*rv<1000000:=by lia
 have z2:cu*cv<1000000:=by lia
 obtain⟨x',y',post',hp',fl⟩:=YK (C:=RN (N-1)) (kc:=12) (kp:=13) (q:=1) (r:=ru*rv) (c:=cu*cv) (itR:=.range1 D115)
  (b:=B26)
  (pre:=[.none,.lst [.tup [.none,mtx ru cu xu],.tup [.none,mtx rv cv xv]],.none,mtx ru cu xu,mtx rv cv xv,.lst (cmj ru cu λi j=>qo (xu i j)),.lst (cmj rv cv λi j=>qo (xv i j)),.int ru,.int cu,.int rv,.int cv,.cell 0]) (e:=λi j=>qo (omul (xu (i / rv) (j / cv)) (xv (i % rv) (j % cv)))) rfl rfl (by lia)
  (λj y post H hj hp=>by clear hu hv; w_fin) (λi j post l hi hj hp hl9=>by
   obtain⟨p0,rfl⟩:=len1 hp;have l9:l.length<=100000:=by lia
   have i1:i / rv<ru:=Nat.div_lt_of_lt_mul (by rw[Nat.mul_comm]; exact hi);have i2:j / cv<cu:=Nat.div_lt_of_lt_mul (by rw[Nat.mul_comm]; exact hj);have i3:i % rv<rv:=Nat.mod_lt _ p3;have i4:j % cv<cv:=Nat.mod_lt _ p4;have g1:=cm_get (e:=λi j=>qo (xu i j)) i1 i2;have g2:=cm_get (e:=λi j=>qo (xv i j)) i3 i4;have d1:=VB (a:=j) (b:=cv) (by lia) (by lia);have d2:=VB (a:=i) (b:=rv) (by lia) (by lia);have d3:=VD (a:=j) (b:=cv) (by lia) (by lia);have d4:=VD (a:=i) (b:=rv) (by lia) (by lia);have e1:=QQ (a:=j / cv) (b:=ru) (by lia) (by lia);have e2:=QQ (a:=j % cv) (b:=rv) (by lia) (by lia);have len1:(cmj ru cu λi j=>qo (xu i j)).length<=1000000:=by rw[Qn]; lia
   have len2:(cmj rv cv λi j=>qo (xv i j)).length<=1000000:=by rw[Qn]; lia
   have o1:=λH=>Ku (pN hN) _ _ (hu _ _ i1 i2) (hv _ _ i3 i4) H
   refine⟨[qo (xu (i / rv) (j / cv))],rfl,?_⟩;clear hu hv tk tv nu nv s1 s2 rm nm;w_fin) uS uS [uS] rfl
 obtain⟨p0,rfl⟩:=len1 hp';simp only[List.cons_append,List.nil_append] at fl;clear hu hv;simp only[Vd];w_fin
theorem yf (r c:Nat):(if (c:Int)<r then (c:Int) else r)=((min r c:Nat):Int):=by
 split
 ·rw[Nat.min_eq_right (by lia)]
 ·rw[Nat.min_eq_left (by lia)]
theorem QeB (hN:4<=N)(r c:Nat)(h1:r<100)(h2:c<100)(H:AH):(RN N).f 870 [mtx r c xu] H=.ok (vec "double" ((List.range (min r c)).map λp=>qo (xu p p)) .none) H:=by
 have hn:AV.ncs ((List.range (min r c)).map λp=>qo (xu p p))=true:=QZ λx hx=>by
  obtain⟨p,_,rfl⟩:=mmD hx; exact Qy _
 refine Qc QdA (oN hN) (J:=[mtx r c xu,uS,uS,uS,uS,uS,uS,uS,uS]) rfl (by simp[Qf]) (H':=[.dead]) ?_ (by simp[hn]) H;have n1:r*c<=90000:=Nat.le_trans (Nat.mul_le_mul (Nat.le_of_lt h1) (Nat.le_of_lt h2)) (by decide);have s1:=QF (pN hN) "double" _ r c (Qf r c xu) [];have ax:=λi H=>YD (pN hN) "double" _ r c i (Qf r c xu) H
 have iv:=QH (pN hN) "double" ((List.range (min r c)).map λp=>qo (xu p p)) [];simp only[List.length_nil,List.nil_append] at iv;have mc:=yf r c;have len:(cmj r c λi j=>qo (xu i j)).length<=1000000:=by rw[Qn]; lia
 have mm:min r c<1000000:=nl (Nat.le_trans (Nat.min_le_left r c) (Nat.le_of_lt h1)) (by rfl);have cm:evE (RN (N-1)) [mtx r c xu,.int r,.int c,.int ((min r c:Nat):Int),uS,uS,uS,uS,uS] D67 []=.ok (.lst ((List.range (min r c)).map λp=>qo (xu p p))) []:=by
  refine (Qx (v:=.rng 0 (min r c:Nat)) (min r c) (λp=>qo (xu p p)) (by w_fin) QD (nb (Nat.le_trans (Nat.min_le_left r c) (Nat.le_of_lt h1)) (by rfl)) rfl λp hp=>?_).trans rfl
  have g:=cm_get (e:=λi j=>qo (xu i j)) (Nat.lt_of_lt_of_le hp (Nat.min_le_left r c)) (Nat.lt_of_lt_of_le hp (Nat.min_le_right r c));have m:=QQ (a:=p) (b:=r) (by lia) (by lia);exact⟨_,rfl,by clear s1 ax iv; w_fin⟩
 simp only[X5];w_fin
end
theorem yg {N:Nat}(hN:5<=N)(l:LA)(r c:Nat)(h1:r<100)(h2:c<100)(hl:AV.ncs l=true)(h0:0<l.length)(ll:l.length<=90000)(H:AH) :
  (RN N).f 877 [vec "double" l .none,.int r,.int c] H=.ok (vec "double" (cmj r c λi j=>if i=j then (l[i % l.length]?).getD .none else .tup [.int 0,.int 1]) (dimA r c)) H:=by
 have inn:AV.ncs (cmj r c λi j=>if i=j then (l[i % l.length]?).getD .none else .tup [.int 0,.int 1])=true:=Qu λi j _ _=>by
  split
  ·cases h:l[i % l.length]? with
   | none=>rfl
   | some x=>exact Ua hl x (List.mem_of_getElem? h)
  ·rfl
 refine Qc QdB (oN hN) (J:=[vec "double" l .none,.int r,.int c,uS,uS,uS,uS]) rfl (by simp[hl]) (H':=[.dead]) ?_ (by simp only[nc_o,Js,Y4,inn]; rfl) H;have n1:r*c<=90000:=Nat.le_trans (Nat.mul_le_mul (Nat.le_of_lt h1) (Nat.le_of_lt h2)) (by decide);have m1:=QQ (a:=r) (b:=c) (by lia) (by lia);have rm:=V5 (pN hN) (r*c) (by lia) [];have nm:=λH=>J8 (pN hN) "double" _ r c inn H
 have z1:r<1000000:=by lia
 have z2:c<1000000:=by lia
 have z3:l.length<=1000000:=by lia
 have gt:decide ((l.length:Int)>0)=true:=decide_eq_true (show (l.length:Int)>0 by lia);obtain⟨x',y',post',hp',fl⟩:=YK (C:=RN (N-1)) (kc:=5) (kp:=6) (q:=0) (r:=r) (c:=c) (itR:=.range1 D1)
  (b:=B21)
  (pre:=[vec "double" l .none,.int r,.int c,.tup [.int 0,.int 1],.cell 0]) (e:=λi j=>if i=j then (l[i % l.length]?).getD .none else .tup [.int 0,.int 1]) rfl rfl n1
  (λj y post H hj hp=>by w_fin) (λi j post m hi hj hp hl9=>by
   have l9:m.length<=100000:=by lia
   have d4:=VD (a:=i) (b:=l.length) (by lia) (by lia);have hlt:i % l.length<l.length:=Nat.mod_lt _ h0;obtain⟨x,hx⟩:∃x,l[i % l.length]?=some x:=⟨_,List.getElem?_eq_getElem hlt⟩;refine⟨post,hp,?_⟩;clear rm nm inn h0 hl hlt;by_cases hij:i=j
   ·have e1:decide ((i:Int)=j)=true:=by simp[hij]
    have e2:(i=j)=True:=by simp[hij]
    clear hij;w_fin
   ·have e1:decide ((i:Int)=j)=false:=by simp; lia
    have e2:(i=j)=False:=by simp[hij]
    clear hij;w_fin) uS uS [] rfl
 obtain rfl:=List.eq_nil_of_length_eq_zero hp';simp only[List.cons_append,List.nil_append] at fl;clear h0;simp only[X6];w_fin
theorem yh {N:Nat}(hN:5<=N)(xu:Nat->Nat->Option Rat)(r c:Nat)(up dg:Bool)(h1:r<100)(h2:c<100)(H:AH) :
  (RN N).f 898 [mtx r c xu,.bool up,.bool dg] H=.ok (vec "logical" (cmj r c λi j=>.int (if ((if up=true then decide (i<j) else decide (j<i))||(dg&&decide (i=j)))=true then 1 else 0)) (dimA r c)) H:=by
 have inn:AV.ncs (cmj r c λi j=>.int (if ((if up=true then decide (i<j) else decide (j<i))||(dg&&decide (i=j)))=true then 1 else 0))=true:=Qu λi j _ _=>rfl
 refine Qc QdE (oN hN) (J:=[mtx r c xu,.bool up,.bool dg,uS,uS,uS,uS,uS,uS]) rfl (by simp[Qf]) (H':=[.dead]) ?_ (by simp only[nc_o,Js,Y4,inn]; rfl) H;have n1:r*c<=90000:=Nat.le_trans (Nat.mul_le_mul (Nat.le_of_lt h1) (Nat.le_of_lt h2)) (by decide);have s1:=QF (pN hN) "double" _ r c (Qf r c xu) [];have nm:=λH=>J8 (pN hN) "logical" _ r c inn H
 have z1:r<1000000:=by lia
 have z2:c<1000000:=by lia
 obtain⟨x',y',post',hp',fl⟩:=YK (C:=RN (N-1)) (kc:=6) (kp:=7) (q:=1) (r:=r) (c:=c) (itR:=.range1 D3)
  (b:=B19)
  (pre:=[mtx r c xu,.bool up,.bool dg,.int r,.int c,.cell 0]) (e:=λi j=>.int (if ((if up=true then decide (i<j) else decide (j<i))||(dg&&decide (i=j)))=true then 1 else 0)) rfl rfl n1
  (λj y post H hj hp=>by w_fin) (λi j post m hi hj hp hl9=>by
   obtain⟨p0,rfl⟩:=len1 hp;have l9:m.length<=100000:=by lia
   refine⟨[.bool (if up=true then decide (i<j) else decide (j<i))],rfl,?_⟩;have d1:decide ((i:Int)<j)=decide (i<j):=decide_eq_decide.mpr Int.ofNat_lt;have d2:decide ((i:Int)>j)=decide (j<i):=decide_eq_decide.mpr Int.ofNat_lt;have d3:decide ((i:Int)=j)=decide (i=j):=decide_eq_decide.mpr Int.ofNat_inj;clear nm inn s1;generalize decide (i<j)=b1 at *
   generalize decide (j<i)=b2 at *
   generalize decide (i=j)=b3 at *
   cases up<;>cases dg<;>cases b1<;>cases b2<;>cases b3<;>w_fin) uS uS [uS] rfl
 obtain⟨p0,rfl⟩:=len1 hp';simp only[List.cons_append,List.nil_append] at fl;simp only[Va];w_fin
theorem yl {N:Nat}(hN:5<=N)(xu:Nat->Nat->Option Rat)(r c:Nat)(br:Bool)(h1:r<100)(h2:c<100)(H:AH) :
  (RN N).f 905 [mtx r c xu,.bool br] H=.ok (vec "integer" (cmj r c λi j=>.int ((if br=true then i+1 else j+1:Nat):Int)) (dimA r c)) H:=by
 have inn:AV.ncs (cmj r c λi j=>.int ((if br=true then i+1 else j+1:Nat):Int))=true:=Qu λi j _ _=>rfl
 refine Qc QdF (oN hN) (J:=[mtx r c xu,.bool br,uS,uS,uS,uS,uS]) rfl (by simp[Qf]) (H':=[.dead]) ?_ (by simp only[nc_o,Js,Y4,inn]; rfl) H;have n1:r*c<=90000:=Nat.le_trans (Nat.mul_le_mul (Nat.le_of_lt h1) (Nat.le_of_lt h2)) (by decide);have s1:=QF (pN hN) "double" _ r c (Qf r c xu) [];have nm:=λH=>J8 (pN hN) "integer" _ r c inn H
 have z1:r<1000000:=by lia
 have z2:c<1000000:=by lia
 obtain⟨x',y',post',hp',fl⟩:=YK (C:=RN (N-1)) (kc:=5) (kp:=6) (q:=0) (r:=r) (c:=c) (itR:=.range1 D2)
  (b:=B5)
  (pre:=[mtx r c xu,.bool br,.int r,.int c,.cell 0]) (e:=λi j=>.int ((if br=true then i+1 else j+1:Nat):Int)) rfl rfl n1
  (λj y post H hj hp=>by w_fin) (λi j post m hi hj hp hl9=>by
   have l9:m.length<=100000:=by lia
   refine⟨post,hp,?_⟩;clear nm inn s1;cases br<;>w_fin) uS uS [] rfl
 obtain rfl:=List.eq_nil_of_length_eq_zero hp';simp only[List.cons_append,List.nil_append] at fl;simp only[Vb];w_fin
end
end
section
theorem Jq {k:String}{l:LA}{r c:Nat}(h:AV.ncs l=true):(vec k l (dimA r c)).nc=true:=by simp[h]
theorem QeC {N:Nat}(hN:1<=N)(b:Bool)(H:AH):(RN N).f 819 [.none,.bool b] H=.ok (.bool b) H:=by
 refine Qc jJ hN (J:=[.none,.bool b,uS]) rfl rfl (H':=[]) ?_ rfl H;w_fin
theorem QeD {N:Nat}(hN:5<=N)(b:Bool)(H:AH):(RN N).f 819 [vec "logical" [.int 1] .none,.bool b] H=.ok (.bool true) H:=by
 refine Qc jJ (oN hN) (J:=[vec "logical" [.int 1] .none,.bool b,uS]) rfl rfl (H':=[]) ?_ rfl H;have k:=V8 (pN hN) "logical" [.int 1] .none (.inl rfl) (.inr (.inr rfl)) rfl (by simp) [];simp only[XQ];w_fin
variable {N:Nat}{xu:Nat->Nat->Option Rat}
theorem QeE (hN:6<=N)(r c:Nat)(dg:Bool)(h1:r<100)(h2:c<100)(H:AH) :
  (RN N).f 884 [mtx r c xu,.bool dg] H=.ok (vec "logical" (cmj r c λi j=>.int (if ((if true=true then decide (i<j) else decide (j<i))||(dg&&decide (i=j)))=true then 1 else 0)) (dimA r c)) H:=by
 have inn:AV.ncs (cmj r c λi j=>.int (if ((if true=true then decide (i<j) else decide (j<i))||(dg&&decide (i=j)))=true then 1 else 0))=true:=Qu λi j _ _=>rfl
 have t:=yh (pN hN) xu r c true dg h1 h2 [];refine Qc QdC (oN hN) (J:=[mtx r c xu,.bool dg]) rfl (by simp[Qf]) (H':=[]) ?_ (Jq inn) H;clear inn h1 h2;dsimp only[X7];w_fin
theorem QeF (hN:6<=N)(r c:Nat)(dg:Bool)(h1:r<100)(h2:c<100)(H:AH) :
  (RN N).f 891 [mtx r c xu,.bool dg] H=.ok (vec "logical" (cmj r c λi j=>.int (if ((if false=true then decide (i<j) else decide (j<i))||(dg&&decide (i=j)))=true then 1 else 0)) (dimA r c)) H:=by
 have t:=yh (pN hN) xu r c false dg h1 h2 [];have inn:AV.ncs (cmj r c λi j=>.int (if ((if false=true then decide (i<j) else decide (j<i))||(dg&&decide (i=j)))=true then 1 else 0))=true:=Qu λi j _ _=>rfl
 refine Qc QdD (oN hN) (J:=[mtx r c xu,.bool dg]) rfl (by simp[Qf]) (H':=[]) ?_ (Jq inn) H;clear inn h1 h2;simp only[X8];w_fin
noncomputable def dgA:Bool->LA
 | true=>[.tup [.str "diag",vec "logical" [.int 1] .none]]
 | false=>[]
theorem ym (hN:6<=N)(r c:Nat)(dg:Bool)(H:AH) :
  (RN N).f 996 [.lst (.tup [.none,mtx r c xu]::dgA dg)] H=.ok (.tup [mtx r c xu,.bool dg]) H:=by
 have ac:=JH (pN hN) (cmj r c λi j=>qo (xu i j)) r c (Qf _ _ _) [];cases dg with
 | true =>
  refine Qc jR (oN hN) (J:=[.lst (.tup [.none,mtx r c xu]::dgA true),uS,uS]) rfl (by simp[dgA,Qf]) (H':=[]) ?_ (by simp[Qf]) H;have ma:=Qek (pN hN) "x" "diag" "double" (cmj r c λi j=>qo (xu i j)) (dimA r c) (vec "logical" [.int 1] .none) (by decide) (by decide) (by decide) (Qf _ _ _) rfl rfl [];have it:=QeD (pN hN) false [];simp only[Kf,dgA];w_fin
 | false =>
  refine Qc jR (oN hN) (J:=[.lst (.tup [.none,mtx r c xu]::dgA false),uS,uS]) rfl (by simp[dgA,Qf]) (H':=[]) ?_ (by simp[Qf]) H;have ma:=Qel (pN hN) "x" "diag" "double" (cmj r c λi j=>qo (xu i j)) (dimA r c) (by decide) (by decide) (by decide) (Qf _ _ _) rfl [];have it:=QeC (pN hN) false [];simp only[Kf,dgA];w_fin
theorem yq (dg:Bool):AV.ncs (dgA dg)=true:=by cases dg<;>rfl
theorem yr (hN:7<=N)(r c:Nat)(dg:Bool)(h1:r<100)(h2:c<100)(H:AH) :
  (RN N).f 1003 [.none,.lst (.tup [.none,mtx r c xu]::dgA dg),.none] H=.ok (vec "logical" (cmj r c λi j=>.int (if ((if true=true then decide (i<j) else decide (j<i))||(dg&&decide (i=j)))=true then 1 else 0)) (dimA r c)) H:=by
 have inn:AV.ncs (cmj r c λi j=>.int (if ((if true=true then decide (i<j) else decide (j<i))||(dg&&decide (i=j)))=true then 1 else 0))=true:=Qu λi j _ _=>rfl
 refine Qc QdJ (oN hN) (J:=[.none,.lst (.tup [.none,mtx r c xu]::dgA dg),.none,uS,uS]) rfl (by simp[Qf,yq]) (H':=[]) ?_ (Jq inn) H;have t:=QeE (pN hN) (xu:=xu) r c dg h1 h2 [];have a:=ym (pN hN) (xu:=xu) r c dg [];clear inn h1 h2;dsimp only[Vf];w_fin
theorem yt (hN:7<=N)(r c:Nat)(dg:Bool)(h1:r<100)(h2:c<100)(H:AH) :
  (RN N).f 1010 [.none,.lst (.tup [.none,mtx r c xu]::dgA dg),.none] H=.ok (vec "logical" (cmj r c λi j=>.int (if ((if false=true then decide (i<j) else decide (j<i))||(dg&&decide (i=j)))=true then 1 else 0)) (dimA r c)) H:=by
 have inn:AV.ncs (cmj r c λi j=>.int (if ((if false=true then decide (i<j) else decide (j<i))||(dg&&decide (i=j)))=true then 1 else 0))=true:=Qu λi j _ _=>rfl
 refine Qc QdK (oN hN) (J:=[.none,.lst (.tup [.none,mtx r c xu]::dgA dg),.none,uS,uS]) rfl (by simp[Qf,yq]) (H':=[]) ?_ (Jq inn) H;have t:=QeF (pN hN) (xu:=xu) r c dg h1 h2 [];have a:=ym (pN hN) (xu:=xu) r c dg [];clear inn h1 h2;simp only[Vg];w_fin
theorem yu (hN:6<=N)(r c:Nat)(H:AH):(RN N).f 1017 [.lst [.tup [.none,mtx r c xu]]] H=.ok (mtx r c xu) H:=by
 refine Qc QdL (oN hN) (J:=[.lst [.tup [.none,mtx r c xu]],uS]) rfl (by simp[Qf]) (H':=[]) ?_ (Qs _ _ _) H;have ma:=j7 (pN hN) "x" "double" (cmj r c λi j=>qo (xu i j)) (dimA r c) (by decide) (Qf _ _ _) rfl [];have im:=Q4 (pN hN) "double" (cmj r c λi j=>qo (xu i j)) r c (Qf _ _ _) [];simp only[Vh];w_fin
theorem QeG (hN:7<=N)(r c:Nat)(h1:r<100)(h2:c<100)(H:AH) :
  (RN N).f 1024 [.none,.lst [.tup [.none,mtx r c xu]],.none] H=.ok (vec "integer" (cmj r c λi j=>.int ((if true=true then i+1 else j+1:Nat):Int)) (dimA r c)) H:=by
 have inn:AV.ncs (cmj r c λi j=>.int ((if true=true then i+1 else j+1:Nat):Int))=true:=Qu λi j _ _=>rfl
 refine Qc QdM (oN hN) (J:=[.none,.lst [.tup [.none,mtx r c xu]],.none]) rfl (by simp[Qf]) (H':=[]) ?_ (Jq inn) H;have t:=yl (pN hN) xu r c true h1 h2 [];have a:=yu (pN hN) (xu:=xu) r c [];clear inn h1 h2;dsimp only[Vi];w_fin
theorem QeH (hN:7<=N)(r c:Nat)(h1:r<100)(h2:c<100)(H:AH) :
  (RN N).f 1031 [.none,.lst [.tup [.none,mtx r c xu]],.none] H=.ok (vec "integer" (cmj r c λi j=>.int ((if false=true then i+1 else j+1:Nat):Int)) (dimA r c)) H:=by
 have inn:AV.ncs (cmj r c λi j=>.int ((if false=true then i+1 else j+1:Nat):Int))=true:=Qu λi j _ _=>rfl
 refine Qc QdN (oN hN) (J:=[.none,.lst [.tup [.none,mtx r c xu]],.none]) rfl (by simp[Qf]) (H':=[]) ?_ (Jq inn) H;have t:=yl (pN hN) xu r c false h1 h2 [];have a:=yu (pN hN) (xu:=xu) r c [];clear inn h1 h2;simp only[Vj];w_fin
theorem QeI (hN:1<=N)(l:LA)(hl:AV.ncs l=true)(ll:l.length<=100000)(H:AH):(RN N).f 345 [vec "double" l .none] H=.ok (.int l.length) H:=by
 have l2:l.length<=1000000:=by lia
 refine Qc Qda hN (J:=[vec "double" l .none,uS]) rfl (by simp[hl]) (H':=[]) ?_ rfl H;simp only[Xm];w_fin
theorem QeJ (hN:2<=N)(r c:Nat)(H:AH):(RN N).f 912 [mtx r c xu] H=.ok (.tup [.int r,.int c]) H:=by
 refine Qc jL (oN hN) (J:=[mtx r c xu,uS,uS]) rfl (by simp[Qf]) (H':=[]) ?_ rfl H;have d:=Kv (pN hN) "double" (cmj r c λi j=>qo (xu i j)) r c (Qf _ _ _) [];have g:=j0 (pN hN) "double" "row.names" (cmj r c λi j=>qo (xu i j)) r c (Qf _ _ _) (by decide) [];have v:=QC (pN hN) "double" (cmj r c λi j=>qo (xu i j)) (dimA r c) (Qf _ _ _) rfl [];simp only[W8];w_fin
theorem yw (hN:2<=N)(l:LA)(hl:AV.ncs l=true)(H:AH):(RN N).f 912 [vec "double" l .none] H=.ok .none H:=by
 refine Qc jL (oN hN) (J:=[vec "double" l .none,uS,uS]) rfl (by simp[hl]) (H':=[]) ?_ rfl H;have g:=V7 (pN hN) "double" "row.names" l hl [];have v:=QC (pN hN) "double" l .none hl rfl [];have d:=jZ (pN hN) "double" l hl [];simp only[W8];w_fin
theorem KJ (hN:3<=N)(r c:Nat)(a b:Bool)(H:AH):(RN N).f 919 [mtx r c xu,.int (if a=true then 1 else 0),.bool b] H=.ok (vec "integer" [.int (if a=true then (c:Int) else r)] .none) H:=by
 refine Qc VN (oN hN) (J:=[mtx r c xu,.int (if a=true then 1 else 0),.bool b,uS]) rfl (by simp[Qf]) (H':=[]) ?_ rfl H;have g:=QeJ (pN hN) (xu:=xu) r c [];have w:=λn=>jY (pN hN) n []
 simp only[Wc];cases a<;>w_fin
theorem yx (hN:3<=N)(l:LA)(a:Bool)(hl:AV.ncs l=true)(H:AH):(RN N).f 919 [vec "double" l .none,.int (if a=true then 1 else 0),.bool false] H=.ok nullA H:=by
 refine Qc VN (oN hN) (J:=[vec "double" l .none,.int (if a=true then 1 else 0),.bool false,uS]) rfl (by simp[hl]) (H':=[]) ?_ rfl H;have g:=yw (pN hN) l hl [];have w:=Qd4 (pN hN) [];simp only[Wc];cases a<;>w_fin
theorem yz (hN:3<=N)(l:LA)(a:Bool)(hl:AV.ncs l=true)(ll:l.length<=100000)(H:AH):(RN N).f 919 [vec "double" l .none,.int (if a=true then 1 else 0),.bool true] H=.ok (vec "integer" [.int (if a=true then (1:Int) else l.length)] .none) H:=by
 refine Qc VN (oN hN) (J:=[vec "double" l .none,.int (if a=true then 1 else 0),.bool true,uS]) rfl (by simp[hl]) (H':=[]) ?_ rfl H;have g:=yw (pN hN) l hl [];have w:=λn=>jY (pN hN) n []
 have n:=QeI (pN hN) l hl ll [];clear ll;simp only[Wc];cases a<;>w_fin
theorem QeK (hN:5<=N)(r c:Nat)(H:AH):(RN N).f 926 [.none,.lst [.tup [.none,mtx r c xu]],.none] H=.ok (vec "integer" [.int r] .none) H:=by
 refine Qc jM (oN hN) (J:=[.none,.lst [.tup [.none,mtx r c xu]],.none]) rfl (by simp[Qf]) (H':=[]) ?_ rfl H;have n:=QJ (pN hN) "double" (cmj r c λi j=>qo (xu i j)) (dimA r c) "x" (Qf _ _ _) rfl [];have t:=JG (pN hN) "x" (mtx r c xu) (by decide) (Qs _ _ _) [];have o:=KJ (pN hN) (xu:=xu) r c false false [];simp only[if_true,Bool.false_eq_true,if_false] at o;simp only[W9];w_fin
theorem QeL (hN:5<=N)(l:LA)(hl:AV.ncs l=true)(H:AH):(RN N).f 926 [.none,.lst [.tup [.none,vec "double" l .none]],.none] H=.ok nullA H:=by
 refine Qc jM (oN hN) (J:=[.none,.lst [.tup [.none,vec "double" l .none]],.none]) rfl (by simp[hl]) (H':=[]) ?_ rfl H;have t:=JG (pN hN) "x" (vec "double" l .none) (by decide) (by simp[hl]) [];have n:=QJ (pN hN) "double" l .none "x" hl rfl [];have o:=yx (pN hN) l false hl [];simp only[if_true,Bool.false_eq_true,if_false] at o;simp only[W9];w_fin
theorem QeM (hN:5<=N)(r c:Nat)(H:AH):(RN N).f 933 [.none,.lst [.tup [.none,mtx r c xu]],.none] H=.ok (vec "integer" [.int c] .none) H:=by
 refine Qc jN (oN hN) (J:=[.none,.lst [.tup [.none,mtx r c xu]],.none]) rfl (by simp[Qf]) (H':=[]) ?_ rfl H;have n:=QJ (pN hN) "double" (cmj r c λi j=>qo (xu i j)) (dimA r c) "x" (Qf _ _ _) rfl [];have t:=JG (pN hN) "x" (mtx r c xu) (by decide) (Qs _ _ _) [];have o:=KJ (pN hN) (xu:=xu) r c true false [];simp only[if_true,Bool.false_eq_true,if_false] at o;simp only[Ka];w_fin
theorem QeN (hN:5<=N)(l:LA)(hl:AV.ncs l=true)(H:AH):(RN N).f 933 [.none,.lst [.tup [.none,vec "double" l .none]],.none] H=.ok nullA H:=by
 refine Qc jN (oN hN) (J:=[.none,.lst [.tup [.none,vec "double" l .none]],.none]) rfl (by simp[hl]) (H':=[]) ?_ rfl H;have t:=JG (pN hN) "x" (vec "double" l .none) (by decide) (by simp[hl]) [];have n:=QJ (pN hN) "double" l .none "x" hl rfl [];have o:=yx (pN hN) l true hl [];simp only[if_true,Bool.false_eq_true,if_false] at o;simp only[Ka];w_fin
theorem QeO (hN:5<=N)(r c:Nat)(H:AH):(RN N).f 940 [.none,.lst [.tup [.none,mtx r c xu]],.none] H=.ok (vec "integer" [.int r] .none) H:=by
 refine Qc jO (oN hN) (J:=[.none,.lst [.tup [.none,mtx r c xu]],.none]) rfl (by simp[Qf]) (H':=[]) ?_ rfl H;have n:=QJ (pN hN) "double" (cmj r c λi j=>qo (xu i j)) (dimA r c) "x" (Qf _ _ _) rfl [];have t:=JG (pN hN) "x" (mtx r c xu) (by decide) (Qs _ _ _) [];have o:=KJ (pN hN) (xu:=xu) r c false true [];simp only[if_true,Bool.false_eq_true,if_false] at o;simp only[Kc];w_fin
theorem QeP (hN:5<=N)(l:LA)(hl:AV.ncs l=true)(ll:l.length<=100000)(H:AH):(RN N).f 940 [.none,.lst [.tup [.none,vec "double" l .none]],.none] H=.ok (vec "integer" [.int l.length] .none) H:=by
 refine Qc jO (oN hN) (J:=[.none,.lst [.tup [.none,vec "double" l .none]],.none]) rfl (by simp[hl]) (H':=[]) ?_ rfl H;have t:=JG (pN hN) "x" (vec "double" l .none) (by decide) (by simp[hl]) [];have n:=QJ (pN hN) "double" l .none "x" hl rfl [];have o:=yz (pN hN) l false hl ll [];simp only[if_true,Bool.false_eq_true,if_false] at o;simp only[Kc];w_fin
theorem QeQ (hN:5<=N)(r c:Nat)(H:AH):(RN N).f 947 [.none,.lst [.tup [.none,mtx r c xu]],.none] H=.ok (vec "integer" [.int c] .none) H:=by
 refine Qc jP (oN hN) (J:=[.none,.lst [.tup [.none,mtx r c xu]],.none]) rfl (by simp[Qf]) (H':=[]) ?_ rfl H;have n:=QJ (pN hN) "double" (cmj r c λi j=>qo (xu i j)) (dimA r c) "x" (Qf _ _ _) rfl [];have t:=JG (pN hN) "x" (mtx r c xu) (by decide) (Qs _ _ _) [];have o:=KJ (pN hN) (xu:=xu) r c true true [];simp only[if_true,Bool.false_eq_true,if_false] at o;simp only[Kd];w_fin
theorem QeR (hN:5<=N)(l:LA)(hl:AV.ncs l=true)(ll:l.length<=100000)(H:AH):(RN N).f 947 [.none,.lst [.tup [.none,vec "double" l .none]],.none] H=.ok (vec "integer" [.int 1] .none) H:=by
 refine Qc jP (oN hN) (J:=[.none,.lst [.tup [.none,vec "double" l .none]],.none]) rfl (by simp[hl]) (H':=[]) ?_ rfl H;have t:=JG (pN hN) "x" (vec "double" l .none) (by decide) (by simp[hl]) [];have n:=QJ (pN hN) "double" l .none "x" hl rfl [];have o:=yz (pN hN) l true hl ll [];simp only[if_true,Bool.false_eq_true,if_false] at o;simp only[Kd];w_fin
end
section
local macro_rules | `(tactic| w_fin)=>do
 let a:=(wA.splitOn " ").toArray.map λs=>Lean.mkIdent s.toName
 let l:=((wN.splitOn " ").map λx=>if x=="k_seq" then "q_seq" else if x=="k_seqC" then "q_seqC" else if x=="k_seqR" then "q_seqR" else if x=="k_seqX" then "q_seqX" else if x=="ss_cons" then "q_cons" else x).toArray.map λs=>Lean.mkIdent s.toName
 `(tactic| simp only[$[↓$a:ident],*,$[$l:ident],*, *])
section
theorem QeS {H:AH}(s a b d e:String):pCmp H .isin (.str s) (.tup [.str a,.str b,.str d,.str e])=some (decide (s=a\/s=b\/s=d\/s=e)):=congrArg some (decide_eq_decide.mpr (by simp[ZP]))
variable {N:Nat}{xu:Nat->Nat->Option Rat}
theorem QeT (hN:1<=N)(H:AH):(RN N).f 684 [.str "integer"] H=.ok (.bool true) H:=by
 have e:=λH=>QeS (H:=H) "integer" "logical" "integer" "double" "character"
 refine Qc Qdn hN (J:=[.str "integer"]) rfl rfl (H':=[]) ?_ rfl H;simp only[XD];w_fin
theorem QeU (hN:2<=N)(n:Int)(H:AH):(RN N).f 663 [.str "integer",.int n,.lst []] H=.ok (.tup [.int n,.int 1]) H:=by
 have e:=Qd2 (pN hN) n [];refine Qc Qdl (oN hN) (J:=[.str "integer",.int n,.lst []]) rfl rfl (H':=[]) ?_ rfl H;simp only[Xz];w_fin
theorem QeV (hN:3<=N)(n:Int)(H:AH):(RN N).f 677 [.str "integer",.int n,.str "double",.lst []] H=.ok (.tup [.int n,.int 1]) H:=by
 refine Qc Qdm (oN hN) (J:=[.str "integer",.int n,.str "double",.lst []]) rfl rfl (H':=[]) ?_ rfl H;have e:=QeU (pN hN) n [];have a:=QeT (pN hN) [];simp only[XC];w_fin
theorem QeW (hN:4<=N)(n:Int)(H:AH):(RN N).f 715 [vec "integer" [.int n] .none,.str "double",.lst []] H=.ok (vec "double" [.tup [.int n,.int 1]] .none) H:=by
 refine Qc jB (oN hN) (J:=[vec "integer" [.int n] .none,.str "double",.lst [],uS,uS]) rfl rfl (H':=[.dead]) ?_ rfl H;have i:=QH (pN hN) "double" [.tup [.int n,.int 1]] [];simp only[List.length_nil,List.nil_append] at i;have a:=QeV (pN hN) n [];have nm:=λH=>j4 (pN hN) "integer" [.int n] (.inr (.inl rfl)) rfl H
 have wn:=λH=>j5 (pN hN) "double" [.tup [.int n,.int 1]] rfl H
 have cm:evE (RN (N-1)) [vec "integer" [.int n] .none,.str "double",.lst [],.lst [.int n],uS] D63 []=.ok (.lst [.tup [.int n,.int 1]]) []:=by
  exact (QX (v:=.lst [.int n]) [n] (g:=λn=>.int n) (λn=>.tup [.int n,.int 1]) (by w_fin) rfl (Nat.le_of_ble_eq_true rfl) rfl (all1 ⟨_,rfl,by w_fin⟩)).trans rfl
 simp only[W2];w_fin
theorem yC (hN:2<=N)(n:Nat)(H:AH):(RN N).f 239 [.tup [.int n,.int 1]] H=.ok (.int n) H:=by
 refine Qc Qc3 (oN hN) (J:=[.tup [.int n,.int 1],uS]) rfl rfl (H':=[]) ?_ rfl H;have f:(RN (N-1)).f 190 [.tup [.int n,.int 1]] []=.ok (.bool true) []:=V4 (pN hN) (n:Rat) [];have d:pBin .div (.int (n:Int)) (.int 1)=some (.int n):=by
  have:=VB (a:=n) (b:=1) (by lia) (by lia);rw[Nat.div_one] at this; exact this
 simp only[Xf];w_fin
theorem QeX (hN:1<=N)(s:String)(H:AH):(RN N).f 826 [.none,.str s] H=.ok .none H:=by
 refine Qc jK (oN hN) (J:=[.none,.str s,uS,uS]) rfl rfl (H':=[]) ?_ rfl H;w_fin
theorem yD (hN:5<=N)(n:Nat)(s:String)(hn:n<100)(H:AH):(RN N).f 826 [vec "integer" [.int n] .none,.str s] H=.ok (.int n) H:=by
 refine Qc jK (oN hN) (J:=[vec "integer" [.int n] .none,.str s,uS,uS]) rfl rfl (H':=[]) ?_ rfl H;have k:=QeW (pN hN) n [];have a:(RN (N-1)).f 183 [.tup [.int n,.int 1]] []=.ok (.bool false) []:=J6 (pN hN) (n:Rat) [];have f:(RN (N-1)).f 190 [.tup [.int n,.int 1]] []=.ok (.bool true) []:=V4 (pN hN) (n:Rat) [];have w:=yC (pN hN) n [];have d1:decide ((n:Int)<0)=false:=rfl;have d2:decide ((n:Int)>100000)=false:=by simp; lia
 have d3:decide (((0+1:Nat):Int)=0)=false:=rfl;clear hn;simp only[XR];w_fin
theorem QeY (hN:5<=N)(n:Nat)(H:AH):(RN N).f 982 [vec "double" [.tup [.int n,.int 1]] .none] H=.ok (.int n) H:=by
 refine Qc QdI (oN hN) (J:=[vec "double" [.tup [.int n,.int 1]] .none,uS]) rfl rfl (H':=[]) ?_ rfl H;have k:=V8 (pN hN) "double" [.tup [.int n,.int 1]] .none (.inl rfl) (.inl rfl) rfl (by simp) [];have w:=yC (pN hN) n [];have d1:decide ((n:Int)<0)=false:=rfl;simp only[Ve];w_fin
theorem QeZ (hN:5<=N)(r c:Nat)(h1:r<100)(h2:c<100)(H:AH):(RN N).f 989 [.none,.lst [.tup [.none,mtx r c xu]],.none] H=.ok (vec "double" ((List.range (min r c)).map λp=>qo (xu p p)) .none) H:=by
 have hn:AV.ncs ((List.range (min r c)).map λp=>qo (xu p p))=true:=QZ λx hx=>by
  obtain⟨p,_,rfl⟩:=mmD hx; exact Qy _
 refine Qc VV (oN hN) (J:=[.none,.lst [.tup [.none,mtx r c xu]],.none,uS,uS,uS,uS,uS,uS,uS,uS,uS]) rfl (by simp[Qf]) (H':=[]) ?_ (by simp[hn]) H;have tk:=j6 (pN hN) "x" "nrow" "ncol" (mtx r c xu) (by decide) (by decide) (by decide) (by decide) (by decide) (by decide) (Qs _ _ _) [];have iv:=QC (pN hN) "double" (cmj r c λi j=>qo (xu i j)) (dimA r c) (Qf _ _ _) rfl [];have im:=Q4 (pN hN) "double" (cmj r c λi j=>qo (xu i j)) r c (Qf _ _ _) [];have dg:=QeB (pN hN) (xu:=xu) r c h1 h2 [];clear hn h1 h2;simp only[We];w_fin
theorem Qe0 (hN:6<=N)(n:Nat)(h1:n<100)(H:AH):(RN N).f 989 [.none,.lst [.tup [.none,vec "double" [.tup [.int n,.int 1]] .none]],.none] H=.ok (vec "double" (cmj n n λi j=>if i=j then (([.tup [.int 1,.int 1]]:LA)[i % ([.tup [.int 1,.int 1]]:LA).length]?).getD .none else .tup [.int 0,.int 1]) (dimA n n)) H:=by
 refine Qc VV (oN hN) (J:=[.none,.lst [.tup [.none,vec "double" [.tup [.int n,.int 1]] .none]],.none,uS,uS,uS,uS,uS,uS,uS,uS,uS]) rfl rfl (H':=[.dead]) ?_ (Jq (Qu λi j _ _=>by split<;>simp[Nat.mod_one])) H;have tk:=j6 (pN hN) "x" "nrow" "ncol" (vec "double" [.tup [.int n,.int 1]] .none) (by decide) (by decide) (by decide) (by decide) (by decide) (by decide) rfl [];have iv:=λH=>QC (pN hN) "double" [.tup [.int n,.int 1]] .none rfl rfl H
 have im:=λH=>Kw (pN hN) "double" [.tup [.int n,.int 1]] rfl H
 have e0:=λs H=>QeX (pN hN) s H
 have i:=QH (pN hN) "double" [.tup [.int 1,.int 1]] [];simp only[List.length_nil,List.nil_append] at i;have ds:=λH=>QeY (pN hN) n H
 have dm:=λH=>yg (pN hN) [.tup [.int 1,.int 1]] n n h1 h1 rfl (by simp) (by simp) H
 have e1:decide (((0+1:Nat):Int)=1)=true:=rfl;clear h1;simp only[We];w_fin
theorem Qe1 (hN:6<=N)(l:LA)(r c:Nat)(h1:r<100)(h2:c<100)(hl:AV.ncs l=true)(h0:0<l.length)(ll:l.length<=90000)(H:AH) :
  (RN N).f 989 [.none,.lst [.tup [.none,vec "double" l .none],.tup [.str "nrow",vec "integer" [.int r] .none],.tup [.str "ncol",vec "integer" [.int c] .none]],.none] H=.ok (vec "double" (cmj r c λi j=>if i=j then (l[i % l.length]?).getD .none else .tup [.int 0,.int 1]) (dimA r c)) H:=by
 have inn:AV.ncs (cmj r c λi j=>if i=j then (l[i % l.length]?).getD .none else .tup [.int 0,.int 1])=true:=Qu λi j _ _=>by
  split
  ·cases hx:l[i % l.length]? with
   | none=>rfl
   | some x=>exact Ua hl x (List.mem_of_getElem? hx)
  ·rfl
 refine Qc VV (oN hN) (J:=[.none,.lst [.tup [.none,vec "double" l .none],.tup [.str "nrow",vec "integer" [.int r] .none],.tup [.str "ncol",vec "integer" [.int c] .none]],.none,uS,uS,uS,uS,uS,uS,uS,uS,uS]) rfl (by simp[hl]) (H':=[.dead]) ?_ (Jq inn) H;have tk:=Qei (pN hN) "x" "nrow" "ncol" (vec "double" l .none) (vec "integer" [.int r] .none) (vec "integer" [.int c] .none) (by decide) (by decide) (by decide) (by decide) (by decide) (by decide) (by simp[hl]) rfl rfl [];have iv:=λH=>QC (pN hN) "double" l .none hl rfl H
 have im:=λH=>Kw (pN hN) "double" l hl H
 have e1:=λH=>yD (pN hN) r "nrow" h1 H
 have e2:=λH=>yD (pN hN) c "ncol" h2 H
 have i:=QH (pN hN) "double" [.tup [.int 1,.int 1]] [];simp only[List.length_nil,List.nil_append] at i;have dm:=λH=>yg (pN hN) l r c h1 h2 hl h0 ll H
 clear h1 h2 inn h0 ll;simp only[We];w_fin
end
end
section
theorem YM {C:Orc}{k:Nat}{b:List PS}{l:LA}(P:Nat->LA->AH->Prop)(h:∀i x,l[i]?=some x->∀J H,P i J H->StepR (evSs C b (J.set k x) H) (P (i+1))){J:LA}{H:AH}(p:P 0 J H) :
  LoopR (forL C [k] true b l J H) (P l.length):=by
 have:=jr (f:=λx J H=>match bindT [k] true x J with
  | some J'=>evSs C b J' H
  | none=>.stuck) P l 0 (λi x hx J H q=>by rw[Nat.zero_add] at q ⊢; exact h i x hx J H q) J H p
 simp only[Nat.zero_add] at this;exact this
variable {N:Nat}
theorem yE (hN:6<=N)(q:Nat->Nat->Rat)(r c:Nat)(t:AV)(ht:t=dimA r c\/(t=.none/\c=1))(h1:r<100)(h2:c<100)(H:AH) :
  (RN N).f 838 [vec "double" (cmj r c λi j=>qr (q i j)) t] H=.ok (.lst (rwj r c λi j=>qr (q i j))) H:=by
 have hl:AV.ncs (cmj r c λi j=>qr (q i j))=true:=Qu λi j _ _=>rfl
 have n1:r*c<=90000:=Nat.le_trans (Nat.mul_le_mul (Nat.le_of_lt h1) (Nat.le_of_lt h2)) (by decide);have ll:(cmj r c λi j=>qr (q i j)).length<=100000:=by rw[Qn]; lia
 have tn:t.nc=true:=by rcases ht with rfl | ⟨rfl,_⟩<;>rfl
 refine Qc Qdw (oN hN) (J:=[vec "double" (cmj r c λi j=>qr (q i j)) t,uS,uS,uS,uS,uS,uS,uS]) rfl (by simp[hl,tn]) (H':=[.dead]) ?_ (by simp[YJ (e:=λi j=>qr (q i j)) (λi j _ _=>rfl)]) H
 have nu:=J7 (pN hN) (cmj r c λi j=>qr (q i j)) t (by rcases ht with rfl | ⟨rfl,_⟩; exact .inr ⟨_,_,rfl⟩; exact .inl rfl) hl ll []
 have sh:(RN (N-1)).f 737 [vec "double" (cmj r c λi j=>qr (q i j)) t] []=.ok (.tup [.int r,.int c]) []:=by
  rcases ht with rfl | ⟨rfl,rfl⟩
  ·exact QF (pN hN) "double" _ r c hl []
  ·have:=V6 (pN hN) "double" (cmj r 1 λi j=>qr (q i j)) hl (by lia) []
   rw[Qn,Nat.mul_one] at this;exact this
 have isf:=λ(x:Rat)=>V4 (pN hN) x []
 have l9:(cmj r c λi j=>qr (q i j)).length<=1000000:=by lia
 have r9:r<1000000:=by lia
 have c9:c<1000000:=by lia
 obtain⟨J_1,H_1,e1,⟨st⟩⟩:=YM (C:=RN (N-1)) (k:=2) (b:=B1) (l:=cmj r c λi j=>qr (q i j))
  (P:=λ_ J H=>Fr1 (λst=>[vec "double" (cmj r c λi j=>qr (q i j)) t,.lst (cmj r c λi j=>qr (q i j)),st,uS,uS,uS,uS,uS]) ([]) J H)
  (λi x hx J H hP=>by
   obtain⟨st⟩:=hP;obtain⟨a,b,_,_,rfl⟩:=j8 (List.mem_of_getElem? hx);have f:=isf (q a b);refine⟨.next,_,_,?_,.inl rfl,.mk (qr (q a b))⟩;clear isf hx nu sh ht;w_fin) (J:=[vec "double" (cmj r c λi j=>qr (q i j)) t,.lst (cmj r c λi j=>qr (q i j)),uS,uS,uS,uS,uS,uS]) (H:=[]) (.mk uS)
 obtain⟨J_2,H_2,e2,⟨st2⟩⟩:=QW (C:=RN (N-1)) (k:=6) (n:=r) (b:=B11)
  (P:=λk J H=>Fr1 (λst2=>[vec "double" (cmj r c λi j=>qr (q i j)) t,.lst (cmj r c λi j=>qr (q i j)),st,.int r,.int c,.cell 0,st2,uS]) ([.lst ((List.range k).map λi=>.lst ((List.range c).map λj=>qr (q i j)))]) J H)
  (λi hi J H hP=>by
   obtain⟨st2⟩:=hP;have cm:evE (RN (N-1)) [vec "double" (cmj r c λi j=>qr (q i j)) t,.lst (cmj r c λi j=>qr (q i j)),st,.int r,.int c,.cell 0,.int i,uS] D68 [.lst ((List.range i).map λi=>.lst ((List.range c).map λj=>qr (q i j)))]=.ok (.lst ((List.range c).map λj=>qr (q i j))) [.lst ((List.range i).map λi=>.lst ((List.range c).map λj=>qr (q i j)))]:=by
    refine (Qx (v:=.rng 0 c) c (λj=>qr (q i j)) (by clear isf nu sh ht; w_fin) QD (by lia) rfl λj hj'=>?_).trans rfl
    have g:=cm_get (e:=λi j=>qr (q i j)) hi hj';have m:=QQ (a:=j) (b:=r) (by lia) (by lia);refine⟨_,rfl,?_⟩;clear isf nu sh ht;w_fin
   have lr:((List.range i).map λi=>AV.lst ((List.range c).map λj=>qr (q i j))).length<=100000:=by simp; lia
   refine⟨.next,_,_,?_,.inl rfl,.mk (.int i)⟩;simp only[List.range_succ,List.map_append,List.map_cons,List.map_nil];clear isf nu sh ht;w_fin) (J:=[vec "double" (cmj r c λi j=>qr (q i j)) t,.lst (cmj r c λi j=>qr (q i j)),st,.int r,.int c,.cell 0,uS,uS]) (H:=[.lst []]) (.mk uS)
 have rn:AV.ncs ((List.range r).map λi=>AV.lst ((List.range c).map λj=>qr (q i j)))=true:=YJ (e:=λi j=>qr (q i j)) λi j _ _=>rfl
 clear isf ht;simp only[XS];w_fin;rfl
theorem Qe2 (hN:5<=N)(e:Nat->Nat->AV)(r w:Nat)(h1:r<100)(h2:w<100)(he:∀i j,i<r->j<w->(e i j).nc=true)(hs:∀i j,i<r->j<w->setAV (e i j)=true)(H:AH) :
  (RN N).f 845 [.lst (rwj r w e),.int w,.none,.none] H=.ok (vec "double" (cmj r w e) (dimA r w)) H:=by
 have n1:r*w<=90000:=Nat.le_trans (Nat.mul_le_mul (Nat.le_of_lt h1) (Nat.le_of_lt h2)) (by decide);have rl:(rwj r w e).length=r:=YH r w e;have nm:=λH=>J8 (pN hN) "double" (cmj r w e) r w (Qu he) H
 refine Qc Qdx (oN hN) (J:=[.lst (rwj r w e),.int w,.none,.none,uS,uS,uS]) rfl (by simp[YJ he]) (H':=[.dead]) ?_ (Jq (Qu he)) H;have r9:r<=1000000:=by lia
 have w9:w<1000000:=by lia
 obtain⟨J_2,H_2,e2,⟨s1,s2⟩⟩:=QW (C:=RN (N-1)) (k:=5) (n:=w) (b:=B2)
  (P:=λk J H=>Fr2 (λs1 s2=>[.lst (rwj r w e),.int w,.none,.none,.cell 0,s1,s2]) ([.lst (cmj r k e)]) J H)
  (λj hj J H hP=>by
   obtain⟨s1,s2⟩:=hP;obtain⟨J_3,H_3,e3,s3,rfl,rfl⟩:=YM (C:=RN (N-1)) (k:=6) (b:=[.exp (.push D4 (.sub D9 D6))]) (l:=rwj r w e)
    (P:=λi J H=>∃s2,J=[.lst (rwj r w e),.int w,.none,.none,.cell 0,.int j,s2]/\H=[.lst (cmj r j e++(List.range i).map λi=>e i j)])
    (λi x hx J H ⟨s2,h1',h2'⟩=>by
     subst h1' h2';have hi:i<r:=by
      have:=(List.getElem?_eq_some_iff.mp hx).1;rw[YH] at this; exact this
     rw[KC hi] at hx;obtain rfl:=(Option.some.inj hx).symm;have le:(cmj r j e++(List.range i).map λi=>e i j).length<=100000:=by
      have:=Nat.mul_le_mul_left r (Nat.le_of_lt hj);simp only[List.length_append,Qn,List.length_map,List.length_range];exact Nat.le_trans (Nat.add_le_add (Nat.le_trans this n1) (Nat.le_of_lt (Nat.lt_trans hi h1))) (by decide)
     have lr:((List.range w).map λj=>e i j).length<=1000000:=by simp; lia
     have gt:((List.range w).map λj=>e i j)[j]?=some (e i j):=by simp[hj]
     refine⟨.next,_,_,?_,.inl rfl,.lst ((List.range w).map λj=>e i j),rfl,rfl⟩;simp only[List.range_succ,List.map_append,List.map_cons,List.map_nil,<-List.append_assoc];clear he hs nm hx;w_fin) (J:=[.lst (rwj r w e),.int w,.none,.none,.cell 0,.int j,s2]) (H:=[.lst (cmj r j e)]) ⟨s2,rfl,by simp⟩
   rw[YH,<-Kz] at e3;refine⟨.next,_,_,?_,.inl rfl,.mk (.int j) s3⟩;clear he hs nm;w_fin) (J:=[.lst (rwj r w e),.int w,.none,.none,.cell 0,uS,uS]) (H:=[.lst []]) (.mk uS uS)
 have cn:=Qu he;clear he hs;simp only[XX];w_fin
theorem Ub (hN:3<=N)(l:LA)(r c:Nat)(i:Int)(hl:AV.ncs l=true)(H:AH):(RN N).f 852 [vec "double" l (dimA r c),.int i] H=.ok .none H:=by
 refine Qc Qdy (oN hN) (J:=[vec "double" l (dimA r c),.int i]) rfl (by simp[hl]) (H':=[]) ?_ rfl H;have a:=YD (pN hN) "double" l r c i hl [];have m:=Q4 (pN hN) "double" l r c hl [];simp only[X3];w_fin
theorem YQ (hN:1<=N)(l:LA)(n:Nat)(hl:AV.ncs l=true)(hn:l.length=n)(h9:n<=1000000)(H:AH):(RN N).f 420 [.lst l,.int n] H=.ok .none H:=by
 refine Qc Qdh (oN hN) (J:=[.lst l,.int n]) rfl (by simp[hl]) (H':=[]) ?_ rfl H;subst hn;simp only[Xu];w_fin
end
section
theorem yF {a b:Nat}{x:Int}{d:Nat}(hd:d≠0)(hx:x.natAbs<2 ^ a)(hy:d<2 ^ b):(Rat.divInt x d).num.natAbs<2 ^ a/\(Rat.divInt x d).den<2 ^ b:=by
 constructor
 ·rw[Rat.num_divInt,Int.sign_eq_one_of_pos (by lia),Int.one_mul]
  exact Nat.lt_of_le_of_lt (Int.natAbs_ediv_le_natAbs _ _) hx
 ·rw[Rat.den_divInt,if_neg (by lia),Int.natAbs_natCast]
  exact Nat.lt_of_le_of_lt (Nat.div_le_self _ _) hy
theorem hq.mul {a b:Nat}{p q:Rat}(hp:hq a p)(h:hq b q):hq (a+b) (p*q):=by
 have e:p*q=Rat.divInt (p.num*q.num) ((p.den*q.den:Nat):Int):=by
  have:=Rat.divInt_mul_divInt p.num q.num (d₁:=(p.den:Int)) (d₂:=(q.den:Int));simp only[Jo,Jo] at this;simp only[this]; simp
 simp only[e];have:=yF (a:=a+b) (b:=a+b) (x:=p.num*q.num) (d:=p.den*q.den) (Nat.mul_ne_zero p.den_nz q.den_nz) (by
  simp only[Int.natAbs_mul,Nat.pow_add]; exact Nat.mul_lt_mul'' hp.1 h.1) (by simp only[Nat.pow_add]; exact Nat.mul_lt_mul'' hp.2 h.2)
 exact this
theorem hq.sub {a b:Nat}{p q:Rat}(hp:hq a p)(h:hq b q):hq (a+b+1) (p-q):=by
 have e:p-q=Rat.divInt (p.num*q.den-q.num*p.den) ((p.den*q.den:Nat):Int):=by
  have:=Rat.divInt_sub_divInt p.num q.num (d₁:=(p.den:Int)) (d₂:=(q.den:Int)) (den0 p) (den0 q);simp only[Jo,Jo] at this;refine this ▸ ?_; simp
 simp only[e];refine yF (Nat.mul_ne_zero p.den_nz q.den_nz) ?_ ?_
 ·have h1:(p.num*q.den).natAbs<2 ^ (a+b):=by simp only[Int.natAbs_mul,Int.natAbs_natCast,Nat.pow_add]; exact Nat.mul_lt_mul'' hp.1 h.2
  have h2:(q.num*p.den).natAbs<2 ^ (a+b):=by rw[Int.natAbs_mul,Int.natAbs_natCast,Nat.add_comm,Nat.pow_add]; exact Nat.mul_lt_mul'' h.1 hp.2
  exact nsub h1 h2
 ·exact Nat.lt_of_lt_of_le (by simp only[Nat.pow_add]; exact Nat.mul_lt_mul'' hp.2 h.2) (Nat.pow_le_pow_right (by decide) (Nat.le_succ (a+b)))
theorem hq.inv {a:Nat}{p:Rat}(hp:hq a p)(h0:p≠0):hq a p⁻¹:=by
 have hn:p.num≠0:=λh=>h0 (Rat.num_eq_zero.mp h)
 constructor
 ·simp only[Rat.num_inv,Int.natAbs_mul,Int.natAbs_natCast]
  rcases Int.lt_or_gt_of_ne hn with h | h
  ·rw[Int.sign_eq_neg_one_of_neg h]; simpa using hp.2
  ·rw[Int.sign_eq_one_of_pos h]; simpa using hp.2
 ·rw[Rat.den_inv,if_neg hn]; exact hp.1
noncomputable def rq (w:Nat)(r:Nat->Rat):LA:=(List.range w).map λj=>qr (r j)
noncomputable def mat (n w:Nat)(R:Nat->Nat->Rat):LA:=(List.range n).map λi=>.lst (rq w (R i))
theorem Q9 (w:Nat)(r:Nat->Rat):(rq w r).length=w:=by simp[rq]
theorem Wi {w:Nat}{r:Nat->Rat}{j:Nat}(h:j<w):(rq w r)[j]?=some (qr (r j)):=by simp[rq,h]
theorem JR (w:Nat)(r:Nat->Rat):AV.ncs (rq w r)=true:=QZ λx hx=>by
 obtain⟨j,_,rfl⟩:=mmD hx; rfl
theorem Qe3 {w:Nat}{r s:Nat->Rat}(h:∀j,j<w->r j=s j):rq w r=rq w s:=List.map_congr_left λj hj=>by rw[h j (by simpa using hj)]
theorem Qq (n w:Nat)(R:Nat->Nat->Rat):(mat n w R).length=n:=by simp[mat]
theorem Ja {n w:Nat}{R:Nat->Nat->Rat}{i:Nat}(h:i<n):(mat n w R)[i]?=some (.lst (rq w (R i))):=by simp[mat,h]
theorem QV (n w:Nat)(R:Nat->Nat->Rat):AV.ncs (mat n w R)=true:=QZ λx hx=>by
 obtain⟨j,_,rfl⟩:=mmD hx; simp[JR]
theorem Qe4 {n w:Nat}{R S:Nat->Nat->Rat}(h:∀i,i<n->∀j,j<w->R i j=S i j):mat n w R=mat n w S :=
 List.map_congr_left λi hi=>congrArg AV.lst (Qe3 (h i (by simpa using hi)))
noncomputable def updR (R:Nat->Nat->Rat)(i:Nat)(r:Nat->Rat):Nat->Nat->Rat:=λk=>if k=i then r else R k
theorem KN (n w:Nat)(R:Nat->Nat->Rat)(i:Nat)(r:Nat->Rat):(mat n w R).set i (.lst (rq w r))=mat n w (updR R i r):=by
 apply List.ext_getElem?;intro k;rw[List.getElem?_set,Qq];by_cases hk:i=k
 ·subst hk
  refine (if_pos rfl) ▸ ?_;by_cases hi:i<n
  ·rw[if_pos hi,Ja hi]; simp[updR]
  ·rw[if_neg hi,List.getElem?_eq_none (by rw[Qq]; lia)]
 ·rw[if_neg hk]
  by_cases hi:k<n
  ·rw[Ja hi,Ja hi]; simp[updR,Ne.symm hk]
  ·rw[List.getElem?_eq_none (by rw[Qq]; lia),List.getElem?_eq_none (by rw[Qq]; lia)]
variable {N:Nat}
theorem c_qz (H:AH)(q:Rat):pCmp H .eq (qr q) (.tup [.int 0,.int 1])=some (decide (q=0)):=Yx rfl rfl (by
 constructor
 ·intro h
  injection h with h; injection h with h h2; injection h with h;exact Rat.num_eq_zero.mp h
 ·rintro rfl; rfl)
theorem c_qnz (H:AH)(q:Rat):pCmp H .ne (qr q) (.tup [.int 0,.int 1])=some (decide (q≠0)):=Kl rfl rfl (by
 refine not_congr ⟨?_,?_⟩
 ·intro h
  injection h with h; injection h with h h2; injection h with h;exact Rat.num_eq_zero.mp h
 ·rintro rfl; rfl)
theorem Qe5 (hN:4<=N)(w:Nat)(r:Nat->Rat)(f:Rat)(hw:w<100)(hr:∀j,j<w->hq 2000 (r j))(hf:hq 2000 f)(H:AH):(RN N).f 385 [.lst (rq w r),qr f] H=.ok (.lst (rq w λj=>r j*f)) H:=by
 refine Qc Qdd (oN hN) (J:=[.lst (rq w r),qr f,uS]) rfl (by simp[JR]) (H':=[]) ?_ (by simp[JR]) H;have cm:evE (RN (N-1)) [.lst (rq w r),qr f,uS] D103 []=.ok (.lst (rq w λj=>r j*f)) []:=by
  refine (Qx (v:=.lst (rq w r)) w (g:=λj=>qr (r j)) (λj=>qr (r j*f)) (by clear hr; w_fin) rfl (by lia) rfl λj hj=>?_).trans rfl
  have m:=Ku (pN hN) (some (r j)) (some f) (λq h=>by cases h; exact hr j hj) (λq h=>by cases h; exact hf) [];simp only[qo,V3] at m;refine⟨_,rfl,?_⟩;clear hr hf hj;w_fin
 clear hr hf;simp only[Xo];w_fin
theorem Qe6 (hN:5<=N)(w:Nat)(r o:Nat->Rat)(f:Rat)(hw:w<100)(hr:∀j,j<w->hq 600 (r j))(ho':∀j,j<w->hq 600 (o j))(hf:hq 600 f)(H:AH) :
  (RN N).f 392 [.lst (rq w r),.lst (rq w o),qr f] H=.ok (.lst (rq w λj=>r j-f*o j)) H:=by
 by_cases hz:f=0
 ·have e:(λj=>r j-f*o j)=r:=by funext j; rw[hz,Rat.zero_mul]; grind
  rw[e];refine Qc jw (oN hN) (J:=[.lst (rq w r),.lst (rq w o),qr f,uS,uS]) rfl (by simp[JR]) (H':=[]) ?_ (by simp[JR]) H;have d:=c_qz [] f;have d2:decide (f=0)=true:=by simp[hz]
  clear hr hf ho' hz e;simp only[WT];w_fin
 ·refine Qc jw (oN hN) (J:=[.lst (rq w r),.lst (rq w o),qr f,uS,uS]) rfl (by simp[JR]) (H':=[.dead]) ?_ (by simp[JR]) H
  have d:=c_qz [] f;have d2:decide (f=0)=false:=by simp[hz]
  have l1:=Q9 w r;have w9:w<1000000:=by lia
  have w8:w<=1000000:=by lia
  obtain⟨J_1,H_1,e1,⟨st⟩⟩:=QW (C:=RN (N-1)) (k:=4) (n:=w) (b:=B13)
   (P:=λk J H=>Fr1 (λst=>[.lst (rq w r),.lst (rq w o),qr f,.cell 0,st]) ([.lst (rq k λj=>r j-f*o j)]) J H)
   (λi hi J H hP=>by
    obtain⟨st⟩:=hP;have l2:(rq w r).length<=1000000:=by rw[Q9]; lia
    have l3:(rq w o).length<=1000000:=by rw[Q9]; lia
    have l4:(rq i λj=>r j-f*o j).length<=100000:=by rw[Q9]; lia
    have g1:=Wi (r:=r) hi;have g2:=Wi (r:=o) hi;have hm:=(hf.mul (ho' i hi)).mono (show 600+600<=2000 by decide);have m:=λH=>Ku (pN hN) (some f) (some (o i)) (λq h=>by cases h; exact hf.mono (by decide)) (λq h=>by cases h; exact (ho' i hi).mono (by decide)) H
    have s:=λH=>R_sub (pN hN) (r i) (f*o i) ((hr i hi).mono (by decide)) hm H
    simp only[qo,V3] at m;have es:rq i (λj=>r j-f*o j)++[qr (r i-f*o i)]=rq (i+1) λj=>r j-f*o j:=by simp[rq,List.range_succ]
    refine⟨.next,_,_,?_,.inl rfl,.mk (.int i)⟩;clear hr hf ho' hz hm l1;w_fin
    ) (J:=[.lst (rq w r),.lst (rq w o),qr f,.cell 0,uS]) (H:=[.lst []]) (.mk uS)
  have rn:=JR w λj=>r j-f*o j
  clear hr hf ho' hz;simp only[WT];w_fin
end
section
inductive FindR (g:Nat->AV)(P:LA->Prop)(H:AH)(r:OS):Option Nat->Prop where
 | hit (i:Nat)(J':LA)(e:r=.ok (.ret (g i)) J' H):FindR g P H r (some i)
 | miss (J':LA)(e:r=.ok .next J' H)(p:P J'):FindR g P H r none
inductive FindS (v:AV)(P:LA->Prop)(H:AH)(r:OS):Bool->Prop where
 | hit (J':LA)(e:r=.ok (.ret v) J' H):FindS v P H r true
 | miss (J':LA)(e:r=.ok .next J' H)(p:P J'):FindS v P H r false
theorem yG {C:Orc}{k:Nat}{b:List PS}{P:LA->Prop}{p:Nat->Bool}{H:AH}(g:Nat->AV)(l:List Nat)(h:∀i∈l,∀J,P J->FindS (g i) P H (evSs C b (J.set k (.int i)) H) (p i))(J:LA)(q:P J):FindR g P H (forL C [k] true b (l.map λ(i:Nat)=>AV.int (i:Int)) J H) (l.find? p):=by
 induction l generalizing J with
 | nil=>exact .miss J rfl q
 | cons i l ih =>
  have hi:=h i (.head _) J q;simp only[List.find?_cons];show FindR g P H ((evSs C b (J.set k (.int i)) H).lp (forL C [k] true b _)) _;cases hp:p i with
  | true =>
   rw[hp] at hi;obtain⟨J',e⟩:=hi;rw[e];exact .hit i J' rfl
  | false =>
   rw[hp] at hi;obtain _ | ⟨J',e,q'⟩:=hi
   rw[e];exact ih (λj hj=>h j (.tail _ hj)) J' q'
noncomputable def rgn (s n:Nat):List Nat:=(List.range (n-s)).map λi=>s+i
theorem yH {a b:Nat}:itemsOf (.rng a b)=some ((rgn a b).map λ(i:Nat)=>AV.int (i:Int)):=by
 simp only[jq,rgn,List.map_map]; rfl
theorem Wj {s n i:Nat}:i∈rgn s n↔s<=i/\i<n:=by
 rw[rgn,List.mem_map];constructor
 ·rintro ⟨k,hk,rfl⟩
  exact⟨Nat.le_add_right s k,Nat.add_lt_of_lt_sub' (List.mem_range.mp hk)⟩
 ·rintro ⟨h1,h2⟩
  exact⟨i-s,List.mem_range.mpr (Nat.sub_lt_sub_right h1 h2),Nat.add_sub_of_le h1⟩
noncomputable def ff (n:Nat)(R:Nat->Nat->Rat)(s c:Nat):Option Nat:=(rgn s n).find? λi=>decide (R i c≠0)
noncomputable def ffi:Option Nat->Int
 | some i=>i
 | none=>-1
variable {N:Nat}
theorem Qe7 (hN:1<=N)(n w:Nat)(R:Nat->Nat->Rat)(s c:Nat)(hc:c<w)(hs:s<100)(hn:n<100)(hw:w<100)(rest:AH) :
  (RN N).f 399 [.cell 0,.int s,.int c] (.lst (mat n w R)::rest)=.ok (.int (ffi (ff n R s c))) (.lst (mat n w R)::rest):=by
 refine QB Qde hN (J:=[.cell 0,.int s,.int c,uS]) rfl ?_;have n8:n<=1000000:=by lia
 have w8:w<=1000000:=by lia
 have n9:n<1000000:=by lia
 have s9:s<1000000:=by lia
 have lm:=Qq n w R;have lp:=yG (C:=RN (N-1)) (g:=λi=>.int (i:Nat)) (k:=3) (b:=B8) (P:=λJ=>∃x,J=[.cell 0,.int s,.int c,x]) (p:=λi=>decide (R i c≠0)) (H:=.lst (mat n w R)::rest) (rgn s n) (λi hi J q70=>by
   obtain⟨x,h⟩:=q70;subst h;have g:=Ja (w:=w) (R:=R) (Wj.mp hi).2;have g2:=Wi (r:=R i) hc;have l2:=Q9 w (R i);have z:=λH=>c_qnz H (R i c)
   by_cases h0:R i c=0
   ·have d:decide (R i c≠0)=false:=by simp[h0]
    rw[d];refine .miss [.cell 0,.int s,.int c,.int i] ?_ ⟨_,rfl⟩;clear h0 hi;have z':=λH=>(z H).trans (congrArg some d)
    clear z d;w_fin
   ·have d:decide (R i c≠0)=true:=by simp[h0]
    rw[d];refine .hit [.cell 0,.int s,.int c,.int i] ?_;have z':=λH=>(z H).trans (congrArg some d)
    clear z d h0 hi;w_fin) [.cell 0,.int s,.int c,uS] ⟨_,rfl⟩
 have it:=yH (a:=s) (b:=n);have hff:ff n R s c=(rgn s n).find? λi=>decide (R i c≠0):=rfl
 simp only[Xp];rw[hff];clear hff;generalize (rgn s n).find? _=o at lp ⊢
 obtain⟨i,J',e⟩ | ⟨J',e,x,rfl⟩:=lp<;>simp only[ffi]<;>w_fin
noncomputable def clr (R:Nat->Nat->Rat)(p c:Nat):Nat->Nat->Rat:=λi=>if i=p then R i else λj=>R i j-R i c*R p j
theorem Qe8 (hN:6<=N)(n w:Nat)(R:Nat->Nat->Rat)(p c:Nat)(hp:p<n)(hc:c<w)(hn:n<100)(hw:w<100)(hR:∀i j,i<n->j<w->hq 600 (R i j))(rest:AH) :
  (RN N).f 406 [.cell 0,.int p,.int c] (.lst (mat n w R)::rest)=.ok .none (.lst (mat n w (clr R p c))::rest):=by
 refine QB Qdf (oN hN) (J:=[.cell 0,.int p,.int c,uS]) rfl ?_;have n8:n<=1000000:=by lia
 have w8:w<=1000000:=by lia
 have n9:n<1000000:=by lia
 have lm:=Qq n w R;obtain⟨J_1,H_1,e1,st,rfl,rfl⟩:=QW (C:=RN (N-1)) (k:=3) (n:=n) (b:=B20)
  (P:=λk J H=>∃st,J=[.cell 0,.int p,.int c,st]/\H=.lst (mat n w λi=>if i<k then clr R p c i else R i)::rest)
  (λi hi J H q70=>by
   obtain⟨st,h1',h2'⟩:=q70;subst h1' h2';refine⟨.next,[.cell 0,.int p,.int c,.int i],.lst (mat n w λi'=>if i'<i+1 then clr R p c i' else R i')::rest,?_,.inl rfl,.int i,rfl,rfl⟩;by_cases hip:i=p
   ·have e:(λi'=>if i'<i+1 then clr R p c i' else R i')=λi'=>if i'<i then clr R p c i' else R i':=by
     funext i';by_cases h:i'<i
     ·rw[if_pos (by lia),if_pos h]
     ·by_cases h2:i'=i
      ·rw[if_pos (by lia),if_neg h,clr,if_pos (by lia)]
      ·rw[if_neg (by lia),if_neg h]
    have d:decide ((i:Int)=p)=true:=by simp[hip]
    clear hip hi hR hp hc;w_fin
   ·have d:decide ((i:Int)=p)=false:=by simp; lia
    have gi:=Ja (w:=w) (R:=λi'=>if i'<i then clr R p c i' else R i') hi;have gp:=Ja (w:=w) (R:=λi'=>if i'<i then clr R p c i' else R i') hp;have ei:(if i<i then clr R p c i else R i)=R i:=if_neg (by lia);have ep:(if p<i then clr R p c p else R p)=R p:=by
     split
     ·rw[clr,if_pos rfl]
     ·rfl
    simp only[ei,ep] at gi gp;have g2:=Wi (r:=R i) hc;have l2:=Q9 w (R i);have l3:=Qq n w λi'=>if i'<i then clr R p c i' else R i'
    have le:=λH=>Qe6 (pN hN) w (R i) (R p) (R i c) hw (λj hj=>hR i j hi hj) (λj hj=>hR p j hp hj) (hR i c hi hc) H
    have st:=KN n w (λi'=>if i'<i then clr R p c i' else R i') i (λj=>R i j-R i c*R p j);have e:updR (λi'=>if i'<i then clr R p c i' else R i') i (λj=>R i j-R i c*R p j)=λi'=>if i'<i+1 then clr R p c i' else R i':=by
     funext i';unfold updR;dsimp only;by_cases h2:i'=i
     ·rw[if_pos h2,if_pos (by lia),h2,clr,if_neg hip]
     ·rw[if_neg h2]
      by_cases h:i'<i
      ·rw[if_pos h,if_pos (by lia)]
      ·rw[if_neg h,if_neg (by lia)]
    simp only[e] at st;have hiI:(i:Int)<n:=by lia
    clear hip hi hR hp hc ei ep e hw hn;w_fin) (J:=[.cell 0,.int p,.int c,uS]) (H:=.lst (mat n w R)::rest) ⟨uS,rfl,rfl⟩
 have ec:mat n w (λi=>if i<n then clr R p c i else R i)=mat n w (clr R p c):=Qe4 λi hi j hj=>by rw[if_pos hi]
 rw[ec] at e1;clear hR hp hc;simp only[Xq];w_fin
theorem Qe9 (hN:1<=N)(n w:Nat)(R:Nat->Nat->Rat)(hn:n<100)(hw:w<100)(H:AH):(RN N).f 380 [.lst (mat n w R)] H=.ok (.cell H.length) (H++[.lst (mat n w R)]):=by
 refine QB Qdc hN (J:=[.lst (mat n w R),uS]) rfl ?_;have cm:evE (RN (N-1)) [.lst (mat n w R),uS] D110 H=.ok (.cell H.length) (H++[.lst (mat n w R)]):=by
  refine (Qx (v:=.lst (mat n w R)) n (g:=λi=>.lst (rq w (R i))) (λi=>.lst (rq w (R i))) (by w_fin) rfl (by lia) rfl λj hj=>?_).trans rfl
  have l2:(rq w (R j)).length<=100000:=by rw[Q9]; lia
  refine⟨_,rfl,?_⟩;clear hj;w_fin
 simp only[Xn];w_fin
end
section
noncomputable def swp (R:Nat->Nat->Rat)(t f:Nat):Nat->Nat->Rat:=updR (updR R t (R f)) f (R t)
theorem KQ (R:Nat->Nat->Rat)(t f:Nat):swp R t f t=R f:=by
 unfold swp updR;by_cases h:t=f
 ·subst h; simp
 ·simp[h]
noncomputable def scl (R:Nat->Nat->Rat)(t c:Nat):Nat->Nat->Rat:=updR R t λj=>R t j*(R t c)⁻¹
noncomputable def stp (R:Nat->Nat->Rat)(t f c:Nat):Nat->Nat->Rat:=clr (scl (swp R t f) t c) t c
noncomputable def ech (n:Nat)(M:Nat->Nat->Rat):Nat->(Nat->Nat->Rat) × List Nat
 | 0=>(M,[])
 | c+1=>match ff n (ech n M c).1 (ech n M c).2.length c with
  | none=>ech n M c
  | some f=>(stp (ech n M c).1 (ech n M c).2.length f c,(ech n M c).2++[c])
theorem JS (n:Nat)(M:Nat->Nat->Rat)(c:Nat):ech n M (c+1)=(match ff n (ech n M c).1 (ech n M c).2.length c with
  | none=>ech n M c
  | some f=>(stp (ech n M c).1 (ech n M c).2.length f c,(ech n M c).2++[c])):=rfl
theorem KR {n s c f:Nat}{R:Nat->Nat->Rat}(h:ff n R s c=some f):s<=f/\f<n/\R f c≠0 :=
 have m:=Wj.mp (List.mem_of_find?_eq_some h)
 ⟨m.1,m.2,by simpa using List.find?_some h⟩
theorem Qfa {n s c:Nat}{R:Nat->Nat->Rat}(h:ff n R s c=none):∀i,s<=i->i<n->R i c=0:=λi h1 h2=>by
 simpa using List.find?_eq_none.mp h i (Wj.mpr ⟨h1,h2⟩)
noncomputable def bk:Nat->Nat
 | 0=>3
 | k+1=>4*bk k+1
noncomputable def hqm (b n w:Nat)(R:Nat->Nat->Rat):Prop:=∀i j,i<n->j<w->hq b (R i j)
theorem yI {b n w t f:Nat}{R:Nat->Nat->Rat}(h:hqm b n w R)(ht:t<n)(hf:f<n):hqm b n w (swp R t f):=λi j hi hj=>by
 unfold swp updR;split
 ·exact h t j ht hj
 ·split
  ·exact h f j hf hj
  ·exact h i j hi hj
theorem Uc {b n w t c:Nat}{R:Nat->Nat->Rat}(h:hqm b n w R)(ht:t<n)(hc:c<w)(h0:R t c≠0):hqm (b+b) n w (scl R t c):=λi j hi hj=>by
 unfold scl updR;split
 ·exact (h t j ht hj).mul ((h t c ht hc).inv h0)
 ·exact (h i j hi hj).mono (by lia)
theorem Qfb {b n w t c:Nat}{R:Nat->Nat->Rat}(h:hqm b n w R)(ht:t<n)(hc:c<w)(h0:R t c≠0):hqm (4*b+1) n w (clr (scl R t c) t c):=λi j hi hj=>by
 unfold clr;split
 ·exact (Uc h ht hc h0 i j hi hj).mono (by lia)
 ·next hit =>
  have e:∀k,scl R t c i k=R i k:=λk=>by unfold scl updR; simp[hit]
  dsimp only;rw[e j,e c];exact ((h i j hi hj).sub ((h i c hi hc).mul (Uc h ht hc h0 t j ht hj))).mono (by lia)
theorem Qfc {b n w t f c:Nat}{R:Nat->Nat->Rat}(h:hqm b n w R)(ht:t<n)(hf:f<n)(hc:c<w)(h0:R f c≠0):hqm (4*b+1) n w (stp R t f c) :=
 Qfb (yI h ht hf) ht hc (by rw[KQ]; exact h0)
theorem KY {n w:Nat}{M:Nat->Nat->Rat}(h:hqm 3 n w M)(c:Nat):c<=w->hqm (bk (ech n M c).2.length) n w (ech n M c).1/\(ech n M c).2.length<=n:=by
 induction c with
 | zero=>exact λ_=>⟨h,Nat.zero_le _⟩
 | succ c ih =>
  intro hc;obtain⟨h1,h2⟩:=ih (by lia);rw[JS];cases hf:ff n (ech n M c).1 (ech n M c).2.length c with
  | none=>exact⟨h1,h2⟩
  | some f =>
   obtain⟨q1,q2,q3⟩:=KR hf;dsimp only;refine List.length_append ▸ ?_;exact⟨Qfc h1 (by lia) q2 (by lia) q3,by simp; lia⟩
theorem bk_le {k:Nat}(h:k<=3):bk k<=213:=le3 (P:=λk=>bk k<=213) h (by decide) (by decide) (by decide) (by decide)
noncomputable def pv (l:List Nat):LA:=l.map λ(c:Nat)=>AV.int (c:Int)
theorem yJ (l:List Nat):(pv l).length=l.length:=by simp[pv]
theorem Qfd (l:List Nat)(c:Nat):pv l++[.int c]=pv (l++[c]):=by simp[pv]
theorem Ud (l:List Nat):AV.ncs (pv l)=true:=QZ λx hx=>by
 obtain⟨j,_,rfl⟩:=mmD hx; rfl
variable {N:Nat}
theorem yK (hN:7<=N)(n w:Nat)(M:Nat->Nat->Rat)(hn:n<=3)(h0:0<n)(hw:w<100)(hM:hqm 3 n w M)(H:AH) :
  (RN N).f 413 [.lst (mat n w M)] H=.ok (.tup [.lst (mat n w (ech n M w).1),.lst (pv (ech n M w).2)]) H:=by
 refine Qc Qdg (oN hN) (J:=[.lst (mat n w M),uS,uS,uS,uS,uS,uS]) rfl (by simp[QV]) (H':=[.dead,.dead]) ?_ (by simp[QV,Ud]) H;have cp:=Qe9 (pN hN) n w M (by lia) hw [];simp only[List.length_nil,List.nil_append] at cp;have lm:=Qq n w M;have g0:=Ja (w:=w) (R:=M) h0;have l0:=Q9 w (M 0);have n8:n<=1000000:=by lia
 have w8:w<=1000000:=by lia
 have w9:w<1000000:=by lia
 have d0:decide ((n:Int)>0)=true:=by simp; lia
 obtain⟨J_1,H_1,e1,⟨x,y,z⟩⟩:=QW (C:=RN (N-1)) (k:=4) (n:=w) (b:=B33)
  (P:=λc J H=>Fr3 (λx y z=>[.lst (mat n w M),.cell 0,.cell 1,.int w,x,y,z]) ([.lst (mat n w (ech n M c).1),.lst (pv (ech n M c).2)]) J H)
  (λc hc J H hP=>by
   obtain⟨x,y,z⟩:=hP;obtain⟨hb,hk⟩:=KY hM c (Nat.le_of_lt hc);obtain⟨R,hR⟩:∃R,R=(ech n M c).1:=⟨_,rfl⟩;obtain⟨p,hp⟩:∃p,p=(ech n M c).2:=⟨_,rfl⟩
   replace hk:=hp ▸ hk
   rw[<-hR,<-hp] at hb ⊢;have lp:=yJ p;have k8:p.length<=1000000:=by lia
   have k7:p.length<=100000:=by lia
   have fi:=Qe7 (pN hN) n w R p.length c hc (by lia) (by lia) hw [.lst (pv p)];cases hf:ff n R p.length c with
   | none =>
    have es:ech n M (c+1)=ech n M c:=by
     simp only[JS,<-hR,<-hp,hf]
    rw[es,<-hR,<-hp];refine⟨.cont,[.lst (mat n w M),.cell 0,.cell 1,.int w,.int c,.int p.length,.int (-1)],_,?_,.inr rfl,.mk _ _ _⟩;rw[hf] at fi;simp only[ffi] at fi;have d:decide ((-1:Int)<0)=true:=rfl;clear hM hb hk hc hf es hR hp;w_fin
   | some f =>
    obtain⟨q1,q2,q3⟩:=KR hf;have es:ech n M (c+1)=(stp R p.length f c,p++[c]):=by
     rw[JS,<-hR,<-hp,hf]
    rw[es];refine⟨.next,[.lst (mat n w M),.cell 0,.cell 1,.int w,.int c,.int p.length,.int f],_,?_,.inl rfl,.mk _ _ _⟩;rw[hf] at fi;simp only[ffi] at fi;have d:decide ((f:Int)<0)=false:=by simp
    have ht:p.length<n:=by lia
    have b53:bk p.length<=53:=by
     have:p.length<=2:=by lia
     match p.length,this with
     | 0,_=>decide
     | 1,_=>decide
     | 2,_=>decide
    have hS:=yI hb ht q2;have hst:swp R p.length f p.length c≠0:=by rw[KQ]; exact q3
    have gt:=Ja (w:=w) (R:=R) ht;have gf:=Ja (w:=w) (R:=R) q2;have m1:=KN n w R p.length (R f);have m2:(mat n w (updR R p.length (R f))).set f (.lst (rq w (R p.length)))=mat n w (swp R p.length f):=KN n w _ f (R p.length);have gS:=Ja (w:=w) (R:=swp R p.length f) ht;have g2:=Wi (r:=swp R p.length f p.length) hc;have dv:=λH=>Qd1 (pN hN) (swp R p.length f p.length c) hst ((hS _ _ ht hc).mono (by lia)) H
    have sc:=λH=>Qe5 (pN hN) w (swp R p.length f p.length) (swp R p.length f p.length c)⁻¹ hw (λj hj=>(hS _ _ ht hj).mono (by lia)) (((hS _ _ ht hc).inv hst).mono (by lia)) H
    have m3:(mat n w (swp R p.length f)).set p.length (.lst (rq w λj=>swp R p.length f p.length j*(swp R p.length f p.length c)⁻¹))=mat n w (scl (swp R p.length f) p.length c):=KN n w _ p.length _;have hsc:=Uc hS ht hc hst;have cl:(RN (N-1)).f 406 [.cell 0,.int p.length,.int c] [.lst (mat n w (scl (swp R p.length f) p.length c)),.lst (pv p)]=.ok .none [.lst (mat n w (stp R p.length f c)),.lst (pv p)]:=Qe8 (pN hN) n w (scl (swp R p.length f) p.length c) p.length c ht hc (by lia) hw (λi j hi hj=>(hsc i j hi hj).mono (by lia)) [.lst (pv p)]
    have l1:=Qq n w R;have l2:=Qq n w (updR R p.length (R f));have l3:=Qq n w (swp R p.length f);have l4:=Q9 w (swp R p.length f p.length);have tI:(p.length:Int)<n:=by lia
    have fI:(f:Int)<n:=by lia
    have pa:=Qfd p c;clear hM hb hk hc hf es hR hp hS hst hsc q1 q2 q3 ht b53;w_fin) (J:=[.lst (mat n w M),.cell 0,.cell 1,.int w,uS,uS,uS]) (H:=[.lst (mat n w M),.lst (pv [])]) (.mk _ _ _)
 have nc1:=QV n w (ech n M w).1;have nc2:=Ud (ech n M w).2;have pe:pv []=[]:=rfl;rw[pe] at e1;clear hM h0 hn pe;simp only[Xr];w_fin
end
section
noncomputable def sing (k:Nat):String:="Lapack routine dgesv: system is exactly singular: U["++toString (k:Int)++","++toString (k:Int)++"] = 0"
theorem yL {k:Nat}(h:k<=3):(toString (k:Int)).length=1:=le3 (P:=λk=>(toString (k:Int)).length=1) h (by decide +kernel) (by decide +kernel) (by decide +kernel) (by decide +kernel)
theorem Qfe {C:Orc}{J:LA}{H:AH}(a:PE):evE C J (.fmt a) H=(evE C J a H).bind λx H=>.opt x.int? λi=>if i.natAbs<1000000 then .ok (.str (toString i)) H else .stuck:=rfl
theorem Qff {C:Orc}{J:LA}{H:AH}(l:List PE):evE C J (.fstr l) H=evJ C J l "" H:=rfl
theorem ev_jn {C:Orc}{J:LA}{H:AH}(a:String):evJ C J [] a H=.ok (.str a) H:=rfl
theorem Wk {C:Orc}{J:LA}{H:AH}{e:PE}{l:List PE}{s a:String}(he:evE C J e H=.ok (.str s) H)(hl:(a++s).length<=100000):evJ C J (e::l) a H=evJ C J l (a++s) H:=by
 show (evE C J e H).bind _=_;refine he ▸ ?_;exact if_pos hl
theorem Qfg {C:Orc}{J:LA}{H:AH}{k:Nat}(h:k<=3)(e:J[6]?=some (.int k)) :
  evE C J (.fstr [(.str "Lapack routine dgesv: system is exactly singular: U["),(.fmt D9),(.str ","),(.fmt D9),(.str "] = 0")]) H=.ok (.str (sing k)) H:=by
 have t:=yL h;have l1:"Lapack routine dgesv: system is exactly singular: U[".length=52:=by decide +kernel
 have l2:",".length=1:=by decide +kernel
 have l3:"] = 0".length=5:=by decide +kernel
 have f:evE C J (.fmt D9) H=.ok (.str (toString (k:Int))) H:=by
  rw[Qfe,JD,e,lo_i];have k9:k<1000000:=by lia
  exact if_pos (show (k:Int).natAbs<1000000 from k9)
 unfold sing;generalize "Lapack routine dgesv: system is exactly singular: U["=s1 at *
 generalize ","=s2 at *
 generalize "] = 0"=s3 at *
 generalize toString (k:Int)=s4 at *
 rw[Qff,Wk (Wg s1) (by simp[l1]),Wk f (by simp[l1,t]),Wk (Wg s2) (by simp[l1,t,l2]),Wk f (by simp[l1,t,l2]),Wk (Wg s3) (by simp[l1,t,l2,l3]),ev_jn,String.empty_append]
noncomputable def fd (p:List Nat)(n:Nat):Option Nat:=(List.range n).find? λc=>decide (p[c]?≠some c)
noncomputable def fdi:Option Nat->Int
 | some c=>((c+1:Nat):Int)
 | none=>0
variable {N:Nat}
theorem Qfh (l:List Nat)(i:Nat):(pv l)[i]?=l[i]?.map λ(c:Nat)=>AV.int (c:Int):=by simp[pv]
theorem yM (hN:1<=N)(p:List Nat)(n:Nat)(hp:p.length<100)(hn:n<100)(H:AH):(RN N).f 427 [.lst (pv p),.int n] H=.ok (.int (fdi (fd p n))) H:=by
 refine Qc Qdi hN (J:=[.lst (pv p),.int n,uS]) rfl (by simp[Ud]) (H':=[]) ?_ rfl H;have n9:n<1000000:=by lia
 have l1:=yJ p;have p9:p.length<=1000000:=by lia
 have lp:=yG (C:=RN (N-1)) (k:=2) (b:=B10) (P:=λJ=>∃x,J=[.lst (pv p),.int n,x]) (p:=λc=>decide (p[c]?≠some c)) (g:=λc=>.int ((c+1:Nat):Int)) (H:=[]) (List.range n) (λi hi J q70=>by
   obtain⟨x,h⟩:=q70;subst h;have gi:=Qfh p i;by_cases hl:i<p.length
   ·have d1:decide ((i:Int)>=p.length)=false:=by simp; lia
    rw[List.getElem?_eq_getElem hl,Option.map_some] at gi;by_cases he:p[i]=i
    ·have d:decide (p[i]?≠some i)=false:=by rw[List.getElem?_eq_getElem hl,he]; simp
     have d2:decide ((p[i]:Int)=i)=true:=by rw[he]; simp
     rw[d];refine .miss [.lst (pv p),.int n,.int i] ?_ ⟨_,rfl⟩;clear he hi d hn hp;w_fin
    ·have d:decide (p[i]?≠some i)=true:=by rw[List.getElem?_eq_getElem hl]; simp[he]
     have d2:decide ((p[i]:Int)=i)=false:=by simp; lia
     rw[d];refine .hit [.lst (pv p),.int n,.int i] ?_;clear he hi d hn hp;w_fin
   ·have d1:decide ((i:Int)>=p.length)=true:=by simp; lia
    have d:decide (p[i]?≠some i)=true:=by rw[List.getElem?_eq_none (by lia)]; simp
    rw[d];refine .hit [.lst (pv p),.int n,.int i] ?_;clear hl hi d hn hp gi;w_fin) [.lst (pv p),.int n,uS] ⟨_,rfl⟩
 have hfd:fd p n=(List.range n).find? λc=>decide (p[c]?≠some c):=rfl
 simp only[Xv];rw[hfd];clear hfd hn hp;generalize (List.range n).find? _=o at lp ⊢
 obtain⟨i,J',e⟩ | ⟨J',e,x,rfl⟩:=lp<;>simp only[fdi]<;>w_fin
noncomputable def jn (n:Nat)(A B:Nat->Nat->Rat):Nat->Nat->Rat:=λi j=>if j<n then A i j else B i (j-n)
theorem Qfi (n q:Nat)(A B:Nat->Nat->Rat)(i:Nat):rq n (A i)++rq q (B i)=rq (n+q) (jn n A B i):=by
 unfold rq;rw[List.range_add,List.map_append,List.map_map];congr 1
 ·exact List.map_congr_left λj hj=>by simp only[jn,if_pos (by simpa using hj)]
 ·exact List.map_congr_left λj hj=>by
   have:¬n+j<n:=by lia
   simp[jn,this]
theorem Qfj (n q:Nat)(r:Nat->Rat):(rq (n+q) r).drop n=rq q λj=>r (n+j):=by
 unfold rq;rw[List.range_add,List.map_append,List.drop_left' (by simp),List.map_map];rfl
theorem J9 {n q:Nat}{A B:Nat->Nat->Rat}(hA:hqm 3 n n A)(hB:hqm 3 n q B):hqm 3 n (n+q) (jn n A B):=λi j hi hj=>by
 unfold jn;split
 ·next h=>exact hA i j hi h
 ·next h=>exact hB i (j-n) hi (Nat.sub_lt_left_of_lt_add (Nat.le_of_not_lt h) hj)
theorem yN {C:Orc}(n q:Nat)(A B:Nat->Nat->Rat)(hn:n<100)(hq:q<100)(a b c d e:AV):evE C [.lst (mat n n A),.lst (mat n q B),.int n,a,b,c,d,uS,e] D78 []=.ok (.lst (mat n (n+q) (jn n A B))) []:=by
 have n9:n<1000000:=by lia
 refine (Qx (v:=.rng 0 n) n (λj=>.lst (rq (n+q) (jn n A B j))) (by w_fin) QD (by lia) rfl λj hj'=>?_).trans rfl
 have g1:=Ja (w:=n) (R:=A) hj';have g2:=Ja (w:=q) (R:=B) hj';have l1:=Qq n n A;have l2:=Qq n q B;have l3:=Q9 n (A j);have l4:=Q9 q (B j);have c1:=Qfi n q A B j;have z1:n<=1000000:=by lia
 have z2:n+q<=1000000:=by lia
 refine⟨_,rfl,?_⟩;clear hj' hn hq;w_fin
theorem Ue (hN:8<=N)(n q:Nat)(A B:Nat->Nat->Rat)(hn:n<=3)(h0:0<n)(hq':q<=3)(hA:hqm 3 n n A)(hB:hqm 3 n q B)(hf:fd (ech n (jn n A B) (n+q)).2 n=none)(H:AH) :
  (RN N).f 432 [.lst (mat n n A),.lst (mat n q B)] H=.ok (.lst (mat n q λi j=>(ech n (jn n A B) (n+q)).1 i (n+j))) H:=by
 refine Qc jx (oN hN) (J:=[.lst (mat n n A),.lst (mat n q B),uS,uS,uS,uS,uS,uS,uS]) rfl (by simp[QV]) (H':=[]) ?_ (by simp[QV]) H;have jn':=λa b c d e=>yN (C:=RN (N-1)) n q A B (by lia) (by lia) a b c d e
 have re:=yK (pN hN) n (n+q) (jn n A B) hn h0 (by lia) (J9 hA hB) [];have hl:=(KY (J9 hA hB) (n+q) (Nat.le_refl _)).2;have fdp:=yM (pN hN) (ech n (jn n A B) (n+q)).2 n (by lia) (by lia) [];rw[hf] at fdp;simp only[fdi] at fdp;have l1:=Qq n n A;have z1:n<=1000000:=by lia
 have cm:evE (RN (N-1)) [.lst (mat n n A),.lst (mat n q B),.int n,.lst (mat n (n+q) (jn n A B)),.lst (mat n (n+q) (ech n (jn n A B) (n+q)).1),.lst (pv (ech n (jn n A B) (n+q)).2),.int 0,uS,uS] D112 []=.ok (.lst (mat n q λi j=>(ech n (jn n A B) (n+q)).1 i (n+j))) []:=by
  refine (Qx (v:=.lst (mat n (n+q) (ech n (jn n A B) (n+q)).1)) n (λj=>.lst (rq q λk=>(ech n (jn n A B) (n+q)).1 j (n+k))) (by clear hA hB hn h0 hq'; w_fin) rfl (by lia) rfl λj hj=>?_).trans rfl
  have dr:=Qfj n q ((ech n (jn n A B) (n+q)).1 j);have l3:=Q9 (n+q) ((ech n (jn n A B) (n+q)).1 j);have z2:n+q<=1000000:=by lia
  have z3:(n:Int)<=((n+q:Nat):Int):=by lia
  have z4:(0:Int)<=n:=by lia
  refine⟨_,rfl,?_⟩;simp only[V9];clear hj hA hB hn h0 hq' hf jn' re fdp;w_fin
 have d:decide ((0:Int)>0)=false:=rfl;clear hA hB hn h0 hq' hf hl;simp only[WW];w_fin
theorem Ug (hN:8<=N)(n q:Nat)(A B:Nat->Nat->Rat)(hn:n<=3)(h0:0<n)(hq':q<=3)(hA:hqm 3 n n A)(hB:hqm 3 n q B)(c:Nat)(hf:fd (ech n (jn n A B) (n+q)).2 n=some c)(H:AH) :
  (RN N).f 432 [.lst (mat n n A),.lst (mat n q B)] H=.exc (.str (sing (c+1))) H:=by
 refine Jm jx (oN hN) (J:=[.lst (mat n n A),.lst (mat n q B),uS,uS,uS,uS,uS,uS,uS]) rfl (by simp[QV]) (H':=[]) ?_ rfl H;have jn':=λa b c d e=>yN (C:=RN (N-1)) n q A B (by lia) (by lia) a b c d e
 have re:=yK (pN hN) n (n+q) (jn n A B) hn h0 (by lia) (J9 hA hB) [];have hl:=(KY (J9 hA hB) (n+q) (Nat.le_refl _)).2;have fdp:=yM (pN hN) (ech n (jn n A B) (n+q)).2 n (by lia) (by lia) [];rw[hf] at fdp;simp only[fdi] at fdp;have hc:c<n:=by simpa using List.mem_of_find?_eq_some hf
 have l1:=Qq n n A;have z1:n<=1000000:=by lia
 have es:=λH=>Qfg (C:=RN (N-1)) (H:=H) (k:=c+1) (by lia) (show ([.lst (mat n n A),.lst (mat n q B),.int n,.lst (mat n (n+q) (jn n A B)),.lst (mat n (n+q) (ech n (jn n A B) (n+q)).1),.lst (pv (ech n (jn n A B) (n+q)).2),.int ((c+1:Nat):Int),uS,uS]:LA)[6]?=some (.int ((c+1:Nat):Int)) from rfl)
 have d:decide (((c+1:Nat):Int)>0)=true:=decide_eq_true (by lia)
 clear hA hB hn h0 hq' hf hl hc;simp only[WW];w_fin
noncomputable def idm:Nat->Nat->Rat:=λi j=>if i=j then 1 else 0
theorem yO (hN:1<=N)(n:Nat)(hn:n<=3)(H:AH):(RN N).f 375 [.int n] H=.ok (.lst (mat n n idm)) H:=by
 refine le3 (P:=λn=>(RN N).f 375 [.int n] H=.ok (.lst (mat n n idm)) H) hn ?_ ?_ ?_ ?_
 ·refine Qc Kp hN (J:=[.int 0,uS,uS,uS]) rfl rfl (H':=[.dead]) ?_ rfl H
  have e:itemsOf (.rng 0 0)=some []:=rfl;simp only[Ys];w_fin;rfl
 ·refine Qc Kp hN (J:=[.int 1,uS,uS,uS]) rfl rfl (H':=[.dead,.dead]) ?_ rfl H
  simp only[Ys];w_fin;rfl
 ·refine Qc Kp hN (J:=[.int 2,uS,uS,uS]) rfl rfl (H':=[.dead,.dead,.dead]) ?_ rfl H
  simp only[Ys];w_fin;rfl
 ·refine Qc Kp hN (J:=[.int 3,uS,uS,uS]) rfl rfl (H':=[.dead,.dead,.dead,.dead]) ?_ rfl H
  simp only[Ys];w_fin;rfl
end
section
local macro_rules | `(tactic| w_fin)=>do
 let a:=(wA.splitOn " ").toArray.map λs=>Lean.mkIdent s.toName
 let l:=((wN.splitOn " ").map λx=>if x=="k_seq" then "q_seq" else if x=="k_seqC" then "q_seqC" else if x=="k_seqR" then "q_seqR" else if x=="k_seqX" then "q_seqX" else if x=="ss_cons" then "q_cons" else x).toArray.map λs=>Lean.mkIdent s.toName
 `(tactic| simp only[$[↓$a:ident],*,$[$l:ident],*, *])
section
variable {N:Nat}
theorem Qfk (hN:9<=N)(n:Nat)(A:Nat->Nat->Rat)(hn:n<=3)(h0:0<n)(hA:hqm 3 n n A)(hf:fd (ech n (jn n A idm) (n+n)).2 n=none)(H:AH) :
  (RN N).f 439 [.lst (mat n n A)] H=.ok (.lst (mat n n λi j=>(ech n (jn n A idm) (n+n)).1 i (n+j))) H:=by
 refine Qc jy (oN hN) (J:=[.lst (mat n n A)]) rfl (by simp[QV]) (H':=[]) ?_ (by simp[QV]) H;have s:=Ue (pN hN) n n A idm hn h0 hn hA (λi j _ _=>by unfold idm; split<;>exact⟨by decide,by decide⟩) hf [];have l1:=Qq n n A;have e:=yO (pN hN) n hn [];have z1:n<=1000000:=by lia
 clear hA hn h0 hf;simp only[WX];w_fin
theorem Qfl (hN:9<=N)(n:Nat)(A:Nat->Nat->Rat)(hn:n<=3)(h0:0<n)(hA:hqm 3 n n A)(c:Nat)(hf:fd (ech n (jn n A idm) (n+n)).2 n=some c)(H:AH) :
  (RN N).f 439 [.lst (mat n n A)] H=.exc (.str (sing (c+1))) H:=by
 refine Jm jy (oN hN) (J:=[.lst (mat n n A)]) rfl (by simp[QV]) (H':=[]) ?_ rfl H;have s:=Ug (pN hN) n n A idm hn h0 hn hA (λi j _ _=>by unfold idm; split<;>exact⟨by decide,by decide⟩) c hf [];have e:=yO (pN hN) n hn [];have l1:=Qq n n A;have z1:n<=1000000:=by lia
 clear hA hn h0 hf;simp only[WX];w_fin
noncomputable abbrev qmt (r c:Nat)(q:Nat->Nat->Rat):AV:=vec "double" (cmj r c λi j=>qr (q i j)) (dimA r c)
noncomputable abbrev qfl (r:Nat)(q:Nat->Nat->Rat):AV:=vec "double" (cmj r 1 λi j=>qr (q i j)) .none
theorem Qh (r c:Nat)(q:Nat->Nat->Rat):AV.ncs (cmj r c λi j=>qr (q i j))=true:=Qu λi j _ _=>rfl
theorem Jr (r c:Nat)(q:Nat->Nat->Rat):(qmt r c q).nc=true:=Jq (Qh r c q)
theorem yP (r:Nat)(q:Nat->Nat->Rat):(qfl r q).nc=true:=by simp[Qh]
theorem R_rm (hN:5<=N)(X:Nat->Nat->Rat)(r w:Nat)(h1:r<100)(h2:w<100)(H:AH):(RN N).f 845 [.lst (mat r w X),.int w,.none,.none] H=.ok (qmt r w X) H :=
 Qe2 hN (λi j=>qr (X i j)) r w h1 h2 (λ_ _ _ _=>rfl) (λ_ _ _ _=>rfl) H
theorem JK (hN:6<=N)(q:Nat->Nat->Rat)(r c:Nat)(h1:r<100)(h2:c<100)(H:AH):(RN N).f 838 [qmt r c q] H=.ok (.lst (mat r c q)) H:=yE hN q r c _ (.inl rfl) h1 h2 H
theorem yQ (hN:6<=N)(q:Nat->Nat->Rat)(r:Nat)(h1:r<100)(H:AH):(RN N).f 838 [qfl r q] H=.ok (.lst (mat r 1 q)) H:=yE hN q r 1 _ (.inr ⟨rfl,rfl⟩) h1 (by decide) H
theorem Qfm (hN:10<=N)(n:Nat)(A:Nat->Nat->Rat)(hn:n<=3)(h0:0<n)(hA:hqm 3 n n A)(hf:fd (ech n (jn n A idm) (n+n)).2 n=none)(H:AH) :
  (RN N).f 857 [.none,.lst [.tup [.none,qmt n n A]],.none] H=.ok (qmt n n (λi j=>(ech n (jn n A idm) (n+n)).1 i (n+j))) H:=by
 refine Qc YC (oN hN) (J:=[.none,.lst [.tup [.none,qmt n n A]],.none,uS,uS,uS,uS,uS,uS,uS,uS,uS]) rfl (by simp[Qh]) (H':=[]) ?_ (Jr _ _ _) H;have tk:=Ky (pN hN) "a" "b" (qmt n n A) (by decide) (by decide) (by decide) (Jr _ _ _) [];have nd:=QJ (pN hN) "double" (cmj n n λi j=>qr (A i j)) (dimA n n) "a" (Qh _ _ _) rfl [];have iv:=QC (pN hN) "double" (cmj n n λi j=>qr (A i j)) (dimA n n) (Qh _ _ _) rfl [];have fr:=JK (pN hN) A n n (by lia) (by lia) [];have sh:=QF (pN hN) "double" (cmj n n λi j=>qr (A i j)) n n (Qh _ _ _) [];have cs:=YQ (pN hN) (mat n n A) n (QV _ _ _) (Qq _ _ _) (nb (by assumption) (by rfl)) [];have l1:=Qq n n A;have z1:n<=1000000:=by lia
 have inv:=Qfk (pN hN) n A hn h0 hA hf [];have mn:=λi H=>Ub (pN hN) (cmj n n λi j=>qr (A i j)) n n i (Qh _ _ _) H
 have rm:=R_rm (pN hN) (λi j=>(ech n (jn n A idm) (n+n)).1 i (n+j)) n n (by lia) (by lia) []
 clear hA hn h0 hf;simp only[JQ];w_fin
theorem Qfn (hN:10<=N)(n:Nat)(A:Nat->Nat->Rat)(hn:n<=3)(h0:0<n)(hA:hqm 3 n n A)(c:Nat)(hf:fd (ech n (jn n A idm) (n+n)).2 n=some c)(H:AH) :
  (RN N).f 857 [.none,.lst [.tup [.none,qmt n n A]],.none] H=.exc (.str (sing (c+1))) H:=by
 refine Jm YC (oN hN) (J:=[.none,.lst [.tup [.none,qmt n n A]],.none,uS,uS,uS,uS,uS,uS,uS,uS,uS]) rfl (by simp[Qh]) (H':=[]) ?_ rfl H;have nd:=QJ (pN hN) "double" (cmj n n λi j=>qr (A i j)) (dimA n n) "a" (Qh _ _ _) rfl [];have tk:=Ky (pN hN) "a" "b" (qmt n n A) (by decide) (by decide) (by decide) (Jr _ _ _) [];have iv:=QC (pN hN) "double" (cmj n n λi j=>qr (A i j)) (dimA n n) (Qh _ _ _) rfl [];have fr:=JK (pN hN) A n n (by lia) (by lia) [];have sh:=QF (pN hN) "double" (cmj n n λi j=>qr (A i j)) n n (Qh _ _ _) [];have cs:=YQ (pN hN) (mat n n A) n (QV _ _ _) (Qq _ _ _) (by lia) [];have inv:=Qfl (pN hN) n A hn h0 hA c hf [];clear hA hn h0 hf;simp only[JQ];w_fin
theorem Qfo (hN:10<=N)(n:Nat)(A:Nat->Nat->Rat)(q:Nat)(B:Nat->Nat->Rat)(hn:n<=3)(h0:0<n)(hq':q<=3)(hB:hqm 3 n q B)(hA:hqm 3 n n A)(hf:fd (ech n (jn n A B) (n+q)).2 n=none)(H:AH) :
  (RN N).f 857 [.none,.lst [.tup [.none,qmt n n A],.tup [.none,qmt n q B]],.none] H=.ok (qmt n q (λi j=>(ech n (jn n A B) (n+q)).1 i (n+j))) H:=by
 refine Qc YC (oN hN) (J:=[.none,.lst [.tup [.none,qmt n n A],.tup [.none,qmt n q B]],.none,uS,uS,uS,uS,uS,uS,uS,uS,uS]) rfl (by simp[Qh]) (H':=[]) ?_ (Jr _ _ _) H;have tk:=Jp (pN hN) "a" "b" (qmt n n A) (qmt n q B) (by decide) (by decide) (by decide) (Jr _ _ _) (Jr _ _ _) [];have nd:=QJ (pN hN) "double" (cmj n n λi j=>qr (A i j)) (dimA n n) "a" (Qh _ _ _) rfl [];have iv:=QC (pN hN) "double" (cmj n n λi j=>qr (A i j)) (dimA n n) (Qh _ _ _) rfl [];have fr:=JK (pN hN) A n n (by lia) (by lia) [];have sh:=QF (pN hN) "double" (cmj n n λi j=>qr (A i j)) n n (Qh _ _ _) [];have cs:=YQ (pN hN) (mat n n A) n (QV _ _ _) (Qq _ _ _) (by lia) [];have l1:=Qq n n A;have z1:n<=1000000:=by lia
 have mn:=λi H=>Ub (pN hN) (cmj n n λi j=>qr (A i j)) n n i (Qh _ _ _) H
 have iv2:=QC (pN hN) "double" (cmj n q λi j=>qr (B i j)) (dimA n q) (Qh _ _ _) rfl [];have sh2:=QF (pN hN) "double" (cmj n q λi j=>qr (B i j)) n q (Qh _ _ _) [];have fr2:=JK (pN hN) B n q (by lia) (by lia) [];have im:=Q4 (pN hN) "double" (cmj n q λi j=>qr (B i j)) n q (Qh _ _ _) [];have ax:=λi H=>YD (pN hN) "double" (cmj n q λi j=>qr (B i j)) n q i (Qh _ _ _) H
 have so:=Ue (pN hN) n q A B hn h0 hq' hA hB hf [];have rm:=R_rm (pN hN) (λi j=>(ech n (jn n A B) (n+q)).1 i (n+j)) n q (by lia) (by lia) []
 clear hA hn h0 hf hB hq';simp only[JQ];w_fin
theorem Qfp (hN:10<=N)(n:Nat)(A:Nat->Nat->Rat)(q:Nat)(B:Nat->Nat->Rat)(hn:n<=3)(h0:0<n)(hq':q<=3)(hB:hqm 3 n q B)(hA:hqm 3 n n A)(c:Nat)(hf:fd (ech n (jn n A B) (n+q)).2 n=some c)(H:AH) :
  (RN N).f 857 [.none,.lst [.tup [.none,qmt n n A],.tup [.none,qmt n q B]],.none] H=.exc (.str (sing (c+1))) H:=by
 refine Jm YC (oN hN) (J:=[.none,.lst [.tup [.none,qmt n n A],.tup [.none,qmt n q B]],.none,uS,uS,uS,uS,uS,uS,uS,uS,uS]) rfl (by simp[Qh]) (H':=[]) ?_ rfl H;have tk:=Jp (pN hN) "a" "b" (qmt n n A) (qmt n q B) (by decide) (by decide) (by decide) (Jr _ _ _) (Jr _ _ _) [];have nd:=QJ (pN hN) "double" (cmj n n λi j=>qr (A i j)) (dimA n n) "a" (Qh _ _ _) rfl [];have iv:=QC (pN hN) "double" (cmj n n λi j=>qr (A i j)) (dimA n n) (Qh _ _ _) rfl [];have fr:=JK (pN hN) A n n (by lia) (by lia) [];have sh:=QF (pN hN) "double" (cmj n n λi j=>qr (A i j)) n n (Qh _ _ _) [];have cs:=YQ (pN hN) (mat n n A) n (QV _ _ _) (Qq _ _ _) (by lia) [];have l1:=Qq n n A;have z1:n<=1000000:=by lia
 have iv2:=QC (pN hN) "double" (cmj n q λi j=>qr (B i j)) (dimA n q) (Qh _ _ _) rfl [];have fr2:=JK (pN hN) B n q (by lia) (by lia) [];have sh2:=QF (pN hN) "double" (cmj n q λi j=>qr (B i j)) n q (Qh _ _ _) [];have so:=Ug (pN hN) n q A B hn h0 hq' hA hB c hf [];clear hA hn h0 hf hB hq';simp only[JQ];w_fin
theorem Qfq (hN:10<=N)(n:Nat)(A:Nat->Nat->Rat)(B:Nat->Nat->Rat)(hn:n<=3)(h0:0<n)(hB:hqm 3 n 1 B)(hA:hqm 3 n n A)(hf:fd (ech n (jn n A B) (n+1)).2 n=none)(H:AH) :
  (RN N).f 857 [.none,.lst [.tup [.none,qmt n n A],.tup [.none,qfl n B]],.none] H=.ok (vec "double" ((List.range n).map λi=>qr ((ech n (jn n A B) (n+1)).1 i n)) .none) H:=by
 have ncf:AV.ncs ((List.range n).map λi=>qr ((ech n (jn n A B) (n+1)).1 i n))=true:=QZ λx hx=>by
  obtain⟨j,_,rfl⟩:=mmD hx; rfl
 refine Qc YC (oN hN) (J:=[.none,.lst [.tup [.none,qmt n n A],.tup [.none,qfl n B]],.none,uS,uS,uS,uS,uS,uS,uS,uS,uS]) rfl (by simp[Qh]) (H':=[.dead]) ?_ (by simp[ncf]) H;have tk:=Jp (pN hN) "a" "b" (qmt n n A) (qfl n B) (by decide) (by decide) (by decide) (Jr _ _ _) (yP _ _) [];have nd:=QJ (pN hN) "double" (cmj n n λi j=>qr (A i j)) (dimA n n) "a" (Qh _ _ _) rfl [];have iv:=QC (pN hN) "double" (cmj n n λi j=>qr (A i j)) (dimA n n) (Qh _ _ _) rfl [];have fr:=JK (pN hN) A n n (by lia) (by lia) [];have sh:=QF (pN hN) "double" (cmj n n λi j=>qr (A i j)) n n (Qh _ _ _) [];have cs:=YQ (pN hN) (mat n n A) n (QV _ _ _) (Qq _ _ _) (nb (by assumption) (by rfl)) [];have l1:=Qq n n A;have z1:n<=1000000:=by lia
 have mn:=λi H=>Ub (pN hN) (cmj n n λi j=>qr (A i j)) n n i (Qh _ _ _) H
 have iv2:=QC (pN hN) "double" (cmj n 1 λi j=>qr (B i j)) (.none) (Qh _ _ _) rfl [];have sh2:=V6 (pN hN) "double" (cmj n 1 λi j=>qr (B i j)) (Qh _ _ _) (by rw[Qn]; lia) [];rw[Qn,Nat.mul_one] at sh2;have im:=Kw (pN hN) "double" (cmj n 1 λi j=>qr (B i j)) (Qh _ _ _) [];have fr2:=yQ (pN hN) B n (by lia) [];have so:=Ue (pN hN) n 1 A B hn h0 (by decide) hA hB hf [];have ini:=QH (pN hN) "double" ((List.range n).map λi=>qr ((ech n (jn n A B) (n+1)).1 i n)) [];simp only[List.length_nil,List.nil_append] at ini;have cm:∀b c d e f g h,evE (RN (N-1)) [.none,.lst [.tup [.none,qmt n n A],.tup [.none,qfl n B]],.none,b,c,d,e,f,.lst (mat n 1 (λi j=>(ech n (jn n A B) (n+1)).1 i (n+j))),g,h,uS] D102 []=.ok (.lst ((List.range n).map λi=>qr ((ech n (jn n A B) (n+1)).1 i n))) []:=λb c d e f g h=>by
  refine (Qx (v:=.lst (mat n 1 (λi j=>(ech n (jn n A B) (n+1)).1 i (n+j)))) n (λj=>qr ((ech n (jn n A B) (n+1)).1 j n)) (by clear hA hB hn h0; w_fin) rfl (by lia) rfl λj hj=>?_).trans rfl
  have er:rq 1 (λk=>(ech n (jn n A B) (n+1)).1 j (n+k))=[qr ((ech n (jn n A B) (n+1)).1 j n)]:=rfl;refine⟨_,rfl,?_⟩;clear hj hA hB hn h0 hf tk nd iv fr sh cs iv2 sh2 fr2 im so ini mn;w_fin
 clear hA hn h0 hf hB;simp only[JQ];w_fin
theorem Qfr (hN:10<=N)(n:Nat)(A:Nat->Nat->Rat)(B:Nat->Nat->Rat)(hn:n<=3)(h0:0<n)(hB:hqm 3 n 1 B)(hA:hqm 3 n n A)(c:Nat)(hf:fd (ech n (jn n A B) (n+1)).2 n=some c)(H:AH) :
  (RN N).f 857 [.none,.lst [.tup [.none,qmt n n A],.tup [.none,qfl n B]],.none] H=.exc (.str (sing (c+1))) H:=by
 refine Jm YC (oN hN) (J:=[.none,.lst [.tup [.none,qmt n n A],.tup [.none,qfl n B]],.none,uS,uS,uS,uS,uS,uS,uS,uS,uS]) rfl (by simp[Qh]) (H':=[]) ?_ rfl H;have tk:=Jp (pN hN) "a" "b" (qmt n n A) (qfl n B) (by decide) (by decide) (by decide) (Jr _ _ _) (yP _ _) [];have nd:=QJ (pN hN) "double" (cmj n n λi j=>qr (A i j)) (dimA n n) "a" (Qh _ _ _) rfl [];have iv:=QC (pN hN) "double" (cmj n n λi j=>qr (A i j)) (dimA n n) (Qh _ _ _) rfl [];have fr:=JK (pN hN) A n n (by lia) (by lia) [];have sh:=QF (pN hN) "double" (cmj n n λi j=>qr (A i j)) n n (Qh _ _ _) [];have cs:=YQ (pN hN) (mat n n A) n (QV _ _ _) (Qq _ _ _) (by lia) [];have l1:=Qq n n A;have z1:n<=1000000:=by lia
 have iv2:=QC (pN hN) "double" (cmj n 1 λi j=>qr (B i j)) (.none) (Qh _ _ _) rfl [];have sh2:=V6 (pN hN) "double" (cmj n 1 λi j=>qr (B i j)) (Qh _ _ _) (by rw[Qn]; lia) [];rw[Qn,Nat.mul_one] at sh2;have fr2:=yQ (pN hN) B n (by lia) [];have so:=Ug (pN hN) n 1 A B hn h0 (by decide) hA hB c hf [];clear hA hn h0 hf hB;simp only[JQ];w_fin
end
end
noncomputable def whB (C:Orc)(t:PE)(b:List PS)(o:OS):OS:=o.lp λJ H=>evS C (.whl t b) J H
noncomputable def whS (C:Orc)(t:PE)(b:List PS)(J:LA)(r:Out Bool):OS:=whK r J (λJ H=>evSs C b J H) λJ H=>evS C (.whl t b) J H
theorem Qfs {C:Orc}(t:PE)(b:List PS)(J:LA)(H:AH):evS C (.whl t b) J H=whS C t b J (evT C J t H):=Qcs (λJ H=>evT C J t H) (λJ H=>evSs C b J H) J H
theorem whS_t {C:Orc}{t:PE}{b:List PS}{J:LA}{H:AH}:whS C t b J (.ok true H)=whB C t b (evSs C b J H):=rfl
theorem whS_f {C:Orc}{t:PE}{b:List PS}{J:LA}{H:AH}:whS C t b J (.ok false H)=.ok .next J H:=rfl
theorem whB_n {C:Orc}{t:PE}{b:List PS}{J:LA}{H:AH}:whB C t b (.ok .next J H)=evS C (.whl t b) J H:=rfl
theorem it_12:itemsOf (.rng 1 2)=some [.int 1]:=rfl
theorem it_13:itemsOf (.rng 1 3)=some [.int 1,.int 2]:=rfl
theorem it_23:itemsOf (.rng 2 3)=some [.int 2]:=rfl
section
local macro_rules | `(tactic| w_fin)=>do
 let a:=(wA.splitOn " ").toArray.map λs=>Lean.mkIdent s.toName
 let l:=(("QT Int.reduceSub Int.reduceMul Int.natAbs_zero Qfs whS_t whS_f whB_n it_12 it_13 it_23 "++wN).splitOn " ").toArray.map λs=>Lean.mkIdent s.toName
 `(tactic| simp (maxSteps:=2000000) only[$[↓$a:ident],*,$[$l:ident],*, *])
section
variable {N:Nat}
theorem Uh (a:Int)(h:Qg a):pBin .mul (.int a) (.int 1)=some (.int a):=by
 rw[Qi h (Qo (by decide)),Int.mul_one]
theorem YS (a:Int):pBin .div (.int a) (.int 1)=some (.int a):=by
 rw[Q7 (by decide) (Qo (by decide)),Int.fdiv_one]
theorem R_gd (hN:1<=N)(H:AH):(RN N).f 446 [.int 1,.int 1] H=.ok (.int 1) H:=by
 refine Qc Qdj hN (J:=[.int 1,.int 1]) rfl rfl (H':=[]) ?_ rfl H;have q1:((1:Int) != 0)=true:=rfl;have m:pBin .mod (.int 1) (.int 1)=some (.int 0):=Q8 (by decide) (Qo (by decide));have q0:((0:Int) != 0)=false:=rfl;simp only[Xw];w_fin
noncomputable def irow (l:List Int):LA:=l.map λa=>.tup [.int a,.int 1]
noncomputable def intl (l:List Int):LA:=l.map λa=>.int a
theorem Ui (hN:2<=N)(l:List Int)(hl:∀a∈l,Qg a)(ll:l.length<100)(H:AH):(RN N).f 451 [.lst (irow l)] H=.ok (.tup [.cell H.length,.int 1]) (H++[.lst (intl l)]):=by
 refine QB Qdk (oN hN) (J:=[.lst (irow l),uS,uS,uS]) rfl ?_;have d1:=YS 1;have gd:=λH=>R_gd (pN hN) H
 have m1:=Uh 1 (Qo (by decide));obtain⟨J_1,H_1,e1,st,rfl,hH⟩:=YM (C:=RN (N-1)) (k:=2) (b:=B14) (l:=irow l)
  (P:=λ_ J H'=>∃st,J=[.lst (irow l),.int 1,st,uS]/\H'=H)
  (λi x hx J H' ⟨st,h1',h2'⟩=>by
   subst h1' h2';obtain⟨a,_,rfl⟩:=mmD (List.mem_of_getElem? hx);refine⟨.next,_,_,?_,.inl rfl,.tup [.int a,.int 1],rfl,rfl⟩;clear hx hl;w_fin) (J:=[.lst (irow l),.int 1,uS,uS]) (H:=H) ⟨uS,rfl,rfl⟩
 rw[hH] at e1;clear hH;have cm:evE (RN (N-1)) [.lst (irow l),.int 1,st,uS] D59 H=.ok (.cell H.length) (H++[.lst (intl l)]):=by
  refine (QX (v:=.lst (irow l)) l (λa=>.int a) (by clear hl; w_fin) rfl (by lia) rfl λa ha=>?_).trans rfl
  have ma:=Uh a (hl a ha);refine⟨_,rfl,?_⟩;clear hl ha;w_fin
 clear hl;simp only[Xx];w_fin
noncomputable def sm (k:Nat)(x:Int):Prop:=x.natAbs<2 ^ k
theorem sm.mono {a b:Nat}{x:Int}(h:sm a x)(hk:a<=b):sm b x:=Nat.lt_of_lt_of_le h (Nat.pow_le_pow_right (by decide) hk)
theorem sm.mul {a b:Nat}{x y:Int}(h:sm a x)(h':sm b y):sm (a+b) (x*y):=by
 unfold sm; simp only[Int.natAbs_mul,Nat.pow_add]; exact Nat.mul_lt_mul'' h h'
theorem sm.sub {a:Nat}{x y:Int}(h:sm a x)(h':sm a y):sm (a+1) (x-y):=nsub h h'
theorem sm.add {a:Nat}{x y:Int}(h:sm a x)(h':sm a y):sm (a+1) (x+y):=nadd h h'
theorem sm.big {a:Nat}{x:Int}(h:sm a x)(hk:a<=64):Qg x:=Qo (h.mono hk)
noncomputable def det2 (a b c d:Int):Int:=a*d-b*c
noncomputable def det3 (a b c d e f g h i:Int):Int:=a*(e*i-f*h)-b*(d*i-f*g)+c*(d*h-e*g)
theorem Qft (hN:1<=N)(a:Int)(ha:sm 3 a):∃H',(RN N).f 458 [.cell 0] [.lst [.cell 1],.lst [.int a]]=.ok (.int a) H':=by
 refine⟨[.lst [.cell 1],.lst [.int a]],QB YB hN (J:=[.cell 0,uS,uS,uS,uS,uS,uS,uS,uS]) rfl ?_⟩;have e:itemsOf (.rng 0 0)=some []:=rfl;have m:pBin .mul (.int 1) (.int a)=some (.int a):=by rw[Qi (Qo (by decide)) (ha.big (by decide)),Int.one_mul]
 clear ha;simp only[Yt];w_fin
theorem Qfu (hN:1<=N)(a b c d:Int)(ha:sm 3 a)(hb:sm 3 b)(hc:sm 3 c)(hd:sm 3 d):∃H',(RN N).f 458 [.cell 0] [.lst [.cell 1,.cell 2],.lst [.int a,.int b],.lst [.int c,.int d]]=.ok (.int (det2 a b c d)) H':=by
 have run:∀{v H'},(evSs (RN (N-1)) Yt.body [.cell 0,uS,uS,uS,uS,uS,uS,uS,uS] [.lst [.cell 1,.cell 2],.lst [.int a,.int b],.lst [.int c,.int d]]).out=.ok v H'->v=.int (det2 a b c d)->∃H',(RN N).f 458 [.cell 0] [.lst [.cell 1,.cell 2],.lst [.int a,.int b],.lst [.int c,.int d]]=.ok (.int (det2 a b c d)) H' :=
  λ{v H'} h e=>⟨H',by subst e; exact QB YB hN rfl h⟩
 have dv:=YS;simp only[Yt] at run;by_cases h1:a=0
 ·by_cases h2:c=0
  ·refine run (v:=.int 0) (H':=[.lst [.cell 1,.cell 2],.lst [.int a,.int b],.lst [.int c,.int d]]) ?_ (by rw[h1,h2]; simp[det2])
   have x1:decide (a=0)=true:=by simp[h1]
   have x2:decide (c=0)=true:=by simp[h2]
   clear run ha hb hc hd h1 h2;w_fin
  ·refine run (v:=.int (-1*(b*c-a*d))) (H':=[.lst [.cell 2,.cell 1],.lst [.int a,.int (b*c-a*d)],.lst [.int c,.int d]]) ?_ (by unfold det2; congr 1; grind)
   have x1:decide (a=0)=true:=by simp[h1]
   have x2:decide (c=0)=false:=by simp[h2]
   have m1:=Qi (hb.big (by decide)) (hc.big (by decide));have m2:=Qi (ha.big (by decide)) (hd.big (by decide));have m3:=Qi (a:=-1) (Qo (by decide)) (((hb.mul hc).sub (ha.mul hd)).big (by decide))
   clear run ha hb hc hd h1 h2;w_fin
 ·refine run (v:=.int (1*(d*a-c*b))) (H':=[.lst [.cell 1,.cell 2],.lst [.int a,.int b],.lst [.int c,.int (d*a-c*b)]]) ?_ (by unfold det2; congr 1; grind)
  have x1:decide (a=0)=false:=by simp[h1]
  have m1:=Qi (hd.big (by decide)) (ha.big (by decide));have m3:=Qi (a:=1) (Qo (by decide)) (((hd.mul ha).sub (hc.mul hb)).big (by decide))
  have m2:=Qi (hc.big (by decide)) (hb.big (by decide));clear run ha hb hc hd h1;w_fin
end
section
theorem Qfv {a b c d e f g h i:Int}(ha:sm 3 a)(hb:sm 3 b)(hc:sm 3 c)(hd:sm 3 d)(he:sm 3 e)(hf:sm 3 f)(hg:sm 3 g)(hh:sm 3 h)(hi:sm 3 i):sm 12 (det3 a b c d e f g h i):=by
 exact ((((ha.mul ((he.mul hi).sub (hf.mul hh))).sub (hb.mul ((hd.mul hi).sub (hf.mul hg)))).add ((hc.mul ((hd.mul hh).sub (he.mul hg))).mono (by decide)))).mono (by decide)
variable {N:Nat}
noncomputable def wdI:List PS:=B24
noncomputable def wdE:List PS:=[.for_ [6] true D60 [.for_ [7] true D60 wdI],.asg (.loc 3) (.sub D123 D4)]
noncomputable def wdB:List PS:=.asg (.loc 5) D4::.whl (.and [.cmp .lt D6 D1,.cmp .eq (.sub (.sub D0 D6) D4) (.int 0)]) [.aug 5 .add (.int 1)]::.ite (.cmp .eq D6 D1) [.ret (.int 0)] []::.ite (.cmp .ne D6 D4) [.asg (.tup [.sub (.loc 0) (.loc 4),.sub (.loc 0) (.loc 5)]) (.tup [.sub D0 D6,.sub D0 D4]),.asg (.loc 2) (.neg D2)] []::wdE
noncomputable def wdR:List PS:=[.ret D131]
theorem KZ:Yt.body=.asg (.loc 1) D73::.asg (.loc 2) (.int 1)::.asg (.loc 3) (.int 1)::.for_ [4] true (.range1 D58) wdB::wdR:=rfl
structure St3 (H:AH)(p0 p1 p2:Nat)(X Y Z:LA):Prop where
 h:H[0]?=some (.lst [.cell p0,.cell p1,.cell p2])
 g0:H[p0]?=some (.lst X)
 g1:H[p1]?=some (.lst Y)
 g2:H[p2]?=some (.lst Z)
 n1:p1≠p0
 n2:p2≠p0
 n3:p1≠p2
 z1:p1≠0
 z2:p2≠0
 z0:p0≠0
theorem K1 {H:AH}{i:Nat}{a b:AC}(h:H[i]?=some a):(H.set i b)[i]?=some b:=List.getElem?_set_self (List.getElem?_eq_some_iff.mp h).1
theorem St3.s1 {H:AH}{p0 p1 p2:Nat}{X Y Z:LA}(s:St3 H p0 p1 p2 X Y Z)(W:LA):St3 (H.set p1 (.lst W)) p0 p1 p2 X W Z:=⟨(List.getElem?_set_ne s.z1).trans s.h,(List.getElem?_set_ne s.n1).trans s.g0,K1 s.g1,(List.getElem?_set_ne s.n3).trans s.g2,s.n1,s.n2,s.n3,s.z1,s.z2,s.z0⟩
theorem St3.s2 {H:AH}{p0 p1 p2:Nat}{X Y Z:LA}(s:St3 H p0 p1 p2 X Y Z)(W:LA):St3 (H.set p2 (.lst W)) p0 p1 p2 X Y W:=⟨(List.getElem?_set_ne s.z2).trans s.h,(List.getElem?_set_ne s.n2).trans s.g0,(List.getElem?_set_ne s.n3.symm).trans s.g1,K1 s.g2,s.n1,s.n2,s.n3,s.z1,s.z2,s.z0⟩
theorem St3.sw {H:AH}{p0 p1 p2:Nat}{X Y Z:LA}(s:St3 H p0 p1 p2 X Y Z):St3 (H.set 0 (.lst [.cell p0,.cell p2,.cell p1])) p0 p2 p1 X Z Y:=⟨K1 s.h,(List.getElem?_set_ne s.z0.symm).trans s.g0,(List.getElem?_set_ne s.z2.symm).trans s.g2,(List.getElem?_set_ne s.z1.symm).trans s.g1,s.n2,s.n1,s.n3.symm,s.z2,s.z1,s.z0⟩
theorem YT {C:Orc}{H:AH}{rs X Y Z:LA}{x y:Nat}{r j k u p v w z d:Int}(s a5 a8:AV)(h0:H[0]?=some (.lst rs))(hx:H[x]?=some (.lst X))(hy:H[y]?=some (.lst Y))(hr:subJ (some rs) r=some (.cell x))(hk:subJ (some rs) k=some (.cell y))(xj:subJ (some X) j=some (.int u))(yk:subJ (some Y) k=some (.int p))(xk:subJ (some X) k=some (.int v))(yj:subJ (some Y) j=some (.int w))(st:siJ H x j (.int z) (some (.lst X))=some (H.set x (.lst Z)))(m:pBin .mul (.int u) (.int p)=some (.int (u*p)))(m':pBin .mul (.int v) (.int w)=some (.int (v*w)))(q:pBin .div (.int (u*p-v*w)) (.int d)=some (.int z)):evSs C wdI [.cell 0,.int 3,s,.int d,.int k,a5,.int r,.int j,a8] H=.ok .next [.cell 0,.int 3,s,.int d,.int k,a5,.int r,.int j,.int (u*p-v*w)] (H.set x (.lst Z)):=by
 simp only[wdI];w_fin
theorem wd_e0 {C:Orc}{H:AH}{p0 p1 p2:Nat}{x0 y0 z0 x1 y1 z1 x2 y2 z2:Int}(hx:sm 3 x0)(hy:sm 3 y0)(hz:sm 3 z0)(ha:sm 3 x1)(hb:sm 3 y1)(hc:sm 3 z1)(hd:sm 3 x2)(he:sm 3 y2)(hf:sm 3 z2)(s:St3 H p0 p1 p2 [.int x0,.int y0,.int z0] [.int x1,.int y1,.int z1] [.int x2,.int y2,.int z2])(g a5 a6 a7 a8:AV):∃H' t,evSs C wdE [.cell 0,.int 3,g,.int 1,.int 0,a5,a6,a7,a8] H=.ok .next [.cell 0,.int 3,g,.int x0,.int 0,a5,.int 2,.int 2,.int t] H'/\St3 H' p0 p1 p2 [.int x0,.int y0,.int z0] [.int x1,.int (y1*x0-x1*y0),.int (z1*x0-x1*z0)] [.int x2,.int (y2*x0-x2*y0),.int (z2*x0-x2*z0)]:=by
 have b:∀{x:Int},sm 3 x->Qg x:=λh=>h.big (by decide)
 have m:∀{x y:Int},sm 3 x->sm 3 y->pBin .mul (.int x) (.int y)=some (.int (x*y)):=λh h'=>Qi (b h) (b h')
 have s1:=s.s1 [.int x1,.int (y1*x0-x1*y0),.int z1];have s2:=s1.s1 [.int x1,.int (y1*x0-x1*y0),.int (z1*x0-x1*z0)];have s3:=s2.s2 [.int x2,.int (y2*x0-x2*y0),.int z2];have s4:=s3.s2 [.int x2,.int (y2*x0-x2*y0),.int (z2*x0-x2*z0)];have e1:=YT (C:=C) (r:=1) (k:=0) (j:=1) g a5 a8 s.h s.g1 s.g0 rfl rfl rfl rfl rfl rfl rfl (m hb hx) (m ha hy) (YS _);have e2:=λv=>YT (C:=C) (r:=1) (k:=0) (j:=2) g a5 v s1.h s1.g1 s1.g0 rfl rfl rfl rfl rfl rfl rfl (m hc hx) (m ha hz) (YS _)
 refine⟨_,z2*x0-x2*z0,?_,s4⟩;have e3:=λv=>YT (C:=C) (r:=2) (k:=0) (j:=1) g a5 v s2.h s2.g2 s2.g0 rfl rfl rfl rfl rfl rfl rfl (m he hx) (m hd hy) (YS _)
 have f:=s4.h;have f0:=s4.g0;have e4:=λv=>YT (C:=C) (r:=2) (k:=0) (j:=2) g a5 v s3.h s3.g2 s3.g0 rfl rfl rfl rfl rfl rfl rfl (m hf hx) (m hd hz) (YS _)
 clear b m s s1 s2 s3 s4 hx hy hz ha hb hc hd he hf;simp only[wdE];w_fin
theorem yR {a:Int}(h:Qg a):Qg (-a):=by unfold Qg; rw[Int.natAbs_neg]; exact h
theorem wd_q {C:Orc}{H:AH}{p0 p1 p2:Nat}{R:LA}{u1 u2:AV}{y1 z1 y2 z2 d D s:Int}(t:St3 H p0 p1 p2 R [u1,.int y1,.int z1] [u2,.int y2,.int z2])(hd:d≠0)(bd:Qg d)(e:z2*y1-y2*z1=d*D)(b1:Qg y1)(b2:Qg y2)(b3:Qg z1)(b4:Qg z2)(bs:Qg s)(bD:Qg D)(a5 a6 a7 a8:AV):∃H',(seqS C wdR (forL C [4] true wdB [.int 1] [.cell 0,.int 3,.int s,.int d,.int 0,a5,a6,a7,a8] H)).out=.ok (.int (s*D)) H':=by
 have dv:∀{x y:Int},x=d*y->pBin .div (.int x) (.int d)=some (.int y):=λh=>by rw[Q7 hd bd,h,Int.mul_fdiv_cancel_left _ hd]
 have h:=t.h;have g1:=t.g1;have g2:=t.g2;by_cases h1:y1=0
 ·have x1:decide (y1=0)=true:=decide_eq_true h1
  by_cases h2:y2=0
  ·have x2:decide (y2=0)=true:=decide_eq_true h2
   have z:s*D=0:=by
    simp only[h1,h2,Int.mul_zero,Int.zero_mul] at e;simp only[(Int.mul_eq_zero.mp e.symm).resolve_left hd,Int.mul_zero]
   rw[z];refine⟨H,?_⟩;clear dv t hd bd e b1 b2 b3 b4 bs bD h1 h2 z;simp only[wdB,wdR];w_fin
  ·have x2:decide (y2=0)=false:=decide_eq_false h2
   have e':z1*y2-y1*z2=d*-D:=by simp only[Int.mul_neg,<-e]; grind
   have t1:=t.sw;have t2:=t1.s2 [u1,.int y1,.int (-D)];have k:=YT (C:=C) (r:=2) (k:=1) (j:=2) (.int (-s)) (.int 2) a8 t1.h t1.g2 t1.g1 rfl rfl rfl rfl rfl rfl rfl (Qi b3 b2) (Qi b1 b4) (dv e');have sa:∀A,(H.set 0 A)[0]?=some A:=λA=>K1 h
   have ss:∀A B,(H.set 0 A).set 0 B=H.set 0 B:=λA B=>List.set_set ..
   have f:=t2.h;have f1:=t2.g1;have f2:=t2.g2;have r:pBin .mul (.int (-s)) (.int (-D))=some (.int (s*D)):=by rw[Qi (yR bs) (yR bD),Int.neg_mul_neg]
   refine⟨(H.set 0 (.lst [.cell p0,.cell p2,.cell p1])).set p1 (.lst [u1,.int y1,.int (-D)]),?_⟩;clear dv t t1 t2 hd bd e e' b1 b2 b3 b4 bs bD h1 h2;simp only[wdB,wdR,wdE];w_fin
 ·have x1:decide (y1=0)=false:=decide_eq_false h1
  have t2:=t.s2 [u2,.int y2,.int D];have k:=YT (C:=C) (r:=2) (k:=1) (j:=2) (.int s) (.int 1) a8 h g2 g1 rfl rfl rfl rfl rfl rfl rfl (Qi b4 b1) (Qi b2 b3) (dv e);have f:=t2.h;have f1:=t2.g1;have f2:=t2.g2;have r:=Qi bs bD;refine⟨H.set p2 (.lst [u2,.int y2,.int D]),?_⟩;clear dv t t2 hd bd e b1 b2 b3 b4 bs bD h1;simp only[wdB,wdR,wdE];w_fin
theorem wd_0 {C:Orc}{H:AH}{p0 p1 p2:Nat}{x0 y0 z0 x1 y1 z1 x2 y2 z2 g:Int}(s:St3 H p0 p1 p2 [.int x0,.int y0,.int z0] [.int x1,.int y1,.int z1] [.int x2,.int y2,.int z2])(np:x0≠0)(hg:Qg g)(hx:sm 3 x0)(hy:sm 3 y0)(hz:sm 3 z0)(ha:sm 3 x1)(hb:sm 3 y1)(hc:sm 3 z1)(hd:sm 3 x2)(he:sm 3 y2)(hf:sm 3 z2)(a5 a6 a7 a8:AV){v:Int}(hv:g*det3 x0 y0 z0 x1 y1 z1 x2 y2 z2=v):∃H',(seqS C wdR (forK C [4] true wdB [.int 1] (evSs C wdE [.cell 0,.int 3,.int g,.int 1,.int 0,a5,a6,a7,a8] H))).out=.ok (.int v) H':=by
 obtain⟨H1,t,e,s1⟩:=wd_e0 (C:=C) hx hy hz ha hb hc hd he hf s (.int g) a5 a6 a7 a8;have b:∀{x y z w:Int},sm 3 x->sm 3 y->sm 3 z->sm 3 w->Qg (x*y-z*w):=λh h1 h2 h3=>((h.mul h1).sub (h2.mul h3)).big (by decide)
 obtain⟨H',q⟩:=wd_q (C:=C) (s:=g) (D:=det3 x0 y0 z0 x1 y1 z1 x2 y2 z2) s1 np (hx.big (by decide)) (by unfold det3; grind) (b hb hx ha hy) (b he hx hd hy) (b hc hx ha hz) (b hf hx hd hz) hg ((Qfv hx hy hz ha hb hc hd he hf).big (by decide)) a5 (.int 2) (.int 2) (.int t);exact⟨H',hv ▸ (congrArg (λo=>(seqS C wdR (forK C [4] true wdB [.int 1] o)).out) e).trans q⟩
theorem Qfw (hN:1<=N)(a b c d e f g h i:Int)(ha:sm 3 a)(hb:sm 3 b)(hc:sm 3 c)(hd:sm 3 d)(he:sm 3 e)(hf:sm 3 f)(hg:sm 3 g)(hh:sm 3 h)(hi:sm 3 i):∃H',(RN N).f 458 [.cell 0] [.lst [.cell 1,.cell 2,.cell 3],.lst [.int a,.int b,.int c],.lst [.int d,.int e,.int f],.lst [.int g,.int h,.int i]]=.ok (.int (det3 a b c d e f g h i)) H':=by
 have u:=λJ H=>congrArg (evSs (RN (N-1)) · J H) wdB.eq_1
 by_cases z0:a=0
 ·have x0:decide (a=0)=true:=decide_eq_true z0
  by_cases z1:d=0
  ·have x1:decide (d=0)=true:=decide_eq_true z1
   by_cases z2:g=0
   ·have x2:decide (g=0)=true:=decide_eq_true z2
    refine⟨[.lst [.cell 1,.cell 2,.cell 3],.lst [.int a,.int b,.int c],.lst [.int d,.int e,.int f],.lst [.int g,.int h,.int i]],QB YB hN (J:=[.cell 0,uS,uS,uS,uS,uS,uS,uS,uS]) rfl ?_⟩;rw[KZ,show det3 a b c d e f g h i=0 by rw[z0,z1,z2]; simp[det3]];clear ha hb hc hd he hf hg hh hi z0 z1 z2;w_fin
   ·have x2:decide (g=0)=false:=decide_eq_false z2
    obtain⟨H',q⟩:=wd_0 (C:=RN (N-1)) (g:=-1) (H:=[.lst [.cell 3,.cell 2,.cell 1],.lst [.int a,.int b,.int c],.lst [.int d,.int e,.int f],.lst [.int g,.int h,.int i]]) ⟨rfl,rfl,rfl,rfl,by decide,by decide,by decide,by decide,by decide,by decide⟩ z2 (Qo (by decide)) hg hh hi hd he hf ha hb hc (.int 2) uS uS uS (v:=det3 a b c d e f g h i) (by unfold det3; grind);refine⟨H',QB YB hN (J:=[.cell 0,uS,uS,uS,uS,uS,uS,uS,uS]) rfl ?_⟩;simp only[KZ];clear ha hb hc hd he hf hg hh hi z0 z1 z2;w_fin
  ·have x1:decide (d=0)=false:=decide_eq_false z1
   obtain⟨H',q⟩:=wd_0 (C:=RN (N-1)) (g:=-1) (H:=[.lst [.cell 2,.cell 1,.cell 3],.lst [.int a,.int b,.int c],.lst [.int d,.int e,.int f],.lst [.int g,.int h,.int i]]) ⟨rfl,rfl,rfl,rfl,by decide,by decide,by decide,by decide,by decide,by decide⟩ z1 (Qo (by decide)) hd he hf ha hb hc hg hh hi (.int 1) uS uS uS (v:=det3 a b c d e f g h i) (by unfold det3; grind);refine⟨H',QB YB hN (J:=[.cell 0,uS,uS,uS,uS,uS,uS,uS,uS]) rfl ?_⟩;simp only[KZ];clear ha hb hc hd he hf hg hh hi z0 z1;w_fin
 ·have x0:decide (a=0)=false:=decide_eq_false z0
  obtain⟨H',q⟩:=wd_0 (C:=RN (N-1)) (g:=1) (H:=[.lst [.cell 1,.cell 2,.cell 3],.lst [.int a,.int b,.int c],.lst [.int d,.int e,.int f],.lst [.int g,.int h,.int i]]) ⟨rfl,rfl,rfl,rfl,by decide,by decide,by decide,by decide,by decide,by decide⟩ z0 (Qo (by decide)) ha hb hc hd he hf hg hh hi (.int 0) uS uS uS (v:=det3 a b c d e f g h i) (Int.one_mul _);refine⟨H',QB YB hN (J:=[.cell 0,uS,uS,uS,uS,uS,uS,uS,uS]) rfl ?_⟩;simp only[KZ];clear ha hb hc hd he hf hg hh hi z0;w_fin
end
section
variable {N:Nat}
noncomputable def detZ (n:Nat)(z:Nat->Nat->Int):Int:=match n with
 | 1=>z 0 0
 | 2=>det2 (z 0 0) (z 0 1) (z 1 0) (z 1 1)
 | 3=>det3 (z 0 0) (z 0 1) (z 0 2) (z 1 0) (z 1 1) (z 1 2) (z 2 0) (z 2 1) (z 2 2)
 | _=>0
theorem Qfx (z:Nat->Nat->Int):detZ 1 z=z 0 0:=rfl
theorem Qfy (z:Nat->Nat->Int):detZ 2 z=det2 (z 0 0) (z 0 1) (z 1 0) (z 1 1):=rfl
theorem Qfz (z:Nat->Nat->Int):detZ 3 z=det3 (z 0 0) (z 0 1) (z 0 2) (z 1 0) (z 1 1) (z 1 2) (z 2 0) (z 2 1) (z 2 2):=rfl
noncomputable abbrev zm (z:Nat->Nat->Int):Nat->Nat->Rat:=λi j=>((z i j:Int):Rat)
theorem QfA (hN:2<=N)(d:Int)(H:AH):(RN N).f 169 [.int d,.int 1] H=.ok (.tup [.int d,.int 1]) H:=by
 have:=Ks (N:=N) hN d 1 (by decide) (Qo (by decide)) H;rw[this,show Rat.divInt d 1=(d:Rat) from Jo (d:Rat)];rfl
theorem QfB (hN:3<=N)(n:Nat)(z:Nat->Nat->Int)(hn:n<=3)(h0:0<n)(hz:∀i j,i<n->j<n->sm 3 (z i j))(H:AH) :
  (RN N).f 465 [.lst (mat n n (zm z))] H=.ok (.tup [.int (detZ n z),.int 1]) H:=by
 have mk:=λd H=>QfA (pN hN) d H
 have m1:pBin .mul (.int 1) (.int 1)=some (.int 1):=Uh 1 (Qo (by decide));rcases in3 h0 hn with rfl | rfl | rfl
 ·skip
  have e:mat 1 1 (zm z)=[.lst (irow [z 0 0])]:=rfl;obtain⟨H',wd⟩:=Qft (pN hN) (z 0 0) (hz 0 0 (by decide) (by decide));rw[e];refine Qc VH (oN hN) (J:=[.lst [.lst (irow [z 0 0])],uS,uS,uS,uS,uS]) rfl rfl (H':=H') ?_ rfl H;have w1:=λH=>Ui (pN hN) [z 0 0] (λa ha=>by simp only[List.mem_cons,List.not_mem_nil,or_false] at ha; subst ha; exact (hz 0 0 (by decide) (by decide)).big (by decide)) (by simp) H
  have i1:intl [z 0 0]=[.int (z 0 0)]:=rfl;clear hz;simp only[Wa,Qfx];w_fin
 ·skip
  have e:mat 2 2 (zm z)=[.lst (irow [z 0 0,z 0 1]),.lst (irow [z 1 0,z 1 1])]:=rfl;obtain⟨H',wd⟩:=Qfu (pN hN) (z 0 0) (z 0 1) (z 1 0) (z 1 1) (hz _ _ (by decide) (by decide)) (hz _ _ (by decide) (by decide)) (hz _ _ (by decide) (by decide)) (hz _ _ (by decide) (by decide));rw[e];refine Qc VH (oN hN) (J:=[.lst [.lst (irow [z 0 0,z 0 1]),.lst (irow [z 1 0,z 1 1])],uS,uS,uS,uS,uS]) rfl rfl (H':=H') ?_ rfl H;have ws:∀i,i<2->∀H,(RN (N-1)).f 451 [.lst (irow [z i 0,z i 1])] H=.ok (.tup [.cell H.length,.int 1]) (H++[.lst (intl [z i 0,z i 1])]):=λi hi H=>Ui (pN hN) [z i 0,z i 1] (λa ha=>by
   simp only[List.mem_cons,List.not_mem_nil,or_false] at ha;rcases ha with rfl | rfl<;>exact (hz i _ hi (by decide)).big (by decide)) (by simp) H
  have w1:=ws 0 (by decide);have w2:=ws 1 (by decide);have i1:intl [z 0 0,z 0 1]=[.int (z 0 0),.int (z 0 1)]:=rfl;have i2:intl [z 1 0,z 1 1]=[.int (z 1 0),.int (z 1 1)]:=rfl;clear hz ws;simp only[Wa,Qfy];w_fin
 ·skip
  have e:mat 3 3 (zm z)=[.lst (irow [z 0 0,z 0 1,z 0 2]),.lst (irow [z 1 0,z 1 1,z 1 2]),.lst (irow [z 2 0,z 2 1,z 2 2])]:=rfl;obtain⟨H',wd⟩:=Qfw (pN hN) (z 0 0) (z 0 1) (z 0 2) (z 1 0) (z 1 1) (z 1 2) (z 2 0) (z 2 1) (z 2 2) (hz _ _ (by decide) (by decide)) (hz _ _ (by decide) (by decide)) (hz _ _ (by decide) (by decide)) (hz _ _ (by decide) (by decide)) (hz _ _ (by decide) (by decide)) (hz _ _ (by decide) (by decide)) (hz _ _ (by decide) (by decide)) (hz _ _ (by decide) (by decide)) (hz _ _ (by decide) (by decide));rw[e];refine Qc VH (oN hN) (J:=[.lst [.lst (irow [z 0 0,z 0 1,z 0 2]),.lst (irow [z 1 0,z 1 1,z 1 2]),.lst (irow [z 2 0,z 2 1,z 2 2])],uS,uS,uS,uS,uS]) rfl rfl (H':=H') ?_ rfl H
  have ws:∀i,i<3->∀H,(RN (N-1)).f 451 [.lst (irow [z i 0,z i 1,z i 2])] H=.ok (.tup [.cell H.length,.int 1]) (H++[.lst (intl [z i 0,z i 1,z i 2])]):=λi hi H=>Ui (pN hN) [z i 0,z i 1,z i 2] (λa ha=>by
   simp only[List.mem_cons,List.not_mem_nil,or_false] at ha;rcases ha with rfl | rfl | rfl<;>exact (hz i _ hi (by decide)).big (by decide)) (by simp) H
  have w1:=ws 0 (by decide);have w2:=ws 1 (by decide);have w3:=ws 2 (by decide);have i1:intl [z 0 0,z 0 1,z 0 2]=[.int (z 0 0),.int (z 0 1),.int (z 0 2)]:=rfl;have i2:intl [z 1 0,z 1 1,z 1 2]=[.int (z 1 0),.int (z 1 1),.int (z 1 2)]:=rfl;have i3:intl [z 2 0,z 2 1,z 2 2]=[.int (z 2 0),.int (z 2 1),.int (z 2 2)]:=rfl;clear hz ws;simp only[Wa,Qfz];w_fin
theorem R_det (hN:7<=N)(n:Nat)(z:Nat->Nat->Int)(hn:n<=3)(h0:0<n)(hz:∀i j,i<n->j<n->sm 3 (z i j))(H:AH) :
  (RN N).f 864 [.none,.lst [.tup [.none,qmt n n (zm z)]],.none] H=.ok (vec "double" [.tup [.int (detZ n z),.int 1]] .none) H:=by
 refine Qc Qdz (oN hN) (J:=[.none,.lst [.tup [.none,qmt n n (zm z)]],.none,uS]) rfl (by simp[Qh]) (H':=[.dead]) ?_ rfl H;have ma:=j7 (pN hN) "x" "double" (cmj n n λi j=>qr (zm z i j)) (dimA n n) (by decide) (Qh _ _ _) rfl [];have im:=Q4 (pN hN) "double" (cmj n n λi j=>qr (zm z i j)) n n (Qh _ _ _) [];have sh:=QF (pN hN) "double" (cmj n n λi j=>qr (zm z i j)) n n (Qh _ _ _) [];have fr:=JK (pN hN) (zm z) n n (by lia) (by lia) [];have dt:=QfB (pN hN) n z hn h0 hz [];have i:=QH (pN hN) "double" [.tup [.int (detZ n z),.int 1]] [];simp only[List.length_nil,List.nil_append] at i;clear hz hn h0;simp only[X4];w_fin
end
end
section
noncomputable def poK (H:AH)(i:Nat)(o:Option AC):Out AV:=.opt (o.bind AC.lst?) λl=>.opt l.head? λx=>if l.tail.length<=100000 then .ok x (H.set i (.lst l.tail)) else .stuck
noncomputable def poS (r:Out AV):Out AV:=r.bind λv H=>.opt v.cell? λi=>poK H i H[i]?
theorem yS {C:Orc}{J:LA}{H:AH}(o:PE):evE C J (.pop0 o) H=poS (evE C J o H):=rfl
theorem k_po {H:AH}(i:Nat):poS (.ok (.cell i) H)=poK H i H[i]?:=rfl
theorem yU {H:AH}(i:Nat)(x:AV)(l:LA):poK H i (some (.lst (x::l)))=if l.length<=100000 then .ok x (H.set i (.lst l)) else .stuck:=rfl
structure PoolOk (p q:AC):Prop where
 ok:∃ls a b,p=.lst (intl ls)/\q=.lst [.cell 0,.int a,.int b]/\0<=a/\0<=b/\b<2147483648/\ls.length<=63
theorem QfC (ls:List Int):AV.data 6 (.lst (intl ls))=true:=by
 show (intl ls).all (AV.data 5)=true;rw[List.all_eq_true];intro x hx;obtain⟨a,_,rfl⟩:=mmD hx;rfl
variable {N:Nat}
theorem fdm (r:Int)(L:Nat)(h:0<=r)(hL:0<L):∃k:Nat,r.fmod L=k/\k<L/\0<=r.fdiv L:=by
 rw[Int.fmod_eq_emod_of_nonneg _ (by lia),Int.fdiv_eq_ediv_of_nonneg _ (by lia)];have h2:=Int.emod_lt_of_pos r (show (0:Int)<L by lia);have h1:=Int.emod_nonneg r (show (L:Int)≠0 by lia);exact⟨(r % L).toNat,(Int.toNat_of_nonneg h1).symm,(Int.toNat_lt h1).mpr h2,Int.ediv_nonneg h (Int.natCast_nonneg L)⟩
inductive DrawR (o:Out AV)(L:Nat)(T:AH):Prop where
 | mk (k:Nat)(p q:AC)(hk:k<L)(hp:PoolOk p q)(e:o=.ok (.int k) (p::q::T))
theorem Yb (hN:1<=N)(L:Nat)(h0:0<L)(hL:L<=10)(p q:AC)(T:AH)(hp:PoolOk p q) :
  DrawR ((RN N).f 1038 [.cell 1,.int L] (p::q::T)) L T:=by
 obtain⟨ls,a,b,rfl,rfl,ha,hb,hb2,hls⟩:=hp.ok;have lb:Qg (L:Int):=bigN (a:=L) (by lia);have l0:(L:Int)≠0:=by lia
 have ce:pCmp (.lst (intl ls)::.lst [.cell 0,.int a,.int b]::T) .eq (.cell 0) (.lst [])=some (decide (ls=[])):=Yx (QfC ls) rfl (by
  show AV.lst (intl ls)=.lst []↔_;simp[intl,uV])
 by_cases h2:a<2
 ·have d2:decide (a<2)=true:=by simp[h2]
  cases ls with
  | nil =>
   obtain⟨m,e1,e2,_⟩:=fdm (b*16807+13) 2147483647 (Int.add_nonneg (Int.mul_nonneg hb (by decide)) (by decide)) (by decide)
   obtain⟨k,e3,e4,_⟩:=fdm ((m:Int).fdiv 5) L (by rw[Int.fdiv_eq_ediv_of_nonneg _ (by decide)]; exact Int.ediv_nonneg (Int.natCast_nonneg m) (by decide)) h0;refine⟨k,_,_,e4,⟨⟨[],a,m,rfl,rfl,ha,Int.natCast_nonneg m,Int.lt_trans (Int.ofNat_lt.mpr e2) (by decide),hls⟩⟩,QB Wh hN (J:=[.cell 1,.int L,uS]) rfl ?_⟩;have f1:=Qi (a:=b) (b:=16807) (Qo (by rw[<-Int.ofNat_lt,Int.natAbs_of_nonneg hb]; exact Int.lt_trans hb2 (by decide))) (Qo (by decide))
   have f2:pBin .mod (.int (b*16807+13)) (.int 2147483647)=some (.int m):=by
    rw[Q8 (by decide) (Qo (by decide))]; exact congrArg (λx=>some (AV.int x)) e1
   have f3:=Q7 (a:=(m:Int)) (b:=5) (by decide) (Qo (by decide));have f4:pBin .mod (.int ((m:Int).fdiv 5)) (.int L)=some (.int k):=by
    rw[Q8 l0 lb,e3]
   have de:decide (([]:List Int)=[])=true:=rfl;have ba:=QT (b*16807) 13;clear ha hb hb2 hls hp e1 e2 e3 e4 h0 hL lb l0 h2;simp only[J5];w_fin
  | cons x ls =>
   have de:decide (x::ls=[])=false:=rfl;have r0:(x.natAbs:Int)+2-2=x.natAbs:=by lia
   obtain⟨k,e3,e4,e5⟩:=fdm (x.natAbs:Int) L (Int.natCast_nonneg _) h0;have f3:=Q7 (a:=(x.natAbs:Int)) l0 lb;have f4:pBin .mod (.int (x.natAbs:Int)) (.int L)=some (.int k):=by
    rw[Q8 l0 lb,e3]
   have ba:=QT (x.natAbs:Int) 2;have ba2:=QT ((x.natAbs:Int).fdiv L) 2;have ei:intl (x::ls)=.int x::intl ls:=rfl;rw[ei] at ce;have il:(intl ls).length<=100000:=by simp[intl]; lia
   by_cases hr:(x.natAbs:Int)>=L
   ·refine⟨k,_,_,e4,⟨⟨ls,(x.natAbs:Int).fdiv L+2,b,rfl,rfl,Int.add_nonneg e5 (by decide),hb,hb2,by simp at hls; lia⟩⟩,QB Wh hN (J:=[.cell 1,.int L,uS]) rfl ?_⟩
    have dr:decide ((x.natAbs:Int)>=L)=true:=by simp[hr]
    clear ha hb hb2 hls hp e3 e4 e5 h0 hL lb l0 h2 hr;simp only[J5];w_fin;simp only[yS];w_fin;simp only[k_po];w_fin;simp only[yU];w_fin
   ·refine⟨k,_,_,e4,⟨⟨ls,0,b,rfl,rfl,by lia,hb,hb2,by simp at hls; lia⟩⟩,QB Wh hN (J:=[.cell 1,.int L,uS]) rfl ?_⟩
    have dr:decide ((x.natAbs:Int)>=L)=false:=by simp at hr ⊢; lia
    clear ha hb hb2 hls hp e3 e4 e5 h0 hL lb l0 h2 hr;simp only[J5];w_fin;simp only[yS];w_fin;simp only[k_po];w_fin;simp only[yU];w_fin
 ·have d2:decide (a<2)=false:=by simp at h2 ⊢; lia
  have f3:=Q7 (a:=a-2) l0 lb;obtain⟨k,e3,e4,e5⟩:=fdm (a-2) L (Int.sub_nonneg_of_le (Int.not_lt.mp h2)) h0;have f4:pBin .mod (.int (a-2)) (.int L)=some (.int k):=by
   rw[Q8 l0 lb,e3]
  have ba2:=QT ((a-2).fdiv L) 2;by_cases hr:a-2>=L
  ·refine⟨k,_,_,e4,⟨⟨ls,(a-2).fdiv L+2,b,rfl,rfl,Int.add_nonneg e5 (by decide),hb,hb2,hls⟩⟩,QB Wh hN (J:=[.cell 1,.int L,uS]) rfl ?_⟩
   have dr:decide (a-2>=L)=true:=by simp[hr]
   clear ha hb hb2 hls hp e3 e4 e5 h0 hL lb l0 h2 hr;simp only[J5];w_fin
  ·refine⟨k,_,_,e4,⟨⟨ls,0,b,rfl,rfl,by lia,hb,hb2,hls⟩⟩,QB Wh hN (J:=[.cell 1,.int L,uS]) rfl ?_⟩
   have dr:decide (a-2>=L)=false:=by simp at hr ⊢; lia
   clear ha hb hb2 hls hp e3 e4 e5 h0 hL lb l0 h2 hr;simp only[J5];w_fin
noncomputable def oi:Option Int->AV
 | none=>.none
 | some x=>.int x
noncomputable def Qa (t w:Nat)(R:Nat->Nat->Option Int):LA:=(List.range t).map λi=>.lst ((List.range w).map λj=>oi (R i j))
theorem yV (x:Option Int):(oi x).nc=true:=by cases x<;>rfl
noncomputable def OkE (holes:Bool)(x:Option Int):Prop:=(x=none->holes=true)/\∀i,x=some i->i.natAbs<=4
theorem QfD:OkE true none:=⟨λ_=>rfl,(λ_ h=>nomatch h)⟩
theorem QfE {k:Nat}(h:k<10)(h9:k≠9)(b:Bool):OkE b (some ((k:Int)-4)):=⟨(λh=>nomatch h),λi e=>by cases e; exact (by decide:∀k:Fin 10,k.val≠9->((k.val:Int)-4).natAbs<=4) ⟨k,h⟩ h9⟩
end
section
noncomputable def orow (w:Nat)(r:Nat->Option Int):LA:=(List.range w).map λj=>oi (r j)
theorem yW (w:Nat)(r:Nat->Option Int):AV.ncs (orow w r)=true:=QZ λx hx=>by
 obtain⟨j,_,rfl⟩:=mmD hx; exact yV _
theorem QK (w:Nat)(r:Nat->Option Int):(orow w r).length=w:=by simp[orow]
theorem Q5 (t w:Nat)(R:Nat->Nat->Option Int):AV.ncs (Qa t w R)=true:=QZ λx hx=>by
 obtain⟨j,_,rfl⟩:=mmD hx; exact yW w (R j)
theorem Qv (t w:Nat)(R:Nat->Nat->Option Int):(Qa t w R).length=t:=by simp[Qa]
noncomputable def upO {α:Type}(r:Nat->α)(j:Nat)(x:α):Nat->α:=λk=>if k=j then x else r k
theorem yX (j:Nat)(r:Nat->Option Int)(x:Option Int):orow j r++[oi x]=orow (j+1) (upO r j x):=by
 unfold orow upO;rw[List.range_succ,List.map_append];congr 1
 ·exact List.map_congr_left λk hk=>by
   have:k≠j:=by have:=List.mem_range.mp hk; lia
   simp only[if_neg this]
 ·simp
theorem QfF (i w:Nat)(R:Nat->Nat->Option Int)(r:Nat->Option Int):Qa i w R++[.lst (orow w r)]=Qa (i+1) w (upO R i r):=by
 unfold Qa upO;simp only[List.range_succ,List.map_append];congr 1
 ·exact List.map_congr_left λk hk=>by
   have:k≠i:=by have:=List.mem_range.mp hk; lia
   rw[if_neg this]
 ·simp[orow]
variable {N:Nat}
inductive RwI (holes:Bool)(F:AV->AV->LA)(T:AH)(j:Nat):LA->AH->Prop where
 | mk (r:Nat->Option Int)(p q:AC)(y z:AV)(hp:PoolOk p q)(hr:∀k,k<j->OkE holes (r k)):RwI holes F T j (F y z) (p::q::(T++[.lst (orow j r)]))
theorem yZ {holes:Bool}{r:Nat->Option Int}{j:Nat}{x:Option Int}(hx:OkE holes x)(hr:∀k,k<j->OkE holes (r k)):∀k,k<j+1->OkE holes (upO r j x k):=λk hk=>by
 unfold upO;by_cases q:k=j
 ·rw[if_pos q]; exact hx
 ·rw[if_neg q]; exact hr k (Nat.lt_of_le_of_ne (Nat.le_of_lt_succ hk) q)
theorem QfG (hN:1<=N)(tl:AV)(wide:Nat)(hw:wide<=3)(holes:Bool)(rc y z:AV)(p q:AC)(T:AH)(hp:PoolOk p q) :
  LoopR (forL (RN N) [5] true B18 ((List.range wide).map λ(i:Nat)=>AV.int (i:Int)) [.cell 1,tl,.int wide,.bool holes,rc,y,.cell (T.length+1+1),z] (p::q::(T++[.lst []])))
   (RwI holes (λy z=>[.cell 1,tl,.int wide,.bool holes,rc,y,.cell (T.length+1+1),z]) T wide):=by
 refine QW (λj J H=>RwI holes (λy z=>[.cell 1,tl,.int wide,.bool holes,rc,y,.cell (T.length+1+1),z]) T j J H) (λj hj J H hP=>?_) (.mk (λ_=>none) p q y z hp nofun);obtain⟨r,p',q',y',z',hp',hr⟩:=hP;have ol:=QK j r;have l4:j<=100000:=Nat.le_trans (Nat.le_of_lt (Nat.lt_of_lt_of_le hj hw)) (by decide);have ie:∀J H,ifeK (RN N) J (.int 10) (.int 9) H (some holes)=.ok (.int ((if holes=true then 10 else 9:Nat):Int)) H:=λ_ _=>by cases holes<;>rfl
 obtain⟨k,p2,q2,hk,hp2,e⟩:=Yb hN (if holes=true then 10 else 9) (by split<;>decide) (by split<;>decide) p' q' (T++[.lst (orow j r)]) hp';have hk10:k<10:=Nat.lt_of_lt_of_le hk (by split<;>decide);have sb:=jo (k:Int) 4;by_cases h9:k=9
 ·have ho:holes=true:=by
   cases holes with
   | true=>rfl
   | false=>exact absurd hk (by rw[h9]; decide)
  have oa:orow j r++[.none]=orow (j+1) (upO r j none):=yX j r none;refine⟨.next,_,_,?_,.inl rfl,.mk (upO r j none) p2 q2 (.int j) (.int k) hp2 (yZ (ho ▸ QfD) hr)⟩;have d:decide ((k:Int)=9)=true:=by rw[h9]; rfl
  generalize (if holes=true then 10 else 9:Nat)=L at e ie
  clear hp hp' hp2 hr hk hk10 h9 hj hw ho;w_fin
 ·have oa:orow j r++[.int ((k:Int)-4)]=orow (j+1) (upO r j (some ((k:Int)-4))):=yX j r (some ((k:Int)-4))
  have d:decide ((k:Int)=9)=false:=decide_eq_false λq=>h9 (Int.ofNat.inj q)
  refine⟨.next,_,_,?_,.inl rfl,.mk (upO r j (some ((k:Int)-4))) p2 q2 (.int j) (.int k) hp2 (yZ (QfE hk10 h9 _) hr)⟩;generalize (if holes=true then 10 else 9:Nat)=L at e ie
  clear hp hp' hp2 hr hk hk10 h9 hj hw;w_fin
inductive RwO (F:AV->AV->AV->LA)(wide:Nat)(holes:Bool)(T:AH)(i:Nat):LA->AH->Prop where
 | mk (R:Nat->Nat->Option Int)(p q:AC)(T':AH)(y z z2:AV)(hr:∀i' j,i'<i->j<wide->OkE holes (R i' j))(hp:PoolOk p q)(hT:T'[T.length]?=some (.lst (Qa i wide R)))(hk:∀k,k<T.length->T'[k]?=T[k]?):RwO F wide holes T i (F y z z2) (p::q::T')
inductive RowsR (o:Out AV)(tall wide:Nat)(holes:Bool)(T:AH):Prop where
 | mk (R:Nat->Nat->Option Int)(p q:AC)(T':AH)(hr:∀i j,i<tall->j<wide->OkE holes (R i j))(hp:PoolOk p q)(hT:T'[T.length]?=some (.lst (Qa tall wide R)))(hk:∀k,k<T.length->T'[k]?=T[k]?)(e:o=.ok (.cell (T.length+1+1)) (p::q::T'))
theorem K3 (hN:2<=N)(tall wide:Nat)(ht:tall<=3)(hw:wide<=3)(holes:Bool)(p q:AC)(T:AH)(hp:PoolOk p q) :
  RowsR ((RN N).f 1045 [.cell 1,.int tall,.int wide,.bool holes] (p::q::T)) tall wide holes T:=by
 have lp:=QW (C:=RN (N-1)) (k:=5) (n:=tall) (b:=B25)
  (λi J H=>RwO (λy z z2=>[.cell 1,.int tall,.int wide,.bool holes,.cell (T.length+1+1),y,z,z2]) wide holes T i J H) (λi hi J H hP=>by
   obtain⟨R,p',q',T',y',z',z2',hr,hp',hT,hk⟩:=hP;obtain⟨_,_,e,⟨r,p2,q2,y2,z3,hp2,hr2⟩⟩:=QfG (pN hN) (.int tall) wide hw holes (.cell (T.length+1+1)) (.int i) z2' p' q' T' hp';have hlt:T.length<T'.length:=(List.getElem?_eq_some_iff.mp hT).1;have g1:∀x:AC,(T'++[x])[T.length]?=some (.lst (Qa i wide R)):=λx=>by rw[List.getElem?_append_left hlt]; exact hT
   have ol:=Qv i wide R;have on:=yW wide r;have l4:i<=100000:=Nat.le_trans (Nat.le_of_lt (Nat.lt_of_lt_of_le hi ht)) (by decide);have w9:wide<1000000:=Nat.lt_of_le_of_lt hw (by decide);have oa:=QfF i wide R r;refine⟨.next,_,_,?_,.inl rfl,.mk (upO R i r) p2 q2 (List.set (T'++[AC.dead]) T.length (AC.lst (Qa (i+1) wide (upO R i r)))) y2 (.cell (T'.length+1+1)) z3 (λi' j hi' hj=>?_) hp2 ?_ λk hk2=>?_⟩
   ·clear hp hp' hp2 hr hr2 hk hi hw ht hlt hT
    w_fin
   ·unfold upO
    by_cases q:i'=i
    ·rw[if_pos q]; exact hr2 j hj
    ·rw[if_neg q]; exact hr i' j (Nat.lt_of_le_of_ne (Nat.le_of_lt_succ hi') q) hj
   ·rw[List.getElem?_set_self (by simp only[List.length_append]; exact Nat.lt_add_right _ hlt)]
   ·rw[List.getElem?_set_ne (Nat.ne_of_gt hk2),List.getElem?_append_left (Nat.lt_trans hk2 hlt)]
    exact hk k hk2) (J:=[.cell 1,.int tall,.int wide,.bool holes,.cell (T.length+1+1),uS,uS,uS]) (H:=p::q::(T++[.lst []]))
   (.mk (λ_ _=>none) p q (T++[.lst []]) uS uS uS (λ_ _ h=>absurd h (Nat.not_lt_zero _)) hp (by rw[List.getElem?_append_right (Nat.le_refl _),Nat.sub_self]; rfl) λk hk=>by rw[List.getElem?_append_left hk])
 obtain⟨_,_,e1,⟨R,p',q',T',y',z',z2',hr,hp',hT,hk⟩⟩:=lp;have t9:tall<1000000:=Nat.lt_of_le_of_lt ht (by decide);refine⟨R,p',q',T',hr,hp',hT,hk,QB QdO (oN hN) (J:=[.cell 1,.int tall,.int wide,.bool holes,uS,uS,uS,uS]) rfl ?_⟩;clear hr hp' hT hk hp ht hw;simp only[Vk];w_fin
end
section
variable {N:Nat}
noncomputable def cO (x:Option Int):Option Rat:=x.map λ(k:Int)=>((k:Int):Rat)
noncomputable abbrev rO (R:Nat->Nat->Option Int):Nat->Nat->Option Rat:=λi j=>cO (R i j)
theorem QG {t w:Nat}{R:Nat->Nat->Option Int}{i:Nat}(h:i<t):(Qa t w R)[i]?=some (.lst (orow w (R i))):=by simp[Qa,orow,h]
theorem Yc {w:Nat}{r:Nat->Option Int}{j:Nat}(h:j<w):(orow w r)[j]?=some (oi (r j)):=by simp[orow,h]
theorem za (x:Option Int):setAV (oi x)=true:=by cases x<;>rfl
noncomputable def itO (w:Nat):LA:=(List.range w).map λ(i:Nat)=>AV.int (i:Int)
theorem Wl (hN:2<=N)(t w:Nat)(R:Nat->Nat->Option Int)(ht:t<=3)(hw:w<=3)(H:AH):(RN N).f 1050 [.lst (Qa t w R),.int w] H=.ok (mtx t w (rO R)) H:=by
 refine Qc QdP (oN hN) (J:=[.lst (Qa t w R),.int w,uS,uS,uS]) rfl (by simp[Q5]) (H':=[.dead,.dead]) ?_ (Qs _ _ _) H;have w9:w<1000000:=by lia
 have t8:t<=1000000:=by lia
 have ol:=Qv t w R;have n1:t*w<=9:=Nat.mul_le_mul ht hw;have i1:=QH (pN hN) "double" (cmj t w λi j=>qo (rO R i j)) [];have i2:=QH (pN hN) "integer" [.int t,.int w] [vecC "double" (cmj t w λi j=>qo (rO R i j)) .none];simp only[List.length_nil,List.nil_append,List.length_cons,List.cons_append] at i1 i2;have cm:evE (RN (N-1)) [.lst (Qa t w R),.int w,uS,uS,uS] D40 []=.ok (.lst (cmj t w λi j=>qo (rO R i j))) []:=by
  refine (VG (v:=.rng 0 w) w t (g2:=λi=>.lst (orow w (R i))) (λj i=>qo (rO R i j)) (by clear hw ht; w_fin) QD (by rw[<-cmj,Qn]; lia) rfl λj hj'=>?_).trans rfl
  refine⟨_,.lst (Qa t w R),rfl,by clear hj' hw ht; w_fin,rfl,λi hi=>?_⟩;refine⟨_,rfl,?_⟩;have l1:(orow w (R i)).length<=1000000:=by rw[QK]; lia
  have g1:=Yc (r:=R i) hj';cases hr:R i j with
  | none =>
   replace g1:=hr ▸ g1
   simp only[oi] at g1;rw[show rO R i j=cO (R i j) from rfl,hr];show _=Out.ok AV.none [];clear hi hr hj' hw ht;w_fin
  | some k =>
   rw[hr] at g1;simp only[oi] at g1;rw[show rO R i j=cO (R i j) from rfl,hr];show _=Out.ok (AV.tup [.int k,.int 1]) [];clear hi hr hj' hw ht;w_fin
 have cn:=Qf t w (rO R);clear ht hw;simp only[Vl];w_fin
theorem JT (hN:1<=N)(k:String)(t w:Nat)(e:Nat->Nat->AV)(ht:t<100)(hw:w<100)(he:∀i j,i<t->j<w->(e i j).nc=true)(H:AH) :
  (RN N).f 1055 [vec k (cmj t w e) (dimA t w)] H=.ok (.lst (rwj t w e)) H:=by
 have n1:t*w<=90000:=Nat.le_trans (Nat.mul_le_mul (Nat.le_of_lt ht) (Nat.le_of_lt hw)) (by decide);refine Qc QdQ (oN hN) (J:=[vec k (cmj t w e) (dimA t w),uS,uS,uS,uS]) rfl (by simp[Qu he]) (H':=[]) ?_ (by simp[YJ he]) H;have w9:w<1000000:=by lia
 have t9:t<1000000:=by lia
 have cl:=Qn t e w;have c9:t*w<=1000000:=by lia
 have m1:=QQ t9 w9;have cm:evE (RN (N-1)) [vec k (cmj t w e) (dimA t w),.int t,.int w,uS,uS] D44 []=.ok (.lst (rwj t w e)) []:=by
  refine (Qx (v:=.rng 0 t) t (λi=>.lst ((List.range w).map (e i))) (by clear he; w_fin) QD (by lia) rfl λi hi'=>?_).trans rfl
  refine⟨_,rfl,(Qx (v:=.rng 0 w) w (e i) (by clear he hi'; w_fin) QD (by lia) rfl λj hj'=>?_).trans rfl⟩;have g:=cm_get (e:=e) hi' hj';have m:=QQ (a:=j) (b:=t) (by lia) (by lia);refine⟨_,rfl,?_⟩;clear he hi' hj';w_fin
 clear he;simp only[Vm];w_fin
noncomputable def Qw:Int->List (Option Int × Option Int)->Option Int
 | t,[]=>some t
 | t,p::l=>p.1.bind λa=>p.2.bind λb=>Qw (t+a*b) l
noncomputable def pA (p:Option Int × Option Int):AV:=.tup [oi p.1,oi p.2]
noncomputable abbrev sumB:List PS:=B9
inductive SumR (L:AV)(H:AH)(r:OS):Option Int->Prop where
 | ok (s:Int)(x y:AV)(e:r=.ok .next [L,.int s,x,y] H):SumR L H r (some s)
 | no (J:LA)(e:r=.ok (.ret .none) J H):SumR L H r none
theorem QfH {C:Orc}{H:AH}{L:AV}(l:List (Option Int × Option Int))(t:Int)(x y:AV)(h:∀p∈l,(∀a,p.1=some a->Qg a)/\∀b,p.2=some b->Qg b):SumR L H (forL C [2,3] false sumB (l.map pA) [L,.int t,x,y] H) (Qw t l):=by
 induction l generalizing t x y with
 | nil=>exact .ok t x y rfl
 | cons p l ih =>
  obtain⟨a,b⟩:=p;have hh:=h (a,b) (.head _);have ih:=λt x y=>ih t x y λp hp=>h p (.tail _ hp)
  clear h;show SumR L H ((evSs C sumB [L,.int t,oi a,oi b] H).lp (forL C [2,3] false sumB (l.map pA))) (a.bind λa=>b.bind λb=>Qw (t+a*b) l);cases a with
  | none =>
   rw[show evSs C sumB [L,.int t,oi none,oi b] H=.ok (.ret .none) [L,.int t,.none,oi b] H by simp only[oi]; w_fin];exact .no _ rfl
  | some a =>
   cases b with
   | none =>
    rw[show evSs C sumB [L,.int t,oi (some a),oi none] H=.ok (.ret .none) [L,.int t,.int a,.none] H by simp only[oi]; w_fin];exact .no _ rfl
   | some b =>
    have e:evSs C sumB [L,.int t,oi (some a),oi (some b)] H=.ok .next [L,.int (t+a*b),.int a,.int b] H:=by
     have m:=Qi (hh.1 a rfl) (hh.2 b rfl);have ad:=QT t (a*b);simp only[oi];clear hh ih;w_fin
    rw[e];exact ih _ _ _
noncomputable def sA:Option Int->AV
 | some s=>.tup [.int s,.int 1]
 | none=>.none
theorem K4 (x:Option Int):sA x=qo (cO x):=by cases x<;>rfl
theorem pA_nc (l:List (Option Int × Option Int)):AV.ncs (l.map pA)=true:=QZ λx hx=>by
 obtain⟨p,_,rfl⟩:=mmD hx;simp[pA,yV]
theorem zb (hN:1<=N)(l:List (Option Int × Option Int))(h:∀p∈l,(∀a,p.1=some a->Qg a)/\∀b,p.2=some b->Qg b)(H:AH):(RN N).f 1069 [.lst (l.map pA)] H=.ok (sA (Qw 0 l)) H:=by
 have lp:=QfH (C:=RN (N-1)) (H:=[]) (L:=.lst (l.map pA)) l 0 uS uS h;refine Qc QdS hN (J:=[.lst (l.map pA),uS,uS,uS]) rfl (by simp[pA_nc]) (H':=[]) ?_ (by cases Qw 0 l<;>rfl) H;clear h;simp only[Vo];generalize Qw 0 l=o at lp ⊢
 obtain⟨s,x',y',e⟩ | ⟨J',e⟩:=lp<;>simp only[sA]<;>w_fin
theorem K5 {α:Type}{n:Nat}{f g:Nat->α}(h:∀i,i<n->f i=g i):(List.range n).map f=(List.range n).map g :=
 List.map_congr_left λi hi=>h i (by simpa using hi)
theorem zc (hN:1<=N)(t w:Nat)(R:Nat->Nat->Option Int)(h0:0<t)(ht:t<=3)(hw:w<=3)(H:AH):(RN N).f 1074 [.lst (Qa t w R)] H=.ok (.lst (Qa w t λi j=>R j i)) H:=by
 refine Qc QdT hN (J:=[.lst (Qa t w R),uS,uS]) rfl (by simp[Q5]) (H':=[]) ?_ (by simp[Q5]) H;have g0:=QG (w:=w) (R:=R) h0;have l0:=QK w (R 0);have ol:=Qv t w R;have t8:t<=1000000:=by lia
 have w8:w<=1000000:=by lia
 have w9:w<1000000:=by lia
 have cm:evE (RN (N-1)) [.lst (Qa t w R),uS,uS] D57 []=.ok (.lst (Qa w t λi j=>R j i)) []:=by
  refine (Qx (v:=.rng 0 w) w (λj=>.lst (orow t λi=>R i j)) (by clear h0 ht hw; w_fin) QD (by lia) rfl λj hj'=>?_).trans rfl
  refine⟨_,rfl,(Qx (v:=.lst (Qa t w R)) t (g:=λi=>.lst (orow w (R i))) (λi=>oi (R i j)) (by clear hj' h0 ht hw; w_fin) rfl (by lia) rfl λi hi=>?_).trans rfl⟩
  have g1:=Yc (r:=R i) hj';have l1:=QK w (R i);refine⟨_,rfl,?_⟩;clear hj' hi h0 ht hw;w_fin
 clear h0 ht hw;simp only[Vp];w_fin
noncomputable def prs (n:Nat)(a b:Nat->Option Int):List (Option Int × Option Int):=(List.range n).map λs=>(a s,b s)
noncomputable def E4 (x:Option Int):Prop:=∀i,x=some i->i.natAbs<=4
theorem E4.big {x:Option Int}(h:E4 x):∀i,x=some i->Qg i:=λi hi=>Qo (Nat.lt_of_le_of_lt (h i hi) (by decide))
theorem Uj (hN:2<=N)(r n c:Nat)(A B:Nat->Nat->Option Int)(h0:0<n)(hr:r<=3)(hn:n<=3)(hc:c<=3)(hA:∀i j,i<r->j<n->E4 (A i j))(hB:∀i j,i<n->j<c->E4 (B i j))(H:AH) :
  (RN N).f 1079 [.lst (Qa r n A),.lst (Qa n c B)] H=.ok (.lst (rwj r c λi j=>sA (Qw 0 (prs n (A i) λs=>B s j)))) H:=by
 have snc:∀x,(sA x).nc=true:=λx=>by cases x<;>rfl
 refine Qc QdU (oN hN) (J:=[.lst (Qa r n A),.lst (Qa n c B),uS,uS,uS]) rfl (by simp[Q5]) (H':=[]) ?_ (by simp[YJ (e:=λi j=>sA (Qw 0 (prs n (A i) λs=>B s j))) λ_ _ _ _=>snc _]) H
 have g0:=QG (w:=c) (R:=B) h0;have ol:=Qv n c B;have l0:=QK c (B 0);have n8:n<=1000000:=by lia
 have c8:c<=1000000:=by lia
 have n9:n<1000000:=by lia
 have c9:c<1000000:=by lia
 have cm:evE (RN (N-1)) [.lst (Qa r n A),.lst (Qa n c B),uS,uS,uS] D17 []=.ok (.lst (rwj r c λi j=>sA (Qw 0 (prs n (A i) λs=>B s j)))) []:=by
  refine (Qx (v:=.lst (Qa r n A)) r (g:=λi=>.lst (orow n (A i))) (λi=>.lst ((List.range c).map λj=>sA (Qw 0 (prs n (A i) λs=>B s j)))) (by clear hA hB h0 hr hn hc snc; w_fin) rfl (by lia) rfl λi hi=>?_).trans rfl
  ·refine⟨_,rfl,(Qx (v:=.rng 0 c) c (λj=>sA (Qw 0 (prs n (A i) λs=>B s j))) (by clear hA hB h0 hr hn hc snc hi; w_fin) QD (by lia) rfl λj hj'=>?_).trans rfl⟩
   have lr:=QK n (A i);have cp:evE (RN (N-1)) [.lst (Qa r n A),.lst (Qa n c B),.lst (orow n (A i)),.int j,uS] (.comp (.tup [(.sub D2 D4),(.sub (.sub D1 D4) D3)]) [.mk [4] true (.range1 (.len D2)) []] false) []=.ok (.lst ((prs n (A i) λs=>B s j).map pA)) []:=by
    refine (Qx (v:=.rng 0 n) n (λs=>pA (A i s,B s j)) (by clear hA hB h0 hr hn hc snc hi hj'; w_fin) QD (by lia) rfl λs hs'=>?_).trans (by simp only[prs,List.map_map]; rfl)
    have q1:=Yc (r:=A i) hs';have q2:=QG (w:=c) (R:=B) hs';have q3:=Yc (r:=B s) hj';have q4:=QK c (B s);refine⟨_,rfl,?_⟩;simp only[pA];clear hA hB h0 hr hn hc snc hi hj' hs';w_fin
   have su:=zb (pN hN) (prs n (A i) λs=>B s j) (λp hp=>by
    obtain⟨s,hs,rfl⟩:=mmD hp;have hs':s<n:=by simpa using hs
    exact⟨(hA i s hi hs').big,(hB s j hs' hj').big⟩) []
   refine⟨_,rfl,?_⟩;clear hA hB h0 hr hn hc snc hi hj';w_fin
 clear hA hB h0 hr hn hc snc;simp only[Vq];w_fin
theorem QfI (p:Option Int × Option Int)(l:List (Option Int × Option Int)):∀(t:Int),Qw t (l++[p])=(Qw t l).bind λs=>p.1.bind λa=>p.2.bind λb=>some (s+a*b):=by
 induction l with
 | nil=>exact λt=>by obtain⟨a,b⟩:=p; cases a<;>cases b<;>rfl
 | cons q l ih =>
  intro t;obtain⟨a,b⟩:=q;cases a with
  | none=>rfl
  | some a =>
   cases b with
   | none=>rfl
   | some b=>exact ih _
theorem zf (n:Nat)(a b:Nat->Option Int):Qw 0 (prs (n+1) a b)=(Qw 0 (prs n a b)).bind λs=>(a n).bind λx=>(b n).bind λy=>some (s+x*y):=by
 unfold prs;rw[List.range_succ,List.map_append];exact QfI (a n,b n) _ 0
theorem K6 (a b:Nat->Option Int)(n:Nat):osum (λs=>omul (cO (a s)) (cO (b s))) n=cO (Qw 0 (prs n a b)):=by
 induction n with
 | zero=>exact rfl
 | succ n ih =>
  simp only[Qes,ih,zf];cases Qw 0 (prs n a b) with
  | none=>cases a n<;>cases b n<;>rfl
  | some s =>
   cases a n with
   | none=>rfl
   | some x =>
    cases b n with
    | none=>rfl
    | some y=>show some _=some _; simp
theorem QfJ (a b:Nat->Option Int)(n:Nat):(∀s,s<n->E4 (a s)/\E4 (b s))->∀i,Qw 0 (prs n a b)=some i->i.natAbs<=16*n:=by
 induction n with
 | zero =>
  intro _ i h;cases h; decide
 | succ n ih =>
  intro h i hi;have ih:=ih λs hs=>h s (by omega)
  rw[zf] at hi;obtain⟨h1,h2⟩:=h n (by omega);cases hf:Qw 0 (prs n a b) with
  | none=>rw[hf] at hi; exact no hi
  | some s =>
   rw[hf] at hi ih;cases ha:a n with
   | none=>rw[ha] at hi; exact no hi
   | some x =>
    cases hb:b n with
    | none=>rw[ha,hb] at hi; exact no hi
    | some y =>
     rw[ha,hb] at hi;cases hi;have:=ih s rfl;have hx:=h1 x ha;have hy:=h2 y hb;have hxy:(x*y).natAbs<=16:=by rw[Int.natAbs_mul]; exact Nat.mul_le_mul hx hy
     exact Nat.le_trans (Int.natAbs_add_le s (x*y)) (Nat.add_le_add this hxy)
theorem Uk {x:Option Int}(h:∀i,x=some i->i.natAbs<=1000):ho 2000 (cO x):=λq hq=>by
 cases x with
 | none=>cases hq
 | some i =>
  cases hq;refine⟨?_,?_⟩
  ·show i.natAbs<_
   exact Nat.lt_of_le_of_lt (h i rfl) (Nat.lt_of_lt_of_le (show 1000<2 ^ 10 by decide) (Nat.pow_le_pow_right (by decide) (by decide)))
  ·show 1<_
   exact Nat.lt_of_lt_of_le (show 1<2 ^ 1 by decide) (Nat.pow_le_pow_right (by decide) (by decide))
theorem E4.ho {x:Option Int}(h:E4 x):ho 2000 (cO x):=Uk λi hi=>Nat.le_trans (h i hi) (by decide)
theorem Ul {x y:Option Int}(h:E4 x)(h':E4 y):ho 2000 (omul (cO x) (cO y)):=by
 have e:omul (cO x) (cO y)=cO (x.bind λa=>y.bind λb=>some (a*b)):=by
  cases x with
  | none=>rfl
  | some a =>
   cases y with
   | none=>rfl
   | some b=>show some _=some _; simp
 rw[e];refine Uk λi hi=>?_
 cases x with
 | none=>cases hi
 | some a =>
  cases y with
  | none=>exact no hi
  | some b =>
   cases hi;have:(a*b).natAbs<=16:=by rw[Int.natAbs_mul]; exact Nat.mul_le_mul (h a rfl) (h' b rfl)
   lia
theorem Um {n:Nat}{a b:Nat->Option Int}(hn:n<=3)(h:∀s,s<n->E4 (a s)/\E4 (b s)):ho 2000 (osum (λs=>omul (cO (a s)) (cO (b s))) n):=by
 rw[K6];exact Uk λi hi=>Nat.le_trans (QfJ a b n h i hi) (by lia)
theorem zg {α:Type}(f:Nat->α)(b:Nat)(a:Nat):(List.range (a*b)).map f=(List.range a).flatMap λi=>(List.range b).map λp=>f (i*b+p):=by
 induction a with
 | zero =>
  simp
 | succ a ih =>
  simp only[Nat.succ_mul,List.range_add,List.map_append,ih,List.range_succ,List.flatMap_append,List.map_map];simp[Function.comp_def]
theorem Wm {t w:Nat}{e:Nat->Nat->AV}(h:∀i j,i<t->j<w->AV.data 4 (e i j)=true):AV.data 6 (.lst (rwj t w e))=true:=by
 show (rwj t w e).all (AV.data 5)=true;rw[List.all_eq_true];intro x hx;obtain⟨i,hi,rfl⟩:=mmD hx;show ((List.range w).map λj=>e i j).all (AV.data 4)=true;rw[List.all_eq_true];intro y hy;obtain⟨j,hj,rfl⟩:=mmD hy;exact h i j (by simpa using hi) (by simpa using hj)
theorem K7 (x:Option Rat):AV.data 4 (qo x)=true:=by cases x<;>rfl
theorem Un {H:AH}{l:LA}(h:AV.data 6 (.lst l)=true):pCmp H .ne (.lst l) (.lst l)=some false :=
 (Kl (a:=.lst l) (b:=.lst l) (P:=False) h h ⟨λh=>h rfl,False.elim⟩).trans rfl
theorem K8 {H:AH}{l:LA}(h:AV.data 6 (.lst l)=true):pCmp H .eq (.lst l) (.lst l)=some true :=
 (Yx (a:=.lst l) (b:=.lst l) (P:=True) h h ⟨λ_=>trivial,λ_=>rfl⟩).trans rfl
noncomputable def tryS (k ek:Nat)(o:OS):OS:=o.ctch λm J H=>if ek<J.length then .ok .next ((J.set k m).set ek uS) H else .stuck
theorem Yd {C:Orc}{J:LA}{H:AH}(b:List PS)(k ek:Nat):evS C (.tryR b k ek) J H=tryS k ek (evSs C b J H):=rfl
theorem Wn {k ek:Nat}(f:Fl)(J:LA)(H:AH):tryS k ek (.ok f J H)=.ok f J H:=rfl
theorem zj {k ek:Nat}(m:AV)(J:LA)(H:AH):tryS k ek (.exc m J H)=if ek<J.length then .ok .next ((J.set k m).set ek uS) H else .stuck:=rfl
theorem Uo (C:Orc)(a b c:Nat)(bd:List PS)(x y z:AV)(l J:LA)(H:AH):forL C [a,b,c] false bd (.tup [x,y,z]::l) J H=forK C [a,b,c] false bd l (evSs C bd (((J.set a x).set b y).set c z) H):=rfl
noncomputable def DR (cu cv:Nat)(r s:Nat->Option Int):AV:=.lst ((List.range cu).flatMap λj=>(List.range cv).map λq=>sA (Qw 0 [(r j,s q)]))
noncomputable def dueL (rv cu cv:Nat)(U V:Nat->Nat->Option Int)(i:Nat):LA:=(List.range i).flatMap λa=>(List.range rv).map λp=>DR cu cv (U a) (V p)
theorem QfK (x y:Option Int):sA (Qw 0 [(x,y)])=qo (omul (cO x) (cO y)):=by
 cases x with
 | none=>rfl
 | some a =>
  cases y with
  | none=>rfl
  | some b =>
   show sA (some (0+a*b))=qo (some ((a:Rat)*(b:Rat)));simp only[K4,Int.zero_add];show qo (some (((a*b:Int)):Rat))=_;simp
theorem zq (ru rv cu cv:Nat)(U V:Nat->Nat->Option Int)(h3:0<rv)(h4:0<cv):dueL rv cu cv U V ru=rwj (ru*rv) (cu*cv) λi j=>qo (omul (rO U (i / rv) (j / cv)) (rO V (i % rv) (j % cv))):=by
 unfold dueL rwj;rw[zg];have d1:∀i p,p<rv->(i*rv+p) / rv=i:=λi p h=>by
  rw[Nat.mul_comm,Nat.mul_add_div h3,Nat.div_eq_of_lt h,Nat.add_zero]
 have d2:∀i p,p<rv->(i*rv+p) % rv=p:=λi p h=>by
  rw[Nat.mul_comm,Nat.mul_add_mod,Nat.mod_eq_of_lt h]
 have d3:∀i p,p<cv->(i*cv+p) / cv=i:=λi p h=>by
  rw[Nat.mul_comm,Nat.mul_add_div h4,Nat.div_eq_of_lt h,Nat.add_zero]
 have d4:∀i p,p<cv->(i*cv+p) % cv=p:=λi p h=>by
  rw[Nat.mul_comm,Nat.mul_add_mod,Nat.mod_eq_of_lt h]
 congr 1;funext a;refine K5 λp hp=>?_
 simp only[zg];refine congrArg AV.lst ?_;congr 1;funext j;refine K5 λq hq=>?_
 simp only[QfK,d1 a p hp,d2 a p hp,d3 j q hq,d4 j q hq]
theorem Up (a b:Nat)(f:Nat->Nat->AV):((List.range a).flatMap λj=>(List.range b).map λq=>f j q).length=a*b:=by
 induction a with
 | zero=>simp
 | succ a ih=>simp only[List.range_succ,List.flatMap_append,List.length_append,ih]; simp[Nat.succ_mul]
theorem QfL (hN:1<=N)(cu cv:Nat)(r s:Nat->Option Int)(hcu:cu<=3)(hcv:cv<=3)(hr:∀j,j<cu->E4 (r j))(hs:∀j,j<cv->E4 (s j))(u v L R:AV)(H:AH) :
  evE (RN N) [u,v,L,R,.cell 0,.lst (orow cu r),.lst (orow cv s),uS,uS,uS,uS,uS,uS,uS] D39 H=.ok (DR cu cv r s) H:=by
 have n1:cu*cv<=9:=Nat.mul_le_mul hcu hcv;refine (VG (v:=.lst (orow cu r)) cu cv (g:=λj=>oi (r j)) (g2:=λq=>oi (s q)) (λj q=>sA (Qw 0 [(r j,s q)])) (by clear hr hs; w_fin) rfl (by rw[Up]; lia) rfl λj hj=>?_).trans rfl
 refine⟨_,.lst (orow cv s),rfl,by clear hr hs hj; w_fin,rfl,λq hq=>?_⟩;refine⟨_,rfl,?_⟩;have su:=zb hN [(r j,s q)] (λp hp=>by
  obtain rfl:=msD hp;exact⟨(hr j hj).big,(hs q hq).big⟩) H
 have e:[(r j,s q)].map pA=[.tup [oi (r j),oi (s q)]]:=rfl;have o1:=za (r j);rw[e] at su;have o2:=za (s q);clear hr hs hj hq e;w_fin
theorem zu {C:Orc}{H:AH}{k:Nat}{a0 a1 x y y5 y6 t M:AV}{A B A0 R:LA}(g:A[0]?=some (.lst A0))(lA:A.length<=1000000)(la:A0.length<=1000000)(lb:B.length<=1000000)(lx:∀H,locK H (some x)=.ok x H)(ly:∀H,locK H (some y)=.ok y H)(cr:∀H,C.f k [.none,.lst [.tup [.none,x],.tup [.none,y]],.none] H=.ok M H)(sh:∀H,C.f 1055 [M] H=.ok (.lst R) H)(dn:A0.length=B.length)(pr:∀H,C.f 1079 [.lst A,.lst B] H=.ok (.lst R) H)(c2:∀H,pCmp H .ne (.lst R) (.lst R)=some false):evSs C B29 [a0,a1,x,y,.cell 0,y5,y6,.kref k,.lst A,.lst B,t,uS,uS,uS] H=.ok .next [a0,a1,x,y,.cell 0,y5,y6,.kref k,.lst A,.lst B,.lst R,uS,uS,uS] H:=by
 have d:decide ((A0.length:Int)=B.length)=true:=decide_eq_true (congrArg _ dn);clear dn;w_fin;simp only[Yd];w_fin;simp only[Wn];w_fin
theorem zx {C:Orc}{H:AH}{k:Nat}{a0 a1 x y y5 y6 t:AV}{A B A0:LA}(g:A[0]?=some (.lst A0))(lA:A.length<=1000000)(la:A0.length<=1000000)(lb:B.length<=1000000)(lx:∀H,locK H (some x)=.ok x H)(ly:∀H,locK H (some y)=.ok y H)(cr:∀H,C.f k [.none,.lst [.tup [.none,x],.tup [.none,y]],.none] H=.exc (.str "non-conformable arguments") H)(dn:A0.length≠B.length):evSs C B29 [a0,a1,x,y,.cell 0,y5,y6,.kref k,.lst A,.lst B,t,uS,uS,uS] H=.ok .next [a0,a1,x,y,.cell 0,y5,y6,.kref k,.lst A,.lst B,.str "non-conformable arguments",uS,uS,uS] H:=by
 have d:decide ((A0.length:Int)=B.length)=false:=decide_eq_false λh=>dn (Int.ofNat.inj h)
 clear dn;w_fin;simp only[Yd];w_fin;simp only[zj];w_fin
theorem QfM (hN:9<=N)(ru cu rv cv:Nat)(U V:Nat->Nat->Option Int)(u1:0<ru)(u2:0<cu)(u3:0<rv)(u4:0<cv)(w1:ru<=3)(w2:cu<=3)(w3:rv<=3)(w4:cv<=3)
  (hU:∀i j,i<ru->j<cu->E4 (U i j)) (hV:∀i j,i<rv->j<cv->E4 (V i j)) (H:AH) :
  (RN N).f 1101 [.lst (Qa ru cu U),.lst (Qa rv cv V)] H=.ok (.bool true) H:=by
 refine Qc QdX (oN hN) (J:=[.lst (Qa ru cu U),.lst (Qa rv cv V),uS,uS,uS,uS,uS,uS,uS,uS,uS,uS,uS,uS]) rfl (by simp[Q5]) (H':=[.lst (dueL rv cu cv U V ru)]) ?_ rfl H;have lu:=Wl (pN hN) ru cu U w1 w2;have lv:=Wl (pN hN) rv cv V w3 w4;have gu:=QG (w:=cu) (R:=U) u1;have gv:=QG (w:=cv) (R:=V) u3;have ku:=QK cu (U 0);have kv:=QK cv (V 0);have ou:=Qv ru cu U;have ov:=Qv rv cv V;have z1:ru<=1000000:=by lia
 have z2:cu<=1000000:=by lia
 have z3:rv<=1000000:=by lia
 have z4:cv<=1000000:=by lia
 have y1:ru<1000000:=by lia
 have y2:cu<1000000:=by lia
 have y3:rv<1000000:=by lia
 have y4:cv<1000000:=by lia
 obtain⟨J_1,H_1,e1,⟨s5,s6⟩⟩:=YM (C:=RN (N-1)) (k:=5) (l:=Qa ru cu U) (b:=[.for_ [6] true D1 B16])
  (P:=λk J H=>Fr2 (λs5 s6=>[.lst (Qa ru cu U),.lst (Qa rv cv V),mtx ru cu (rO U),mtx rv cv (rO V),.cell 0,s5,s6,uS,uS,uS,uS,uS,uS,uS]) ([.lst (dueL rv cu cv U V k)]) J H)
  (λk x hx J H hP=>by
   obtain⟨s5,s6⟩:=hP;have hk:k<ru:=by have:=(List.getElem?_eq_some_iff.mp hx).1; rw[Qv] at this; exact this
   rw[QG hk] at hx;obtain rfl:=(Option.some.inj hx).symm;obtain⟨J_2,H_2,e2,s7,rfl,rfl⟩:=YM (C:=RN (N-1)) (k:=6) (l:=Qa rv cv V) (b:=B16)
    (P:=λp J H=>∃s6,J=[.lst (Qa ru cu U),.lst (Qa rv cv V),mtx ru cu (rO U),mtx rv cv (rO V),.cell 0,.lst (orow cu (U k)),s6,uS,uS,uS,uS,uS,uS,uS]/\H=[.lst (dueL rv cu cv U V k++(List.range p).map λp=>DR cu cv (U k) (V p))])
    (λp x hx J H q70=>by
     obtain⟨s6,h1',h2'⟩:=q70;subst h1' h2';have hp:p<rv:=by have:=(List.getElem?_eq_some_iff.mp hx).1; rw[Qv] at this; exact this
     rw[QG hp] at hx;obtain rfl:=(Option.some.inj hx).symm;have cm:=λH=>QfL (pN hN) cu cv (U k) (V p) w2 w4 (λj hj=>hU k j hk hj) (λj hj=>hV p j hp hj) (.lst (Qa ru cu U)) (.lst (Qa rv cv V)) (mtx ru cu (rO U)) (mtx rv cv (rO V)) H
     have ll:(dueL rv cu cv U V k++(List.range p).map λp=>DR cu cv (U k) (V p)).length<=100000:=by
      have:=Up k rv λa p=>DR cu cv (U a) (V p)
      rw[List.length_append,dueL,this,List.length_map,List.length_range];have hk3:k<=3:=by lia
      have:k*rv<=9:=Nat.mul_le_mul hk3 w3
      lia
     refine⟨.next,_,_,?_,.inl rfl,.lst (orow cv (V p)),rfl,rfl⟩;simp only[List.range_succ,List.map_append,List.map_cons,List.map_nil,<-List.append_assoc];clear hU hV hx hp hk u1 u2 u3 u4 w1 w2 w3 w4 lu lv gu gv;w_fin) (J:=[.lst (Qa ru cu U),.lst (Qa rv cv V),mtx ru cu (rO U),mtx rv cv (rO V),.cell 0,.lst (orow cu (U k)),s6,uS,uS,uS,uS,uS,uS,uS]) (H:=[.lst (dueL rv cu cv U V k)]) ⟨s6,rfl,by simp⟩
   have ed:dueL rv cu cv U V (k+1)=dueL rv cu cv U V k++(List.range rv).map λp=>DR cu cv (U k) (V p):=by
    unfold dueL;rw[List.range_succ,List.flatMap_append];simp
   rw[Qv] at e2;refine⟨.next,_,_,?_,.inl rfl,.mk (.lst (orow cu (U k))) s7⟩;rw[ed];clear hU hV hx hk u1 u2 u3 u4 w1 w2 w3 w4 lu lv gu gv;w_fin) (J:=[.lst (Qa ru cu U),.lst (Qa rv cv V),mtx ru cu (rO U),mtx rv cv (rO V),.cell 0,uS,uS,uS,uS,uS,uS,uS,uS,uS]) (H:=[.lst []]) (.mk _ _)
 rw[Qv] at e1;have hoU:∀i j,i<ru->j<cu->ho 2000 (rO U i j):=λi j hi hj=>(hU i j hi hj).ho
 have hoV:∀i j,i<rv->j<cv->ho 2000 (rO V i j):=λi j hi hj=>(hV i j hi hj).ho
 have kr:=λH=>QeA (pN hN) (xu:=rO U) (xv:=rO V) ru cu rv cv (by lia) (by lia) (by lia) (by lia) u3 u4 hoU hoV H
 have q1:ru*rv<=9:=Nat.mul_le_mul w1 w3;have q2:cu*cv<=9:=Nat.mul_le_mul w2 w4;have sk:=λH=>JT (pN hN) "double" (ru*rv) (cu*cv) (λi j=>qo (omul (rO U (i / rv) (j / cv)) (rO V (i % rv) (j % cv)))) (by lia) (by lia) (λ_ _ _ _=>Qy _) H
 rw[<-zq ru rv cu cv U V u3 u4] at sk;have dd:AV.data 6 (.lst (dueL rv cu cv U V ru))=true:=by
  rw[zq ru rv cu cv U V u3 u4]; exact Wm λ_ _ _ _=>K7 _
 have er0:rd [.lst (dueL rv cu cv U V ru)] (.cell 0)=.lst (dueL rv cu cv U V ru):=rfl;have c1:pCmp [.lst (dueL rv cu cv U V ru)] .ne (.lst (dueL rv cu cv U V ru)) (.cell 0)=some false :=
  (Kl (H:=[.lst (dueL rv cu cv U V ru)]) (a:=.lst (dueL rv cu cv U V ru)) (b:=.cell 0) (P:=False) dd (by rw[er0]; exact dd) ⟨λh=>h er0.symm,False.elim⟩).trans rfl
 have tu:=λH=>zc (pN hN) ru cu U u1 w1 w2 H
 have tv:=λH=>zc (pN hN) rv cv V u3 w3 w4 H
 obtain⟨t1,f1⟩:∃t,evSs (RN (N-1)) B29 [.lst (Qa ru cu U),.lst (Qa rv cv V),mtx ru cu (rO U),mtx rv cv (rO V),.cell 0,s5,s6,.kref 961,.lst (Qa cu ru λi j=>U j i),.lst (Qa rv cv V),uS,uS,uS,uS] [.lst (dueL rv cu cv U V ru)]=.ok .next [.lst (Qa ru cu U),.lst (Qa rv cv V),mtx ru cu (rO U),mtx rv cv (rO V),.cell 0,s5,s6,.kref 961,.lst (Qa cu ru λi j=>U j i),.lst (Qa rv cv V),t,uS,uS,uS] [.lst (dueL rv cu cv U V ru)]:=by
  have l1:=QK ru λj=>U j 0
  by_cases hc:ru=rv
  ·subst hc
   have er:(rwj cu cv λi j=>sA (Qw 0 (prs ru (λj=>U j i) λs=>V s j)))=rwj cu cv λi j=>qo (osum (λs=>omul (rO U s i) (rO V s j)) ru):=KD λi j _ _=>by
    rw[K6 (λs=>U s i) (λs=>V s j),K4]
   exact⟨_,zu (QG (w:=ru) (R:=λi j=>U j i) u2) (Nat.le_trans (Nat.le_of_eq (Qv ..)) z2) (Nat.le_trans (Nat.le_of_eq l1) z1) (ov.symm ▸ z1) (λ_=>rfl) (λ_=>rfl) (Qev (pN hN) (xu:=rO U) (xv:=rO V) ru cu cv (by lia) (by lia) (by lia) hoU hoV (λi j s hi hj hs=>Ul (hU s i hs hi) (hV s j hs hj)) (λi j s hi hj hs=>Um (by lia) λs' hs'=>⟨hU s' i (by lia) hi,hV s' j (by lia) hj⟩)) (JT (pN hN) "double" cu cv (λi j=>qo (osum (λs=>omul (rO U s i) (rO V s j)) ru)) (by lia) (by lia) (λ_ _ _ _=>Qy _)) (l1.trans ov.symm) (er ▸ Uj (pN hN) cu ru cv (λi j=>U j i) V u1 w2 w1 w4 (λi j hi hj=>hU j i hj hi) hV) (λH=>Un (Wm λ_ _ _ _=>K7 _))⟩
  ·exact⟨_,zx (QG (w:=ru) (R:=λi j=>U j i) u2) (Nat.le_trans (Nat.le_of_eq (Qv ..)) z2) (Nat.le_trans (Nat.le_of_eq l1) z1) (ov.symm ▸ z3) (λ_=>rfl) (λ_=>rfl) (Qex (pN hN) (xu:=rO U) (xv:=rO V) ru cu rv cv (by lia) (by lia) (by lia) (by lia) hc) λh=>hc (l1.symm.trans (h.trans ov))⟩
 obtain⟨t2,f2⟩:∃t,evSs (RN (N-1)) B29 [.lst (Qa ru cu U),.lst (Qa rv cv V),mtx ru cu (rO U),mtx rv cv (rO V),.cell 0,s5,s6,.kref 968,.lst (Qa ru cu U),.lst (Qa cv rv λi j=>V j i),t1,uS,uS,uS] [.lst (dueL rv cu cv U V ru)]=.ok .next [.lst (Qa ru cu U),.lst (Qa rv cv V),mtx ru cu (rO U),mtx rv cv (rO V),.cell 0,s5,s6,.kref 968,.lst (Qa ru cu U),.lst (Qa cv rv λi j=>V j i),t,uS,uS,uS] [.lst (dueL rv cu cv U V ru)]:=by
  have l2:=Qv cv rv λi j=>V j i
  by_cases hc:cu=cv
  ·subst hc
   have er:(rwj ru rv λi j=>sA (Qw 0 (prs cu (U i) λs=>V j s)))=rwj ru rv λi j=>qo (osum (λs=>omul (rO U i s) (rO V j s)) cu):=KD λi j _ _=>by
    rw[K6 (λs=>U i s) (λs=>V j s),K4]
   exact⟨_,zu gu (Nat.le_trans (Nat.le_of_eq ou) z1) (Nat.le_trans (Nat.le_of_eq ku) z2) (l2.symm ▸ z2) (λ_=>rfl) (λ_=>rfl) (Qey (pN hN) (xu:=rO U) (xv:=rO V) cu ru rv (by lia) (by lia) (by lia) hoU hoV (λi j s hi hj hs=>Ul (hU i s hi hs) (hV j s hj hs)) (λi j s hi hj hs=>Um (by lia) λs' hs'=>⟨hU i s' hi (by lia),hV j s' hj (by lia)⟩)) (JT (pN hN) "double" ru rv (λi j=>qo (osum (λs=>omul (rO U i s) (rO V j s)) cu)) (by lia) (by lia) (λ_ _ _ _=>Qy _)) (ku.trans l2.symm) (er ▸ Uj (pN hN) ru cu rv U (λi j=>V j i) u2 w1 w2 w3 hU (λi j hi hj=>hV j i hj hi)) (λH=>Un (Wm λ_ _ _ _=>K7 _))⟩
  ·exact⟨_,zx gu (Nat.le_trans (Nat.le_of_eq ou) z1) (Nat.le_trans (Nat.le_of_eq ku) z2) (l2.symm ▸ z4) (λ_=>rfl) (λ_=>rfl) (Qez (pN hN) (xu:=rO U) (xv:=rO V) ru cu rv cv (by lia) (by lia) (by lia) (by lia) hc) λh=>hc (ku.symm.trans (h.trans l2))⟩
 have cr:=Qew (pN hN) (xu:=rO U) ru cu (by lia) (by lia) hoU (λi j s hi hj hs=>Ul (hU s i hs hi) (hU s j hs hj)) (λi j s hi hj hs=>Um (by lia) λs' hs'=>⟨hU s' i (by lia) hi,hU s' j (by lia) hj⟩);have sh:=λH=>JT (pN hN) "double" cu cu (λi j=>qo (osum (λs=>omul (rO U s i) (rO U s j)) ru)) (by lia) (by lia) (λ_ _ _ _=>Qy _) H
 have pr:=Uj (pN hN) cu ru cu (λi j=>U j i) U u1 w2 w1 w2 (λi j hi hj=>hU j i hj hi) hU;have er:(rwj cu cu λi j=>sA (Qw 0 (prs ru (λj=>U j i) λs=>U s j)))=rwj cu cu λi j=>qo (osum (λs=>omul (rO U s i) (rO U s j)) ru):=KD λi j _ _=>by
  rw[K6 (λs=>U s i) (λs=>U s j),K4]
 rw[er] at pr;have c2:=λH=>K8 (H:=H) (l:=rwj cu cu λi j=>qo (osum (λs=>omul (rO U s i) (rO U s j)) ru)) (Wm λ_ _ _ _=>K7 _)
 have st1:∀y5 y6 L R a b,Jk [7,8,9] [.kref 961,a,b] [.lst (Qa ru cu U),.lst (Qa rv cv V),L,R,.cell 0,y5,y6,uS,uS,uS,uS,uS,uS,uS]=some [.lst (Qa ru cu U),.lst (Qa rv cv V),L,R,.cell 0,y5,y6,.kref 961,a,b,uS,uS,uS,uS]:=λ_ _ _ _ _ _=>rfl
 have st2:∀y5 y6 L R a b a' b' t,Jk [7,8,9] [.kref 968,a,b] [.lst (Qa ru cu U),.lst (Qa rv cv V),L,R,.cell 0,y5,y6,.kref 961,a',b',t,uS,uS,uS]=some [.lst (Qa ru cu U),.lst (Qa rv cv V),L,R,.cell 0,y5,y6,.kref 968,a,b,t,uS,uS,uS]:=λ_ _ _ _ _ _ _ _ _=>rfl
 clear hU hV hoU hoV u1 u2 u3 u4 w1 w2 w3 w4 dd er er0 q1 q2;simp only[Vt];w_fin;simp only[Uo];w_fin;simp only[Uo];w_fin
theorem zy {C:Orc}{t:List Nat}{one:Bool}{b:List PS}{H:AH}(P:LA->Prop)(l:LA)(h:∀x∈l,∀J,P J->CompR t one x J λJ_1=>NextR (evSs C b J_1 H) H P)(J:LA)(p:P J):NextR (forL C t one b l J H) H P:=by
 induction l generalizing J with
 | nil=>exact⟨J,rfl,p⟩
 | cons x l ih =>
  obtain⟨J_1,e1,J_2,e2,p2⟩:=h x (.head _) J p;show NextR ((obT (bindT t one x J) λJ=>evSs C b J H).lp (forL C t one b l)) H P;rw[e1];show NextR ((evSs C b J_1 H).lp (forL C t one b l)) H P;rw[e2];exact ih (λy hy=>h y (.tail _ hy)) J_2 p2
noncomputable abbrev eR (i j:Nat):Int:=((if true=true then i+1 else j+1:Nat):Int)
noncomputable abbrev eC (i j:Nat):Int:=((if false=true then i+1 else j+1:Nat):Int)
noncomputable abbrev eT (up dg:Bool)(i j:Nat):Int:=if ((if up=true then decide (i<j) else decide (j<i))||(dg&&decide (i=j)))=true then 1 else 0
theorem L_0 (hN:1<=N)(i j:Nat)(H:AH):(RN N).l 0 [.int i,.int j] H=.ok (.int (eR i j)) H:=by
 refine Yw U_0 hN (J:=[.int i,.int j]) rfl rfl (H':=[]) ?_ rfl H;w_fin;rfl
theorem L_1 (hN:1<=N)(i j:Nat)(H:AH):(RN N).l 1 [.int i,.int j] H=.ok (.int (eC i j)) H:=by
 refine Yw U_1 hN (J:=[.int i,.int j]) rfl rfl (H':=[]) ?_ rfl H;w_fin;rfl
theorem L_2 (hN:1<=N)(i j:Nat)(H:AH):(RN N).l 2 [.int i,.int j] H=.ok (.int (eT true false i j)) H:=by
 refine Yw U_2 hN (J:=[.int i,.int j]) rfl rfl (H':=[]) ?_ rfl H;have d:decide ((j:Int)>i)=decide (i<j):=decide_eq_decide.mpr Int.ofNat_lt;cases h:decide (i<j)<;>(unfold eT; w_fin)
theorem L_3 (hN:1<=N)(i j:Nat)(H:AH):(RN N).l 3 [.int i,.int j] H=.ok (.int (eT false false i j)) H:=by
 refine Yw U_3 hN (J:=[.int i,.int j]) rfl rfl (H':=[]) ?_ rfl H;have d:decide ((j:Int)<i)=decide (j<i):=decide_eq_decide.mpr Int.ofNat_lt;cases h:decide (j<i)<;>(unfold eT; w_fin)
theorem L_4 (hN:1<=N)(i j:Nat)(H:AH):(RN N).l 4 [.int i,.int j] H=.ok (.int (eT true true i j)) H:=by
 refine Yw U_4 hN (J:=[.int i,.int j]) rfl rfl (H':=[]) ?_ rfl H;have e:eT true true i j=if decide ((j:Int)>=i)=true then 1 else 0:=by
  have q:(decide (i<j)||(true&&decide (i=j)))=decide ((j:Int)>=i):=by
   rw[Bool.true_and,<-Bool.decide_or]; exact decide_eq_decide.mpr (Nat.le_iff_lt_or_eq.symm.trans Int.ofNat_le.symm)
  exact congrArg (λb:Bool=>if b=true then (1:Int) else 0) q
 refine e ▸ ?_;cases h:decide ((j:Int)>=i)<;>(clear e; w_fin)
theorem L_5 (hN:1<=N)(i j:Nat)(H:AH):(RN N).l 5 [.int i,.int j] H=.ok (.int (eT false true i j)) H:=by
 refine Yw U_5 hN (J:=[.int i,.int j]) rfl rfl (H':=[]) ?_ rfl H;have e:eT false true i j=if decide ((j:Int)<=i)=true then 1 else 0:=by
  have q:(decide (j<i)||(true&&decide (i=j)))=decide ((j:Int)<=i):=by
   rw[Bool.true_and,<-Bool.decide_or]; exact decide_eq_decide.mpr (((or_congr Iff.rfl eq_comm).trans Nat.le_iff_lt_or_eq.symm).trans Int.ofNat_le.symm)
  exact congrArg (λb:Bool=>if b=true then (1:Int) else 0) q
 refine e ▸ ?_;cases h:decide ((j:Int)<=i)<;>(clear e; w_fin)
noncomputable def spl (t w:Nat):LA:=(List.range t).flatMap λ(i:Nat)=>(List.range w).map λ(j:Nat)=>AV.tup [.int (i:Int),.int (j:Int)]
theorem zA {t w:Nat}{x:AV}(h:x∈spl t w):∃i j:Nat,i<t/\j<w/\x=.tup [.int i,.int j]:=by
 obtain⟨i,hi,h⟩:=List.mem_flatMap.mp h;obtain⟨j,hj,rfl⟩:=mmD h;exact⟨i,j,by simpa using hi,by simpa using hj,rfl⟩
theorem JV {H:AH}{a:AV}(h:AV.data 6 a=true)(hr:rd H a=a):pCmp H .ne a a=some false :=
 (Kl (a:=a) (b:=a) (P:=False) (by rw[hr]; exact h) (by rw[hr]; exact h) ⟨λh=>h rfl,False.elim⟩).trans rfl
theorem QfN {C:Orc}(t w:Nat)(ht:t<=3)(hw:w<=3)(e:Nat->Nat->Int)(k:Nat)(hl:∀i j:Nat,i<t->j<w->∀H,C.l k [.int i,.int j] H=.ok (.int (e i j)) H)(u a b v ba sp du fn mo x y s13:AV)(H:AH) :
  ∃x' y',forL C [11,12] false B15 (spl t w)
   [u,a,b,v,ba,sp,du,fn,mo,.lam k,.lst (rwj t w λi j=>.int (e i j)),x,y,s13,uS,uS,uS,uS,uS,uS] H =
   .ok .next [u,a,b,v,ba,sp,du,fn,mo,.lam k,.lst (rwj t w λi j=>.int (e i j)),x',y',s13,uS,uS,uS,uS,uS,uS] H:=by
 obtain⟨J',e1,x',y',rfl⟩:=zy (C:=C) (t:=[11,12]) (one:=false) (b:=B15) (H:=H)
  (λJ=>∃x y,J=[u,a,b,v,ba,sp,du,fn,mo,.lam k,.lst (rwj t w λi j=>.int (e i j)),x,y,s13,uS,uS,uS,uS,uS,uS]) (spl t w) (λz hz J q70=>by
   obtain⟨x,y,h⟩:=q70;subst h;obtain⟨i,j,hi,hj,rfl⟩:=zA hz;have g:=KC (c:=w) (e:=λi j=>.int (e i j)) hi;have g2:((List.range w).map λj=>AV.int (e i j))[j]?=some (.int (e i j)):=by simp[hj]
   have l2:((List.range w).map λj=>AV.int (e i j)).length<=1000000:=by simp; lia
   have l1:=YH t w λi j=>.int (e i j)
   have t8:t<=1000000:=by lia
   have hh:=hl i j hi hj;have dn:decide (e i j=e i j)=true:=by simp
   refine⟨_,rfl,_,?_,.int i,.int j,rfl⟩;clear hl hi hj hz ht hw;w_fin) _ ⟨x,y,rfl⟩
 exact⟨x',y',e1⟩
theorem QfO (hN:1<=N)(t w:Nat)(ht:t<=3)(hw:w<=3)(e:Nat->Nat->Int)(k fa:Nat)(kd:String)(more:LA)(u v ba du:AV)(hv:setAV v=true)(hm:more.length<=10)
  (hf:∀H,(RN N).f fa [.none,.lst (.tup [.none,v]::more),.none] H=.ok (vec kd (cmj t w λi j=>.int (e i j)) (dimA t w)) H)
  (hl:∀i j:Nat,i<t->j<w->∀H,(RN N).l k [.int i,.int j] H=.ok (.int (e i j)) H) (y10 x y:AV) (H:AH) :
  ∃y10' x' y',evSs (RN N) B27
   [u,.int t,.int w,v,ba,.lst (spl t w),du,.kref fa,.lst more,.lam k,y10,x,y,uS,uS,uS,uS,uS,uS,uS] H =
   .ok .next [u,.int t,.int w,v,ba,.lst (spl t w),du,.kref fa,.lst more,.lam k,y10',x',y',uS,uS,uS,uS,uS,uS,uS] H:=by
 obtain⟨x',y',e1⟩:=QfN (C:=RN N) t w ht hw e k hl u (.int t) (.int w) v ba (.lst (spl t w)) du (.kref fa) (.lst more) x y uS H;have sh:=λH=>JT hN kd t w (λi j=>.int (e i j)) (by lia) (by lia) (λ_ _ _ _=>rfl) H
 have h1:0+1+more.length<=1000000:=by lia
 refine⟨.lst (rwj t w λi j=>.int (e i j)),x',y',?_⟩;clear hl ht hw hm;w_fin
theorem st3 (a b c:AV)(u p q v ba sp du x7 x8 x9 x10 x11 x12:AV):Jk [7,8,9] [a,b,c] [u,p,q,v,ba,sp,du,x7,x8,x9,x10,x11,x12,uS,uS,uS,uS,uS,uS,uS]=some [u,p,q,v,ba,sp,du,a,b,c,x10,x11,x12,uS,uS,uS,uS,uS,uS,uS]:=rfl
theorem QfP (hN:5<=N)(t w:Nat)(xu:Nat->Nat->Option Rat)(u a b ba sp du s7 s8 s9 s10 s11 s12:AV)(H:AH) :
  evE (RN N) [u,a,b,mtx t w xu,ba,sp,du,s7,s8,s9,s10,s11,s12,uS,uS,uS,uS,uS,uS,uS] D16 H=.ok (.lst [.lst [.int t],.lst [.int w],.lst [.int t],.lst [.int w]]) H:=by
 have r1:=λH=>QeK hN (xu:=xu) t w H
 have r2:=λH=>QeM hN (xu:=xu) t w H
 have r3:=λH=>QeO hN (xu:=xu) t w H
 have r4:=λH=>QeQ hN (xu:=xu) t w H
 exact (QX (v:=.lst [.kref 926,.kref 933,.kref 940,.kref 947]) [(926,t),(933,w),(940,t),(947,w)] (g:=λp=>.kref p.1) (λp=>.lst [.int p.2]) (by w_fin) rfl (Nat.le_of_ble_eq_true rfl) rfl (allC ⟨_,rfl,by w_fin⟩ (allC ⟨_,rfl,by w_fin⟩ (allC ⟨_,rfl,by w_fin⟩ (all1 ⟨_,rfl,by w_fin⟩))))).trans rfl
theorem QfQ {C:Orc}(t w:Nat)(ht:t<=3)(hw:w<=3)(U:Nat->Nat->Option Int)(v ba sp du s7 s8 s9 s10 s11 s12 s13:AV)(H:AH) :
  evE C [.lst (Qa t w U),.int t,.int w,v,ba,sp,du,s7,s8,s9,s10,s11,s12,s13,uS,uS,uS,uS,uS,uS] D32 H=.ok (.lst ((List.range (min t w)).map λp=>qo (rO U p p))) H:=by
 have mc:=yf t w;have m9:min t w<1000000:=nl (Nat.le_trans (Nat.min_le_left t w) ht) (by rfl);refine (Qx (v:=.rng 0 (min t w:Nat)) (min t w) (λi=>qo (rO U i i)) (by clear ht hw; w_fin) QD (nb (Nat.le_trans (Nat.min_le_left t w) ht) (by rfl)) rfl λi hi'=>?_).trans rfl
 have g1:=QG (w:=w) (R:=U) (Nat.lt_of_lt_of_le hi' (Nat.min_le_left t w));have g2:=Yc (w:=w) (r:=U i) (Nat.lt_of_lt_of_le hi' (Nat.min_le_right t w));have l1:=Qv t w U;have l2:=QK w (U i);have t8:t<=1000000:=by lia
 have w8:w<=1000000:=by lia
 refine⟨_,rfl,?_⟩;show _=Out.ok (qo (cO (U i i))) H;cases hr:U i i with
 | none =>
  rw[hr] at g2;simp only[oi] at g2;simp only[cO,Option.map_none,qo];clear hi' hr ht hw mc;w_fin
 | some k =>
  rw[hr] at g2;simp only[oi] at g2;have ek:qo (cO (some k))=.tup [.int k,.int 1]:=rfl;simp only[ek];clear hi' hr ht hw mc ek;w_fin
theorem QfR {C:Orc}(t:Nat)(ht:t<=3)(u b v ba sp du s7 s8 s9 s10 s11 s12 s13:AV)(H:AH) :
  evE C [u,.int t,b,v,ba,sp,du,s7,s8,s9,s10,s11,s12,s13,uS,uS,uS,uS,uS,uS] D27 H=.ok (.lst (rwj t t λi j=>if i=j then .tup [.int 1,.int 1] else .tup [.int 0,.int 1])) H:=by
 have t9:t<1000000:=by lia
 refine (Qx (v:=.rng 0 t) t (λi=>.lst ((List.range t).map λj=>if i=j then .tup [.int 1,.int 1] else .tup [.int 0,.int 1])) (by clear ht; w_fin) QD (by lia) rfl λi hi=>?_).trans rfl
 refine⟨_,rfl,(Qx (v:=.rng 0 t) t (λj=>if i=j then .tup [.int 1,.int 1] else .tup [.int 0,.int 1]) (by clear ht hi; w_fin) QD (by lia) rfl λj hj=>?_).trans rfl⟩;refine⟨_,rfl,?_⟩;by_cases h:i=j
 ·have d:decide ((i:Int)=j)=true:=by simp[h]
  have e:(i=j)=True:=by simp[h]
  clear h hi hj ht;w_fin
 ·have d:decide ((i:Int)=j)=false:=by simp; lia
  have e:(i=j)=False:=by simp[h]
  clear h hi hj ht;w_fin
theorem QfS {C:Orc}(t w:Nat)(h1:0<t)(h2:0<w)(ht:t<=3)(hw:w<=3)(xu:Nat->Nat->Option Rat)(u a b v du s7 s8 s9 x y s13 sp:AV)(H:AH) :
  ∃x' y',forL C [11,12] false B17 (spl t w)
   [u,a,b,v,vec "double" (cmj t w λi j=>qo (xu i j)) .none,sp,du,s7,s8,s9,.lst (rwj t w λi j=>if i=j then ((cmj t w λi j=>qo (xu i j))[i % (cmj t w λi j=>qo (xu i j)).length]?).getD .none else .tup [.int 0,.int 1]),x,y,s13,uS,uS,uS,uS,uS,uS] H =
   .ok .next [u,a,b,v,vec "double" (cmj t w λi j=>qo (xu i j)) .none,sp,du,s7,s8,s9,.lst (rwj t w λi j=>if i=j then ((cmj t w λi j=>qo (xu i j))[i % (cmj t w λi j=>qo (xu i j)).length]?).getD .none else .tup [.int 0,.int 1]),x',y',s13,uS,uS,uS,uS,uS,uS] H:=by
 have ee:(rwj t w λi j=>if i=j then ((cmj t w λi j=>qo (xu i j))[i % (cmj t w λi j=>qo (xu i j)).length]?).getD .none else .tup [.int 0,.int 1])=rwj t w λi j=>if i=j then qo (xu i 0) else .tup [.int 0,.int 1]:=KD λi j hi hj=>by
  split
  ·have hlt:i<t*w:=Nat.lt_of_lt_of_le hi (Nat.le_mul_of_pos_right t h2)
   have g:=cm_get (e:=λi j=>qo (xu i j)) hi h2;rw[Nat.zero_mul,Nat.zero_add] at g;simp only[Qn,Nat.mod_eq_of_lt hlt,g];rfl
  ·rfl
 refine ee ▸ ?_;obtain⟨J',e1,x',y',rfl⟩:=zy (C:=C) (t:=[11,12]) (one:=false) (b:=B17) (H:=H)
  (λJ=>∃x y,J=[u,a,b,v,vec "double" (cmj t w λi j=>qo (xu i j)) .none,sp,du,s7,s8,s9,.lst (rwj t w λi j=>if i=j then qo (xu i 0) else .tup [.int 0,.int 1]),x,y,s13,uS,uS,uS,uS,uS,uS]) (spl t w) (λz hz J ⟨x,y,h⟩=>by
   subst h;obtain⟨i,j,hi,hj,rfl⟩:=zA hz;have g:=KC (c:=w) (e:=λi j=>if i=j then qo (xu i 0) else .tup [.int 0,.int 1]) hi;have l2:((List.range w).map λj=>if i=j then qo (xu i 0) else AV.tup [.int 0,.int 1]).length<=1000000:=by simp; lia
   have l1:=YH t w λi j=>if i=j then qo (xu i 0) else AV.tup [.int 0,.int 1]
   have t8:t<=1000000:=by lia
   have g5:=cm_get (e:=λi j=>qo (xu i j)) hi h2;rw[Nat.zero_mul,Nat.zero_add] at g5;have cl:=Qn t (λi j=>qo (xu i j)) w;have tw:t*w<=9:=Nat.mul_le_mul ht hw;have tw2:t*w<=1000000:=by lia
   refine⟨_,rfl,_,?_,.int i,.int j,rfl⟩;by_cases h:i=j
   ·have g2:((List.range w).map λj=>if i=j then qo (xu i 0) else AV.tup [.int 0,.int 1])[j]?=some (qo (xu i 0)):=by simp[hj,h]
    have d:decide ((i:Int)=j)=true:=by simp[h]
    have c:=JV (H:=H) (a:=qo (xu i 0)) (by cases xu i 0<;>rfl) (by cases xu i 0<;>rfl);clear h hi hj hz ht hw h1 h2 ee tw;w_fin
   ·have g2:((List.range w).map λj=>if i=j then qo (xu i 0) else AV.tup [.int 0,.int 1])[j]?=some (.tup [.int 0,.int 1]):=by simp[hj,h]
    have d:decide ((i:Int)=j)=false:=by simp; lia
    have c:=JV (H:=H) (a:=.tup [.int 0,.int 1]) rfl rfl;clear h hi hj hz ht hw h1 h2 ee tw;w_fin) _ ⟨x,y,rfl⟩
 exact⟨x',y',e1⟩
end
section
local macro_rules | `(tactic| w_fin)=>do
 let a:=(wA.splitOn " ").toArray.map λs=>Lean.mkIdent s.toName
 let l:=((wN.splitOn " ").map λx=>if x=="k_seq" then "q_seq" else if x=="k_seqC" then "q_seqC" else if x=="k_seqR" then "q_seqR" else if x=="k_seqX" then "q_seqX" else if x=="ss_cons" then "q_cons" else x).toArray.map λs=>Lean.mkIdent s.toName
 `(tactic| simp only[$[↓$a:ident],*,$[$l:ident],*, *])
section
variable {N:Nat}
theorem QfT (hN:8<=N)(t w:Nat)(U:Nat->Nat->Option Int)(t1:0<t)(w1:0<w)(ht:t<=3)(hw:w<=3)(H:AH) :
  (RN N).f 1106 [.lst (Qa t w U)] H=.ok (.bool true) H:=by
 refine Qc QdY (oN hN) (J:=[.lst (Qa t w U),uS,uS,uS,uS,uS,uS,uS,uS,uS,uS,uS,uS,uS,uS,uS,uS,uS,uS,uS]) rfl (by simp[Q5]) (H':=[.dead,.dead,.dead,.dead,.dead,.dead,.dead]) ?_ rfl H;have lm:=Wl (pN hN) t w U ht hw;have gu:=QG (w:=w) (R:=U) t1;have ku:=QK w (U 0);have ou:=Qv t w U;have z1:t<=1000000:=by lia
 have z2:w<=1000000:=by lia
 have y1:t<1000000:=by lia
 have y2:w<1000000:=by lia
 have tw:t*w<=9:=Nat.mul_le_mul ht hw;have cl:=Qn t (λi j=>qo (rO U i j)) w;have tw1:t*w<=100000:=by lia
 have inc:=Qf t w (rO U);have iV:=λk l H=>QH (pN hN) k l H
 have i0:=iV "double" (cmj t w λi j=>qo (rO U i j)) [];have i1:=iV "logical" [.int 1];clear iV;simp only[List.length_nil,List.nil_append] at i0;have sp:∀a b c,evE (RN (N-1)) [.lst (Qa t w U),.int t,.int w,a,b,c,uS,uS,uS,uS,uS,uS,uS,uS,uS,uS,uS,uS,uS,uS] D53 [.dead]=.ok (.lst (spl t w)) [.dead]:=λa b c=>by
  refine (VG (v:=.rng 0 t) t w (g:=λi=>.int i) (g2:=λj=>.int j) (λi j=>.tup [.int i,.int j]) (by clear t1 w1 ht hw; w_fin) QD (by rw[Up]; lia) rfl λi hi=>?_).trans rfl;refine⟨_,.rng 0 w,rfl,by clear t1 w1 ht hw hi; w_fin,QD,λj hj=>?_⟩;refine⟨_,rfl,?_⟩;clear t1 w1 ht hw hi hj;w_fin
 have po:=λe k fa kd more ba du hm hf hl y10 x y H=>QfO (pN hN) t w ht hw e k fa kd more (.lst (Qa t w U)) (mtx t w (rO U)) ba du rfl hm hf hl y10 x y H
 obtain⟨p0,q0,r0,o0⟩:=po eR 0 1024 "integer" [] (vec "double" (cmj t w λi j=>qo (rO U i j)) .none) (.cell 1) (by simp) (λH=>QeG (pN hN) (xu:=rO U) t w (by lia) (by lia) H) (λi j _ _ H=>L_0 (pN hN) i j H) uS uS uS [.dead,.dead,.dead,.dead]
 obtain⟨p1,q1,r1,o1⟩:=po eC 1 1031 "integer" [] (vec "double" (cmj t w λi j=>qo (rO U i j)) .none) (.cell 1) (by simp) (λH=>QeH (pN hN) (xu:=rO U) t w (by lia) (by lia) H) (λi j _ _ H=>L_1 (pN hN) i j H) p0 q0 r0 [.dead,.dead,.dead,.dead]
 obtain⟨p2,q2,r2,o2⟩:=po (eT true false) 2 1003 "logical" [] (vec "double" (cmj t w λi j=>qo (rO U i j)) .none) (.cell 1) (by simp) (λH=>yr (pN hN) (xu:=rO U) t w false (by lia) (by lia) H) (λi j _ _ H=>L_2 (pN hN) i j H) p1 q1 r1 [.dead,.dead,.dead,.dead]
 obtain⟨p3,q3,r3,o3⟩:=po (eT false false) 3 1010 "logical" [] (vec "double" (cmj t w λi j=>qo (rO U i j)) .none) (.cell 1) (by simp) (λH=>yt (pN hN) (xu:=rO U) t w false (by lia) (by lia) H) (λi j _ _ H=>L_3 (pN hN) i j H) p2 q2 r2 [.dead,.dead,.dead,.dead]
 obtain⟨p4,q4,r4,o4⟩:=po (eT true true) 4 1003 "logical" (dgA true) (vec "double" (cmj t w λi j=>qo (rO U i j)) .none) (.cell 1) (by simp[dgA]) (λH=>yr (pN hN) (xu:=rO U) t w true (by lia) (by lia) H) (λi j _ _ H=>L_4 (pN hN) i j H) p3 q3 r3 [.dead,.dead,.dead,.dead]
 obtain⟨p5,q5,r5,o5⟩:=po (eT false true) 5 1010 "logical" (dgA true) (vec "double" (cmj t w λi j=>qo (rO U i j)) .none) (.cell 1) (by simp[dgA]) (λH=>yt (pN hN) (xu:=rO U) t w true (by lia) (by lia) H) (λi j _ _ H=>L_5 (pN hN) i j H) p4 q4 r4 [.dead,.dead,.dead,.dead]
 clear po;simp only[dgA] at o4 o5;have i2:∀D,(RN (N-1)).f 289 [.cell 2,.str "logical",.lst [.int 1]] [.dead,.lst D,.obj 299 [] []]=.ok .none [.dead,.lst D,vecC "logical" [.int 1] .none]:=λD=>i1 [.dead,.lst D]
 have i3:∀D,(RN (N-1)).f 289 [.cell 3,.str "logical",.lst [.int 1]] [.dead,.lst D,.dead,.obj 299 [] []]=.ok .none [.dead,.lst D,.dead,vecC "logical" [.int 1] .none]:=λD=>i1 [.dead,.lst D,.dead]
 have i4:(RN (N-1)).f 289 [.cell 4,.str "double",.lst [.tup [.int t,.int 1]]] [.dead,.dead,.dead,.dead,.obj 299 [] []]=.ok .none [.dead,.dead,.dead,.dead,vecC "double" [.tup [.int t,.int 1]] .none]:=QH (pN hN) "double" [.tup [.int t,.int 1]] [.dead,.dead,.dead,.dead];have i5:(RN (N-1)).f 289 [.cell 5,.str "integer",.lst [.int t]] [.dead,.dead,.dead,.dead,.dead,.obj 299 [] []]=.ok .none [.dead,.dead,.dead,.dead,.dead,vecC "integer" [.int t] .none]:=QH (pN hN) "integer" [.int t] [.dead,.dead,.dead,.dead,.dead];have i6:(RN (N-1)).f 289 [.cell 6,.str "integer",.lst [.int w]] [.dead,.dead,.dead,.dead,.dead,.dead,.obj 299 [] []]=.ok .none [.dead,.dead,.dead,.dead,.dead,.dead,vecC "integer" [.int w] .none]:=QH (pN hN) "integer" [.int w] [.dead,.dead,.dead,.dead,.dead,.dead];clear i1
 have sz:=λba sp du s7 s8 s9 s10 s11 s12 H=>QfP (pN hN) t w (rO U) (.lst (Qa t w U)) (.int t) (.int w) ba sp du s7 s8 s9 s10 s11 s12 H
 have cz:=λH=>JV (H:=H) (a:=.lst [.lst [.int t],.lst [.int w],.lst [.int t],.lst [.int w]]) rfl rfl
 have n1:=λH=>QeL (pN hN) (cmj t w λi j=>qo (rO U i j)) inc H
 have n2:=λH=>QeN (pN hN) (cmj t w λi j=>qo (rO U i j)) inc H
 have n3:=λH=>QeP (pN hN) (cmj t w λi j=>qo (rO U i j)) inc (by lia) H
 have n4:=λH=>QeR (pN hN) (cmj t w λi j=>qo (rO U i j)) inc (by lia) H
 rw[cl] at n3;have m1:=QQ y1 y2;have c3:=λH=>JV (H:=H) (a:=.lst [.int ((t*w:Nat):Int)]) rfl rfl
 have c4:=λH=>JV (H:=H) (a:=.lst [.int 1]) rfl rfl
 have dg1:=λH=>QeZ (pN hN) (xu:=rO U) t w (by lia) (by lia) H
 have pd:=λv ba sp du s7 s8 s9 s10 s11 s12 s13 H=>QfQ (C:=RN (N-1)) t w ht hw U v ba sp du s7 s8 s9 s10 s11 s12 s13 H
 have c5:=λH=>JV (H:=H) (a:=.lst ((List.range (min t w)).map λp=>qo (rO U p p))) (by
  show List.all _ (AV.data 5)=true;rw[List.all_eq_true];intro x hx;obtain⟨p,_,rfl⟩:=mmD hx;cases rO U p p<;>rfl) rfl
 have dg2:=λH=>Qe0 (pN hN) t (by lia) H
 have inn:∀i j:Nat,(if i=j then (([.tup [.int 1,.int 1]]:LA)[i % ([.tup [.int 1,.int 1]]:LA).length]?).getD .none else .tup [.int 0,.int 1])=if i=j then AV.tup [.int 1,.int 1] else .tup [.int 0,.int 1]:=λi j=>by simp[Nat.mod_one]
 simp only[inn] at dg2;have sh2:=λH=>JT (pN hN) "double" t t (λi j=>if i=j then AV.tup [.int 1,.int 1] else .tup [.int 0,.int 1]) (by lia) (by lia) (λ_ _ _ _=>by split<;>rfl) H
 have pe:=λb v ba sp du s7 s8 s9 s10 s11 s12 s13 H=>QfR (C:=RN (N-1)) t ht (.lst (Qa t w U)) b v ba sp du s7 s8 s9 s10 s11 s12 s13 H
 have c6:=λH=>Un (H:=H) (l:=rwj t t λi j=>if i=j then AV.tup [.int 1,.int 1] else .tup [.int 0,.int 1]) (Wm λ_ _ _ _=>by split<;>rfl)
 have dg3:=λH=>Qe1 (pN hN) (cmj t w λi j=>qo (rO U i j)) t w (by lia) (by lia) inc (by rw[cl]; exact Nat.mul_pos t1 w1) (by lia) H
 have sh3:=λH=>JT (pN hN) "double" t w (λi j=>if i=j then ((cmj t w λi j=>qo (rO U i j))[i % (cmj t w λi j=>qo (rO U i j)).length]?).getD .none else .tup [.int 0,.int 1]) (by lia) (by lia) (λi j hi hj=>by
  split
  ·cases hx:(cmj t w λi j=>qo (rO U i j))[i % (cmj t w λi j=>qo (rO U i j)).length]? with
   | none=>rfl
   | some x=>exact Ua inc x (List.mem_of_getElem? hx)
  ·rfl) H
 have la:=λx y s13=>QfS (C:=RN (N-1)) t w t1 w1 ht hw (rO U) (.lst (Qa t w U)) (.int t) (.int w) (mtx t w (rO U)) (.cell 1) (.kref 1010) (.lst (dgA true)) (.lam 5) x y s13 (.lst (spl t w)) [.dead,.dead,.dead,.dead,.dead,.dead,.dead]
 obtain⟨xe,ye,la⟩:=la q5 r5 (.lst [.lst [.int t],.lst [.int w],.lst [.int t],.lst [.int w]]);simp only[dgA] at la;rw[cl] at dg3 sh3 la;clear t1 w1 ht hw tw inn;simp only[Vu];w_fin
 iterate 6
  simp only[Uo,st3];w_fin
end
end
section
variable {N:Nat}
theorem Uq {C:Orc}{J:LA}{H:AH}{o i:PE}{l:LA}{k:Nat}(ho:evE C J o H=.ok (.lst l) H)(hi:evE C J i H=.ok (.int k) H)(hk:(k:Int)<1000000)(hl:l.length<=1000000):evE C J (.upto o i) H=.ok (.lst (l.take k)) H:=by
 have h0:(0:Int)<=k/\(k:Int)<1000000/\l.length<=1000000:=⟨Int.natCast_nonneg k,hk,hl⟩;rw[Qej,ho,Out.bind_ok,hi,Out.bind_ok,o_l,o_i];rw[if_pos h0,Int.toNat_natCast]
theorem zB {C:Orc}{J:LA}{H:AH}{o i:PE}{l:LA}{k:Nat}(ho:evE C J o H=.ok (.lst l) H)(hi:evE C J i H=.ok (.int k) H)(hk:(k:Int)<=l.length)(hl:l.length<=1000000):evE C J (.from o i) H=.ok (.lst (l.drop k)) H:=by
 have h0:(0:Int)<=k/\(k:Int)<=l.length/\l.length<=1000000:=⟨Int.natCast_nonneg k,hk,hl⟩;simp only[V9,ho,Out.bind_ok,hi,Out.bind_ok,o_l,o_i];rw[if_pos h0,Int.toNat_natCast]
theorem QfU {C:Orc}{J:LA}{H:AH}{o i:PE}{l r:LA}(ho:evE C J o H=.ok (.lst l) H)(hi:evE C J i H=.ok (.lst r) H)(hl:l.length+r.length<=1000000):evE C J (.cat o i) H=.ok (.lst (l++r)) H:=by
 simp only[ji,ho,k_ca,hi,je,if_pos hl]
noncomputable def il (l:List Int):AV:=.lst (intl l)
theorem YW {C:Orc}(n s:Nat)(hs:s<n)(hn:n<=3)(r0:AV)(rest:List (List Int))(hl:∀l∈rest,l.length=n)(hr:rest.length<=3)(a b:AV)(H:AH) :
  evE C [.lst (r0::rest.map il),a,.int s,b,uS] D12 H=.ok (.lst (rest.map λl=>il (l.take s++l.drop (s+1)))) H:=by
 refine (QX (v:=.lst (rest.map il)) rest (λl=>.lst ((intl l).take s++(intl l).drop (s+1))) ?_ rfl (by lia) rfl λl hl'=>?_).trans ?_
 ·have h1:((rest.map il).length+1)<=1000000:=by simp; lia
  have h2:((1:Int)<=(((rest.map il).length+1:Nat):Int)):=by lia
  have h3:(0:Int)<=1:=by decide
  clear hl hr hs hn;simp only[V9];w_fin
 ·have e:=hl l hl'
  have le:(intl l).length=n:=by simp[intl,e]
  have e4:evE C [.lst (r0::rest.map il),a,.int s,b,.lst (intl l)] D4 H=.ok (.lst (intl l)) H:=by simp only[JD]; rfl
  have e2:evE C [.lst (r0::rest.map il),a,.int s,b,.lst (intl l)] D2 H=.ok (.int s) H:=by simp only[JD]; rfl
  have ai:evE C [.lst (r0::rest.map il),a,.int s,b,.lst (intl l)] (.bin .add D2 (.int 1)) H=.ok (.int ((s+1:Nat):Int)) H:=by
   clear hl hl' hr hs hn e le e2 e4;w_fin
  have u:=Uq e4 e2 (by lia) (by lia);have f:=zB e4 ai (by lia) (by lia);refine⟨[.lst (r0::rest.map il),a,.int s,b,.lst (intl l)],rfl,?_⟩;exact QfU u f (by rw[List.length_take,List.length_drop,le]; exact Nat.le_trans (Nat.add_le_add (Nat.min_le_right ..) (Nat.sub_le ..)) (nb (Nat.add_le_add hn hn) (by rfl)))
 ·refine congrArg (λl=>Out.ok (AV.lst l) H) (List.map_congr_left λl _=>?_)
  simp[il,intl,List.map_take,List.map_drop]
theorem pm0:pBin .mod (.int 0) (.int 2)=some (.int 0):=Q8 (by decide) (Qo (by decide))
theorem pm1:pBin .mod (.int 1) (.int 2)=some (.int 1):=Q8 (by decide) (Qo (by decide))
theorem pm2:pBin .mod (.int 2) (.int 2)=some (.int 0):=Q8 (by decide) (Qo (by decide))
theorem Ur {H:AH}(x:AV)(l:LA)(h:AV.data 6 (.lst (x::l))=true):pCmp H .eq (.lst (x::l)) (.lst [])=some false :=
 (Yx (a:=.lst (x::l)) (b:=.lst []) (P:=False) h rfl ⟨(λh=>nomatch h),False.elim⟩).trans rfl
theorem QfV (l:List Int):AV.data 5 (il l)=true:=by
 show (intl l).all (AV.data 4)=true;rw[List.all_eq_true];intro x hx;obtain⟨a,_,rfl⟩:=mmD hx;rfl
theorem Us (m:List (List Int)):AV.data 6 (.lst (m.map il))=true:=by
 show (m.map il).all (AV.data 5)=true;rw[List.all_eq_true];intro x hx;obtain⟨l,_,rfl⟩:=mmD hx;exact QfV l
theorem SG0 (hN:1<=N)(H:AH):(RN N).f 1084 [.lst []] H=.ok (.int 1) H:=by
 have e:pCmp [] .eq (.lst []) (.lst [])=some true:=K8 rfl;refine Qc Kq hN (J:=[.lst [],uS,uS,uS,uS]) rfl rfl (H':=[]) ?_ rfl H;simp only[Yu];w_fin
theorem SG1 (hN:2<=N)(a:Int)(ha:sm 3 a)(H:AH):(RN N).f 1084 [.lst [il [a]]] H=.ok (.int a) H:=by
 refine Qc Kq (oN hN) (J:=[.lst [il [a]],uS,uS,uS,uS]) rfl rfl (H':=[]) ?_ rfl H;have c0:=λx y=>YW (C:=RN (N-1)) 1 0 (by decide) (by decide) (il [a]) [] (λl h=>nomatch h) (by simp) x y []
 have e:=λH=>Ur (H:=H) (il [a]) [] (Us [[a]])
 have s0:=SG0 (pN hN) [];have p0:=pm0;have m1:=Qi (a:=1) (Qo (by decide)) (ha.big (by decide));have m2:=Qi (b:=1) (show Qg (1*a) by rw[Int.one_mul]; exact ha.big (by decide)) (Qo (by decide));have ad:=QT 0 (1*a*1);have fin:(0+1*a*1:Int)=a:=by grind
 simp only[List.map_nil,Int.natCast_zero] at c0;have ei:il [a]=.lst [.int a]:=rfl;rw[ei] at e c0;refine ei ▸ ?_;clear ha;simp only[Yu];w_fin
theorem SG2 (hN:3<=N)(a b c d:Int)(ha:sm 3 a)(hb:sm 3 b)(hc:sm 3 c)(hd:sm 3 d)(H:AH):(RN N).f 1084 [.lst [il [a,b],il [c,d]]] H=.ok (.int (det2 a b c d)) H:=by
 refine Qc Kq (oN hN) (J:=[.lst [il [a,b],il [c,d]],uS,uS,uS,uS]) rfl rfl (H':=[]) ?_ rfl H;have c0:∀x y,evE (RN (N-1)) [.lst [il [a,b],il [c,d]],x,.int 0,y,uS] D12 []=.ok (.lst [il [d]]) []:=λx y=>YW (C:=RN (N-1)) 2 0 (by decide) (by decide) (il [a,b]) [[c,d]] (λl h=>by simp only[List.mem_cons,List.not_mem_nil,or_false] at h; subst h; rfl) (by simp) x y []
 have qe:=λH=>Ur (H:=H) (il [a,b]) [il [c,d]] (Us [[a,b],[c,d]])
 have s0:=SG1 (pN hN) d hd [];have m0:=Qi (a:=1) (b:=a) (Qo (by decide)) (ha.big (by decide));have n0:=Qi (a:=1*a) (b:=d) ((sm.mul (show sm 1 1 by unfold sm; decide) ha).big (by decide)) (sm.big (a:=7) (hd.mono (by decide)) (by decide))
 have c1:∀x y,evE (RN (N-1)) [.lst [il [a,b],il [c,d]],x,.int 1,y,uS] D12 []=.ok (.lst [il [c]]) []:=λx y=>YW (C:=RN (N-1)) 2 1 (by decide) (by decide) (il [a,b]) [[c,d]] (λl h=>by simp only[List.mem_cons,List.not_mem_nil,or_false] at h; subst h; rfl) (by simp) x y []
 have a0:=QT (0) (1*a*d);have s1:=SG1 (pN hN) c hc [];have m1:=Qi (a:=(-1)) (b:=b) (Qo (by decide)) (hb.big (by decide));have n1:=Qi (a:=(-1)*b) (b:=c) ((sm.mul (show sm 1 (-1) by unfold sm; decide) hb).big (by decide)) (sm.big (a:=7) (hc.mono (by decide)) (by decide))
 have a1:=QT (0+1*a*d) ((-1)*b*c);have fin:(0+1*a*d+(-1)*b*c:Int)=det2 a b c d:=by unfold det2; grind
 have p0:=pm0;have p1:=pm1;have p2:=pm2;have ei:il [a,b]=.lst [.int a,.int b]:=rfl;rw[ei] at qe c0 c1;refine ei ▸ ?_;clear ha hb hc hd;simp only[Yu];w_fin
theorem SG3 (hN:4<=N)(a b c d e f g h i:Int)(ha:sm 3 a)(hb:sm 3 b)(hc:sm 3 c)(hd:sm 3 d)(he:sm 3 e)(hf:sm 3 f)(hg:sm 3 g)(hh:sm 3 h)(hi:sm 3 i)(H:AH):(RN N).f 1084 [.lst [il [a,b,c],il [d,e,f],il [g,h,i]]] H=.ok (.int (det3 a b c d e f g h i)) H:=by
 refine Qc Kq (oN hN) (J:=[.lst [il [a,b,c],il [d,e,f],il [g,h,i]],uS,uS,uS,uS]) rfl rfl (H':=[]) ?_ rfl H;have qe:=λH=>Ur (H:=H) (il [a,b,c]) [il [d,e,f],il [g,h,i]] (Us [[a,b,c],[d,e,f],[g,h,i]])
 have c0:∀x y,evE (RN (N-1)) [.lst [il [a,b,c],il [d,e,f],il [g,h,i]],x,.int 0,y,uS] D12 []=.ok (.lst [il [e,f],il [h,i]]) []:=λx y=>YW (C:=RN (N-1)) 3 0 (by decide) (by decide) (il [a,b,c]) [[d,e,f],[g,h,i]] (λl h=>by simp only[List.mem_cons,List.not_mem_nil,or_false] at h; rcases h with rfl | rfl<;>rfl) (by simp) x y []
 have m0:=Qi (a:=1) (b:=a) (Qo (by decide)) (ha.big (by decide));have s0:=SG2 (pN hN) e f h i he hf hh hi [];have n0:=Qi (a:=1*a) (b:=(det2 e f h i)) ((sm.mul (show sm 1 1 by unfold sm; decide) ha).big (by decide)) (sm.big (a:=7) (((he.mul hi).sub (hf.mul hh))) (by decide))
 have a0:=QT (0) (1*a*(det2 e f h i));have c1:∀x y,evE (RN (N-1)) [.lst [il [a,b,c],il [d,e,f],il [g,h,i]],x,.int 1,y,uS] D12 []=.ok (.lst [il [d,f],il [g,i]]) []:=λx y=>YW (C:=RN (N-1)) 3 1 (by decide) (by decide) (il [a,b,c]) [[d,e,f],[g,h,i]] (λl h=>by simp only[List.mem_cons,List.not_mem_nil,or_false] at h; rcases h with rfl | rfl<;>rfl) (by simp) x y []
 have m1:=Qi (a:=(-1)) (b:=b) (Qo (by decide)) (hb.big (by decide));have s1:=SG2 (pN hN) d f g i hd hf hg hi [];have n1:=Qi (a:=(-1)*b) (b:=(det2 d f g i)) ((sm.mul (show sm 1 (-1) by unfold sm; decide) hb).big (by decide)) (sm.big (a:=7) (((hd.mul hi).sub (hf.mul hg))) (by decide))
 have a1:=QT (0+1*a*(det2 e f h i)) ((-1)*b*(det2 d f g i));have c2:∀x y,evE (RN (N-1)) [.lst [il [a,b,c],il [d,e,f],il [g,h,i]],x,.int 2,y,uS] D12 []=.ok (.lst [il [d,e],il [g,h]]) []:=λx y=>YW (C:=RN (N-1)) 3 2 (by decide) (by decide) (il [a,b,c]) [[d,e,f],[g,h,i]] (λl h=>by simp only[List.mem_cons,List.not_mem_nil,or_false] at h; rcases h with rfl | rfl<;>rfl) (by simp) x y []
 have m2:=Qi (a:=1) (b:=c) (Qo (by decide)) (hc.big (by decide));have s2:=SG2 (pN hN) d e g h hd he hg hh [];have n2:=Qi (a:=1*c) (b:=(det2 d e g h)) ((sm.mul (show sm 1 1 by unfold sm; decide) hc).big (by decide)) (sm.big (a:=7) (((hd.mul hh).sub (he.mul hg))) (by decide))
 have a2:=QT (0+1*a*(det2 e f h i)+(-1)*b*(det2 d f g i)) (1*c*(det2 d e g h));have fin:(0+1*a*(det2 e f h i)+(-1)*b*(det2 d f g i)+1*c*(det2 d e g h):Int)=det3 a b c d e f g h i:=by unfold det3 det2; grind
 have p0:=pm0;have p1:=pm1;have p2:=pm2;have ei:il [a,b,c]=.lst [.int a,.int b,.int c]:=rfl;rw[ei] at qe c0 c1 c2;rw[ei];clear ha hb hc hd he hf hg hh hi;simp only[Yu];w_fin
noncomputable def dot:Nat->(Nat->Rat)->(Nat->Rat)->Rat
 | 0,_,_=>0
 | w+1,r,x=>dot w r x+r w*x w
theorem Jb (w:Nat)(r x:Nat->Rat):dot (w+1) r x=dot w r x+r w*x w:=rfl
theorem K9 (r x:Nat->Rat):dot 0 r x=0:=rfl
theorem QfW {C:Orc}:∀(b a:Nat) (o u:AV) (H:AH),Qg b->evS C (.whl (.cmp .gt D3 (.int 0)) B3) [o,u,I a,I b] H=.ok .next [o,u,I (Nat.gcd b a),I 0] H:=by
 intro b
 induction b using Nat.strongRecOn with
 | ind b ih =>
  intro a o u H hb;by_cases h0:b=0
  ·subst h0
   rw[Nat.gcd_zero_left];exact Jj (by w_fin)
  ·have hlt:a % b<b:=Nat.mod_lt _ (Nat.pos_of_ne_zero h0)
   have hi:=ih (a % b) hlt b o u H (Nat.lt_trans (show ((a % b:Nat):Int).natAbs<(b:Int).natAbs by rw[Int.natAbs_natCast,Int.natAbs_natCast]; exact hlt) hb)
   have hp:decide ((b:Int)>0)=true:=by simp; lia
   have hm:Int.fmod (a:Int) (b:Int)=((a % b:Nat):Int):=by rw[Int.fmod_eq_emod_of_nonneg _ (by lia)]; rfl
   have hbz:(b:Int)≠0:=by lia
   have hmod:=Q8 (a:=a) hbz hb;have hg:Nat.gcd (a % b) b=Nat.gcd b a:=by rw[Nat.gcd_rec b a]
   replace hmod:=hm ▸ hmod
   replace hi:=hg ▸ hi
   refine Kh (J':=[o,u,I b,I ((a % b:Nat):Int)]) (H':=H) ?_ ?_ hi nofun
   ·clear ih hi hlt hbz hb h0
    w_fin
   ·clear ih hi hlt hbz hb h0
    w_fin
theorem QfX (hN:1<=N)(o:Int)(u:Nat)(hu:u≠0)(hb:Qg u)(H:AH):(RN N).f 1062 [.int o,.int u] H=.ok (qr (Rat.divInt o u)) H:=by
 refine Qc QdR hN (J:=[.int o,.int u,uS,uS]) rfl rfl (H':=[]) ?_ rfl H;have lp:=QfW (C:=RN (N-1)) u o.natAbs (.int o) (.int u) [] hb;rw[Nat.gcd_comm] at lp;have g0:((Nat.gcd o.natAbs u:Nat):Int)≠0:=λq=>hu ((Nat.gcd_eq_zero_iff.mp (Int.natCast_eq_zero.mp q)).2)
 have gb:Qg ((Nat.gcd o.natAbs u:Nat):Int):=by
  have:=Nat.le_of_dvd (Nat.pos_of_ne_zero hu) (Nat.gcd_dvd_right o.natAbs u);exact Nat.lt_of_le_of_lt (by simp only[Int.natAbs_natCast,Int.natAbs_natCast]; exact this) hb
 have d1:=Q7 (a:=o) g0 gb;have d2:=Q7 (a:=(u:Int)) g0 gb;rw[V0 _ _ hu];clear g0 gb hu hb;simp only[Vn];w_fin
theorem QfY (x:Rat):x*(x.den:Rat)=(x.num:Rat):=by
 have h:=Jo x;have h2:(x.den:Rat)≠0:=λh=>x.den_nz (by exact_mod_cast h)
 rw[Rat.divInt_eq_div] at h;have e:(((x.den:Nat):Int):Rat)=(x.den:Rat):=rfl;rw[e] at h;grind
theorem QfZ {o:Int}{u:Nat}{d:Rat}(hu:u≠0)(h:(o:Rat)=d*u):Rat.divInt o u=d:=by
 have h2:(u:Rat)≠0:=λh=>hu (by exact_mod_cast h)
 have e:(((u:Nat):Int):Rat)=(u:Rat):=rfl;rw[Rat.divInt_eq_div];rw[e,h];grind
inductive SvI (L:AV->AV->AV->AV->AV->LA)(d:Rat)(e:Nat):LA->AH->Prop where
 | mk (o:Int)(u:Nat)(a b c:AV)(hu:u≠0)(ho:(o:Rat)=d*u)(bo:sm e o)(bu:sm e (u:Int)):SvI L d e (L (.int o) (.int u) a b c) []
theorem Ut (hN:2<=N)(n q:Nat)(hn:n<=3)(h0:0<n)(hq':q<=3)(z b:Nat->Nat->Int)(X:Nat->Nat->Rat)(hz:∀i j,i<n->j<n->sm 3 (z i j))(hX:∀i j,i<n->j<q->hq 213 (X i j))
  (hs:∀i j,i<n->j<q->dot n (λc=>(z i c:Rat)) (λc=>X c j)=(b i j:Rat)) (H:AH) :
  (RN N).f 1096 [.lst (Qa n n λi j=>some (z i j)),.lst (rwj n q λi j=>qr (X i j)),.lst (Qa n q λi j=>some (b i j))] H=.ok (.bool true) H:=by
 refine Qc QdW (oN hN) (J:=[.lst (Qa n n λi j=>some (z i j)),.lst (rwj n q λi j=>qr (X i j)),.lst (Qa n q λi j=>some (b i j)),uS,uS,uS,uS,uS,uS,uS]) rfl (by simp[Q5,YJ (e:=λi j=>qr (X i j)) λ_ _ _ _=>rfl]) (H':=[]) ?_ rfl H
 have n8:n<=1000000:=by lia
 have n9:n<1000000:=by lia
 have q8:q<=1000000:=by lia
 have q9:q<1000000:=by lia
 have l1:=Qv n n λi j=>some (z i j)
 have l2:=YH n q λi j=>qr (X i j)
 have l3:=Qv n q λi j=>some (b i j)
 have gq:=QG (w:=q) (R:=λi j=>some (b i j)) h0;have lq:=QK q λj=>some (b 0 j)
 obtain⟨J_1,H_1,e1,⟨s3,s4,s5,s6,s7,s8,s9⟩⟩:=QW (C:=RN (N-1)) (k:=3) (n:=n) (b:=[.for_ [4] true (.range1 (.len D46)) B31])
  (P:=λ_ J H=>Fr7 (λs3 s4 s5 s6 s7 s8 s9=>[.lst (Qa n n λi j=>some (z i j)),.lst (rwj n q λi j=>qr (X i j)),.lst (Qa n q λi j=>some (b i j)),s3,s4,s5,s6,s7,s8,s9]) [] J H)
  (λi hi J H hP=>by
   obtain⟨s3,s4,s5,s6,s7,s8,s9⟩:=hP;obtain⟨J_2,H_2,e2,⟨s4',s5',s6',s7',s8',s9'⟩⟩:=QW (C:=RN (N-1)) (k:=4) (n:=q) (b:=B31)
    (P:=λ_ J H=>Fr6 (λs4 s5 s6 s7 s8 s9=>[.lst (Qa n n λi j=>some (z i j)),.lst (rwj n q λi j=>qr (X i j)),.lst (Qa n q λi j=>some (b i j)),.int i,s4,s5,s6,s7,s8,s9]) [] J H)
    (λj hj J H hP=>by
     obtain⟨s4,s5,s6,s7,s8,s9⟩:=hP;obtain⟨J_3,H_3,e3,⟨o,u,s7',s8',s9',hu,ho',hbo,hbu⟩⟩:=QW (C:=RN (N-1)) (k:=7) (n:=n) (b:=B22)
      (P:=λk J H=>SvI (λo u s7 s8 s9=>[.lst (Qa n n λi j=>some (z i j)),.lst (rwj n q λi j=>qr (X i j)),.lst (Qa n q λi j=>some (b i j)),.int i,.int j,o,u,s7,s8,s9]) (dot k (λc=>(z i c:Rat)) (λc=>X c j)) (230*k+1) J H)
      (λk hk J H hP=>by
       obtain⟨o,u,s7,s8,s9,hu,ho',hbo,hbu⟩:=hP;have hXk:=hX k j hk hj;have sn:sm 213 (X k j).num:=hXk.1;have sd:sm 213 ((X k j).den:Int):=by unfold sm; rw[Int.natAbs_natCast]; exact hXk.2
       have sz:=hz i k hi hk;have bg:∀{a:Nat} {x:Int},sm a x->a<=4000->Qg x:=λh ha=>Nat.lt_of_lt_of_le h (Nat.pow_le_pow_right (by decide) ha)
       refine⟨.next,[.lst (Qa n n λi j=>some (z i j)),.lst (rwj n q λi j=>qr (X i j)),.lst (Qa n q λi j=>some (b i j)),.int i,.int j,.int (o*(X k j).den+z i k*(X k j).num*u),.int ((u*(X k j).den:Nat):Int),.int k,.int (X k j).num,.int (X k j).den],[],?_,.inl rfl,.mk _ _ _ _ _ ?_ ?_ ?_ ?_⟩
       ·have g1:=KC (c:=q) (e:=λi j=>qr (X i j)) hk
        have g2:((List.range q).map λj=>qr (X k j))[j]?=some (qr (X k j)):=by simp[hj]
        have l4:((List.range q).map λj=>qr (X k j)).length<=1000000:=by simp; lia
        have g3:=QG (w:=n) (R:=λi j=>some (z i j)) hi;have g4:(orow n λj=>some (z i j))[k]?=some (.int (z i k)):=Yc hk;have l5:=QK n λj=>some (z i j)
        have m1:=Qi (bg hbo (by lia)) (bg sd (by decide));have m2:=Qi (bg sz (by decide)) (bg sn (by decide));have m3:=Qi (bg (sz.mul sn) (by decide)) (bg hbu (by lia));have m4:pBin .mul (.int (u:Int)) (.int ((X k j).den:Int))=some (.int ((u*(X k j).den:Nat):Int)):=Qi (bg hbu (by lia)) (bg sd (by decide))
        have ad:=QT (o*(X k j).den) (z i k*(X k j).num*u);clear hz hX hs hi hj hk hXk sn sd sz bg hu ho' hbo hbu hn h0 hq';w_fin
       ·exact Nat.mul_ne_zero hu (X k j).den_nz
       ·have hd:=QfY (X k j)
        have e1:((o*(X k j).den+z i k*(X k j).num*u:Int):Rat)=(o:Rat)*((X k j).den:Rat)+(z i k:Rat)*((X k j).num:Rat)*(u:Rat):=by push_cast; rfl
        have e2:((u*(X k j).den:Nat):Rat)=(u:Rat)*((X k j).den:Rat):=by push_cast; rfl
        rw[e1,e2,ho',Jb,<-hd];grind
       ·refine ((hbo.mul sd).mono (show _<=230*k+1+213+3 by lia)).add (((sz.mul sn).mul hbu).mono (by lia)) |>.mono (by lia)
       ·have:=hbu.mul sd
        exact this.mono (by omega)) (J:=[.lst (Qa n n λi j=>some (z i j)),.lst (rwj n q λi j=>qr (X i j)),.lst (Qa n q λi j=>some (b i j)),.int i,.int j,.int 0,.int 1,s7,s8,s9]) (H:=[]) (.mk 0 1 s7 s8 s9 (by decide) (by rw[dot]; grind) (by unfold sm; decide) (by unfold sm; decide))
     have rt:=QfX (pN hN) o u hu (Nat.lt_of_lt_of_le hbu (Nat.pow_le_pow_right (by decide) (show 230*n+1<=4000 by lia))) []
     rw[QfZ hu ho',hs i j hi hj] at rt;have rt2:(RN (N-1)).f 1062 [.int o,.int u] []=.ok (.tup [.int (b i j),.int 1]) []:=rt;have cn:=JV (H:=[]) (a:=.tup [.int (b i j),.int 1]) rfl rfl;have g3:=QG (w:=q) (R:=λi j=>some (b i j)) hi;have g4:(orow q λj=>some (b i j))[j]?=some (.int (b i j)):=Yc hj;have l5:=QK q λj=>some (b i j)
     refine⟨.next,_,_,?_,.inl rfl,.mk (.int j) (.int o) (.int u) s7' s8' s9'⟩;clear hz hX hs hi hj hu ho' hbo hbu hn h0 hq' rt;w_fin) (J:=[.lst (Qa n n λi j=>some (z i j)),.lst (rwj n q λi j=>qr (X i j)),.lst (Qa n q λi j=>some (b i j)),.int i,s4,s5,s6,s7,s8,s9]) (H:=[]) (.mk ..)
   refine⟨.next,_,_,?_,.inl rfl,.mk (.int i) s4' s5' s6' s7' s8' s9'⟩;clear hz hX hs hi hn h0 hq';w_fin) (J:=[.lst (Qa n n λi j=>some (z i j)),.lst (rwj n q λi j=>qr (X i j)),.lst (Qa n q λi j=>some (b i j)),uS,uS,uS,uS,uS,uS,uS]) (H:=[]) (.mk ..)
 clear hz hX hs hn h0 hq';simp only[Vs];w_fin
noncomputable def ir (w:Nat)(r:Nat->Int):LA:=(List.range w).map λj=>.int (r j)
noncomputable def irw (w:Nat)(r:Nat->Int):AV:=.lst (ir w r)
theorem YX (w:Nat)(r:Nat->Int):(ir w r).length=w:=by simp[ir]
theorem YZ {w j:Nat}{r:Nat->Int}(h:j<w):(ir w r)[j]?=some (.int (r j)):=by simp[ir,h]
theorem ir_nc (w:Nat)(r:Nat->Int):AV.ncs (ir w r)=true:=QZ λx hx=>by
 obtain⟨j,_,rfl⟩:=mmD hx; rfl
theorem Qf0 (w:Nat)(L:List (Nat->Int)):AV.ncs (L.map (irw w))=true:=QZ λx hx=>by
 obtain⟨r,_,rfl⟩:=mmD hx; exact ir_nc w r
noncomputable def fnd (L:List (Nat->Int))(s:Nat):List (Nat->Int):=L.filter λr=>!decide (r s=0)
noncomputable def zr (L:List (Nat->Int))(s:Nat):List (Nat->Int):=L.filter λr=>decide (r s=0)
noncomputable def lmr (h:Nat->Int)(s:Nat)(r:Nat->Int):Nat->Int:=λe=>r e*h s-h e*r s
noncomputable def elm (L:List (Nat->Int))(s:Nat)(h:Nat->Int)(t:List (Nat->Int)):List (Nat->Int):=zr L s++t.map (lmr h s)
noncomputable def mst (L0:List (Nat->Int)):Nat->List (Nat->Int) × Nat
 | 0=>(L0,0)
 | s+1=>match fnd (mst L0 s).1 s with
  | []=>mst L0 s
  | h::t=>(elm (mst L0 s).1 s h t,(mst L0 s).2+1)
theorem Wo (L0:List (Nat->Int))(s:Nat):mst L0 (s+1)=(match fnd (mst L0 s).1 s with
  | []=>mst L0 s
  | h::t=>(elm (mst L0 s).1 s h t,(mst L0 s).2+1)):=rfl
noncomputable def mb:Nat->Nat
 | 0=>3
 | s+1=>mb s+mb s+1
theorem zE (s:Nat):mb s<=mb (s+1):=by show mb s<=mb s+mb s+1; lia
theorem zF (L:List (Nat->Int))(s:Nat):(zr L s).length+(fnd L s).length=L.length:=by
 unfold zr fnd
 induction L with
 | nil=>rfl
 | cons r L ih=>simp only[List.filter_cons,List.filter_cons]; cases decide (r s=0)<;>simp<;>lia
theorem Qf1 (L0:List (Nat->Int))(s:Nat):(mst L0 s).1.length<=L0.length:=by
 induction s with
 | zero=>exact Nat.le_refl _
 | succ s ih =>
  have ih:=ih;rw[Wo];cases hf:fnd (mst L0 s).1 s with
  | nil=>exact ih
  | cons h t =>
   have:=zF (mst L0 s).1 s;rw[hf] at this;simp only[elm,List.length_append,List.length_map];dsimp only[List.length_cons] at this
   lia
theorem Qf2 {L0:List (Nat->Int)}{w:Nat}(h:∀r∈L0,∀j,j<w->sm 3 (r j))(s:Nat):s<=w->∀r∈(mst L0 s).1,∀j,j<w->sm (mb s) (r j):=by
 induction s with
 | zero=>exact λ_=>h
 | succ s ih =>
  intro hs;have ih:=ih (by lia);rw[Wo];cases hf:fnd (mst L0 s).1 s with
  | nil=>exact λr hr j hj=>(ih r hr j hj).mono (zE s)
  | cons hd t =>
   intro r hr j hj;have mem:∀r∈hd::t,r∈(mst L0 s).1:=λr hr=>(List.mem_filter.mp (hf ▸ hr:r∈fnd (mst L0 s).1 s)).1
   rcases maD hr with hr | hr
   ·exact (ih r (List.mem_filter.mp hr).1 j hj).mono (zE s)
   ·obtain⟨r',hr',rfl⟩:=mmD hr
    have a:=ih r' (mem r' (.tail _ hr'));have b:=ih hd (mem hd (.head _));exact ((a j hj).mul (b s (by lia))).sub ((b j hj).mul (a s (by lia)))
theorem Qf3 {H:AH}(w:Nat)(r:Nat->Int)(l:List (Nat->Int)):pCmp H .eq (.lst (irw w r::l.map (irw w))) (.lst [])=some false:=by
 refine (Yx (a:=.lst (irw w r::l.map (irw w))) (b:=.lst []) (P:=False) ?_ rfl ⟨(λh=>nomatch h),False.elim⟩).trans rfl;show List.all _ (AV.data 5)=true;rw[List.all_eq_true];have hd:∀r,AV.data 5 (irw w r)=true:=λr=>by
  show (ir w r).all (AV.data 4)=true;simp only[List.all_eq_true];intro x hx;obtain⟨j,_,rfl⟩:=mmD hx;rfl
 intro x hx;rcases mcD hx with rfl | hx
 ·exact hd r
 ·obtain⟨r',_,rfl⟩:=mmD hx
  exact hd r'
theorem Qf4 {C:Orc}(w:Nat)(hw:w<=3)(L:List (Nat->Int))(hL:L.length<=3)(H:AH):evE C [.lst (L.map (irw w)),uS,uS,uS,uS,uS,uS,uS,uS,uS,uS] D109 H=.ok (.lst (L.map (irw w))) H:=by
 refine (QX (v:=.lst (L.map (irw w))) L (g:=irw w) (irw w) (by w_fin) rfl (by lia) rfl λr hr=>?_).trans rfl
 have l2:(ir w r).length<=100000:=by rw[YX]; lia
 refine⟨_,rfl,?_⟩;dsimp only[irw];clear hr hw hL;w_fin
theorem Qf5 {C:Orc}(w s:Nat)(hs:s<w)(hw:w<=3)(L:List (Nat->Int))(hL:L.length<=3)(a b x4 x5:AV)(H:AH):evE C [a,.lst (L.map (irw w)),b,.int s,x4,x5,uS,uS,uS,uS,uS] D87 H=.ok (.lst ((fnd L s).map (irw w))) H:=by
 refine (JF (v:=.lst (L.map (irw w))) L (g:=irw w) (irw w) (λr=>!decide (r s=0)) (by clear hs hw hL; w_fin) rfl (by lia) rfl λr hr=>?_).trans rfl
 have l2:(ir w r).length<=1000000:=by rw[YX]; lia
 have g:=YZ (r:=r) hs;refine⟨_,rfl,?_,λ_=>?_⟩
 ·simp only[irw]
  clear hr hs hw hL;w_fin
 ·simp only[irw]
  clear hr hs hw hL;w_fin
theorem Qf6 {C:Orc}(w s:Nat)(hs:s<w)(hw:w<=3)(L:List (Nat->Int))(hL:L.length<=3)(a b x4 x5:AV)(H:AH):evE C [a,.lst (L.map (irw w)),b,.int s,x4,x5,uS,uS,uS,uS,uS] D86 H=.ok (.lst ((zr L s).map (irw w))) H:=by
 refine (JF (v:=.lst (L.map (irw w))) L (g:=irw w) (irw w) (λr=>decide (r s=0)) (by clear hs hw hL; w_fin) rfl (by lia) rfl λr hr=>?_).trans rfl
 have g:=YZ (r:=r) hs;have l2:(ir w r).length<=1000000:=by rw[YX]; lia
 refine⟨_,rfl,?_,λ_=>?_⟩
 ·simp only[irw]
  clear hr hs hw hL;w_fin
 ·simp only[irw]
  clear hr hs hw hL;w_fin
theorem Qf7 {C:Orc}(w s:Nat)(hs:s<w)(hw:w<=3)(h:Nat->Int)(t:List (Nat->Int))(ht:t.length<=3)(hh:∀j,j<w->sm 31 (h j))(hr:∀r∈t,∀j,j<w->sm 31 (r j))(a b c:AV)(H:AH) :
  evE C [a,c,b,.int s,.lst (irw w h::t.map (irw w)),irw w h,uS,uS,uS,uS,uS] D19 H=.ok (.lst ((t.map (lmr h s)).map (irw w))) H:=by
 have e4:evE C [a,c,b,.int s,.lst (irw w h::t.map (irw w)),irw w h,uS,uS,uS,uS,uS] D4 H=.ok (.lst (irw w h::t.map (irw w))) H:=by simp only[JD]; rfl
 have ei:evE C [a,c,b,.int s,.lst (irw w h::t.map (irw w)),irw w h,uS,uS,uS,uS,uS] (.int 1) H=.ok (.int ((1:Nat):Int)) H:=Vv 1;refine (QX (v:=.lst (t.map (irw w))) t (λr=>irw w (lmr h s r)) (zB e4 ei (by simp; lia) (by simp; lia)) rfl (by lia) rfl λr hrt=>?_).trans (by simp only[List.map_map]; rfl)
 ·have lh:=YX w h
  have w8:w<=1000000:=by lia
  have w9:w<1000000:=by lia
  refine⟨_,rfl,(Qx (v:=.rng 0 w) w (λe=>.int (r e*h s-h e*r s)) (by simp only[irw]; clear hrt hs hw hh hr ht e4 ei; w_fin) QD (by lia) rfl λe he'=>?_).trans rfl⟩
  ·have g1:=YZ (r:=r) he'
   have g2:=YZ (r:=r) hs;have g3:=YZ (r:=h) he';have g4:=YZ (r:=h) hs;have lr:=YX w r;have m1:=Qi ((hr r hrt e he').big (by decide)) ((hh s hs).big (by decide));have m2:=Qi ((hh e he').big (by decide)) ((hr r hrt s hs).big (by decide));refine⟨_,rfl,?_⟩;simp only[irw];clear hrt hs hw hh hr ht e4 ei he';w_fin
theorem Qf8 (hN:1<=N)(w:Nat)(hw:w<=3)(r0:Nat->Int)(L':List (Nat->Int))(hL:L'.length<=2)(hr:∀r∈r0::L',∀j,j<w->sm 3 (r j))(H:AH):(RN N).f 1089 [.lst ((r0::L').map (irw w))] H=.ok (.int ((mst (r0::L') w).2:Nat)) H:=by
 refine Qc QdV hN (J:=[.lst ((r0::L').map (irw w)),uS,uS,uS,uS,uS,uS,uS,uS,uS,uS]) rfl (by rw[Js,Y4,Qf0]; rfl) (H':=[]) ?_ rfl H
 have cp:=Qf4 (C:=RN (N-1)) w hw (r0::L') (by simp; lia) [];have l0:=YX w r0;have l1:((r0::L').map (irw w)).length<=1000000:=by simp; lia
 have g0:((r0::L').map (irw w))[0]?=some (.lst (ir w r0)):=rfl;have w8:w<=1000000:=by lia
 have w9:w<1000000:=by lia
 obtain⟨L,hLe⟩:∃L,L=r0::L':=⟨_,rfl⟩;have hl3:L.length<=3:=by rw[hLe]; simp; lia
 rw[<-hLe] at cp l1 g0 hr ⊢;obtain⟨J_1,H_1,e1,⟨s3,s4,s5⟩⟩:=QW (C:=RN (N-1)) (k:=3) (n:=w) (b:=B32)
  (P:=λs J H=>Fr3 (λs3 s4 s5=>[.lst (L.map (irw w)),.lst ((mst L s).1.map (irw w)),.int ((mst L s).2:Nat),s3,s4,s5,uS,uS,uS,uS,uS]) ([]) J H)
  (λs hs J H hP=>by
   obtain⟨s3,s4,s5⟩:=hP;have ml:=Nat.le_trans (Qf1 L s) hl3;have ms:=Qf2 hr s (Nat.le_of_lt hs);have b31:mb s<=31:=by
    exact le2 (P:=λs=>mb s<=31) (Nat.le_of_lt_succ (Nat.lt_of_lt_of_le hs hw)) (by decide) (by decide) (by decide)
   have fl:=zF (mst L s).1 s;have fo:=λx4 x5=>Qf5 (C:=RN (N-1)) w s hs hw (mst L s).1 ml (.lst (L.map (irw w))) (.int ((mst L s).2:Nat)) x4 x5 []
   cases hf:fnd (mst L s).1 s with
   | nil =>
    have es:mst L (s+1)=mst L s:=by rw[Wo,hf]
    rw[es];refine⟨.cont,_,_,?_,.inr rfl,.mk (.int s) (.lst []) s5⟩;rw[hf] at fo;simp only[List.map_nil] at fo;have q:pCmp [] .eq (.lst []) (.lst [])=some true:=K8 rfl;clear hr hs hw hL ml ms b31 fl hf es hLe hl3;w_fin
   | cons h t =>
    have es:mst L (s+1)=(elm (mst L s).1 s h t,(mst L s).2+1):=by rw[Wo,hf]
    rw[es];rw[hf] at fo fl;simp only[List.map_cons] at fo;simp only[List.length_cons] at fl;have mem:∀r∈h::t,r∈(mst L s).1:=λr hr=>(List.mem_filter.mp (hf ▸ hr:r∈fnd (mst L s).1 s)).1
    have q:=Qf3 (H:=[]) w h t;have z:=λx4 x5 a=>Qf6 (C:=RN (N-1)) w s hs hw (mst L s).1 ml (.lst (L.map (irw w))) a x4 x5 []
    have le:=λa c=>Qf7 (C:=RN (N-1)) w s hs hw h t (by lia) (λj hj=>(ms h (mem h (.head _)) j hj).mono b31) (λr hr j hj=>(ms r (mem r (.tail _ hr)) j hj).mono b31) (.lst (L.map (irw w))) a c []
    have ln:((zr (mst L s).1 s).map (irw w)).length+((t.map (lmr h s)).map (irw w)).length<=1000000:=by simp; lia
    have ea:(zr (mst L s).1 s).map (irw w)++(t.map (lmr h s)).map (irw w)=(elm (mst L s).1 s h t).map (irw w):=by unfold elm; rw[List.map_append]
    have t8:(t.map (irw w)).length+1<=1000000:=by simp; lia
    refine⟨.next,[.lst (L.map (irw w)),.lst ((elm (mst L s).1 s h t).map (irw w)),.int (((mst L s).2+1:Nat):Int),.int s,.lst (irw w h::t.map (irw w)),irw w h,uS,uS,uS,uS,uS],_,?_,.inl rfl,.mk _ _ _⟩;have si:setAV (irw w h)=true:=rfl;clear hr hs hw hL ml ms b31 fl hf es mem hLe hl3;w_fin) (J:=[.lst (L.map (irw w)),.lst (L.map (irw w)),.int 0,uS,uS,uS,uS,uS,uS,uS,uS]) (H:=[]) (.mk _ _ _)
 clear hr hw hL hLe hl3;simp only[Vr];w_fin
end
theorem Ye {r s x y:Nat->Rat}{w:Nat}:(∀i,i<w->r i*x i=s i*y i)->dot w r x=dot w s y:=by
 induction w with
 | zero=>exact λ_=>rfl
 | succ w ih =>
  intro h;rw[Jb,Jb,ih λi hi=>h i (by omega),h w (by omega)]
theorem Uu (r x:Nat->Rat)(a:Nat)(b:Nat):dot (a+b) r x=dot a r x+dot b (λk=>r (a+k)) λk=>x (a+k):=by
 induction b with
 | zero =>
  rw[K9]; grind
 | succ b ih =>
  show dot (a+b) r x+r (a+b)*x (a+b)=_;simp only[ih,Jb]; grind
theorem Za {r x:Nat->Rat}{w:Nat}:(∀i,i<w->r i*x i=0)->dot w r x=0:=by
 induction w with
 | zero=>exact λ_=>rfl
 | succ w ih =>
  intro h;rw[Jb,ih λi hi=>h i (by lia),h w (by lia)]; grind
theorem Zb {r x:Nat->Rat}{s w:Nat}:s<w->(∀i,i<w->i≠s->r i*x i=0)->dot w r x=r s*x s:=by
 induction w with
 | zero=>exact λh=>absurd h (Nat.not_lt_zero _)
 | succ w ih =>
  intro hs h;rw[Jb];by_cases hw:s=w
  ·subst hw
   rw[Za λi hi=>h i (Nat.lt_succ_of_lt hi) (Nat.ne_of_lt hi),Rat.zero_add]
  ·rw[ih (Nat.lt_of_le_of_ne (Nat.le_of_lt_succ hs) hw) λi hi hne=>h i (Nat.lt_succ_of_lt hi) hne,h w (Nat.lt_succ_self w) (Ne.symm hw),Rat.add_zero]
theorem Qf9 (a b x:Nat->Rat)(p q:Rat)(w:Nat):dot w (λe=>a e*p-b e*q) x=dot w a x*p-dot w b x*q:=by
 induction w with
 | zero =>
  simp only[K9]; grind
 | succ w ih =>
  simp only[Jb,ih]; grind
noncomputable def up (x:Nat->Rat)(s:Nat)(v:Rat):Nat->Rat:=λi=>if i=s then v else x i
theorem Zc (r x:Nat->Rat)(s:Nat)(v:Rat)(w:Nat)(hs:s<w):dot w r (up x s v)=dot w r x+r s*(v-x s):=by
 induction w with
 | zero=>exact absurd hs (Nat.not_lt_zero _)
 | succ w ih =>
  rw[Jb,Jb];by_cases hw:s=w
  ·subst hw
   have e:dot s r (up x s v)=dot s r x:=Ye λi hi=>by rw[up,if_neg (Nat.ne_of_lt hi)]
   simp only[e,up,if_pos rfl]; grind
  ·rw[ih (Nat.lt_of_le_of_ne (Nat.le_of_lt_succ hs) hw),up,if_neg (Ne.symm hw)]; grind
noncomputable abbrev cR (r:Nat->Int):Nat->Rat:=λj=>(r j:Rat)
noncomputable def Ker (w:Nat)(L:List (Nat->Int))(x:Nat->Rat):Prop:=∀r∈L,dot w (cR r) x=0
noncomputable def Dep (w:Nat)(L:List (Nat->Int))(s:Nat):Prop:=∃x:Nat->Rat,(∃i,s<=i/\i<w/\x i≠0)/\(∀i,i<s->x i=0)/\Ker w L x
theorem zG (w:Nat)(h r:Nat->Int)(s:Nat)(x:Nat->Rat):dot w (cR (lmr h s r)) x=dot w (cR r) x*(h s:Rat)-dot w (cR h) x*(r s:Rat):=by
 rw[<-Qf9];refine Ye λi _=>?_
 have:cR (lmr h s r) i=cR r i*(h s:Rat)-cR h i*(r s:Rat):=by
  show ((r i*h s-h i*r s:Int):Rat)=_
  push_cast; rfl
 simp only[this]
theorem int0 {a:Int}(h:a≠0):(a:Rat)≠0:=λe=>h (by exact_mod_cast e)
theorem Qga {w s:Nat}{L:List (Nat->Int)}{h:Nat->Int}{t:List (Nat->Int)}(hs:s<w)(hf:fnd L s=h::t):Dep w L s↔Dep w (elm L s h t) (s+1):=by
 have mem:∀r∈h::t,r∈L/\r s≠0:=λr hr=>by
  have:=List.mem_filter.mp (hf ▸ hr:r∈fnd L s);exact⟨this.1,by simpa using this.2⟩
 have h0:=int0 (mem h (.head _)).2;constructor
 ·rintro ⟨x,⟨i,hi1,hi2,hi3⟩,hz,hk⟩
  refine⟨up x s 0,?_,?_,?_⟩
  ·refine Classical.byContradiction λhn=>?_
   have hall:∀j,s+1<=j->j<w->x j=0:=λj h1 h2=>Classical.byContradiction λh3=>hn ⟨j,h1,h2,by rw[up,if_neg (by lia)]; exact h3⟩
   have his:i=s:=Classical.byContradiction λh=>hi3 (hall i (by lia) hi2)
   subst his;have e:=hk h (mem h (.head _)).1;rw[Zb hi2 λj hj hne=>by
    rcases Nat.lt_or_gt_of_ne hne with hl | hl
    ·rw[hz j hl]; grind
    ·rw[hall j hl hj]; grind] at e
   grind
  ·intro j hj
   by_cases hjs:j=s
   ·rw[up,if_pos hjs]
   ·rw[up,if_neg hjs]; exact hz j (by lia)
  ·intro r hr
   rcases maD hr with hr | hr
   ·have hm:=List.mem_filter.mp hr
    have hrs:r s=0:=by simpa using hm.2
    rw[Zc _ _ _ _ _ hs,hk r hm.1];show 0+((r s:Int):Rat)*_=0;rw[hrs]; grind
   ·obtain⟨r',hr',rfl⟩:=mmD hr
    rw[zG,Zc _ _ _ _ _ hs,Zc _ _ _ _ _ hs,hk r' (mem r' (.tail _ hr')).1,hk h (mem h (.head _)).1];grind
 ·rintro ⟨x,⟨i,hi1,hi2,hi3⟩,hz,hk⟩
  have xs:x s=0:=hz s (by lia);refine⟨up x s (-(dot w (cR h) x)*(h s:Rat)⁻¹),⟨i,by lia,hi2,by rw[up,if_neg (by lia)]; exact hi3⟩,λj hj=>by rw[up,if_neg (by lia)]; exact hz j (by lia),λr hr=>?_⟩
  rw[Zc _ _ _ _ _ hs,xs];by_cases hrs:r s=0
  ·have e:=hk r (List.mem_append_left _ (List.mem_filter.mpr ⟨hr,by simp[hrs]⟩))
   rw[e];show 0+((r s:Int):Rat)*_=0;refine hrs ▸ ?_; grind
  ·have hr2:r∈h::t:=hf ▸ (List.mem_filter.mpr ⟨hr,by simp[hrs]⟩:r∈fnd L s)
   rcases mcD hr2 with rfl | hr3
   ·show dot w (cR r) x+(r s:Rat)*_=0
    grind
   ·have e:=hk (lmr h s r) (List.mem_append_right _ (List.mem_map.mpr ⟨r,hr3,rfl⟩))
    rw[zG] at e;show dot w (cR r) x+(r s:Rat)*_=0;grind
theorem Qgb {w:Nat}(L0:List (Nat->Int))(s:Nat):s<=w->((mst L0 s).2<s/\Dep w L0 0)\/((mst L0 s).2=s/\(Dep w L0 0↔Dep w (mst L0 s).1 s)):=by
 induction s with
 | zero=>exact λ_=>.inr ⟨rfl,Iff.rfl⟩
 | succ s ih =>
  intro hs;have ih:=ih (by lia);rw[Wo];cases hf:fnd (mst L0 s).1 s with
  | nil =>
   left;rcases ih with ⟨h1,h2⟩ | ⟨h1,h2⟩
   ·exact⟨by dsimp only; lia,h2⟩
   ·refine⟨by dsimp only; lia,h2.mpr ⟨λi=>if i=s then 1 else 0,⟨s,Nat.le_refl _,hs,by simp⟩,λi hi=>if_neg (by lia),λr hr=>?_⟩⟩
    have hrs:r s=0:=Classical.byContradiction λh=>by
     have:r∈fnd (mst L0 s).1 s:=List.mem_filter.mpr ⟨hr,by simp[h]⟩
     replace this:=hf ▸ this; cases this
    refine Za λi _=>?_
    by_cases hi:i=s
    ·subst hi
     show ((r i:Int):Rat)*_=0;refine hrs ▸ ?_; grind
    ·rw[if_neg hi]; grind
  | cons h t =>
   rcases ih with ⟨h1,h2⟩ | ⟨h1,h2⟩
   ·exact .inl ⟨by dsimp only; lia,h2⟩
   ·exact .inr ⟨by dsimp only; lia,h2.trans (Qga hs hf)⟩
theorem Uv {w:Nat}(L0:List (Nat->Int)):(mst L0 w).2<w↔Dep w L0 0:=by
 rcases Qgb (w:=w) L0 w (Nat.le_refl _) with ⟨h1,h2⟩ | ⟨h1,h2⟩
 ·exact⟨λ_=>h2,λ_=>h1⟩
 ·constructor
  ·intro h; lia
  ·intro h
   obtain⟨-,⟨i,hi1,hi2,_⟩,_⟩:=h2.mp h
   lia
noncomputable def KerR (n w:Nat)(R:Nat->Nat->Rat)(x:Nat->Rat):Prop:=∀i,i<n->dot w (R i) x=0
theorem zH (R:Nat->Nat->Rat)(t f i:Nat):swp R t f i=if i=f then R t else if i=t then R f else R i:=rfl
theorem Qgc (R:Nat->Nat->Rat)(t c i:Nat):scl R t c i=if i=t then (λj=>R t j*(R t c)⁻¹) else R i:=rfl
theorem zJ (R:Nat->Nat->Rat)(p c i:Nat):clr R p c i=if i=p then R i else λj=>R i j-R i c*R p j:=rfl
theorem Qgd {n w t f:Nat}{R:Nat->Nat->Rat}{x:Nat->Rat}(ht:t<n)(hf:f<n):KerR n w (swp R t f) x↔KerR n w R x:=by
 unfold KerR;simp only[zH];constructor
 ·intro h i hi
  by_cases h1:i=t
  ·subst h1
   have:=h f hf;rw[if_pos rfl] at this; exact this
  ·by_cases h2:i=f
   ·subst h2
    have:=h t ht;by_cases h3:t=i
    ·exact absurd h3.symm h1
    ·rw[if_neg h3,if_pos rfl] at this; exact this
   ·have:=h i hi
    rw[if_neg h2,if_neg h1] at this; exact this
 ·intro h i hi
  split
  ·exact h t ht
  ·split
   ·exact h f hf
   ·exact h i hi
theorem zK (r x:Nat->Rat)(c:Rat)(w:Nat):dot w (λj=>r j*c) x=dot w r x*c:=by
 induction w with
 | zero =>
  simp only[K9]; grind
 | succ w ih =>
  simp only[Jb,ih]; grind
theorem Qge {n w t c:Nat}{R:Nat->Nat->Rat}{x:Nat->Rat}(ht:t<n)(h0:R t c≠0):KerR n w (scl R t c) x↔KerR n w R x:=by
 have hi0:(R t c)⁻¹≠0:=λh=>by
  have:=Rat.mul_inv_cancel (R t c) h0;simp only[h] at this; grind
 unfold KerR;simp only[Qgc];constructor
 ·intro h i hi
  by_cases h1:i=t
  ·subst h1
   have:=h i hi;rw[if_pos rfl,zK] at this;grind
  ·have:=h i hi
   rw[if_neg h1] at this; exact this
 ·intro h i hi
  split
  ·rw[zK,h t ht]; grind
  ·exact h i hi
theorem zL (a b x:Nat->Rat)(q:Rat)(w:Nat):dot w (λe=>a e-q*b e) x=dot w a x-q*dot w b x:=by
 induction w with
 | zero =>
  simp only[K9]; grind
 | succ w ih =>
  simp only[Jb,ih]; grind
theorem Qgf {n w p c:Nat}{R:Nat->Nat->Rat}{x:Nat->Rat}(hp:p<n):KerR n w (clr R p c) x↔KerR n w R x:=by
 unfold KerR;simp only[zJ];constructor
 ·intro h i hi
  have hpp:=h p hp;rw[if_pos rfl] at hpp;by_cases h1:i=p
  ·subst h1; exact hpp
  ·have:=h i hi
   rw[if_neg h1,zL,hpp] at this;grind
 ·intro h i hi
  split
  ·exact h i hi
  ·simp only[zL,h i hi,h p hp]; grind
theorem Qgg {n w t f c:Nat}{R:Nat->Nat->Rat}{x:Nat->Rat}(ht:t<n)(hf:f<n)(h0:R f c≠0):KerR n w (stp R t f c) x↔KerR n w R x:=by
 unfold stp;rw[Qgf ht,Qge ht (by rw[KQ]; exact h0),Qgd ht hf]
theorem Uw {n w:Nat}{M:Nat->Nat->Rat}{x:Nat->Rat}(c:Nat):(ech n M c).2.length<=n/\(KerR n w (ech n M c).1 x↔KerR n w M x):=by
 induction c with
 | zero=>exact⟨Nat.zero_le _,Iff.rfl⟩
 | succ c ih =>
  obtain⟨h1,h2⟩:=ih;rw[JS];cases hf:ff n (ech n M c).1 (ech n M c).2.length c with
  | none=>exact⟨h1,h2⟩
  | some f =>
   obtain⟨q1,q2,q3⟩:=KR hf;exact⟨by simp; lia,(Qgg (by lia) q2 q3).trans h2⟩
noncomputable def Unit (n c:Nat)(R:Nat->Nat->Rat):Prop:=∀i j,i<n->j<c->R i j=if i=j then 1 else 0
theorem Qgh {n f c:Nat}{R:Nat->Nat->Rat}(hc:c<n)(hf1:c<=f)(hf:f<n)(h0:R f c≠0)(hu:Unit n c R):Unit n (c+1) (stp R c f c):=by
 have hsw:Unit n c (swp R c f):=λi j hi hj=>by
  rw[zH];by_cases h1:i=f
  ·rw[if_pos h1,hu c j hc hj,if_neg (by lia),if_neg (by lia)]
  ·rw[if_neg h1]
   by_cases h2:i=c
   ·rw[if_pos h2,hu f j hf hj,if_neg (by lia),if_neg (by lia)]
   ·rw[if_neg h2]; exact hu i j hi hj
 have hcc:swp R c f c c≠0:=by rw[KQ]; exact h0
 intro i j hi hj;have e1:∀k,scl (swp R c f) c c c k=swp R c f c k*(swp R c f c c)⁻¹:=λk=>by unfold scl updR; rw[if_pos rfl]
 have e2:∀i k,i≠c->scl (swp R c f) c c i k=swp R c f i k:=λi k h=>by unfold scl updR; rw[if_neg h]
 simp only[stp,zJ];have hinv:=Rat.mul_inv_cancel _ hcc;by_cases hic:i=c
 ·rw[if_pos hic,hic,e1]
  by_cases hjc:j=c
  ·rw[hjc,if_pos rfl]; exact hinv
  ·rw[hsw c j hc (by lia),if_neg (by lia)]; grind
 ·rw[if_neg hic]
  simp only[e2 i j hic,e2 i c hic,e1];by_cases hjc:j=c
  ·rw[hjc,hinv,if_neg hic]; grind
  ·rw[hsw c j hc (by lia),hsw i j hi (by lia),if_neg (show ¬c=j by lia)]; grind
theorem Qgi (c:Nat):List.range c++[c]=List.range (c+1):=(List.range_succ).symm
theorem Qgj {n:Nat}{M:Nat->Nat->Rat}(c:Nat):c<=n->((ech n M c).2=List.range c/\Unit n c (ech n M c).1) \/
  ∃c0,c0<c/\(ech n M c0).2=List.range c0/\Unit n c0 (ech n M c0).1/\(∀i,c0<=i->i<n->(ech n M c0).1 i c0=0):=by
 induction c with
 | zero=>exact λ_=>.inl ⟨rfl,λ_ _ _ h=>absurd h (by lia)⟩
 | succ c ih =>
  intro hc;rcases ih (by lia) with ⟨h1,h2⟩ | ⟨c0,h1,h2⟩
  ·simp only[JS,h1,List.length_range]
   cases hf:ff n (ech n M c).1 c c with
   | none=>exact .inr ⟨c,by lia,h1,h2,Qfa hf⟩
   | some f =>
    obtain⟨q1,q2,q3⟩:=KR hf;exact .inl ⟨Qgi c,Qgh (by lia) q1 q2 q3 h2⟩
  ·exact .inr ⟨c0,by lia,h2⟩
theorem Qgk {n:Nat}{M:Nat->Nat->Rat}{c0:Nat}(h1:(ech n M c0).2=List.range c0)(h2:∀i,c0<=i->i<n->(ech n M c0).1 i c0=0)(d:Nat):∃l,(ech n M (c0+1+d)).2=List.range c0++l/\∀x∈l,c0<x:=by
 induction d with
 | zero =>
  refine⟨[],?_,λx h=>nomatch h⟩;have hn:ff n (ech n M c0).1 c0 c0=none:=List.find?_eq_none.mpr λi hi=>by
   have:=Wj.mp hi;simp[h2 i this.1 this.2]
  rw[Nat.add_zero,JS,h1,List.length_range,hn,h1]; simp
 | succ d ih =>
  obtain⟨l,e1,e2⟩:=ih;rw[<-Nat.add_assoc,JS];cases hf:ff n (ech n M (c0+1+d)).1 (ech n M (c0+1+d)).2.length (c0+1+d) with
  | none=>exact⟨l,e1,e2⟩
  | some f =>
   refine⟨l++[c0+1+d],by dsimp only; rw[e1,List.append_assoc],λx hx=>?_⟩;rcases maD hx with h | h
   ·exact e2 x h
   ·have:=msD h; lia
theorem Qgl {n:Nat}{M:Nat->Nat->Rat}(h1:(ech n M n).2=List.range n)(d:Nat):ech n M (n+d)=ech n M n:=by
 induction d with
 | zero=>exact rfl
 | succ d ih =>
  rw[<-Nat.add_assoc,JS,ih,h1,List.length_range];have hn:ff n (ech n M n).1 n (n+d)=none:=List.find?_eq_none.mpr λi hi=>by
   have:=Wj.mp hi; omega
  simp only[hn]
theorem Qgm (n:Nat):fd (List.range n) n=none:=List.find?_eq_none.mpr λc hc=>by
 have:=List.mem_range.mp hc;simp[this]
theorem Qgn {p:Nat->Bool}{c n:Nat}:c<n->p c=true->(∀i,i<c->p i=false)->(List.range n).find? p=some c:=by
 induction n with
 | zero=>exact λh=>absurd h (Nat.not_lt_zero _)
 | succ n ih =>
  intro hn hc hp;rw[List.range_succ,List.find?_append];by_cases h:c<n
  ·rw[ih h hc hp]; rfl
  ·obtain rfl:c=n:=Nat.le_antisymm (Nat.le_of_lt_succ hn) (Nat.le_of_not_lt h)
   rw[List.find?_eq_none.mpr λi hi=>by rw[hp i (List.mem_range.mp hi)]; exact Bool.false_ne_true,Option.none_or,List.find?_cons,hc]
theorem Qgo {n c0:Nat}{l:List Nat}(hc:c0<n)(hl:∀x∈l,c0<x):fd (List.range c0++l) n=some c0:=by
 refine Qgn hc ?_ λi hi=>?_
 ·have:(List.range c0++l)[c0]?≠some c0:=by
   rw[List.getElem?_append_right (by simp)];simp only[List.length_range,Nat.sub_self];intro h;have:=hl c0 (List.mem_of_getElem? h)
   lia
  simpa using this
 ·rw[List.getElem?_append_left (by simpa using hi)]
  simp[hi]
section
noncomputable def rowsOf (n:Nat)(z:Nat->Nat->Int):List (Nat->Int):=(List.range n).map λi=>z i
theorem zM {n w:Nat}{z:Nat->Nat->Int}{x:Nat->Rat}:Ker w (rowsOf n z) x↔∀i,i<n->dot w (cR (z i)) x=0:=by
 constructor
 ·intro h i hi
  exact h (z i) (List.mem_map.mpr ⟨i,List.mem_range.mpr hi,rfl⟩)
 ·intro h r hr
  obtain⟨i,hi,rfl⟩:=mmD hr;exact h i (List.mem_range.mp hi)
theorem Qgp {n q:Nat}{A B:Nat->Nat->Rat}(i:Nat)(x:Nat->Rat):dot (n+q) (jn n A B i) x=dot n (A i) x+dot q (B i) λk=>x (n+k):=by
 rw[Uu];congr 1
 ·exact Ye λj hj=>by rw[jn,if_pos hj]
 ·refine Ye λj _=>?_
  have e:jn n A B i (n+j)=B i j:=by
   show (if n+j<n then A i (n+j) else B i (n+j-n))=B i j;rw[if_neg (Nat.not_lt.mpr (Nat.le_add_right n j)),Nat.add_sub_cancel_left]
  simp only[e]
noncomputable def cut (w:Nat)(x:Nat->Rat):Nat->Rat:=λk=>if k<w then x k else 0
theorem Ux {w:Nat}{r x:Nat->Rat}:∀d,dot (w+d) r (cut w x)=dot w r x:=λd=>by
 rw[Uu];have e1:dot w r (cut w x)=dot w r x:=Ye λi hi=>by rw[cut,if_pos hi]
 have e2:dot d (λk=>r (w+k)) (λk=>cut w x (w+k))=0:=Za λi _=>by
  have:cut w x (w+i)=0:=by rw[cut,if_neg (by omega)]
  rw[this]; grind
 simp only[e1,e2]; grind
theorem Uy {n c w:Nat}{R:Nat->Nat->Rat}(hu:Unit n c R)(hw:w<=c){i:Nat}(hi:i<n)(x:Nat->Rat):dot w (R i) x=if i<w then x i else 0:=by
 by_cases h:i<w
 ·rw[if_pos h,Zb h λj hj hne=>by rw[hu i j hi (by lia),if_neg (Ne.symm hne)]; grind]
  rw[hu i i hi (by lia),if_pos rfl]; grind
 ·refine (if_neg h) ▸ ?_
  exact Za λj hj=>by rw[hu i j hi (by lia),if_neg (by lia)]; grind
section
variable {n q:Nat}{z:Nat->Nat->Int}{B:Nat->Nat->Rat}
theorem zN {w:Nat}(hw:w<=n)(i:Nat)(x:Nat->Rat):dot (n+q) (jn n (zm z) B i) (cut w x)=dot w (cR (z i)) x:=by
 obtain⟨d,rfl⟩:∃d,n=w+d:=⟨n-w,(Nat.add_sub_cancel' hw).symm⟩;simp only[Nat.add_assoc,Ux];exact Ye λj hj=>by rw[jn,if_pos (Nat.lt_of_lt_of_le hj (Nat.le_add_right _ _))]
theorem zO {c w:Nat}(hc:c<=n)(hw:w<=c)(hu:Unit n c (ech n (jn n (zm z) B) c).1):¬Dep w (rowsOf n z) 0:=by
 rintro ⟨x,⟨i,_,hi,h0⟩,_,hk⟩
 have hk:=zM.mp hk;have k1:KerR n (n+0) (jn n (zm z) B) (cut w x):=λi' hi'=>by rw[zN (Nat.le_trans hw hc)]; exact hk i' hi'
 obtain⟨d,hd⟩:∃d,n+0=w+d:=⟨n+0-w,(Nat.add_sub_cancel' (Nat.le_trans hw hc)).symm⟩;have k2:=(Uw (w:=n+0) (x:=cut w x) c).2.mpr k1 i (by lia);rw[hd,Ux,Uy hu hw (by lia),if_pos hi] at k2;exact h0 k2
theorem Qgq {c:Nat}(hc:c<n)(hu:Unit n c (ech n (jn n (zm z) B) c).1)(h0:∀i,c<=i->i<n->(ech n (jn n (zm z) B) c).1 i c=0):Dep (c+1) (rowsOf n z) 0:=by
 refine⟨λk=>if k=c then 1 else -(ech n (jn n (zm z) B) c).1 k c,⟨c,Nat.zero_le _,Nat.lt_succ_self c,by simp⟩,λi hi=>absurd hi (by lia),zM.mpr λi hi=>?_⟩
 rw[<-zN (n:=n) (z:=z) (q:=0) (B:=B) (w:=c+1) (by lia)];obtain⟨d,hd⟩:∃d,n+0=(c+1)+d:=⟨n+0-(c+1),(Nat.add_sub_cancel' hc).symm⟩;refine (Uw (w:=n+0) c).2.mp (λi hi=>?_) i hi;rw[hd,Ux,Jb,if_pos rfl,Uy hu (Nat.le_refl c) hi];by_cases h:i<c
 ·rw[if_pos h,if_neg (by lia)]; grind
 ·rw[if_neg h,h0 i (by lia) hi]; grind
theorem zP:(fd (ech n (jn n (zm z) B) (n+q)).2 n=none/\Unit n n (ech n (jn n (zm z) B) (n+q)).1/\∀w,w<=n->¬(mst (rowsOf n z) w).2<w) \/
  ∃c,c<n/\fd (ech n (jn n (zm z) B) (n+q)).2 n=some c/\(mst (rowsOf n z) (c+1)).2<c+1/\∀w,w<=c->¬(mst (rowsOf n z) w).2<w:=by
 rcases Qgj (n:=n) (M:=jn n (zm z) B) n (Nat.le_refl n) with ⟨h1,h2⟩ | ⟨c,h1,h2,h3,h4⟩
 ·refine (Qgl h1 q) ▸ ?_
  refine .inl ⟨by rw[h1]; exact Qgm n,h2,λw hw h=>?_⟩;exact zO (Nat.le_refl n) hw h2 ((Uv _).mp h)
 ·right
  obtain⟨l,e1,e2⟩:=Qgk h2 h4 (n+q-(c+1));rw[Nat.add_sub_cancel' (Nat.le_trans h1 (Nat.le_add_right n q))] at e1;refine⟨c,h1,by rw[e1]; exact Qgo h1 e2,(Uv _).mpr (Qgq h1 h3 h4),λw hw h=>?_⟩;exact zO (Nat.le_of_lt h1) hw h3 ((Uv _).mp h)
theorem Uz (hu:Unit n n (ech n (jn n (zm z) B) (n+q)).1)(i j:Nat)(hi:i<n)(hj:j<q) :
  dot n (cR (z i)) (λk=>(ech n (jn n (zm z) B) (n+q)).1 k (n+j))=B i j:=by
 obtain⟨X,hX⟩:∃X:Nat->Rat,X=λk=>(ech n (jn n (zm z) B) (n+q)).1 k (n+j):=⟨_,rfl⟩
 obtain⟨y,hy⟩:∃y:Nat->Rat,y=λk=>if k<n then X k else if k=n+j then -1 else 0:=⟨_,rfl⟩
 have yn:∀k,k<n->y k=X k:=λk hk=>by rw[hy]; exact if_pos hk
 have yo:∀k,k≠j->y (n+k)=0:=λk hk=>by rw[hy]; dsimp only; rw[if_neg (by lia),if_neg (by lia)]
 have yj:y (n+j)=-1:=by rw[hy]; dsimp only; rw[if_neg (by lia),if_pos rfl]
 have kR:KerR n (n+q) (ech n (jn n (zm z) B) (n+q)).1 y:=λi hi=>by
  have e1:dot n ((ech n (jn n (zm z) B) (n+q)).1 i) y=X i:=by
   rw[Uy hu (Nat.le_refl n) hi,if_pos hi,yn i hi]
  rw[Uu,e1,Zb hj λk hk hne=>by rw[yo k hne]; grind];rw[yj];have:(ech n (jn n (zm z) B) (n+q)).1 i (n+j)=X i:=by rw[hX]
  rw[this]; grind
 have kM:=(Uw (w:=n+q) (n+q)).2.mp kR i hi;rw[Qgp,Zb hj λk hk hne=>by rw[yo k hne]; grind,yj] at kM;have e2:dot n (zm z i) y=dot n (cR (z i)) X:=Ye λk hk=>by rw[yn k hk]
 rw[e2] at kM;rw[<-hX];grind
end
end
section
variable {N:Nat}
theorem zQ {k:Nat}(h:k<=3):sing k≠"":=λe=>by
 have l:=congrArg String.length e;unfold sing at l;have l1:"Lapack routine dgesv: system is exactly singular: U[".length=52:=by decide +kernel
 have l2:"".length=0:=by decide +kernel
 simp only[String.length_append,String.length_append,String.length_append,String.length_append,l1,l2] at l
 lia
theorem Qgr {C:Orc}{J:LA}{H:AH}(a:PE):evE C J (.strof a) H=(evE C J a H).bind λx H=>.opt x.int? λi=>if i.natAbs<1000000 then .ok (.str (toString i)) H else .stuck:=rfl
theorem Zd {a b:String}(h:a.length+b.length<=100000):pBin .add (.str a) (.str b)=some (.str (a++b)):=if_pos h
theorem Qgs {C:Orc}{J:LA}{H:AH}{k:Nat}(h:k<=3)(e:J[6]?=some (.int k)) :
  evE C J (.bin .add (.bin .add (.bin .add (.bin .add (.str "Lapack routine dgesv: system is exactly singular: U[") (.strof D9)) (.str ",")) (.strof D9)) (.str "] = 0")) H=.ok (.str (sing k)) H:=by
 have t:=yL h;have l1:"Lapack routine dgesv: system is exactly singular: U[".length=52:=by decide +kernel
 have l2:",".length=1:=by decide +kernel
 have l3:"] = 0".length=5:=by decide +kernel
 have f:evE C J (.strof D9) H=.ok (.str (toString (k:Int))) H:=by
  simp only[Qgr,JD,e,lo_i];have k9:k<1000000:=nl (by assumption) (by rfl);exact if_pos (show (k:Int).natAbs<1000000 from k9)
 unfold sing;generalize "Lapack routine dgesv: system is exactly singular: U["=s1 at *
 generalize ","=s2 at *
 generalize "] = 0"=s3 at *
 generalize toString (k:Int)=s4 at *
 have a1:=Zd (a:=s1) (b:=s4) (by lia);have a2:=Zd (a:=s1++s4) (b:=s2) (by rw[String.length_append]; lia);have a3:=Zd (a:=s1++s4++s2) (b:=s4) (by rw[String.length_append,String.length_append]; lia);have a4:=Zd (a:=s1++s4++s2++s4) (b:=s3) (by simp only[String.length_append,String.length_append,String.length_append]; lia);simp only[jh,Wg,f,jd,jc,Out.ofOpt_some,a1,a2,a3,a4]
theorem Qgt (hN:1<=N)(w:Nat)(hw:w<=3)(L:List (Nat->Int))(h0:0<L.length)(hL:L.length<=3)(hr:∀r∈L,∀j,j<w->sm 3 (r j))(H:AH):(RN N).f 1089 [.lst (L.map (irw w))] H=.ok (.int ((mst L w).2:Nat)) H:=by
 cases L with
 | nil=>cases h0
 | cons r0 L'=>exact Qf8 hN w hw r0 L' (by simp at hL; omega) hr H
noncomputable abbrev zo (z:Nat->Nat->Int):Nat->Nat->Option Int:=λi j=>some (z i j)
theorem Qgu {C:Orc}(n w:Nat)(hn:n<=3)(hw:w<=n)(z:Nat->Nat->Int)(a b c d e f g h i j k l m o:AV)(H:AH) :
  evE C [.lst (Qa n n (zo z)),a,b,c,d,e,.int w,f,g,h,i,j,k,l,m,uS,uS,uS,uS] D101 H=.ok (.lst ((rowsOf n z).map (irw w))) H:=by
 refine (Qx (v:=.lst (Qa n n (zo z))) n (λi=>.lst ((orow n (zo z i)).take w)) (by w_fin) rfl (by lia) rfl λi' hi=>?_).trans ?_
 ·have lr:=QK n (zo z i')
  exact⟨[.lst (Qa n n (zo z)),a,b,c,d,e,.int w,f,g,h,i,j,k,l,m,.lst (orow n (zo z i')),uS,uS,uS],rfl,Uq (by rw[JD]; rfl) (by rw[JD]; rfl) (by lia) (by lia)⟩
 ·simp only[rowsOf,List.map_map]
  refine congrArg (λl=>Out.ok (AV.lst l) H) (List.map_congr_left λi _=>congrArg AV.lst ?_);unfold orow;rw[<-List.map_take,List.take_range,Nat.min_eq_left hw];rfl
noncomputable def DU:Option Nat->Nat->String
 | none,_=>""
 | some c,k=>if k<=c then "" else sing (c+1)
theorem zR (hN:1<=N)(n:Nat)(hn:n<=3)(h0:0<n)(z:Nat->Nat->Int)(hz:∀i j,i<n->j<n->sm 3 (z i j))(o:Option Nat)
  (ho:(o=none/\∀w,w<=n->¬(mst (rowsOf n z) w).2<w)\/∃c,c<n/\o=some c/\(mst (rowsOf n z) (c+1)).2<c+1/\∀w,w<=c->¬(mst (rowsOf n z) w).2<w) (a1 a2 a4:AV) (H:AH) :
  ∃x6,forL (RN N) [6] true B28
   ((rgn 1 (n+1)).map λ(i:Nat)=>AV.int (i:Int)) [.lst (Qa n n (zo z)),a1,a2,.int n,a4,.str "",uS,uS,uS,uS,uS,uS,uS,uS,uS,uS,uS,uS,uS] H =
   .ok .next [.lst (Qa n n (zo z)),a1,a2,.int n,a4,.str (DU o n),x6,uS,uS,uS,uS,uS,uS,uS,uS,uS,uS,uS,uS] H:=by
 have len:((rgn 1 (n+1)).map λ(i:Nat)=>AV.int (i:Int)).length=n:=by simp[rgn]
 obtain⟨J_1,H_1,e1,x6,rfl,hH⟩:=YM (C:=RN N) (k:=6) (b:=B28) (l:=(rgn 1 (n+1)).map λ(i:Nat)=>AV.int (i:Int))
  (P:=λk J H'=>∃x6,J=[.lst (Qa n n (zo z)),a1,a2,.int n,a4,.str (DU o k),x6,uS,uS,uS,uS,uS,uS,uS,uS,uS,uS,uS,uS]/\H'=H)
  (λk x hx J H' q70=>by
   obtain⟨x6,h1',h2'⟩:=q70;subst h1' h2';have hk:k<n:=by have:=(List.getElem?_eq_some_iff.mp hx).1; rw[len] at this; exact this
   have ex:x=.int ((k+1:Nat):Int):=by
    simp only[rgn,List.map_map,List.getElem?_map,Nat.add_sub_cancel,List.getElem?_range hk,Option.map_some,Function.comp] at hx;rw[<-Option.some.inj hx,Nat.add_comm]
   subst ex;have cu:=λd=>Qgu (C:=RN N) n (k+1) hn hk z a1 a2 (.int n) a4 d uS uS uS uS uS uS uS uS uS H'
   have mn:=Qgt hN (k+1) (by lia) (rowsOf n z) (by simp[rowsOf]; exact h0) (by simp[rowsOf]; omega) (λr hr j hj=>by
    obtain⟨i,hi,rfl⟩:=mmD hr;exact hz i j (List.mem_range.mp hi) (by lia)) H'
   have ed:=λd=>Qgs (C:=RN N) (H:=H') (k:=k+1) (by lia) (show ([.lst (Qa n n (zo z)),a1,a2,.int n,a4,d,.int ((k+1:Nat):Int),uS,uS,uS,uS,uS,uS,uS,uS,uS,uS,uS,uS]:LA)[6]?=some (.int ((k+1:Nat):Int)) from rfl)
   refine⟨.next,[.lst (Qa n n (zo z)),a1,a2,.int n,a4,.str (DU o (k+1)),.int ((k+1:Nat):Int),uS,uS,uS,uS,uS,uS,uS,uS,uS,uS,uS,uS],H',?_,.inl rfl,_,rfl,rfl⟩;rcases ho with ⟨rfl,h1⟩ | ⟨c,hc,rfl,h1,h2⟩
   ·have d:decide (((mst (rowsOf n z) (k+1)).2:Int)<((k+1:Nat):Int))=false:=by
     have:=h1 (k+1) hk;simp only[decide_eq_false_iff_not]; lia
    simp only[DU];clear h1 hz hn h0 hx hk len;w_fin
   ·by_cases hkc:k<=c
    ·by_cases hkc2:k+1<=c
     ·have d:decide (((mst (rowsOf n z) (k+1)).2:Int)<((k+1:Nat):Int))=false:=by
       have:=h2 (k+1) hkc2
       lia
      have e1:DU (some c) k="":=if_pos hkc;have e2:DU (some c) (k+1)="":=if_pos hkc2;rw[e1,e2];clear h1 h2 hz hn h0 hx hk len hkc hkc2 hc e1 e2;w_fin
     ·have hck:c=k:=by lia
      subst hck;have d:decide (((mst (rowsOf n z) (c+1)).2:Int)<((c+1:Nat):Int))=true:=by
       simp only[decide_eq_true_eq]; lia
      have e1:DU (some c) c="":=if_pos hkc;have e2:DU (some c) (c+1)=sing (c+1):=if_neg hkc2;rw[e1,e2];clear h1 h2 hz hn h0 hx hk len hkc hkc2 hc e1 e2;w_fin
    ·have e1:DU (some c) k=sing (c+1):=if_neg hkc
     have e2:DU (some c) (k+1)=sing (c+1):=if_neg (by lia);have dz:(sing (c+1)=="")=false:=bN (zQ (by lia));rw[e1,e2];clear h1 h2 hz hn h0 hx hk len hkc hc e1 e2;w_fin) (J:=[.lst (Qa n n (zo z)),a1,a2,.int n,a4,.str "",uS,uS,uS,uS,uS,uS,uS,uS,uS,uS,uS,uS,uS]) (H:=H) ⟨uS,by
   have:DU o 0="":=by
    cases o with
    | none=>rfl
    | some c=>exact (if_pos (Nat.zero_le c):(if 0<=c then "" else sing (c+1))="")
   rw[this],rfl⟩
 rw[len,hH] at e1;exact⟨x6,e1⟩
noncomputable def eqB:List PS:=B34
theorem Ze {C:Orc}(k:Nat)(hk:k<=3)(args:AV)(sa:setAV args=true)(a0 a1 a2 a3 a4 a6 a7 a8 w x11 x12 x14:AV)(H:AH)(hs:C.f 857 [.none,args,.none] H=.exc (.str (sing k)) H) :
  evSs C eqB [a0,a1,a2,a3,a4,.str (sing k),a6,a7,a8,args,w,x11,x12,uS,x14,uS,uS,uS,uS] H=.ok .next [a0,a1,a2,a3,a4,.str (sing k),a6,a7,a8,args,w,x11,.str (sing k),uS,x14,uS,uS,uS,uS] H:=by
 have d2:(sing k=="")=false:=bN (zQ hk);have d1:decide (sing k=sing k)=true:=by simp
 clear hk;simp only[eqB];w_fin;simp only[Yd];w_fin;simp only[zj];w_fin
theorem UG (hN:2<=N)(n q:Nat)(hn:n<=3)(hq':q<=3)(X:Nat->Nat->Rat)(args:LA)(wn rt:LA)(a0:AV)(s0:setAV a0=true)(fl:Bool)(a3 a4 a6 a7 a8 x11 x12 x14:AV)(H:AH)
  (la:args.length<=2) (hfl:fl=true->args.length=1) (dw:AV.data 6 (.lst wn)=true) (dr:AV.data 6 (.lst rt)=true)
  (hs:(RN N).f 857 [.none,.lst args,.none] H=.ok (qmt n q X) H) (hv:∀H,(RN N).f 1096 [a0,.lst (rwj n q λi j=>qr (X i j)),.lst wn] H=.ok (.bool true) H) :
  ∃y14,evSs (RN N) eqB [a0,.lst rt,.bool fl,a3,a4,.str "",a6,a7,a8,.lst args,.lst wn,x11,x12,uS,x14,uS,uS,uS,uS] H=.ok .next [a0,.lst rt,.bool fl,a3,a4,.str "",a6,a7,a8,.lst args,.lst wn,qmt n q X,.str "",uS,y14,uS,uS,uS,uS] H:=by
 have sh:=λH=>JT (N:=N) (by lia) "double" n q (λi j=>qr (X i j)) (by lia) (by lia) (λ_ _ _ _=>rfl) H
 have ce:∀H,pCmp H .eq (.lst wn) (.lst rt)=some (@decide (AV.lst wn=.lst rt) (Classical.propDecidable _)):=λH=>by
  show (if (AV.data 6 (.lst wn)&&AV.data 6 (.lst rt))=true then some (@decide (AV.lst wn=.lst rt) (Classical.propDecidable _)) else none)=_;rw[dw,dr]; rfl
 refine⟨.lst (rwj n q λi j=>qr (X i j)),?_⟩;cases fl with
 | false =>
  have nb:∀H,pCmp H .ne (.bool false) (.bool false)=some false:=λ_=>rfl
  clear hn hq' la hfl dw dr ce;simp only[eqB];w_fin;simp only[Yd];w_fin;simp only[Wn];w_fin
 | true =>
  have l1:=hfl rfl;have nb:∀H,pCmp H .ne (.bool false) (.bool false)=some false:=λ_=>rfl
  cases hb:@decide (AV.lst wn=.lst rt) (Classical.propDecidable _) with
  | true =>
   rw[hb] at ce;clear hn hq' la hfl dw dr hb;simp only[eqB];w_fin;simp only[Yd];w_fin;simp only[Wn];w_fin
  | false =>
   rw[hb] at ce;clear hn hq' la hfl dw dr hb;simp only[eqB];w_fin;simp only[Yd];w_fin;simp only[Wn];w_fin
theorem Qgv (hN:2<=N)(n:Nat)(hn:n<=3)(X:Nat->Rat)(a b:AV)(rt:LA)(a0:AV)(s0:setAV a0=true)(a3 a4 a6 a7 a8 x11 x12 x14:AV)(H:AH)(dr:AV.data 6 (.lst rt)=true)
  (hs:(RN N).f 857 [.none,.lst [a,b],.none] H=.ok (vec "double" ((List.range n).map λi=>qr (X i)) .none) H) (hv:∀H,(RN N).f 1096 [a0,.lst (rwj n 1 λi _=>qr (X i)),.lst rt] H=.ok (.bool true) H) :
  ∃y11 y14,evSs (RN N) eqB [a0,.lst rt,.bool true,a3,a4,.str "",a6,a7,a8,.lst [a,b],.lst rt,x11,x12,uS,x14,uS,uS,uS,uS] H=.ok .next [a0,.lst rt,.bool true,a3,a4,.str "",a6,a7,a8,.lst [a,b],.lst rt,y11,.str "",uS,y14,uS,uS,uS,uS] H:=by
 have nb:∀H,pCmp H .ne (.bool true) (.bool true)=some false:=λ_=>rfl
 have ce:=λH=>K8 (H:=H) dr
 have cm:evE (RN N) [a0,.lst rt,.bool true,a3,a4,.str "",a6,a7,a8,.lst [a,b],.lst rt,vec "double" ((List.range n).map λi=>qr (X i)) .none,.str "",uS,x14,uS,uS,uS,uS] D100 H=.ok (.lst (rwj n 1 λi _=>qr (X i))) H:=by
  refine (Qx (v:=.lst ((List.range n).map λi=>qr (X i))) n (g:=λi=>qr (X i)) (λi=>.lst [qr (X i)]) (by clear hv hn dr hs; w_fin) rfl (by lia) rfl λi hi=>?_).trans rfl
  refine⟨_,rfl,?_⟩;clear hi hv hn dr hs;w_fin
 refine⟨vec "double" ((List.range n).map λi=>qr (X i)) .none,.lst (rwj n 1 λi _=>qr (X i)),?_⟩;clear hn dr;simp only[eqB];w_fin;simp only[Yd];w_fin;simp only[Wn];w_fin
end
section
local macro_rules | `(tactic| w_fin)=>do
 let a:=(wA.splitOn " ").toArray.map λs=>Lean.mkIdent s.toName
 let l:=((wN.splitOn " ").map λx=>if x=="k_seq" then "q_seq" else if x=="k_seqC" then "q_seqC" else if x=="k_seqR" then "q_seqR" else if x=="k_seqX" then "q_seqX" else if x=="ss_cons" then "q_cons" else x).toArray.map λs=>Lean.mkIdent s.toName
 `(tactic| simp only[$[↓$a:ident],*,$[$l:ident],*, *])
section
variable {N:Nat}
theorem JW (C:Orc)(a b:Nat)(bd:List PS)(x y:AV)(l J:LA)(H:AH):forL C [a,b] false bd (.tup [x,y]::l) J H=forK C [a,b] false bd l (evSs C bd ((J.set a x).set b y) H):=rfl
theorem Qgw (hN:4<=N)(n:Nat)(hn:n<=3)(h0:0<n)(z:Nat->Nat->Int)(hz:∀i j,i<n->j<n->sm 3 (z i j))(H:AH):(RN N).f 1084 [.lst (Qa n n (zo z))] H=.ok (.int (detZ n z)) H:=by
 rcases in3 h0 hn with rfl | rfl | rfl
 ·exact SG1 (by lia) (z 0 0) (hz _ _ (by decide) (by decide)) H
 ·exact SG2 (by lia) (z 0 0) (z 0 1) (z 1 0) (z 1 1) (hz _ _ (by decide) (by decide)) (hz _ _ (by decide) (by decide)) (hz _ _ (by decide) (by decide)) (hz _ _ (by decide) (by decide)) H
 ·exact SG3 (by omega) (z 0 0) (z 0 1) (z 0 2) (z 1 0) (z 1 1) (z 1 2) (z 2 0) (z 2 1) (z 2 2) (hz _ _ (by decide) (by decide)) (hz _ _ (by decide) (by decide)) (hz _ _ (by decide) (by decide)) (hz _ _ (by decide) (by decide)) (hz _ _ (by decide) (by decide)) (hz _ _ (by decide) (by decide)) (hz _ _ (by decide) (by decide)) (hz _ _ (by decide) (by decide)) (hz _ _ (by decide) (by decide)) H
theorem Yg (n w:Nat)(R:Nat->Nat->Option Int):AV.data 6 (.lst (Qa n w R))=true:=by
 show (Qa n w R).all (AV.data 5)=true;rw[List.all_eq_true];intro x hx;obtain⟨i,_,rfl⟩:=mmD hx;show (orow w (R i)).all (AV.data 4)=true;rw[List.all_eq_true];intro y hy;obtain⟨j,_,rfl⟩:=mmD hy;cases R i j<;>rfl
noncomputable def uz (i j:Nat):Int:=if i=j then 1 else 0
theorem Qgx (i j:Nat):idm i j=((uz i j:Int):Rat):=by
 unfold idm uz;split<;>rfl
theorem Qgy {C:Orc}(n:Nat)(hn:n<=3)(a0 a1 a2 a4 a5 a6 a7:AV)(H:AH):evE C [a0,a1,a2,.int n,a4,a5,a6,a7,uS,uS,uS,uS,uS,uS,uS,uS,uS,uS,uS] D37 H=.ok (.lst (Qa n n (zo uz))) H:=by
 have t9:n<1000000:=by lia
 refine (Qx (v:=.rng 0 n) n (λi=>.lst (orow n (zo uz i))) (by clear hn; w_fin) QD (by lia) rfl λi hi=>?_).trans rfl
 refine⟨_,rfl,(Qx (v:=.rng 0 n) n (λj=>.int (uz i j)) (by clear hn hi; w_fin) QD (by lia) rfl λj hj=>?_).trans rfl⟩
 refine⟨_,rfl,?_⟩;by_cases h:i=j
 ·have d:decide ((i:Int)=j)=true:=by simp[h]
  have e:uz i j=1:=by simp[uz,h]
  have e':uz i (j:Int).toNat=1:=e;clear h hi hj hn;w_fin
 ·have d:decide ((i:Int)=j)=false:=by simp; lia
  have e:uz i j=0:=by simp[uz,h]
  have e':uz i (j:Int).toNat=0:=e;w_fin
theorem zT {n q:Nat}{z:Nat->Nat->Int}(hz:∀i j,i<n->j<q->sm 3 (z i j)):hqm 3 n q (zm z):=λi j hi hj=>⟨hz i j hi hj,show 1<2 ^ 3 by decide⟩
theorem UJ {n q:Nat}{M:Nat->Nat->Rat}(hn:n<=3)(h:hqm 3 n (n+q) M)(i j:Nat)(hi:i<n)(hj:j<q):hq 213 ((ech n M (n+q)).1 i (n+j)):=by
 obtain⟨h1,h2⟩:=KY h (n+q) (Nat.le_refl _);exact (h1 i (n+j) hi (by lia)).mono (bk_le (by lia))
theorem Qgz {n q:Nat}{z:Nat->Nat->Int}{B:Nat->Nat->Rat} :
  (fd (ech n (jn n (zm z) B) (n+q)).2 n=none/\Unit n n (ech n (jn n (zm z) B) (n+q)).1/\fd (ech n (jn n (zm z) idm) (n+n)).2 n=none/\Unit n n (ech n (jn n (zm z) idm) (n+n)).1/\∀w,w<=n->¬(mst (rowsOf n z) w).2<w) \/
  ∃c,c<n/\fd (ech n (jn n (zm z) B) (n+q)).2 n=some c/\fd (ech n (jn n (zm z) idm) (n+n)).2 n=some c/\(mst (rowsOf n z) (c+1)).2<c+1/\∀w,w<=c->¬(mst (rowsOf n z) w).2<w:=by
 rcases zP (n:=n) (q:=q) (z:=z) (B:=B) with ⟨f1,u1,m1⟩ | ⟨c,hc,f1,m1,k1⟩<;>rcases zP (n:=n) (q:=n) (z:=z) (B:=idm) with ⟨f2,u2,m2⟩ | ⟨d,hd,f2,m2,k2⟩
 ·exact .inl ⟨f1,u1,f2,u2,m1⟩
 ·exact absurd m2 (m1 (d+1) hd)
 ·exact absurd m1 (m2 (c+1) hc)
 ·refine .inr ⟨c,hc,f1,?_,m1,k1⟩
  have:c=d:=by
   rcases Nat.lt_trichotomy c d with h | h | h
   ·exact absurd m1 (k2 (c+1) h)
   ·exact h
   ·exact absurd m2 (k1 (d+1) h)
  simp only[this]; exact f2
theorem zU (hN:11<=N)(n q:Nat)(hn:n<=3)(h0:0<n)(hq':q<=3)(z b:Nat->Nat->Int)(hz:∀i j,i<n->j<n->sm 3 (z i j))(hb:∀i j,i<n->j<q->sm 3 (b i j))(fl:Bool)(hfl:fl=true->q=1)(H:AH) :
  (RN N).f 1111 [.lst (Qa n n (zo z)),.lst (Qa n q (zo b)),.bool fl] H=.ok (.bool true) H:=by
 have n8:n<=1000000:=by lia
 have n9:n<1000000:=by lia
 have q8:q<=1000000:=by lia
 have ol:=Qv n n (zo z);have g0:=QG (w:=q) (R:=zo b) h0;have ob:=Qv n q (zo b);have l0:=QK q (zo b 0);have la:∀H,(RN (N-1)).f 1050 [.lst (Qa n n (zo z)),.int n] H=.ok (qmt n n (zm z)) H:=λH=>Wl (pN hN) n n (zo z) hn hn H
 have lb:∀H,(RN (N-1)).f 1050 [.lst (Qa n q (zo b)),.int q] H=.ok (qmt n q (zm b)) H:=λH=>Wl (pN hN) n q (zo b) hn hq' H
 have dt:=λH=>R_det (pN hN) n z hn h0 hz H
 have sg:=λH=>Qgw (pN hN) n hn h0 z hz H
 have cd:=λH=>JV (H:=H) (a:=.lst [.tup [.int (detZ n z),.int 1]]) rfl rfl
 have un:=λa1 a2 a4 a5 a6 a7 H=>Qgy (C:=RN (N-1)) n hn (.lst (Qa n n (zo z))) a1 a2 a4 a5 a6 a7 H
 have it:itemsOf (.rng 1 ((n+1:Nat):Int))=some ((rgn 1 (n+1)).map λ(i:Nat)=>AV.int (i:Int)):=yH (a:=1) (b:=n+1);have m9:n+1<1000000:=by lia
 have n1:(1:Int).natAbs<1000000:=by decide
 have cl:=Qn n (λi j=>qr (zm b i j)) q;have nq:n*q<=9:=Nat.mul_le_mul hn hq';have nq2:n*q<=100000:=by lia
 have ini:=QH (pN hN) "double" (cmj n q λi j=>qr (zm b i j)) [];simp only[List.length_nil,List.nil_append] at ini;have inc:=Qh n q (zm b);have hA:=zT hz;have hB:=zT hb;have hI:hqm 3 n n idm:=λi j _ _=>by unfold idm; split<;>exact⟨by decide,by decide⟩
 have anc:AV.ncs [.lst (Qa n n (zo z)),.lst (Qa n q (zo b)),.bool fl]=true:=by simp[Q5]
 rcases Qgz (n:=n) (q:=q) (z:=z) (B:=zm b) with ⟨f1,u1,f2,u2,ms⟩ | ⟨c,hc,f1,f2,m1,ms⟩
 ·obtain⟨x6,dl⟩:=zR (pN hN) n hn h0 z hz none (.inl ⟨rfl,ms⟩) (.lst (Qa n q (zo b))) (.bool fl) (qmt n n (zm z)) []
  simp only[DU] at dl;have sI:=λH=>Qfm (pN hN) n (zm z) hn h0 hA f2 H
  have vI:=λH=>Ut (pN hN) n n hn h0 hn z uz (λi j=>(ech n (jn n (zm z) idm) (n+n)).1 i (n+j)) hz (λi j hi hj=>UJ hn (J9 hA hI) i j hi hj) (λi j hi hj=>(Uz u2 i j hi hj).trans (Qgx i j)) H
  cases fl with
  | false =>
   have sM:=λH=>Qfo (pN hN) n (zm z) q (zm b) hn h0 hq' hB hA f1 H
   have vM:=λH=>Ut (pN hN) n q hn h0 hq' z b (λi j=>(ech n (jn n (zm z) (zm b)) (n+q)).1 i (n+j)) hz (λi j hi hj=>UJ hn (J9 hA hB) i j hi hj) (λi j hi hj=>Uz u1 i j hi hj) H
   obtain⟨y1,b1⟩:=UG (pN hN) n q hn hq' (λi j=>(ech n (jn n (zm z) (zm b)) (n+q)).1 i (n+j)) [.tup [.none,qmt n n (zm z)],.tup [.none,qmt n q (zm b)]] (Qa n q (zo b)) (Qa n q (zo b)) (.lst (Qa n n (zo z))) rfl false (.int n) (qmt n n (zm z)) x6 (qmt n q (zm b)) (.lst (Qa n n (zo uz))) uS uS uS [] (by simp) (λh=>nomatch h) (Yg _ _ _) (Yg _ _ _) (sM []) vM
   obtain⟨y2,b2⟩:=UG (pN hN) n n hn hn (λi j=>(ech n (jn n (zm z) idm) (n+n)).1 i (n+j)) [.tup [.none,qmt n n (zm z)]] (Qa n n (zo uz)) (Qa n q (zo b)) (.lst (Qa n n (zo z))) rfl false (.int n) (qmt n n (zm z)) x6 (qmt n q (zm b)) (.lst (Qa n n (zo uz))) (qmt n q λi j=>(ech n (jn n (zm z) (zm b)) (n+q)).1 i (n+j)) (.str "") y1 [] (by simp) (λh=>nomatch h) (Yg _ _ _) (Yg _ _ _) (sI []) vI
   simp only[eqB] at b1 b2;refine Qc Kr (oN hN) (J:=[.lst (Qa n n (zo z)),.lst (Qa n q (zo b)),.bool false,uS,uS,uS,uS,uS,uS,uS,uS,uS,uS,uS,uS,uS,uS,uS,uS]) rfl anc (H':=[]) ?_ rfl H;clear hz hb hfl hn h0 hq' hA hB hI f1 u1 f2 u2 ms sI vI sM vM nq anc;simp only[Yv];w_fin;simp only[JW];w_fin;simp only[JW];w_fin
  | true =>
   obtain rfl:=hfl rfl;simp only[Int.natCast_one] at lb;have sF:=λH=>Qfq (pN hN) n (zm z) (zm b) hn h0 hB hA f1 H
   have vF:=λH=>Ut (pN hN) n 1 hn h0 hq' z b (λi _=>(ech n (jn n (zm z) (zm b)) (n+1)).1 i n) hz (λi j hi hj=>UJ (q:=1) hn (J9 hA hB) i 0 hi (by decide)) (λi j hi hj=>by
    have hj0:j=0:=by lia
    subst hj0;exact Uz u1 i 0 hi (by decide)) H
   obtain⟨w1,y1,b1⟩:=Qgv (pN hN) n hn (λi=>(ech n (jn n (zm z) (zm b)) (n+1)).1 i n) (.tup [.none,qmt n n (zm z)]) (.tup [.none,qfl n (zm b)]) (Qa n 1 (zo b)) (.lst (Qa n n (zo z))) rfl (.int n) (qmt n n (zm z)) x6 (qfl n (zm b)) (.lst (Qa n n (zo uz))) uS uS uS [.dead] (Yg _ _ _) (sF [.dead]) vF;obtain⟨y2,b2⟩:=UG (pN hN) n n hn hn (λi j=>(ech n (jn n (zm z) idm) (n+n)).1 i (n+j)) [.tup [.none,qmt n n (zm z)]] (Qa n n (zo uz)) (Qa n 1 (zo b)) (.lst (Qa n n (zo z))) rfl true (.int n) (qmt n n (zm z)) x6 (qfl n (zm b)) (.lst (Qa n n (zo uz))) w1 (.str "") y1 [.dead] (by simp) (λ_=>rfl) (Yg _ _ _) (Yg _ _ _) (sI [.dead]) vI
   simp only[eqB] at b1 b2;refine Qc Kr (oN hN) (J:=[.lst (Qa n n (zo z)),.lst (Qa n 1 (zo b)),.bool true,uS,uS,uS,uS,uS,uS,uS,uS,uS,uS,uS,uS,uS,uS,uS,uS]) rfl anc (H':=[.dead]) ?_ rfl H;clear hz hb hfl hn h0 hq' hA hB hI f1 u1 f2 u2 ms sI vI sF vF nq anc;simp only[Yv];w_fin;simp only[JW];w_fin;simp only[JW];w_fin
 ·obtain⟨x6,dl⟩:=zR (pN hN) n hn h0 z hz (some c) (.inr ⟨c,hc,rfl,m1,ms⟩) (.lst (Qa n q (zo b))) (.bool fl) (qmt n n (zm z)) []
  have ed:DU (some c) n=sing (c+1):=if_neg (by lia);rw[ed] at dl;have sI:=λH=>Qfn (pN hN) n (zm z) hn h0 hA c f2 H
  cases fl with
  | false =>
   have sM:=λH=>Qfp (pN hN) n (zm z) q (zm b) hn h0 hq' hB hA c f1 H
   have b1:=λx11 x12 x14=>Ze (C:=RN (N-1)) (c+1) (by lia) (.lst [.tup [.none,qmt n n (zm z)],.tup [.none,qmt n q (zm b)]]) rfl (.lst (Qa n n (zo z))) (.lst (Qa n q (zo b))) (.bool false) (.int n) (qmt n n (zm z)) x6 (qmt n q (zm b)) (.lst (Qa n n (zo uz))) (.lst (Qa n q (zo b))) x11 x12 x14 [] (sM [])
   have b2:=λx11 x12 x14=>Ze (C:=RN (N-1)) (c+1) (by lia) (.lst [.tup [.none,qmt n n (zm z)]]) rfl (.lst (Qa n n (zo z))) (.lst (Qa n q (zo b))) (.bool false) (.int n) (qmt n n (zm z)) x6 (qmt n q (zm b)) (.lst (Qa n n (zo uz))) (.lst (Qa n n (zo uz))) x11 x12 x14 [] (sI [])
   simp only[eqB] at b1 b2;refine Qc Kr (oN hN) (J:=[.lst (Qa n n (zo z)),.lst (Qa n q (zo b)),.bool false,uS,uS,uS,uS,uS,uS,uS,uS,uS,uS,uS,uS,uS,uS,uS,uS]) rfl anc (H':=[]) ?_ rfl H;clear hz hb hfl hn h0 hq' hA hB hI f1 f2 ms m1 sI sM nq anc ed hc;simp only[Yv];w_fin;simp only[JW];w_fin;simp only[JW];w_fin
  | true =>
   obtain rfl:=hfl rfl;simp only[Int.natCast_one] at lb;have sF:=λH=>Qfr (pN hN) n (zm z) (zm b) hn h0 hB hA c f1 H
   have b1:=λx11 x12 x14=>Ze (C:=RN (N-1)) (c+1) (by lia) (.lst [.tup [.none,qmt n n (zm z)],.tup [.none,qfl n (zm b)]]) rfl (.lst (Qa n n (zo z))) (.lst (Qa n 1 (zo b))) (.bool true) (.int n) (qmt n n (zm z)) x6 (qfl n (zm b)) (.lst (Qa n n (zo uz))) (.lst (Qa n 1 (zo b))) x11 x12 x14 [.dead] (sF [.dead])
   have b2:=λx11 x12 x14=>Ze (C:=RN (N-1)) (c+1) (by lia) (.lst [.tup [.none,qmt n n (zm z)]]) rfl (.lst (Qa n n (zo z))) (.lst (Qa n 1 (zo b))) (.bool true) (.int n) (qmt n n (zm z)) x6 (qfl n (zm b)) (.lst (Qa n n (zo uz))) (.lst (Qa n n (zo uz))) x11 x12 x14 [.dead] (sI [.dead])
   simp only[eqB] at b1 b2;refine Qc Kr (oN hN) (J:=[.lst (Qa n n (zo z)),.lst (Qa n 1 (zo b)),.bool true,uS,uS,uS,uS,uS,uS,uS,uS,uS,uS,uS,uS,uS,uS,uS,uS]) rfl anc (H':=[.dead]) ?_ rfl H;clear hz hb hfl hn h0 hq' hA hB hI f1 f2 ms m1 sI sF nq anc ed hc;simp only[Yv];w_fin;simp only[JW];w_fin;simp only[JW];w_fin
end
end
section
variable {N:Nat}
theorem QgA {C:Orc}{J:LA}{H:AH}(a:PE):evE C J (.intof a) H=(evE C J a H).bind λx H=>.opt x.int? λi=>.ok (.int i) H:=rfl
theorem e_sum {C:Orc}{J:LA}{H:AH}(a:PE):evE C J (.sum a) H=(evE C J a H).bind λx H=>.opt x.lst? λl=>.opt (sumInts l) λt=>.ok (.int t) H:=rfl
theorem Zf {t w:Nat}{R S:Nat->Nat->Option Int}(h:∀i j,i<t->j<w->R i j=S i j):Qa t w R=Qa t w S :=
 K5 λi hi=>congrArg AV.lst (K5 λj hj=>by rw[h i j hi hj])
theorem QgB (n w:Nat)(R:Nat->Nat->Option Int)(i:Nat)(r:Nat->Option Int):(Qa n w R).set i (.lst (orow w r))=Qa n w (upO R i r):=by
 apply List.ext_getElem?;intro k;rw[List.getElem?_set,Qv];by_cases hk:i=k
 ·subst hk
  rw[if_pos rfl];by_cases hi:i<n
  ·rw[if_pos hi,QG hi]; simp[upO]
  ·rw[if_neg hi,List.getElem?_eq_none (by rw[Qv]; lia)]
 ·rw[if_neg hk]
  by_cases hi:k<n
  ·simp only[QG hi,QG hi]; simp[upO,Ne.symm hk]
  ·rw[List.getElem?_eq_none (by rw[Qv]; lia),List.getElem?_eq_none (by rw[Qv]; lia)]
theorem Y0 {x:Option Int}(h:OkE false x):x=some (x.getD 0)/\sm 3 (x.getD 0):=by
 cases x with
 | none=>exact absurd (h.1 rfl) Bool.false_ne_true
 | some a =>
  have:=h.2 a rfl;refine⟨rfl,?_⟩;show a.natAbs<8
  lia
theorem zV {b:Bool}{x:Option Int}(h:OkE b x):E4 x:=h.2
inductive LrR (N L:Nat)(p q:AC)(T:AH):Prop
 | mk (k1 k2:Nat)(R:Nat->Nat->Option Int)(pa qa pb qb p' q':AC)(T':AH)(h1:k1<L)(h2:k2<L)(hR:∀i j,i<1+k1->j<1+k2->OkE true (R i j))(hp:PoolOk p' q')(hT:T'[T.length]?=some (.lst (Qa (1+k1) (1+k2) R)))(ea:(RN N).f 1038 [.cell 1,.int L] (p::q::T)=.ok (.int k1) (pa::qa::T))(eb:(RN N).f 1038 [.cell 1,.int L] (pa::qa::T)=.ok (.int k2) (pb::qb::T))(ec:(RN N).f 1045 [.cell 1,.int ((1+k1:Nat):Int),.int ((1+k2:Nat):Int),.bool true] (pb::qb::T)=.ok (.cell (T.length+1+1)) (p'::q'::T'))
theorem zW (hN:2<=N)(L:Nat)(h0:0<L)(hL:L<=3)(p q:AC)(T:AH)(hp:PoolOk p q):LrR N L p q T:=by
 obtain⟨k1,p1,q1,hk1,hp1,e1⟩:=Yb (N:=N) (by lia) L h0 (by lia) p q T hp;obtain⟨k2,p2,q2,hk2,hp2,e2⟩:=Yb (N:=N) (by lia) L h0 (by lia) p1 q1 T hp1;obtain⟨R,p3,q3,T3,hR,hp3,hT,_,e3⟩:=K3 hN (1+k1) (1+k2) (by lia) (by lia) true p2 q2 T hp2;exact⟨k1,k2,R,p1,q1,p2,q2,p3,q3,T3,hk1,hk2,hR,hp3,hT,e1,e2,e3⟩
end
section
local macro_rules | `(tactic| w_fin)=>do
 let a:=(wA.splitOn " ").toArray.map λs=>Lean.mkIdent s.toName
 let l:=((wN.splitOn " ").map λx=>if x=="k_seq" then "q_seq" else if x=="k_seqC" then "q_seqC" else if x=="k_seqR" then "q_seqR" else if x=="k_seqX" then "q_seqX" else if x=="ss_cons" then "q_cons" else x).toArray.map λs=>Lean.mkIdent s.toName
 `(tactic| simp only[$[↓$a:ident],*,$[$l:ident],*, *])
section
variable {N:Nat}
noncomputable def lawT:List PS:=[.asg (.loc 7) D122,.asg (.loc 8) D95,.ret D85]
theorem zX (hN:11<=N)(n:Nat)(hn:n<=3)(h0:0<n)(z:Nat->Nat->Int)(hz:∀i j,i<n->j<n->sm 3 (z i j))(a0 a1 a3 a4:AV)(p q:AC)(T:AH)(c:Nat)(hp:PoolOk p q)(hc:T[c]?=some (.lst (Qa n n (zo z)))) :
  ∃H',(evSs (RN N) lawT [a0,a1,.cell 1,a3,a4,.int n,.cell (c+1+1),uS,uS,uS,uS] (p::q::T)).out=.ok (.bool true) H':=by
 obtain⟨k1,p1,q1,hk1,hp1,e1⟩:=Yb (N:=N) (by lia) 2 (by decide) (by decide) p q T hp;have e1':(RN N).f 1038 [.cell 1,.int 2] (p::q::T)=.ok (.int k1) (p1::q1::T):=e1;have hlt:c<T.length:=(List.getElem?_eq_some_iff.mp hc).1;have on:=Q5 n n (zo z);by_cases h1:k1=1
 ·obtain⟨R,p3,q3,T3,hR,hp3,hT,hk,e3⟩:=K3 (N:=N) (by lia) n 1 hn (by decide) false p1 q1 T hp1
  have e3':(RN N).f 1045 [.cell 1,.int n,.int 1,.bool false] (p1::q1::T)=.ok (.cell (T.length+1+1)) (p3::q3::T3):=e3;have on2:=Q5 n 1 R;have eo:Qa n 1 R=Qa n 1 (zo λi j=>(R i j).getD 0):=Zf λi j hi hj=>(Y0 (hR i j hi hj)).1
  have g:(T3.set T.length .dead)[c]?=some (.lst (Qa n n (zo z))):=by
   rw[List.getElem?_set_ne (by lia),hk c hlt,hc]
  have eq:=λH=>zU (N:=N) hN n 1 hn h0 (by decide) z (λi j=>(R i j).getD 0) hz (λi j hi hj=>(Y0 (hR i j hi hj)).2) true (λ_=>rfl) H
  rw[<-eo] at eq;have d:decide ((k1:Int)=1)=true:=by simp[h1]
  refine⟨p3::q3::(T3.set T.length .dead).set c .dead,?_⟩;clear hp hp1 hp3 hR hk1 hk h1 hlt hn h0 hz e1 e3 eo hc;simp only[lawT];w_fin
 ·obtain⟨k2,p2,q2,hk2,hp2,e2⟩:=Yb (N:=N) (by lia) 2 (by decide) (by decide) p1 q1 T hp1
  obtain⟨R,p3,q3,T3,hR,hp3,hT,hk,e3⟩:=K3 (N:=N) (by lia) n (1+k2) hn (by lia) false p2 q2 T hp2;have e2':(RN N).f 1038 [.cell 1,.int 2] (p1::q1::T)=.ok (.int k2) (p2::q2::T):=e2;have on2:=Q5 n (1+k2) R;have eo:Qa n (1+k2) R=Qa n (1+k2) (zo λi j=>(R i j).getD 0):=Zf λi j hi hj=>(Y0 (hR i j hi hj)).1
  have g:(T3.set T.length .dead)[c]?=some (.lst (Qa n n (zo z))):=by
   rw[List.getElem?_set_ne (by lia),hk c hlt,hc]
  have eq:=λH=>zU (N:=N) hN n (1+k2) hn h0 (by lia) z (λi j=>(R i j).getD 0) hz (λi j hi hj=>(Y0 (hR i j hi hj)).2) false (λh=>nomatch h) H
  rw[<-eo] at eq;have d:decide ((k1:Int)=1)=false:=by simp; lia
  refine⟨p3::q3::(T3.set T.length .dead).set c .dead,?_⟩;clear hp hp1 hp2 hp3 hR hk1 hk2 hk h1 hlt hn h0 hz e1 e2 eo hc;simp only[lawT];w_fin
noncomputable def lawM:List PS:=PS.ite D80 [.asg (.sub D9 (.bin .sub D6 (.int 1))) D35] []::lawT
theorem QgC:Ji.body=PS.asg (.loc 1) D42::PS.asg (.loc 2) (.lst [(.list D1 true),(.int 0),D106] true)::PS.asg (.loc 3) D121::PS.asg (.loc 4) D120::PS.ite D45 [.ret (.tru false)] []::PS.asg (.loc 5) D21::PS.asg (.loc 6) (.call D23 [D2,D6,D6,(.tru false)])::lawM:=rfl
theorem zY:∀l:List Int,∃s,sumInts (intl l)=some s
 | []=>⟨0,rfl⟩
 | x::l=>by
  obtain⟨s,e⟩:=zY l;refine⟨x+s,?_⟩;show (sumInts (intl l)).map (x+·)=_;rw[e]; rfl
theorem QgD {C:Orc}(l:List Int)(hl:l.length<=63):evE C [.lst (intl l),uS,uS,uS,uS,uS,uS,uS,uS,uS,uS] D42 []=.ok (.lst (intl l)) []:=by
 have il:(intl l).length<=63:=by simp[intl]; exact hl
 have et:(intl l).take 63=intl l:=List.take_of_length_le il;have up:=Uq (C:=C) (J:=[.lst (intl l),uS,uS,uS,uS,uS,uS,uS,uS,uS,uS]) (H:=[]) (o:=.loc 0) (i:=.int 63) (l:=intl l) (k:=63) (by rw[JD]; rfl) (Vv 63) (by decide) (by lia);rw[et] at up;refine (QX (v:=.lst (intl l)) l (g:=λa=>.int a) (λa=>.int a) up rfl (by lia) rfl λa hx=>?_).trans rfl
 refine⟨_,rfl,?_⟩;simp only[QgA];clear hx il et up;w_fin
theorem QgE {C:Orc}(n w:Nat)(hw:w<=3)(h0:0<n)(hn:n<=3)(z:Nat->Nat->Int)(a0 a1 a3 a4 a5:AV)(p q:AC)(T:AH)(c:Nat)(hc:T[c]?=some (.lst (Qa n w (zo z)))) :
  evE C [a0,a1,.cell 1,a3,a4,a5,.cell (c+1+1),uS,uS,uS,uS] D35 (p::q::T)=.ok (.lst (orow w λj=>some (0-z 0 j))) (p::q::T):=by
 have g:=QG (w:=w) (R:=zo z) h0;have ol:=Qv n w (zo z);have n8:n<=1000000:=by lia
 refine (Qx (v:=.lst (orow w (zo z 0))) w (λj=>.int (0-z 0 j)) (by clear hw h0 hn; w_fin) rfl (by lia) rfl λj hj=>?_).trans rfl
 ·refine⟨_,rfl,?_⟩
  simp only[oi];clear hj hw h0 hn hc;w_fin
theorem QgF (hN:11<=N):LawRuns N:=by
 intro l hl;have hH:∀{r:Out AV},(evSs (RN N) Ji.body [.lst (intl l),uS,uS,uS,uS,uS,uS,uS,uS,uS,uS] []).out=r->runF (RN N) Ji [.lst (l.map .int)] []=r:=λh=>(Kg rfl).trans h
 have cs:=QgD (C:=RN N) l hl;obtain⟨s,es⟩:=zY l;have il:(intl l).length<=100000:=by simp[intl]; lia
 obtain⟨m,em,hm,_⟩:∃m:Nat,s.fmod 99991=m/\m<99991/\True:=by
  have h1:=Int.emod_nonneg s (show (99991:Int)≠0 by decide);have h2:=Int.emod_lt_of_pos s (show (0:Int)<99991 by decide);rw[Int.fmod_eq_emod_of_nonneg _ (by decide)];exact⟨(s % 99991).toNat,(Int.toNat_of_nonneg h1).symm,(Int.toNat_lt h1).mpr h2,trivial⟩
 have md:pBin .mod (.int s) (.int 99991)=some (.int m):=by
  rw[Q8 (by decide) (Qo (by decide))]; exact congrArg (λx=>some (AV.int x)) em
 have ad:=QT (m:Int) 7;have hp0:PoolOk (.lst (intl l)) (.lst [.cell 0,.int 0,.int ((m:Int)+7)]):=⟨l,0,(m:Int)+7,rfl,rfl,by decide,Int.add_nonneg (Int.natCast_nonneg m) (by decide),Int.lt_trans (Int.add_lt_add_right (Int.ofNat_lt.mpr hm) 7) (by decide),hl⟩
 obtain⟨ka,kb,U,pa,qa,pb,qb,p1,q1,T1,hka,hkb,hU,hp1,hT1,e1a,e1b,e1c⟩:=zW (N:=N) (by lia) 3 (by decide) (by decide) _ _ [] hp0;have e1a':(RN N).f 1038 [.cell 1,.int 3] [.lst (intl l),.lst [.cell 0,.int 0,.int ((m:Int)+7)]]=.ok (.int ka) [pa,qa]:=e1a;have e1b':(RN N).f 1038 [.cell 1,.int 3] [pa,qa]=.ok (.int kb) [pb,qb]:=e1b;have e1c':(RN N).f 1045 [.cell 1,.int ((1+ka:Nat):Int),.int ((1+kb:Nat):Int),.bool true] [pb,qb]=.ok (.cell 2) (p1::q1::T1):=e1c;have hT1':T1[0]?=some (.lst (Qa (1+ka) (1+kb) U)):=hT1;obtain⟨T1d,sd1⟩:∃X:AH,List.set T1 0 .dead=X:=⟨_,rfl⟩;obtain⟨kc,kd,V,pc,qc,pd,qd,p2,q2,T2',hkc,hkd,hV,hp2,hT2,e2a,e2b,e2c⟩:=zW (N:=N) (by lia) 2 (by decide) (by decide) p1 q1 T1d hp1;have e2a':(RN N).f 1038 [.cell 1,.int 2] (p1::q1::T1d)=.ok (.int kc) (pc::qc::T1d):=e2a;have e2b':(RN N).f 1038 [.cell 1,.int 2] (pc::qc::T1d)=.ok (.int kd) (pd::qd::T1d):=e2b
 obtain⟨T2,sd2⟩:∃X:AH,List.set T2' T1d.length .dead=X:=⟨_,rfl⟩;have nU:=Q5 (1+ka) (1+kb) U;have nV:=Q5 (1+kc) (1+kd) V;have pr:=λH=>QfM (N:=N) (by lia) (1+ka) (1+kb) (1+kc) (1+kd) U V (by lia) (by lia) (by lia) (by lia) (by lia) (by lia) (by lia) (by lia) (λi j hi hj=>zV (hU i j hi hj)) (λi j hi hj=>zV (hV i j hi hj)) H
 have pl:=λH=>QfT (N:=N) (by lia) (1+ka) (1+kb) U (by lia) (by lia) (by lia) (by lia) H
 obtain⟨k,p3,q3,hk,hp3,e3⟩:=Yb (N:=N) (by lia) 3 (by decide) (by decide) p2 q2 T2 hp2;have e3':(RN N).f 1038 [.cell 1,.int 3] (p2::q2::T2)=.ok (.int k) (p3::q3::T2):=e3;obtain⟨R,p4,q4,T4,hR,hp4,hT4,_,e4⟩:=K3 (N:=N) (by lia) (1+k) (1+k) (by lia) (by lia) false p3 q3 T2 hp3;obtain⟨z,hzd⟩:∃z:Nat->Nat->Int,z=λi j=>(R i j).getD 0:=⟨_,rfl⟩
 have eo:Qa (1+k) (1+k) R=Qa (1+k) (1+k) (zo z):=Zf λi j hi hj=>by rw[hzd]; exact (Y0 (hR i j hi hj)).1
 have hz:∀i j,i<1+k->j<1+k->sm 3 (z i j):=λi j hi hj=>by rw[hzd]; exact (Y0 (hR i j hi hj)).2
 replace hT4:=eo ▸ hT4
 obtain⟨k5,p5,q5,hk5,hp5,e5⟩:=Yb (N:=N) (by lia) 4 (by decide) (by decide) p4 q4 T4 hp4;have e5':(RN N).f 1038 [.cell 1,.int 4] (p4::q4::T4)=.ok (.int k5) (p5::q5::T4):=e5;have pre:(evSs (RN N) Ji.body [.lst (intl l),uS,uS,uS,uS,uS,uS,uS,uS,uS,uS] []).out=(evSs (RN N) lawM [.lst (intl l),.lst (intl l),.cell 1,.lst (Qa (1+ka) (1+kb) U),.lst (Qa (1+kc) (1+kd) V),.int ((1+k:Nat):Int),.cell (T2.length+1+1),uS,uS,uS,uS] (p4::q4::T4)).out:=by
  clear hH hl hm hp0 hp1 hp2 hp3 hp4 hp5 hU hV hR hka hkb hkc hkd hk hk5 hz hzd eo em e1a e1b e1c e2a e2b e3 e5 e5' hT4;rw[QgC];w_fin;simp only[e_sum];w_fin
 clear cs es il md ad e1a' e1b' e1c' hT1' sd1 e2a' e2b' sd2 nU nV pr pl e3' e4;by_cases hc:k5=1/\1+k>1
 ·have d1:decide ((k5:Int)=1)=true:=by simp[hc.1]
  have d2:decide (((1+k:Nat):Int)>1)=true:=decide_eq_true (Int.ofNat_lt.mpr hc.2);have ng:=QgE (C:=RN N) (1+k) (1+k) (by lia) (by lia) (by lia) z (.lst (intl l)) (.lst (intl l)) (.lst (Qa (1+ka) (1+kb) U)) (.lst (Qa (1+kc) (1+kd) V)) (.int ((1+k:Nat):Int)) p5 q5 T4 T2.length hT4
  obtain⟨z2,hz2⟩:∃z2:Nat->Nat->Int,z2=λi j=>if i=k then 0-z 0 j else z i j:=⟨_,rfl⟩
  have os:=QgB (1+k) (1+k) (zo z) k λj=>some (0-z 0 j)
  have eo2:Qa (1+k) (1+k) (upO (zo z) k λj=>some (0-z 0 j))=Qa (1+k) (1+k) (zo z2):=Zf λi j hi hj=>by
   rw[hz2];unfold upO;show _=some (if i=k then 0-z 0 j else z i j);by_cases h:i=k
   ·rw[if_pos h,if_pos h]
   ·rw[if_neg h,if_neg h]
  rw[eo2] at os;have hsz:∀i j,i<1+k->j<1+k->sm 3 (z2 i j):=λi j hi hj=>by
   rw[hz2];dsimp only;split
   ·have:=hz 0 j (by lia) hj
    unfold sm at this ⊢;rw[Int.zero_sub,Int.natAbs_neg]; exact this
   ·exact hz i j hi hj
  have hlt:T2.length<T4.length:=(List.getElem?_eq_some_iff.mp hT4).1;obtain⟨H',fin⟩:=zX (N:=N) hN (1+k) (by lia) (by lia) z2 hsz (.lst (intl l)) (.lst (intl l)) (.lst (Qa (1+ka) (1+kb) U)) (.lst (Qa (1+kc) (1+kd) V)) p5 q5 (List.set T4 T2.length (.lst (Qa (1+k) (1+k) (zo z2)))) T2.length hp5 (List.getElem?_set_self hlt)
  refine⟨H',hH (pre.trans ?_)⟩;have sb:((1+k:Nat):Int)-1=k:=by lia
  have ol:=Qv (1+k) (1+k) (zo z);have kI:(k:Int)<((1+k:Nat):Int):=by lia
  have k8:1+k<=1000000:=by lia
  clear hl hm hp0 hp1 hp2 hp3 hp4 hp5 hU hV hR hka hkb hkc hkd hk hk5 hc hz hsz hzd hz2 eo eo2 em e1a e1b e1c e2a e2b e3 e5 hlt;simp only[lawM];w_fin
 ·obtain⟨H',fin⟩:=zX (N:=N) hN (1+k) (by lia) (by lia) z hz (.lst (intl l)) (.lst (intl l)) (.lst (Qa (1+ka) (1+kb) U)) (.lst (Qa (1+kc) (1+kd) V)) p5 q5 T4 T2.length hp5 hT4
  refine⟨H',hH (pre.trans ?_)⟩;by_cases h5:k5=1
  ·have d1:decide ((k5:Int)=1)=true:=by simp[h5]
   have d2:decide (((1+k:Nat):Int)>1)=false:=decide_eq_false (by lia)
   clear hl hm hp0 hp1 hp2 hp3 hp4 hp5 hU hV hR hka hkb hkc hkd hk hk5 hc hz hzd eo em e1a e1b e1c e2a e2b e3 e5 h5;simp only[lawM];w_fin
  ·have d1:decide ((k5:Int)=1)=false:=by simp; lia
   clear hl hm hp0 hp1 hp2 hp3 hp4 hp5 hU hV hR hka hkb hkc hkd hk hk5 hc hz hzd eo em e1a e1b e1c e2a e2b e3 e5 h5;simp only[lawM];w_fin
theorem L0_holds:L0.Holds:=QbH (N:=20) (by decide) (QgF (by decide))
end
end
end
end Mine.Internal
theorem PySem.Challenge.cw_nz0542_01_holds : PySem.Challenge.rw_nz0542_01.Holds :=
  Mine.Internal.L0_holds
